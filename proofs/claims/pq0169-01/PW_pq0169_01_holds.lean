import PyProof.Rows.All
import Wide.All
import OpenK.AllK
import Wide.FinOn
import Lean
import PySem.Challenge.RW_pq0169_01
open PySem PySem.W PyProof.Rows PySem.Calls
open PyProof.Rows.TI (Frs SameUp)
set_option Elab.async false
set_option maxRecDepth 100000
set_option maxHeartbeats 8000000
set_option genInjectivity false
set_option genSizeOf false
set_option linter.all false
set_option compiler.extract_closed false
namespace Mine
/- a look at the law by the library's own quicker reading of it -/
theorem lookT {f g : OpenLaw → Bool} (e : @Eq (OpenLaw → Bool) f g) {l : OpenLaw} (h : g l = true) : f l = true := by rw [e]; exact h
end Mine
section
/- open_top proves the head's run in pieces, and only when that fails at once, by one kernel step. In pieces it leaves
    some 18 MB of lemmas in the compiled file. This line of ours makes the first way fail, so that the kit's own second
    way is taken: the same head, proved by the same kernel. It stands in this section alone. -/
local macro_rules | `(tactic| o_law) => `(tactic| refine holds_law (by first | exact Mine.lookT PySem.W.Fast.te9446332074065402090 (by decide +kernel) | decide +kernel) fun said => ?_)
local macro_rules | `(($_ : $t)) => if t.raw.getId.eraseMacroScopes == `Env then Lean.Macro.throwError "at once, not in pieces" else Lean.Macro.throwUnsupported
open_top hd for PySem.Challenge.rw_pq0169_01
end
namespace Mine
/- the word that open_top leaves on is turned off again -/
theorem topOff : True := by
  w_top off
  trivial
/- small proofs in place of omega: below what is newer -/
theorem ltS {a b : Nat} (h : a < b) : a < b + 1 := Nat.lt_succ_of_lt h
theorem ltR {a : Nat} : a < a + 1 := Nat.lt_succ_self a
theorem ltP {a b : Nat} (h : a + 1 < b) : a < b := Nat.lt_of_succ_lt h
theorem neL {a b : Nat} (h : a < b) : @Ne Nat a b := Nat.ne_of_lt h
theorem neG {a b : Nat} (h : b < a) : @Ne Nat a b := Nat.ne_of_gt h
theorem cjA {x y n : Nat} {z : Prop} (h : y < n ∧ z) (k : y < n ∧ z → x < n) : x < n := k h
theorem cjS {a b c : Prop} (k : b → c) : a ∧ b → c := fun h => k h.2
/- a fact kept out of omega's sight -/
def Kept (P : Prop) : Prop := P
/- sums, each proved once, with no more facts at hand than it needs -/
theorem four_of {r : Int} (h0 : 0 ≤ r) (h1 : r < 4) : r = 0 ∨ r = 1 ∨ r = 2 ∨ r = 3 := by omega
theorem tn_lt {r : Int} {a b : Nat} (h0 : 0 ≤ r) (h : r < (a : Int)) (e : a = b) : r.toNat < b := by omega
theorem lt63 {r : Int} {a b : Nat} (h : r < (a : Int)) (e : a = b) (z : b ≤ 100) : r < 2 ^ 63 := by omega
theorem i_lt63 {r a : Int} (h : r < a) (z : a ≤ 10000) : r < 2 ^ 63 := by omega
theorem up3 {t : Int} : t ≤ t + 1 + 1 + 1 := by omega
theorem up3' {t : Int} : t + 1 + 1 + 1 ≤ t + 10 := by omega
theorem lt_sum {i n m : Nat} (h : i + (n + 1) = m) : i < m := by omega
theorem eq_sum {i n m : Nat} (h : i + (n + 1) = m) : i + 1 + n = m := by omega
theorem sub_le3 {b : Int} (h : b ≤ 3) {n : Nat} : b.toNat - n ≤ 3 := by omega
theorem sub_lt' {i b n : Nat} (h1 : b ≤ i) (h2 : i < b + n) : i - b < n := by omega
theorem tn_addn {a : Int} {i : Nat} (h : 0 ≤ a) : (a + (i : Int)).toNat = a.toNat + i := by rw [Int.toNat_add h (Int.natCast_nonneg i), Int.toNat_natCast]
theorem at_ge {a : Int} {i : Nat} (h : 0 ≤ a) : 0 ≤ a + (i : Int) := by omega
theorem at_lt {a b : Int} {i j n m : Nat} (h : a + b ≤ (n : Int)) (e : i + (j + 1) = b.toNat) (v : m = n) : a + (i : Int) < (m : Int) := by omega
theorem at_lt63 {a b : Int} {i j n : Nat} (h : a + b ≤ (n : Int)) (e : i + (j + 1) = b.toNat) (z : n ≤ 10) : a + (i : Int) < 2 ^ 63 := by omega
theorem at_ltn {a b : Int} {i j n : Nat} (h0 : 0 ≤ a) (h : a + b ≤ (n : Int)) (e : i + (j + 1) = b.toNat) : a.toNat + i < n := by omega
theorem len_mid {a b : Int} {n : Nat} (h0 : 0 ≤ a) (h1 : 0 ≤ b) (h : a + b ≤ (n : Int)) : min a.toNat n + b.toNat + (n - (a + b).toNat) = n := by
  have l : (a + b).toNat ≤ n := Int.toNat_le.mpr h
  rw [Int.toNat_add h0 h1] at l ⊢
  rw [Nat.min_eq_left (Nat.le_trans (Nat.le_add_right _ _) l)]
  exact Nat.add_sub_of_le l
theorem len_mid' {a : Int} {i j n : Nat} {b : Int} (h0 : 0 ≤ a) (h : a + b ≤ (n : Int)) (e : i + (j + 1) = b.toNat) : min a.toNat n + (i + (n - (a.toNat + i))) = n := by
  have l : a.toNat + i ≤ n := Nat.le_of_lt (at_ltn h0 h e)
  rw [Nat.min_eq_left (Nat.le_trans (Nat.le_add_right _ _) l), ← Nat.add_assoc]
  exact Nat.add_sub_of_le l
theorem told_ge {t t' : Int} {n : Nat} (a : t' = t + 1 + 2 * (n : Int)) : t ≤ t' := by omega
theorem told_le {t t' : Int} {n : Nat} (a : t' = t + 1 + 2 * (n : Int)) (h : n ≤ 3) : t' ≤ t + 10 := by omega
theorem told_0 {t t' : Int} {n : Nat} (a : t' = t + 1 + 2 * (n : Int)) (h : 0 ≤ t) : 0 ≤ t' := by omega
theorem told_1 {t t' : Int} {n : Nat} (a : t' = t + 1 + 2 * (n : Int)) (h : n ≤ 3) (z : t ≤ 9000) : t' ≤ 10000 ∧ t' + 1 ≤ 10000 := by omega
theorem ge_succ {t : Int} (h : 0 ≤ t) : 0 ≤ t + 1 := by omega
theorem tn3 {r : Int} (h0 : 0 ≤ r) (h1 : r < 3) : (1 + r - 0).toNat ≤ 3 := by omega
theorem r1_0 {r : Int} (h0 : 0 ≤ r) (h1 : r < 3) : 0 ≤ 1 + r ∧ 1 + r ≤ 1000 := by omega
theorem three9 {n : Nat} (h : n ≤ 3) : (0 : Int) + 3 * (n : Int) ≤ 9 := by omega
theorem le_addr {x y : Int} (h : 0 ≤ y) : x ≤ x + y := by omega
theorem s1000 {x y : Int} {n : Nat} (h : x + 3 * ((n + 1 : Nat) : Int) ≤ 9) (hy : y ≤ 3) : x + y ≤ 1000 := by omega
theorem sub3_n {x y : Int} (hy : y ≤ 3) : (x + y - x).toNat ≤ 3 := by omega
theorem s9 {x y : Int} {n : Nat} (h : x + 3 * ((n + 1 : Nat) : Int) ≤ 9) (hy : y ≤ 3) : x + y + 3 * (n : Int) ≤ 9 := by omega
theorem ge_add {x y : Int} (h : 0 ≤ x) (hy : 0 ≤ y) : 0 ≤ x + y := by omega
theorem add_sub_l {x y : Int} : x + y - x = y := by omega
theorem put8 {a b c : Nat} (h : b ≤ a + 1) (z : a + (c + 1) ≤ 8) : b + c ≤ 8 := by omega
theorem told_next {t t' : Int} {n : Nat} (a : t' = t + 1 + 2 * (n : Int)) : t' + 1 + 1 = t + 1 + 2 * ((n + 1 : Nat) : Int) := by omega
/- the post under a letter -/
theorem wp_hide {α : Type} {M : Model} {A : Around} {t : Sem α} {Q : α → Shared → Prop} {E : Value → Shared → Prop} {s : Shared} (h : ∀ Q' : α → Shared → Prop, (∀ a s', Q a s' → Q' a s') → wpAny M A t Q' E s) : wpAny M A t Q E s := h Q fun _ _ x => x
theorem sz_facts {z : Int} (h4 : 4 ≤ z) (h6 : z ≤ 6) : -(2 ^ 63 : Int) ≤ z ∧ z < (2 ^ 63 : Int) ∧ 1 ≤ z ∧ z ≤ 10 := by omega
theorem sz_nat {z : Int} (h4 : 4 ≤ z) (h6 : z ≤ 6) : z.toNat ≤ 6 ∧ 0 < z.toNat := by omega
theorem ex_nat {x : Int} (h : 0 ≤ x) : ∃ n : Nat, x = (n : Int) := ⟨x.toNat, (Int.toNat_of_nonneg h).symm⟩
theorem num_facts {r : Int} {k : Nat} (h0 : 0 ≤ r) (h1 : r < 3) (e : 1 + r = (k : Int)) : 1 ≤ k ∧ k ≤ 3 ∧ (0 : Int) ≤ 1 + r - 1 ∧ (1 + r - 1 : Int) < 2 ^ 63 := by omega
theorem num_lt {r : Int} {k l v : Nat} (e : 1 + r = (k : Int)) (h : ¬ l < k) (h1 : 1 ≤ k) (hv : v = l) : (1 + r - 1 : Int) < (v : Int) := by omega
theorem beg_nat {z : Int} (h : 1 ≤ z) (k : Nat) (hk : 1 ≤ k) : ((k : Int) - 1) * z = (((k - 1) * z.toNat : Nat) : Int) := by
  obtain ⟨n, rfl⟩ := ex_nat (Int.le_trans (by decide) h)
  rw [Int.toNat_natCast, Int.natCast_mul, Int.ofNat_sub hk]; rfl
theorem wh_dec {n k l : Nat} (e : n = k - l) (h : l < k) : k - (l + 1) < n := by omega
theorem le1 {t : Int} : t ≤ t + 1 := by omega
theorem le1' {t : Int} : t + 1 ≤ t + 10 := by omega
theorem tn_sub {a : Int} {n : Nat} : (a - (n : Int)).toNat = a.toNat - n := by
  cases a with
  | ofNat m => exact Int.toNat_sub m n
  | negSucc m =>
    rw [Int.toNat_negSucc, Nat.zero_sub]
    exact Int.toNat_of_nonpos (Int.sub_nonpos_of_le (Int.le_trans (Int.le_of_lt (Int.negSucc_lt_zero m)) (Int.natCast_nonneg n)))
theorem ge_1 {x : Int} (h : 1 ≤ x) : 0 ≤ x := Int.le_trans (by decide) h
theorem sub_le2 {x : Int} (h : x ≤ 3) : x - 1 ≤ 2 := by omega
theorem len200 {l : Nat} {a : Int} (h : l ≤ 100) (ha : a ≤ 20) : l + (a.toNat - l) ≤ 200 := by omega
theorem clip_n {k : Int} {n : Nat} (h : ¬ k ≤ (n : Int)) : max (0 : Int) (min k (n : Int)) = max 0 (min (n : Int) (n : Int)) := by rw [Int.min_eq_right (Int.le_of_lt (Int.not_le.mp h)), Int.min_self]
theorem le_tn {k : Int} {n : Nat} (h : ¬ k ≤ (n : Int)) : n ≤ k.toNat := by omega
theorem nat_neg {n : Nat} : ¬ ((n : Int) < 0) := Int.not_lt.mpr (Int.natCast_nonneg n)
theorem at_lt63' {a b : Int} {i n : Nat} (h : a + b ≤ (n : Int)) (hi : i < b.toNat) (z : n ≤ 10) : a + (i : Int) < 2 ^ 63 := by omega
theorem le11 {a b : Int} (h : a ≤ b + 10) : a ≤ b + 11 := by omega
/- proved at the letters that epsilon picks, a law holds at all -/
theorem eps_all {T : Type} {ne : Nonempty T} {Ψ : T → Prop} (h : Ψ (@Classical.epsilon T ne fun c => ¬ Ψ c)) (c : T) : Ψ c :=
  Classical.byContradiction fun n => @Classical.epsilon_spec T (fun c => ¬ Ψ c) ⟨c, n⟩ h
theorem neP {a b : Type} (x : Nonempty a) (y : Nonempty b) : Nonempty (a × b) := x.elim fun x => y.elim fun y => ⟨(x, y)⟩
theorem neS : Nonempty Shared := ⟨(start default).1⟩
/- a member of x :: l, without a copy of the goal for each way -/
@[elab_as_elim]
theorem mcons {α : Type} {x : α} {l : List α} {motive : α → Prop} {p : α} (hp : p ∈ x :: l) (h1 : motive x) (h2 : p ∈ l → motive p) : motive p :=
  (List.mem_cons.mp hp).elim (fun e => e ▸ h1) h2
/- the goal under a letter: what is opened ahead of it costs no copy of it -/
theorem hide {P : Prop} (h : ∀ G : Prop, (P → G) → G) : P := h P id
/- an existential of a conjunction, opened at once -/
theorem ex0_2  {p0 p1 : Prop} {G : Prop} (H : p0 ∧ p1) (h : p0 → p1 → G) : G := h H.1 H.2
theorem ex0_3  {p0 p1 p2 : Prop} {G : Prop} (H : p0 ∧ p1 ∧ p2) (h : p0 → p1 → p2 → G) : G := h H.1 H.2.1 H.2.2
theorem ex0_4  {p0 p1 p2 p3 : Prop} {G : Prop} (H : p0 ∧ p1 ∧ p2 ∧ p3) (h : p0 → p1 → p2 → p3 → G) : G := h H.1 H.2.1 H.2.2.1 H.2.2.2
theorem ex0_5  {p0 p1 p2 p3 p4 : Prop} {G : Prop} (H : p0 ∧ p1 ∧ p2 ∧ p3 ∧ p4) (h : p0 → p1 → p2 → p3 → p4 → G) : G := h H.1 H.2.1 H.2.2.1 H.2.2.2.1 H.2.2.2.2
theorem ex0_6  {p0 p1 p2 p3 p4 p5 : Prop} {G : Prop} (H : p0 ∧ p1 ∧ p2 ∧ p3 ∧ p4 ∧ p5) (h : p0 → p1 → p2 → p3 → p4 → p5 → G) : G := h H.1 H.2.1 H.2.2.1 H.2.2.2.1 H.2.2.2.2.1 H.2.2.2.2.2
theorem ex0_7  {p0 p1 p2 p3 p4 p5 p6 : Prop} {G : Prop} (H : p0 ∧ p1 ∧ p2 ∧ p3 ∧ p4 ∧ p5 ∧ p6) (h : p0 → p1 → p2 → p3 → p4 → p5 → p6 → G) : G := h H.1 H.2.1 H.2.2.1 H.2.2.2.1 H.2.2.2.2.1 H.2.2.2.2.2.1 H.2.2.2.2.2.2
theorem ex0_8  {p0 p1 p2 p3 p4 p5 p6 p7 : Prop} {G : Prop} (H : p0 ∧ p1 ∧ p2 ∧ p3 ∧ p4 ∧ p5 ∧ p6 ∧ p7) (h : p0 → p1 → p2 → p3 → p4 → p5 → p6 → p7 → G) : G := h H.1 H.2.1 H.2.2.1 H.2.2.2.1 H.2.2.2.2.1 H.2.2.2.2.2.1 H.2.2.2.2.2.2.1 H.2.2.2.2.2.2.2
theorem ex0_10  {p0 p1 p2 p3 p4 p5 p6 p7 p8 p9 : Prop} {G : Prop} (H : p0 ∧ p1 ∧ p2 ∧ p3 ∧ p4 ∧ p5 ∧ p6 ∧ p7 ∧ p8 ∧ p9) (h : p0 → p1 → p2 → p3 → p4 → p5 → p6 → p7 → p8 → p9 → G) : G := h H.1 H.2.1 H.2.2.1 H.2.2.2.1 H.2.2.2.2.1 H.2.2.2.2.2.1 H.2.2.2.2.2.2.1 H.2.2.2.2.2.2.2.1 H.2.2.2.2.2.2.2.2.1 H.2.2.2.2.2.2.2.2.2
theorem ex0_11  {p0 p1 p2 p3 p4 p5 p6 p7 p8 p9 p10 : Prop} {G : Prop} (H : p0 ∧ p1 ∧ p2 ∧ p3 ∧ p4 ∧ p5 ∧ p6 ∧ p7 ∧ p8 ∧ p9 ∧ p10) (h : p0 → p1 → p2 → p3 → p4 → p5 → p6 → p7 → p8 → p9 → p10 → G) : G := h H.1 H.2.1 H.2.2.1 H.2.2.2.1 H.2.2.2.2.1 H.2.2.2.2.2.1 H.2.2.2.2.2.2.1 H.2.2.2.2.2.2.2.1 H.2.2.2.2.2.2.2.2.1 H.2.2.2.2.2.2.2.2.2.1 H.2.2.2.2.2.2.2.2.2.2
theorem ex0_12  {p0 p1 p2 p3 p4 p5 p6 p7 p8 p9 p10 p11 : Prop} {G : Prop} (H : p0 ∧ p1 ∧ p2 ∧ p3 ∧ p4 ∧ p5 ∧ p6 ∧ p7 ∧ p8 ∧ p9 ∧ p10 ∧ p11) (h : p0 → p1 → p2 → p3 → p4 → p5 → p6 → p7 → p8 → p9 → p10 → p11 → G) : G := h H.1 H.2.1 H.2.2.1 H.2.2.2.1 H.2.2.2.2.1 H.2.2.2.2.2.1 H.2.2.2.2.2.2.1 H.2.2.2.2.2.2.2.1 H.2.2.2.2.2.2.2.2.1 H.2.2.2.2.2.2.2.2.2.1 H.2.2.2.2.2.2.2.2.2.2.1 H.2.2.2.2.2.2.2.2.2.2.2
theorem ex1_1 {t0 : Sort _} {p0 : t0 → Prop} {G : Prop} (H : ∃ x0, p0 x0) (h : ∀ x0, p0 x0 → G) : G := H.elim fun x0 H => h x0 H
theorem ex1_2 {t0 : Sort _} {p0 p1 : t0 → Prop} {G : Prop} (H : ∃ x0, p0 x0 ∧ p1 x0) (h : ∀ x0, p0 x0 → p1 x0 → G) : G := H.elim fun x0 H => h x0 H.1 H.2
theorem ex1_3 {t0 : Sort _} {p0 p1 p2 : t0 → Prop} {G : Prop} (H : ∃ x0, p0 x0 ∧ p1 x0 ∧ p2 x0) (h : ∀ x0, p0 x0 → p1 x0 → p2 x0 → G) : G := H.elim fun x0 H => h x0 H.1 H.2.1 H.2.2
theorem ex1_4 {t0 : Sort _} {p0 p1 p2 p3 : t0 → Prop} {G : Prop} (H : ∃ x0, p0 x0 ∧ p1 x0 ∧ p2 x0 ∧ p3 x0) (h : ∀ x0, p0 x0 → p1 x0 → p2 x0 → p3 x0 → G) : G := H.elim fun x0 H => h x0 H.1 H.2.1 H.2.2.1 H.2.2.2
theorem ex1_5 {t0 : Sort _} {p0 p1 p2 p3 p4 : t0 → Prop} {G : Prop} (H : ∃ x0, p0 x0 ∧ p1 x0 ∧ p2 x0 ∧ p3 x0 ∧ p4 x0) (h : ∀ x0, p0 x0 → p1 x0 → p2 x0 → p3 x0 → p4 x0 → G) : G := H.elim fun x0 H => h x0 H.1 H.2.1 H.2.2.1 H.2.2.2.1 H.2.2.2.2
theorem ex1_6 {t0 : Sort _} {p0 p1 p2 p3 p4 p5 : t0 → Prop} {G : Prop} (H : ∃ x0, p0 x0 ∧ p1 x0 ∧ p2 x0 ∧ p3 x0 ∧ p4 x0 ∧ p5 x0) (h : ∀ x0, p0 x0 → p1 x0 → p2 x0 → p3 x0 → p4 x0 → p5 x0 → G) : G := H.elim fun x0 H => h x0 H.1 H.2.1 H.2.2.1 H.2.2.2.1 H.2.2.2.2.1 H.2.2.2.2.2
theorem ex2_1 {t0 : Sort _} {t1 : Sort _} {p0 : t0 → t1 → Prop} {G : Prop} (H : ∃ x0 x1, p0 x0 x1) (h : ∀ x0 x1, p0 x0 x1 → G) : G := H.elim fun x0 H => H.elim fun x1 H => h x0 x1 H
theorem ex2_2 {t0 : Sort _} {t1 : Sort _} {p0 p1 : t0 → t1 → Prop} {G : Prop} (H : ∃ x0 x1, p0 x0 x1 ∧ p1 x0 x1) (h : ∀ x0 x1, p0 x0 x1 → p1 x0 x1 → G) : G := H.elim fun x0 H => H.elim fun x1 H => h x0 x1 H.1 H.2
theorem ex2_3 {t0 : Sort _} {t1 : Sort _} {p0 p1 p2 : t0 → t1 → Prop} {G : Prop} (H : ∃ x0 x1, p0 x0 x1 ∧ p1 x0 x1 ∧ p2 x0 x1) (h : ∀ x0 x1, p0 x0 x1 → p1 x0 x1 → p2 x0 x1 → G) : G := H.elim fun x0 H => H.elim fun x1 H => h x0 x1 H.1 H.2.1 H.2.2
theorem ex2_4 {t0 : Sort _} {t1 : Sort _} {p0 p1 p2 p3 : t0 → t1 → Prop} {G : Prop} (H : ∃ x0 x1, p0 x0 x1 ∧ p1 x0 x1 ∧ p2 x0 x1 ∧ p3 x0 x1) (h : ∀ x0 x1, p0 x0 x1 → p1 x0 x1 → p2 x0 x1 → p3 x0 x1 → G) : G := H.elim fun x0 H => H.elim fun x1 H => h x0 x1 H.1 H.2.1 H.2.2.1 H.2.2.2
theorem ex2_5 {t0 : Sort _} {t1 : Sort _} {p0 p1 p2 p3 p4 : t0 → t1 → Prop} {G : Prop} (H : ∃ x0 x1, p0 x0 x1 ∧ p1 x0 x1 ∧ p2 x0 x1 ∧ p3 x0 x1 ∧ p4 x0 x1) (h : ∀ x0 x1, p0 x0 x1 → p1 x0 x1 → p2 x0 x1 → p3 x0 x1 → p4 x0 x1 → G) : G := H.elim fun x0 H => H.elim fun x1 H => h x0 x1 H.1 H.2.1 H.2.2.1 H.2.2.2.1 H.2.2.2.2
theorem ex2_6 {t0 : Sort _} {t1 : Sort _} {p0 p1 p2 p3 p4 p5 : t0 → t1 → Prop} {G : Prop} (H : ∃ x0 x1, p0 x0 x1 ∧ p1 x0 x1 ∧ p2 x0 x1 ∧ p3 x0 x1 ∧ p4 x0 x1 ∧ p5 x0 x1) (h : ∀ x0 x1, p0 x0 x1 → p1 x0 x1 → p2 x0 x1 → p3 x0 x1 → p4 x0 x1 → p5 x0 x1 → G) : G := H.elim fun x0 H => H.elim fun x1 H => h x0 x1 H.1 H.2.1 H.2.2.1 H.2.2.2.1 H.2.2.2.2.1 H.2.2.2.2.2
theorem ex2_7 {t0 : Sort _} {t1 : Sort _} {p0 p1 p2 p3 p4 p5 p6 : t0 → t1 → Prop} {G : Prop} (H : ∃ x0 x1, p0 x0 x1 ∧ p1 x0 x1 ∧ p2 x0 x1 ∧ p3 x0 x1 ∧ p4 x0 x1 ∧ p5 x0 x1 ∧ p6 x0 x1) (h : ∀ x0 x1, p0 x0 x1 → p1 x0 x1 → p2 x0 x1 → p3 x0 x1 → p4 x0 x1 → p5 x0 x1 → p6 x0 x1 → G) : G := H.elim fun x0 H => H.elim fun x1 H => h x0 x1 H.1 H.2.1 H.2.2.1 H.2.2.2.1 H.2.2.2.2.1 H.2.2.2.2.2.1 H.2.2.2.2.2.2
theorem ex3_1 {t0 : Sort _} {t1 : Sort _} {t2 : Sort _} {p0 : t0 → t1 → t2 → Prop} {G : Prop} (H : ∃ x0 x1 x2, p0 x0 x1 x2) (h : ∀ x0 x1 x2, p0 x0 x1 x2 → G) : G := H.elim fun x0 H => H.elim fun x1 H => H.elim fun x2 H => h x0 x1 x2 H
theorem ex3_2 {t0 : Sort _} {t1 : Sort _} {t2 : Sort _} {p0 p1 : t0 → t1 → t2 → Prop} {G : Prop} (H : ∃ x0 x1 x2, p0 x0 x1 x2 ∧ p1 x0 x1 x2) (h : ∀ x0 x1 x2, p0 x0 x1 x2 → p1 x0 x1 x2 → G) : G := H.elim fun x0 H => H.elim fun x1 H => H.elim fun x2 H => h x0 x1 x2 H.1 H.2
theorem ex3_3 {t0 : Sort _} {t1 : Sort _} {t2 : Sort _} {p0 p1 p2 : t0 → t1 → t2 → Prop} {G : Prop} (H : ∃ x0 x1 x2, p0 x0 x1 x2 ∧ p1 x0 x1 x2 ∧ p2 x0 x1 x2) (h : ∀ x0 x1 x2, p0 x0 x1 x2 → p1 x0 x1 x2 → p2 x0 x1 x2 → G) : G := H.elim fun x0 H => H.elim fun x1 H => H.elim fun x2 H => h x0 x1 x2 H.1 H.2.1 H.2.2
theorem ex3_4 {t0 : Sort _} {t1 : Sort _} {t2 : Sort _} {p0 p1 p2 p3 : t0 → t1 → t2 → Prop} {G : Prop} (H : ∃ x0 x1 x2, p0 x0 x1 x2 ∧ p1 x0 x1 x2 ∧ p2 x0 x1 x2 ∧ p3 x0 x1 x2) (h : ∀ x0 x1 x2, p0 x0 x1 x2 → p1 x0 x1 x2 → p2 x0 x1 x2 → p3 x0 x1 x2 → G) : G := H.elim fun x0 H => H.elim fun x1 H => H.elim fun x2 H => h x0 x1 x2 H.1 H.2.1 H.2.2.1 H.2.2.2
theorem ex4_2 {t0 : Sort _} {t1 : Sort _} {t2 : Sort _} {t3 : Sort _} {p0 p1 : t0 → t1 → t2 → t3 → Prop} {G : Prop} (H : ∃ x0 x1 x2 x3, p0 x0 x1 x2 x3 ∧ p1 x0 x1 x2 x3) (h : ∀ x0 x1 x2 x3, p0 x0 x1 x2 x3 → p1 x0 x1 x2 x3 → G) : G := H.elim fun x0 H => H.elim fun x1 H => H.elim fun x2 H => H.elim fun x3 H => h x0 x1 x2 x3 H.1 H.2
theorem ex4_3 {t0 : Sort _} {t1 : Sort _} {t2 : Sort _} {t3 : Sort _} {p0 p1 p2 : t0 → t1 → t2 → t3 → Prop} {G : Prop} (H : ∃ x0 x1 x2 x3, p0 x0 x1 x2 x3 ∧ p1 x0 x1 x2 x3 ∧ p2 x0 x1 x2 x3) (h : ∀ x0 x1 x2 x3, p0 x0 x1 x2 x3 → p1 x0 x1 x2 x3 → p2 x0 x1 x2 x3 → G) : G := H.elim fun x0 H => H.elim fun x1 H => H.elim fun x2 H => H.elim fun x3 H => h x0 x1 x2 x3 H.1 H.2.1 H.2.2
theorem ex4_4 {t0 : Sort _} {t1 : Sort _} {t2 : Sort _} {t3 : Sort _} {p0 p1 p2 p3 : t0 → t1 → t2 → t3 → Prop} {G : Prop} (H : ∃ x0 x1 x2 x3, p0 x0 x1 x2 x3 ∧ p1 x0 x1 x2 x3 ∧ p2 x0 x1 x2 x3 ∧ p3 x0 x1 x2 x3) (h : ∀ x0 x1 x2 x3, p0 x0 x1 x2 x3 → p1 x0 x1 x2 x3 → p2 x0 x1 x2 x3 → p3 x0 x1 x2 x3 → G) : G := H.elim fun x0 H => H.elim fun x1 H => H.elim fun x2 H => H.elim fun x3 H => h x0 x1 x2 x3 H.1 H.2.1 H.2.2.1 H.2.2.2
theorem ex4_5 {t0 : Sort _} {t1 : Sort _} {t2 : Sort _} {t3 : Sort _} {p0 p1 p2 p3 p4 : t0 → t1 → t2 → t3 → Prop} {G : Prop} (H : ∃ x0 x1 x2 x3, p0 x0 x1 x2 x3 ∧ p1 x0 x1 x2 x3 ∧ p2 x0 x1 x2 x3 ∧ p3 x0 x1 x2 x3 ∧ p4 x0 x1 x2 x3) (h : ∀ x0 x1 x2 x3, p0 x0 x1 x2 x3 → p1 x0 x1 x2 x3 → p2 x0 x1 x2 x3 → p3 x0 x1 x2 x3 → p4 x0 x1 x2 x3 → G) : G := H.elim fun x0 H => H.elim fun x1 H => H.elim fun x2 H => H.elim fun x3 H => h x0 x1 x2 x3 H.1 H.2.1 H.2.2.1 H.2.2.2.1 H.2.2.2.2
theorem ex4_7 {t0 : Sort _} {t1 : Sort _} {t2 : Sort _} {t3 : Sort _} {p0 p1 p2 p3 p4 p5 p6 : t0 → t1 → t2 → t3 → Prop} {G : Prop} (H : ∃ x0 x1 x2 x3, p0 x0 x1 x2 x3 ∧ p1 x0 x1 x2 x3 ∧ p2 x0 x1 x2 x3 ∧ p3 x0 x1 x2 x3 ∧ p4 x0 x1 x2 x3 ∧ p5 x0 x1 x2 x3 ∧ p6 x0 x1 x2 x3) (h : ∀ x0 x1 x2 x3, p0 x0 x1 x2 x3 → p1 x0 x1 x2 x3 → p2 x0 x1 x2 x3 → p3 x0 x1 x2 x3 → p4 x0 x1 x2 x3 → p5 x0 x1 x2 x3 → p6 x0 x1 x2 x3 → G) : G := H.elim fun x0 H => H.elim fun x1 H => H.elim fun x2 H => H.elim fun x3 H => h x0 x1 x2 x3 H.1 H.2.1 H.2.2.1 H.2.2.2.1 H.2.2.2.2.1 H.2.2.2.2.2.1 H.2.2.2.2.2.2
theorem ex5_2 {t0 : Sort _} {t1 : Sort _} {t2 : Sort _} {t3 : Sort _} {t4 : Sort _} {p0 p1 : t0 → t1 → t2 → t3 → t4 → Prop} {G : Prop} (H : ∃ x0 x1 x2 x3 x4, p0 x0 x1 x2 x3 x4 ∧ p1 x0 x1 x2 x3 x4) (h : ∀ x0 x1 x2 x3 x4, p0 x0 x1 x2 x3 x4 → p1 x0 x1 x2 x3 x4 → G) : G := H.elim fun x0 H => H.elim fun x1 H => H.elim fun x2 H => H.elim fun x3 H => H.elim fun x4 H => h x0 x1 x2 x3 x4 H.1 H.2
theorem ex5_3 {t0 : Sort _} {t1 : Sort _} {t2 : Sort _} {t3 : Sort _} {t4 : Sort _} {p0 p1 p2 : t0 → t1 → t2 → t3 → t4 → Prop} {G : Prop} (H : ∃ x0 x1 x2 x3 x4, p0 x0 x1 x2 x3 x4 ∧ p1 x0 x1 x2 x3 x4 ∧ p2 x0 x1 x2 x3 x4) (h : ∀ x0 x1 x2 x3 x4, p0 x0 x1 x2 x3 x4 → p1 x0 x1 x2 x3 x4 → p2 x0 x1 x2 x3 x4 → G) : G := H.elim fun x0 H => H.elim fun x1 H => H.elim fun x2 H => H.elim fun x3 H => H.elim fun x4 H => h x0 x1 x2 x3 x4 H.1 H.2.1 H.2.2
theorem ex5_6 {t0 : Sort _} {t1 : Sort _} {t2 : Sort _} {t3 : Sort _} {t4 : Sort _} {p0 p1 p2 p3 p4 p5 : t0 → t1 → t2 → t3 → t4 → Prop} {G : Prop} (H : ∃ x0 x1 x2 x3 x4, p0 x0 x1 x2 x3 x4 ∧ p1 x0 x1 x2 x3 x4 ∧ p2 x0 x1 x2 x3 x4 ∧ p3 x0 x1 x2 x3 x4 ∧ p4 x0 x1 x2 x3 x4 ∧ p5 x0 x1 x2 x3 x4) (h : ∀ x0 x1 x2 x3 x4, p0 x0 x1 x2 x3 x4 → p1 x0 x1 x2 x3 x4 → p2 x0 x1 x2 x3 x4 → p3 x0 x1 x2 x3 x4 → p4 x0 x1 x2 x3 x4 → p5 x0 x1 x2 x3 x4 → G) : G := H.elim fun x0 H => H.elim fun x1 H => H.elim fun x2 H => H.elim fun x3 H => H.elim fun x4 H => h x0 x1 x2 x3 x4 H.1 H.2.1 H.2.2.1 H.2.2.2.1 H.2.2.2.2.1 H.2.2.2.2.2
theorem ex6_1 {t0 : Sort _} {t1 : Sort _} {t2 : Sort _} {t3 : Sort _} {t4 : Sort _} {t5 : Sort _} {p0 : t0 → t1 → t2 → t3 → t4 → t5 → Prop} {G : Prop} (H : ∃ x0 x1 x2 x3 x4 x5, p0 x0 x1 x2 x3 x4 x5) (h : ∀ x0 x1 x2 x3 x4 x5, p0 x0 x1 x2 x3 x4 x5 → G) : G := H.elim fun x0 H => H.elim fun x1 H => H.elim fun x2 H => H.elim fun x3 H => H.elim fun x4 H => H.elim fun x5 H => h x0 x1 x2 x3 x4 x5 H
theorem ex6_3 {t0 : Sort _} {t1 : Sort _} {t2 : Sort _} {t3 : Sort _} {t4 : Sort _} {t5 : Sort _} {p0 p1 p2 : t0 → t1 → t2 → t3 → t4 → t5 → Prop} {G : Prop} (H : ∃ x0 x1 x2 x3 x4 x5, p0 x0 x1 x2 x3 x4 x5 ∧ p1 x0 x1 x2 x3 x4 x5 ∧ p2 x0 x1 x2 x3 x4 x5) (h : ∀ x0 x1 x2 x3 x4 x5, p0 x0 x1 x2 x3 x4 x5 → p1 x0 x1 x2 x3 x4 x5 → p2 x0 x1 x2 x3 x4 x5 → G) : G := H.elim fun x0 H => H.elim fun x1 H => H.elim fun x2 H => H.elim fun x3 H => H.elim fun x4 H => H.elim fun x5 H => h x0 x1 x2 x3 x4 x5 H.1 H.2.1 H.2.2
theorem ex6_7 {t0 : Sort _} {t1 : Sort _} {t2 : Sort _} {t3 : Sort _} {t4 : Sort _} {t5 : Sort _} {p0 p1 p2 p3 p4 p5 p6 : t0 → t1 → t2 → t3 → t4 → t5 → Prop} {G : Prop} (H : ∃ x0 x1 x2 x3 x4 x5, p0 x0 x1 x2 x3 x4 x5 ∧ p1 x0 x1 x2 x3 x4 x5 ∧ p2 x0 x1 x2 x3 x4 x5 ∧ p3 x0 x1 x2 x3 x4 x5 ∧ p4 x0 x1 x2 x3 x4 x5 ∧ p5 x0 x1 x2 x3 x4 x5 ∧ p6 x0 x1 x2 x3 x4 x5) (h : ∀ x0 x1 x2 x3 x4 x5, p0 x0 x1 x2 x3 x4 x5 → p1 x0 x1 x2 x3 x4 x5 → p2 x0 x1 x2 x3 x4 x5 → p3 x0 x1 x2 x3 x4 x5 → p4 x0 x1 x2 x3 x4 x5 → p5 x0 x1 x2 x3 x4 x5 → p6 x0 x1 x2 x3 x4 x5 → G) : G := H.elim fun x0 H => H.elim fun x1 H => H.elim fun x2 H => H.elim fun x3 H => H.elim fun x4 H => H.elim fun x5 H => h x0 x1 x2 x3 x4 x5 H.1 H.2.1 H.2.2.1 H.2.2.2.1 H.2.2.2.2.1 H.2.2.2.2.2.1 H.2.2.2.2.2.2
theorem ex6_9 {t0 : Sort _} {t1 : Sort _} {t2 : Sort _} {t3 : Sort _} {t4 : Sort _} {t5 : Sort _} {p0 p1 p2 p3 p4 p5 p6 p7 p8 : t0 → t1 → t2 → t3 → t4 → t5 → Prop} {G : Prop} (H : ∃ x0 x1 x2 x3 x4 x5, p0 x0 x1 x2 x3 x4 x5 ∧ p1 x0 x1 x2 x3 x4 x5 ∧ p2 x0 x1 x2 x3 x4 x5 ∧ p3 x0 x1 x2 x3 x4 x5 ∧ p4 x0 x1 x2 x3 x4 x5 ∧ p5 x0 x1 x2 x3 x4 x5 ∧ p6 x0 x1 x2 x3 x4 x5 ∧ p7 x0 x1 x2 x3 x4 x5 ∧ p8 x0 x1 x2 x3 x4 x5) (h : ∀ x0 x1 x2 x3 x4 x5, p0 x0 x1 x2 x3 x4 x5 → p1 x0 x1 x2 x3 x4 x5 → p2 x0 x1 x2 x3 x4 x5 → p3 x0 x1 x2 x3 x4 x5 → p4 x0 x1 x2 x3 x4 x5 → p5 x0 x1 x2 x3 x4 x5 → p6 x0 x1 x2 x3 x4 x5 → p7 x0 x1 x2 x3 x4 x5 → p8 x0 x1 x2 x3 x4 x5 → G) : G := H.elim fun x0 H => H.elim fun x1 H => H.elim fun x2 H => H.elim fun x3 H => H.elim fun x4 H => H.elim fun x5 H => h x0 x1 x2 x3 x4 x5 H.1 H.2.1 H.2.2.1 H.2.2.2.1 H.2.2.2.2.1 H.2.2.2.2.2.1 H.2.2.2.2.2.2.1 H.2.2.2.2.2.2.2.1 H.2.2.2.2.2.2.2.2
theorem ex6_11 {t0 : Sort _} {t1 : Sort _} {t2 : Sort _} {t3 : Sort _} {t4 : Sort _} {t5 : Sort _} {p0 p1 p2 p3 p4 p5 p6 p7 p8 p9 p10 : t0 → t1 → t2 → t3 → t4 → t5 → Prop} {G : Prop} (H : ∃ x0 x1 x2 x3 x4 x5, p0 x0 x1 x2 x3 x4 x5 ∧ p1 x0 x1 x2 x3 x4 x5 ∧ p2 x0 x1 x2 x3 x4 x5 ∧ p3 x0 x1 x2 x3 x4 x5 ∧ p4 x0 x1 x2 x3 x4 x5 ∧ p5 x0 x1 x2 x3 x4 x5 ∧ p6 x0 x1 x2 x3 x4 x5 ∧ p7 x0 x1 x2 x3 x4 x5 ∧ p8 x0 x1 x2 x3 x4 x5 ∧ p9 x0 x1 x2 x3 x4 x5 ∧ p10 x0 x1 x2 x3 x4 x5) (h : ∀ x0 x1 x2 x3 x4 x5, p0 x0 x1 x2 x3 x4 x5 → p1 x0 x1 x2 x3 x4 x5 → p2 x0 x1 x2 x3 x4 x5 → p3 x0 x1 x2 x3 x4 x5 → p4 x0 x1 x2 x3 x4 x5 → p5 x0 x1 x2 x3 x4 x5 → p6 x0 x1 x2 x3 x4 x5 → p7 x0 x1 x2 x3 x4 x5 → p8 x0 x1 x2 x3 x4 x5 → p9 x0 x1 x2 x3 x4 x5 → p10 x0 x1 x2 x3 x4 x5 → G) : G := H.elim fun x0 H => H.elim fun x1 H => H.elim fun x2 H => H.elim fun x3 H => H.elim fun x4 H => H.elim fun x5 H => h x0 x1 x2 x3 x4 x5 H.1 H.2.1 H.2.2.1 H.2.2.2.1 H.2.2.2.2.1 H.2.2.2.2.2.1 H.2.2.2.2.2.2.1 H.2.2.2.2.2.2.2.1 H.2.2.2.2.2.2.2.2.1 H.2.2.2.2.2.2.2.2.2.1 H.2.2.2.2.2.2.2.2.2.2
theorem ex10_11 {t0 : Sort _} {t1 : Sort _} {t2 : Sort _} {t3 : Sort _} {t4 : Sort _} {t5 : Sort _} {t6 : Sort _} {t7 : Sort _} {t8 : Sort _} {t9 : Sort _} {p0 p1 p2 p3 p4 p5 p6 p7 p8 p9 p10 : t0 → t1 → t2 → t3 → t4 → t5 → t6 → t7 → t8 → t9 → Prop} {G : Prop} (H : ∃ x0 x1 x2 x3 x4 x5 x6 x7 x8 x9, p0 x0 x1 x2 x3 x4 x5 x6 x7 x8 x9 ∧ p1 x0 x1 x2 x3 x4 x5 x6 x7 x8 x9 ∧ p2 x0 x1 x2 x3 x4 x5 x6 x7 x8 x9 ∧ p3 x0 x1 x2 x3 x4 x5 x6 x7 x8 x9 ∧ p4 x0 x1 x2 x3 x4 x5 x6 x7 x8 x9 ∧ p5 x0 x1 x2 x3 x4 x5 x6 x7 x8 x9 ∧ p6 x0 x1 x2 x3 x4 x5 x6 x7 x8 x9 ∧ p7 x0 x1 x2 x3 x4 x5 x6 x7 x8 x9 ∧ p8 x0 x1 x2 x3 x4 x5 x6 x7 x8 x9 ∧ p9 x0 x1 x2 x3 x4 x5 x6 x7 x8 x9 ∧ p10 x0 x1 x2 x3 x4 x5 x6 x7 x8 x9) (h : ∀ x0 x1 x2 x3 x4 x5 x6 x7 x8 x9, p0 x0 x1 x2 x3 x4 x5 x6 x7 x8 x9 → p1 x0 x1 x2 x3 x4 x5 x6 x7 x8 x9 → p2 x0 x1 x2 x3 x4 x5 x6 x7 x8 x9 → p3 x0 x1 x2 x3 x4 x5 x6 x7 x8 x9 → p4 x0 x1 x2 x3 x4 x5 x6 x7 x8 x9 → p5 x0 x1 x2 x3 x4 x5 x6 x7 x8 x9 → p6 x0 x1 x2 x3 x4 x5 x6 x7 x8 x9 → p7 x0 x1 x2 x3 x4 x5 x6 x7 x8 x9 → p8 x0 x1 x2 x3 x4 x5 x6 x7 x8 x9 → p9 x0 x1 x2 x3 x4 x5 x6 x7 x8 x9 → p10 x0 x1 x2 x3 x4 x5 x6 x7 x8 x9 → G) : G := H.elim fun x0 H => H.elim fun x1 H => H.elim fun x2 H => H.elim fun x3 H => H.elim fun x4 H => H.elim fun x5 H => H.elim fun x6 H => H.elim fun x7 H => H.elim fun x8 H => H.elim fun x9 H => h x0 x1 x2 x3 x4 x5 x6 x7 x8 x9 H.1 H.2.1 H.2.2.1 H.2.2.2.1 H.2.2.2.2.1 H.2.2.2.2.2.1 H.2.2.2.2.2.2.1 H.2.2.2.2.2.2.2.1 H.2.2.2.2.2.2.2.2.1 H.2.2.2.2.2.2.2.2.2.1 H.2.2.2.2.2.2.2.2.2.2
theorem ex11_2 {t0 : Sort _} {t1 : Sort _} {t2 : Sort _} {t3 : Sort _} {t4 : Sort _} {t5 : Sort _} {t6 : Sort _} {t7 : Sort _} {t8 : Sort _} {t9 : Sort _} {t10 : Sort _} {p0 p1 : t0 → t1 → t2 → t3 → t4 → t5 → t6 → t7 → t8 → t9 → t10 → Prop} {G : Prop} (H : ∃ x0 x1 x2 x3 x4 x5 x6 x7 x8 x9 x10, p0 x0 x1 x2 x3 x4 x5 x6 x7 x8 x9 x10 ∧ p1 x0 x1 x2 x3 x4 x5 x6 x7 x8 x9 x10) (h : ∀ x0 x1 x2 x3 x4 x5 x6 x7 x8 x9 x10, p0 x0 x1 x2 x3 x4 x5 x6 x7 x8 x9 x10 → p1 x0 x1 x2 x3 x4 x5 x6 x7 x8 x9 x10 → G) : G := H.elim fun x0 H => H.elim fun x1 H => H.elim fun x2 H => H.elim fun x3 H => H.elim fun x4 H => H.elim fun x5 H => H.elim fun x6 H => H.elim fun x7 H => H.elim fun x8 H => H.elim fun x9 H => H.elim fun x10 H => h x0 x1 x2 x3 x4 x5 x6 x7 x8 x9 x10 H.1 H.2
/- and made at once -/
theorem in1_5 {t0 : Sort _} {p0 p1 p2 p3 p4 : t0 → Prop} (x0 : t0) (h0 : p0 x0) (h1 : p1 x0) (h2 : p2 x0) (h3 : p3 x0) (h4 : p4 x0) : ∃ x0, p0 x0 ∧ p1 x0 ∧ p2 x0 ∧ p3 x0 ∧ p4 x0 := ⟨x0, h0, h1, h2, h3, h4⟩
theorem in1_6 {t0 : Sort _} {p0 p1 p2 p3 p4 p5 : t0 → Prop} (x0 : t0) (h0 : p0 x0) (h1 : p1 x0) (h2 : p2 x0) (h3 : p3 x0) (h4 : p4 x0) (h5 : p5 x0) : ∃ x0, p0 x0 ∧ p1 x0 ∧ p2 x0 ∧ p3 x0 ∧ p4 x0 ∧ p5 x0 := ⟨x0, h0, h1, h2, h3, h4, h5⟩
theorem in2_4 {t0 : Sort _} {t1 : Sort _} {p0 p1 p2 p3 : t0 → t1 → Prop} (x0 : t0) (x1 : t1) (h0 : p0 x0 x1) (h1 : p1 x0 x1) (h2 : p2 x0 x1) (h3 : p3 x0 x1) : ∃ x0 x1, p0 x0 x1 ∧ p1 x0 x1 ∧ p2 x0 x1 ∧ p3 x0 x1 := ⟨x0, x1, h0, h1, h2, h3⟩
theorem in2_7 {t0 : Sort _} {t1 : Sort _} {p0 p1 p2 p3 p4 p5 p6 : t0 → t1 → Prop} (x0 : t0) (x1 : t1) (h0 : p0 x0 x1) (h1 : p1 x0 x1) (h2 : p2 x0 x1) (h3 : p3 x0 x1) (h4 : p4 x0 x1) (h5 : p5 x0 x1) (h6 : p6 x0 x1) : ∃ x0 x1, p0 x0 x1 ∧ p1 x0 x1 ∧ p2 x0 x1 ∧ p3 x0 x1 ∧ p4 x0 x1 ∧ p5 x0 x1 ∧ p6 x0 x1 := ⟨x0, x1, h0, h1, h2, h3, h4, h5, h6⟩
theorem in2_8 {t0 : Sort _} {t1 : Sort _} {p0 p1 p2 p3 p4 p5 p6 p7 : t0 → t1 → Prop} (x0 : t0) (x1 : t1) (h0 : p0 x0 x1) (h1 : p1 x0 x1) (h2 : p2 x0 x1) (h3 : p3 x0 x1) (h4 : p4 x0 x1) (h5 : p5 x0 x1) (h6 : p6 x0 x1) (h7 : p7 x0 x1) : ∃ x0 x1, p0 x0 x1 ∧ p1 x0 x1 ∧ p2 x0 x1 ∧ p3 x0 x1 ∧ p4 x0 x1 ∧ p5 x0 x1 ∧ p6 x0 x1 ∧ p7 x0 x1 := ⟨x0, x1, h0, h1, h2, h3, h4, h5, h6, h7⟩
theorem in3_3 {t0 : Sort _} {t1 : Sort _} {t2 : Sort _} {p0 p1 p2 : t0 → t1 → t2 → Prop} (x0 : t0) (x1 : t1) (x2 : t2) (h0 : p0 x0 x1 x2) (h1 : p1 x0 x1 x2) (h2 : p2 x0 x1 x2) : ∃ x0 x1 x2, p0 x0 x1 x2 ∧ p1 x0 x1 x2 ∧ p2 x0 x1 x2 := ⟨x0, x1, x2, h0, h1, h2⟩
theorem in3_4 {t0 : Sort _} {t1 : Sort _} {t2 : Sort _} {p0 p1 p2 p3 : t0 → t1 → t2 → Prop} (x0 : t0) (x1 : t1) (x2 : t2) (h0 : p0 x0 x1 x2) (h1 : p1 x0 x1 x2) (h2 : p2 x0 x1 x2) (h3 : p3 x0 x1 x2) : ∃ x0 x1 x2, p0 x0 x1 x2 ∧ p1 x0 x1 x2 ∧ p2 x0 x1 x2 ∧ p3 x0 x1 x2 := ⟨x0, x1, x2, h0, h1, h2, h3⟩
theorem in4_3 {t0 : Sort _} {t1 : Sort _} {t2 : Sort _} {t3 : Sort _} {p0 p1 p2 : t0 → t1 → t2 → t3 → Prop} (x0 : t0) (x1 : t1) (x2 : t2) (x3 : t3) (h0 : p0 x0 x1 x2 x3) (h1 : p1 x0 x1 x2 x3) (h2 : p2 x0 x1 x2 x3) : ∃ x0 x1 x2 x3, p0 x0 x1 x2 x3 ∧ p1 x0 x1 x2 x3 ∧ p2 x0 x1 x2 x3 := ⟨x0, x1, x2, x3, h0, h1, h2⟩
theorem in4_4 {t0 : Sort _} {t1 : Sort _} {t2 : Sort _} {t3 : Sort _} {p0 p1 p2 p3 : t0 → t1 → t2 → t3 → Prop} (x0 : t0) (x1 : t1) (x2 : t2) (x3 : t3) (h0 : p0 x0 x1 x2 x3) (h1 : p1 x0 x1 x2 x3) (h2 : p2 x0 x1 x2 x3) (h3 : p3 x0 x1 x2 x3) : ∃ x0 x1 x2 x3, p0 x0 x1 x2 x3 ∧ p1 x0 x1 x2 x3 ∧ p2 x0 x1 x2 x3 ∧ p3 x0 x1 x2 x3 := ⟨x0, x1, x2, x3, h0, h1, h2, h3⟩
theorem in4_5 {t0 : Sort _} {t1 : Sort _} {t2 : Sort _} {t3 : Sort _} {p0 p1 p2 p3 p4 : t0 → t1 → t2 → t3 → Prop} (x0 : t0) (x1 : t1) (x2 : t2) (x3 : t3) (h0 : p0 x0 x1 x2 x3) (h1 : p1 x0 x1 x2 x3) (h2 : p2 x0 x1 x2 x3) (h3 : p3 x0 x1 x2 x3) (h4 : p4 x0 x1 x2 x3) : ∃ x0 x1 x2 x3, p0 x0 x1 x2 x3 ∧ p1 x0 x1 x2 x3 ∧ p2 x0 x1 x2 x3 ∧ p3 x0 x1 x2 x3 ∧ p4 x0 x1 x2 x3 := ⟨x0, x1, x2, x3, h0, h1, h2, h3, h4⟩
theorem in4_6 {t0 : Sort _} {t1 : Sort _} {t2 : Sort _} {t3 : Sort _} {p0 p1 p2 p3 p4 p5 : t0 → t1 → t2 → t3 → Prop} (x0 : t0) (x1 : t1) (x2 : t2) (x3 : t3) (h0 : p0 x0 x1 x2 x3) (h1 : p1 x0 x1 x2 x3) (h2 : p2 x0 x1 x2 x3) (h3 : p3 x0 x1 x2 x3) (h4 : p4 x0 x1 x2 x3) (h5 : p5 x0 x1 x2 x3) : ∃ x0 x1 x2 x3, p0 x0 x1 x2 x3 ∧ p1 x0 x1 x2 x3 ∧ p2 x0 x1 x2 x3 ∧ p3 x0 x1 x2 x3 ∧ p4 x0 x1 x2 x3 ∧ p5 x0 x1 x2 x3 := ⟨x0, x1, x2, x3, h0, h1, h2, h3, h4, h5⟩
theorem in4_7 {t0 : Sort _} {t1 : Sort _} {t2 : Sort _} {t3 : Sort _} {p0 p1 p2 p3 p4 p5 p6 : t0 → t1 → t2 → t3 → Prop} (x0 : t0) (x1 : t1) (x2 : t2) (x3 : t3) (h0 : p0 x0 x1 x2 x3) (h1 : p1 x0 x1 x2 x3) (h2 : p2 x0 x1 x2 x3) (h3 : p3 x0 x1 x2 x3) (h4 : p4 x0 x1 x2 x3) (h5 : p5 x0 x1 x2 x3) (h6 : p6 x0 x1 x2 x3) : ∃ x0 x1 x2 x3, p0 x0 x1 x2 x3 ∧ p1 x0 x1 x2 x3 ∧ p2 x0 x1 x2 x3 ∧ p3 x0 x1 x2 x3 ∧ p4 x0 x1 x2 x3 ∧ p5 x0 x1 x2 x3 ∧ p6 x0 x1 x2 x3 := ⟨x0, x1, x2, x3, h0, h1, h2, h3, h4, h5, h6⟩
theorem in5_2 {t0 : Sort _} {t1 : Sort _} {t2 : Sort _} {t3 : Sort _} {t4 : Sort _} {p0 p1 : t0 → t1 → t2 → t3 → t4 → Prop} (x0 : t0) (x1 : t1) (x2 : t2) (x3 : t3) (x4 : t4) (h0 : p0 x0 x1 x2 x3 x4) (h1 : p1 x0 x1 x2 x3 x4) : ∃ x0 x1 x2 x3 x4, p0 x0 x1 x2 x3 x4 ∧ p1 x0 x1 x2 x3 x4 := ⟨x0, x1, x2, x3, x4, h0, h1⟩
theorem in5_3 {t0 : Sort _} {t1 : Sort _} {t2 : Sort _} {t3 : Sort _} {t4 : Sort _} {p0 p1 p2 : t0 → t1 → t2 → t3 → t4 → Prop} (x0 : t0) (x1 : t1) (x2 : t2) (x3 : t3) (x4 : t4) (h0 : p0 x0 x1 x2 x3 x4) (h1 : p1 x0 x1 x2 x3 x4) (h2 : p2 x0 x1 x2 x3 x4) : ∃ x0 x1 x2 x3 x4, p0 x0 x1 x2 x3 x4 ∧ p1 x0 x1 x2 x3 x4 ∧ p2 x0 x1 x2 x3 x4 := ⟨x0, x1, x2, x3, x4, h0, h1, h2⟩
theorem in5_5 {t0 : Sort _} {t1 : Sort _} {t2 : Sort _} {t3 : Sort _} {t4 : Sort _} {p0 p1 p2 p3 p4 : t0 → t1 → t2 → t3 → t4 → Prop} (x0 : t0) (x1 : t1) (x2 : t2) (x3 : t3) (x4 : t4) (h0 : p0 x0 x1 x2 x3 x4) (h1 : p1 x0 x1 x2 x3 x4) (h2 : p2 x0 x1 x2 x3 x4) (h3 : p3 x0 x1 x2 x3 x4) (h4 : p4 x0 x1 x2 x3 x4) : ∃ x0 x1 x2 x3 x4, p0 x0 x1 x2 x3 x4 ∧ p1 x0 x1 x2 x3 x4 ∧ p2 x0 x1 x2 x3 x4 ∧ p3 x0 x1 x2 x3 x4 ∧ p4 x0 x1 x2 x3 x4 := ⟨x0, x1, x2, x3, x4, h0, h1, h2, h3, h4⟩
theorem in5_6 {t0 : Sort _} {t1 : Sort _} {t2 : Sort _} {t3 : Sort _} {t4 : Sort _} {p0 p1 p2 p3 p4 p5 : t0 → t1 → t2 → t3 → t4 → Prop} (x0 : t0) (x1 : t1) (x2 : t2) (x3 : t3) (x4 : t4) (h0 : p0 x0 x1 x2 x3 x4) (h1 : p1 x0 x1 x2 x3 x4) (h2 : p2 x0 x1 x2 x3 x4) (h3 : p3 x0 x1 x2 x3 x4) (h4 : p4 x0 x1 x2 x3 x4) (h5 : p5 x0 x1 x2 x3 x4) : ∃ x0 x1 x2 x3 x4, p0 x0 x1 x2 x3 x4 ∧ p1 x0 x1 x2 x3 x4 ∧ p2 x0 x1 x2 x3 x4 ∧ p3 x0 x1 x2 x3 x4 ∧ p4 x0 x1 x2 x3 x4 ∧ p5 x0 x1 x2 x3 x4 := ⟨x0, x1, x2, x3, x4, h0, h1, h2, h3, h4, h5⟩
theorem in6_7 {t0 : Sort _} {t1 : Sort _} {t2 : Sort _} {t3 : Sort _} {t4 : Sort _} {t5 : Sort _} {p0 p1 p2 p3 p4 p5 p6 : t0 → t1 → t2 → t3 → t4 → t5 → Prop} (x0 : t0) (x1 : t1) (x2 : t2) (x3 : t3) (x4 : t4) (x5 : t5) (h0 : p0 x0 x1 x2 x3 x4 x5) (h1 : p1 x0 x1 x2 x3 x4 x5) (h2 : p2 x0 x1 x2 x3 x4 x5) (h3 : p3 x0 x1 x2 x3 x4 x5) (h4 : p4 x0 x1 x2 x3 x4 x5) (h5 : p5 x0 x1 x2 x3 x4 x5) (h6 : p6 x0 x1 x2 x3 x4 x5) : ∃ x0 x1 x2 x3 x4 x5, p0 x0 x1 x2 x3 x4 x5 ∧ p1 x0 x1 x2 x3 x4 x5 ∧ p2 x0 x1 x2 x3 x4 x5 ∧ p3 x0 x1 x2 x3 x4 x5 ∧ p4 x0 x1 x2 x3 x4 x5 ∧ p5 x0 x1 x2 x3 x4 x5 ∧ p6 x0 x1 x2 x3 x4 x5 := ⟨x0, x1, x2, x3, x4, x5, h0, h1, h2, h3, h4, h5, h6⟩
theorem in6_9 {t0 : Sort _} {t1 : Sort _} {t2 : Sort _} {t3 : Sort _} {t4 : Sort _} {t5 : Sort _} {p0 p1 p2 p3 p4 p5 p6 p7 p8 : t0 → t1 → t2 → t3 → t4 → t5 → Prop} (x0 : t0) (x1 : t1) (x2 : t2) (x3 : t3) (x4 : t4) (x5 : t5) (h0 : p0 x0 x1 x2 x3 x4 x5) (h1 : p1 x0 x1 x2 x3 x4 x5) (h2 : p2 x0 x1 x2 x3 x4 x5) (h3 : p3 x0 x1 x2 x3 x4 x5) (h4 : p4 x0 x1 x2 x3 x4 x5) (h5 : p5 x0 x1 x2 x3 x4 x5) (h6 : p6 x0 x1 x2 x3 x4 x5) (h7 : p7 x0 x1 x2 x3 x4 x5) (h8 : p8 x0 x1 x2 x3 x4 x5) : ∃ x0 x1 x2 x3 x4 x5, p0 x0 x1 x2 x3 x4 x5 ∧ p1 x0 x1 x2 x3 x4 x5 ∧ p2 x0 x1 x2 x3 x4 x5 ∧ p3 x0 x1 x2 x3 x4 x5 ∧ p4 x0 x1 x2 x3 x4 x5 ∧ p5 x0 x1 x2 x3 x4 x5 ∧ p6 x0 x1 x2 x3 x4 x5 ∧ p7 x0 x1 x2 x3 x4 x5 ∧ p8 x0 x1 x2 x3 x4 x5 := ⟨x0, x1, x2, x3, x4, x5, h0, h1, h2, h3, h4, h5, h6, h7, h8⟩
theorem in6_11 {t0 : Sort _} {t1 : Sort _} {t2 : Sort _} {t3 : Sort _} {t4 : Sort _} {t5 : Sort _} {p0 p1 p2 p3 p4 p5 p6 p7 p8 p9 p10 : t0 → t1 → t2 → t3 → t4 → t5 → Prop} (x0 : t0) (x1 : t1) (x2 : t2) (x3 : t3) (x4 : t4) (x5 : t5) (h0 : p0 x0 x1 x2 x3 x4 x5) (h1 : p1 x0 x1 x2 x3 x4 x5) (h2 : p2 x0 x1 x2 x3 x4 x5) (h3 : p3 x0 x1 x2 x3 x4 x5) (h4 : p4 x0 x1 x2 x3 x4 x5) (h5 : p5 x0 x1 x2 x3 x4 x5) (h6 : p6 x0 x1 x2 x3 x4 x5) (h7 : p7 x0 x1 x2 x3 x4 x5) (h8 : p8 x0 x1 x2 x3 x4 x5) (h9 : p9 x0 x1 x2 x3 x4 x5) (h10 : p10 x0 x1 x2 x3 x4 x5) : ∃ x0 x1 x2 x3 x4 x5, p0 x0 x1 x2 x3 x4 x5 ∧ p1 x0 x1 x2 x3 x4 x5 ∧ p2 x0 x1 x2 x3 x4 x5 ∧ p3 x0 x1 x2 x3 x4 x5 ∧ p4 x0 x1 x2 x3 x4 x5 ∧ p5 x0 x1 x2 x3 x4 x5 ∧ p6 x0 x1 x2 x3 x4 x5 ∧ p7 x0 x1 x2 x3 x4 x5 ∧ p8 x0 x1 x2 x3 x4 x5 ∧ p9 x0 x1 x2 x3 x4 x5 ∧ p10 x0 x1 x2 x3 x4 x5 := ⟨x0, x1, x2, x3, x4, x5, h0, h1, h2, h3, h4, h5, h6, h7, h8, h9, h10⟩
theorem in10_11 {t0 : Sort _} {t1 : Sort _} {t2 : Sort _} {t3 : Sort _} {t4 : Sort _} {t5 : Sort _} {t6 : Sort _} {t7 : Sort _} {t8 : Sort _} {t9 : Sort _} {p0 p1 p2 p3 p4 p5 p6 p7 p8 p9 p10 : t0 → t1 → t2 → t3 → t4 → t5 → t6 → t7 → t8 → t9 → Prop} (x0 : t0) (x1 : t1) (x2 : t2) (x3 : t3) (x4 : t4) (x5 : t5) (x6 : t6) (x7 : t7) (x8 : t8) (x9 : t9) (h0 : p0 x0 x1 x2 x3 x4 x5 x6 x7 x8 x9) (h1 : p1 x0 x1 x2 x3 x4 x5 x6 x7 x8 x9) (h2 : p2 x0 x1 x2 x3 x4 x5 x6 x7 x8 x9) (h3 : p3 x0 x1 x2 x3 x4 x5 x6 x7 x8 x9) (h4 : p4 x0 x1 x2 x3 x4 x5 x6 x7 x8 x9) (h5 : p5 x0 x1 x2 x3 x4 x5 x6 x7 x8 x9) (h6 : p6 x0 x1 x2 x3 x4 x5 x6 x7 x8 x9) (h7 : p7 x0 x1 x2 x3 x4 x5 x6 x7 x8 x9) (h8 : p8 x0 x1 x2 x3 x4 x5 x6 x7 x8 x9) (h9 : p9 x0 x1 x2 x3 x4 x5 x6 x7 x8 x9) (h10 : p10 x0 x1 x2 x3 x4 x5 x6 x7 x8 x9) : ∃ x0 x1 x2 x3 x4 x5 x6 x7 x8 x9, p0 x0 x1 x2 x3 x4 x5 x6 x7 x8 x9 ∧ p1 x0 x1 x2 x3 x4 x5 x6 x7 x8 x9 ∧ p2 x0 x1 x2 x3 x4 x5 x6 x7 x8 x9 ∧ p3 x0 x1 x2 x3 x4 x5 x6 x7 x8 x9 ∧ p4 x0 x1 x2 x3 x4 x5 x6 x7 x8 x9 ∧ p5 x0 x1 x2 x3 x4 x5 x6 x7 x8 x9 ∧ p6 x0 x1 x2 x3 x4 x5 x6 x7 x8 x9 ∧ p7 x0 x1 x2 x3 x4 x5 x6 x7 x8 x9 ∧ p8 x0 x1 x2 x3 x4 x5 x6 x7 x8 x9 ∧ p9 x0 x1 x2 x3 x4 x5 x6 x7 x8 x9 ∧ p10 x0 x1 x2 x3 x4 x5 x6 x7 x8 x9 := ⟨x0, x1, x2, x3, x4, x5, x6, x7, x8, x9, h0, h1, h2, h3, h4, h5, h6, h7, h8, h9, h10⟩
/- sizes under the line -/
theorem szB {n : Nat} (h : Nat.ble n 16777216 = true) : n ≤ sizeLine := by rw [sizeLine_eq]; exact Nat.le_of_ble_eq_true h
theorem szT {n k : Nat} (h : n ≤ k) (z : Nat.ble k 16777216 = true) : n ≤ sizeLine := Nat.le_trans h (szB z)
theorem szO {n : Nat} (h : n ≤ 16777216) : n ≤ sizeLine := by rw [sizeLine_eq]; exact h
theorem szS {K : Type} [DecidableEq K] {kvs : List (K × Value)} {k : K} {v : Value} (h : kvs.length + 1 ≤ 16777216) : (stored kvs k v).length ≤ sizeLine := szO (Nat.le_trans (stored_length_le _ _ _) h)
theorem szP {K : Type} [DecidableEq K] {kvs : List (K × Value)} {k k' : K} {v v' : Value} (h : kvs.length + 1 + 1 ≤ 16777216) : (stored (stored kvs k v) k' v').length ≤ sizeLine :=
  szO (Nat.le_trans (stored_length_le _ _ _) (Nat.le_trans (Nat.succ_le_succ (stored_length_le _ _ _)) h))
local macro_rules | `(tactic| k_mem) => `(tactic| first | with_reducible assumption | assumption)
local macro_rules | `(tactic| k_places) => `(tactic| first | exact strKind_is _ _ _ _ | exact intKind_is _ _ _ _)
local macro_rules | `(tactic| k_subL) => `(tactic| ((repeat (first | with_reducible exact ltR | (with_reducible show @LT.lt Nat _ _ (@HAdd.hAdd Nat Nat Nat _ _ _); with_reducible refine ltS ?_))); first | done | with_reducible assumption | (with_reducible refine' cjA (by assumption) ?_; (repeat (first | with_reducible exact And.left | with_reducible refine cjS ?_)); done)))
local macro_rules | `(tactic| k_ne) => `(tactic| first | ((try dsimp only); first | with_reducible assumption | (refine Ne.symm ?_; with_reducible assumption) | (refine neL ?_; k_subL) | (refine neG ?_; k_subL)) | (refine neN ?_; (try dsimp only); omega))
local macro_rules | `(tactic| walk_at "m size") => `(tactic| ((try simp only [List.size_toArray]); first | exact szB rfl | exact szT (by with_reducible assumption) rfl | (refine szO ?_; omega) | (refine szS ?_; omega) | (refine szP ?_; omega)))
local macro_rules | `(tactic| walk_at "eval Name") => `(tactic| (k_here; k_dflt (first | (refine' nameX_L ?F ?v ?_ ?a ?b; (case F => k_asm); (case a => rfl); (case b => rfl); (case v => rfl)) | (refine' nameX_K ?F ?X ?T ?e ?_ ?a ?b; (case F => k_asm); (case X => k_asm); (case T => k_asm); (case a => rfl); (case b => rfl); (case e => k_is))); k_whole))
local macro_rules | `(tactic| walk1) => `(tactic| (k_here; first | ((with_reducible show wpAny _ _ (subscriptTail _ _ _ _) _ _ _); k_dflt (first | ((fail_if_success (with_reducible show wpAny _ _ (subscriptTail (Expr.Name _ _) _ _ _) _ _ _)); refine kba_turn (value' := Expr.Name (Str.ofString "_") ⟨0, 0, 0, 0⟩) (fun _ => rfl) ?_) | refine kda_item (by k_asm) (by k_mem) (by k_asm) (by k_places) (by assumption) ?_)) | ((with_reducible show wpAny _ _ (compareOp _ _ (Value.ref _)) _ _ _); k_dflt (first | refine kdg_notin (by k_asm) (by k_mem) (by k_asm) (by k_asm) (by k_places) _ (by assumption) ?_ | refine kda_in (by k_asm) (by k_mem) (by k_asm) (by k_asm) (by k_places) _ (by assumption) ?_)) | ((with_reducible show wpAny _ _ (setItem (Value.ref _) _ _) _ _ _); k_dflt (refine kda_set (by k_asm) (by k_asm) (by k_updF) (by k_asm) (by k_places) (by walk_at "m size") ?_); intro h' o' F' N' hd'; (try dsimp only at N'))))
local macro_rules | `(tactic| k_steps) => `(tactic| repeat' (first | (k_unfold; (try dsimp only)) | (k_end; wrow_close) | ((fail_if_success (first | with_reducible show wpAny _ _ (call (Value.ref _) _ _) _ _ _ | with_reducible show wpAny _ _ (subscriptTail _ (Expr.BinOp _ _ _ _) (Value.ref _) _) _ _ _)); first | walk1 | (dsimp only; walk1)) | (leave1; try dsimp only)))
local macro_rules | `(tactic| walk_at "callWith ref") => `(tactic| (k_here; k_dflt ((with_reducible show wpAny _ _ (callWith _ (Value.ref (OfNat.ofNat _)) _ _ _) _ _ _); (with_reducible refine' callWith_K ?X ?k ?_ ?a ?b); (case X => k_asm); (case k => k_is); (case a => rfl); (case b => rfl); k_whole)))
local macro_rules | `(tactic| walk_at "call builtin:dict.pop") => `(tactic| (k_here; k_dflt (refine kob_pop (more := []) (by k_asm) (by k_asm) (by k_updF) (by k_asm) (by k_places) (.inl rfl) (by rfl) (PySem.F.args_dict_pop_2 _ _) (by assumption) (by walk_at "m size") ?_); intro h' o' F' N' hd'; (try dsimp only at N')))

local macro_rules | `(tactic| k_get) => `(tactic| assumption)


local macro_rules | `(tactic| walk_at "getAttr ref") => `(tactic| (k_here; k_dflt (refine get_own (by k_asm) (by k_asm) (InstAt.of_news (by k_asm) (by k_mem) (by k_mem)) (by k_is) (by k_is) (by k_is) (by k_is) (by assumption) (by k_handed) ?_; k_whole)))
local macro_rules | `(tactic| walk_at "getMethod ref") => `(tactic| (k_here; (with_reducible show wpAny _ _ (getMethod (Value.ref _) (PySem.Str.ofString "pop") _) _ _ _); k_dflt (refine kob_method PySem.F.slot_dict_pop PySem.F.type_dict_pop (by k_asm) (by k_mem) (by k_asm) ?_)))




local macro_rules | `(tactic| walk_at "CompEnd") => `(tactic| (refine LCg.CompEnd.intro (by assumption) (by assumption) _ (fun _ h => h) (by first | assumption | (simp only [LCg.Off3, and_true]; assumption)) (Or.inr ⟨_, by k_mem, rfl, _, rfl⟩) ?_))





local macro_rules | `(tactic| walk_at "call builtin:list.append") => `(tactic| (k_here; (with_reducible show wpAny _ _ (call (Value.builtin "list.append") [Value.ref _, _]) _ _ _); k_dflt (refine append_K (by k_asm) (by k_asm) (by k_upd) ?_ (by walk_at "m size")); intro h' F' N'; (try dsimp only at N')))


local macro_rules | `(tactic| k_all) => `(tactic| first | exact List.forall_mem_nil _ | with_reducible assumption | (refine' List.forall_mem_cons.mpr ⟨?a, ?b⟩; (case a => k_ne); (case b => k_all)))







local macro_rules | `(tactic| k_clsL) => `(tactic| first | with_reducible exact List.mem_cons_self | with_reducible assumption | (with_reducible refine List.mem_cons_of_mem _ ?_; k_clsL) | (with_reducible refine List.mem_append_left _ ?_; k_clsL) | (with_reducible refine List.mem_append_right _ ?_; k_clsL))
local macro_rules | `(tactic| k_offL) => `(tactic| first | with_reducible exact List.forall_mem_nil _ | (with_reducible refine' List.forall_mem_cons.mpr ⟨?a, ?b⟩; (case a => k_clsL); (case b => k_offL)) | (with_reducible refine' List.forall_mem_append.mpr ⟨?a, ?b⟩; (case a => k_offL); (case b => k_offL)) | (intro p' hp'; k_clsL))

section
variable {prog : Program} {w : World} {A : Around} {s : Shared} {K : Frag} {L : Addr} {G : Heap} {m : Str → Option Value} {news : List (Addr × Obj)}
    {R : Result → Shared → Prop} {name qual : Str} {params : Arguments} {body : List Stmt} {scope : Scope} {dV kV doc pm cdv ct oc : Value} {an od : Option Addr} {osl : Array (Option Value)} {f : Addr} {args : Args} {binds : List (Str × Value)}

/- the frame's own object bears the names m, whatever its slots -/
def FrameIs (o : Obj) (m : Str → Option Value) : Prop := (∃ es ep, o.data = .dict es ep) ∧ ∀ (sl : Array (Option Value)) (h' : Heap) (L : Addr), h'.get? L = some { o with slots := sl } → Heap.Ns h' L m

theorem frameIs_of (F : Fr G L s.heap m) : ∃ oL, s.heap.get? L = some oL ∧ FrameIs oL m := by
  refine ex3_4 (F.ns) ?_; intro oL es ep hL hLd hLk hLf
  exact ⟨oL, hL, ⟨es, ep, hLd⟩, fun sl h' L' e => ⟨_, es, ep, e, hLd, hLk, hLf⟩⟩

/- back in the caller's frame -/
theorem back_fr {h : Heap} {oL : Obj} {L' : Addr} {m' : Str → Option Value} {nl : List (Addr × Obj)} (F' : Fr G L' h m') (N' : News G L' h nl) (hm : (L, oL) ∈ nl) (fi : FrameIs oL m) (ha : G.objs.size ≤ L) : Fr G L h m :=
  ⟨fi.2 oL.slots h L (N' _ hm).1, F'.keep, ha⟩
theorem back_news {h : Heap} {L' : Addr} {nl nl' : List (Addr × Obj)} (N' : News G L' h nl) (hs : ∀ p ∈ nl', p ∈ nl ∧ p.1 ≠ L) : News G L h nl' :=
  fun p hp => ⟨(N' p (hs p hp).1).1, (hs p hp).2, (N' p (hs p hp).1).2.2⟩

theorem enter0 (F : Fr G L s.heap m) (X : K.In G) (N : News G L s.heap news) (hlim : G.NoLimit)
    (ho : K.lookup f = some ⟨oc, od, .func (fnOf name qual params body scope dV kV doc pm an cdv ct), osl⟩) (hcd : codeIn K cdv qual = true) (hroom : A.depth < recursionLimit)
    (hbind : BindsTo s (fnOf name qual params body scope dV kV doc pm an cdv ct) args binds) (hloc : ∀ y ∈ binds, scope.names.lookup y.1 = some .local)
    (h : ∀ L' h₁ oL, FrameIs oL m → Fr G L' h₁ (fun y => binds.reverse.lookup y) → News G L' h₁ ((L, oL) :: news) → (∀ p ∈ news, p.1 < L') → @LT.lt Nat _ L L' →
      wpAny (model prog w) (A.deeper (envOf qual scope L' f cdv)) (execs body (envOf qual scope L' f cdv))
        (fun fl s' => R (.ok (.ret (match fl with | .ret v => v | _ => .none))) s')
        (fun e s' => wpAny (model prog w) (A.deeper (envOf qual scope L' f cdv)) (leaving (envOf qual scope L' f cdv) e) (fun _ s'' => R (.error e) s'') (fun e' s'' => R (.error e') s'') s')
        { s with heap := h₁, toks := s.toks + binds.length })
    (hco : scope.isCoroutine = false) (hgen : scope.isGenerator = false) (hk : scope.kind = .function)
    (hcell : ∀ x ∈ scope.names, x.2 ≠ .cell) : codeAny (model prog w) A (.call (.ref f) args) R s := by
  have X' := X.keeps F.keep
  refine codeAny_call_def (fd := fnOf name qual params body scope dV kV doc pm an cdv ct) (body := body) (binds := binds) hroom (X' _ _ ho) rfl (hlim.keeps F.keep) (codeRec_of X' hcd) rfl hbind hcell hloc (fun h₁ hns hk₁ => ?_) hco hgen hk
  refine ex1_2 (frameIs_of F) ?_; intro oL hL fi
  have hlt : L < s.heap.objs.size := Heap.lt_size hL
  refine h s.heap.objs.size h₁ oL fi ⟨hns, fun b o e => hk₁ b o (F.keep b o e), ?_⟩ ?_ (fun p hp => Heap.lt_size (N p hp).1) hlt
  · exact Nat.le_trans F.above (Nat.le_of_lt hlt)
  · intro p hp
    refine mcons hp ?_ fun hp => ?_
    · refine ⟨hk₁ _ _ hL, Nat.ne_of_lt hlt, ?_⟩
      exact Heap.get?_none_of_le F.above
    · have n := N p hp
      exact ⟨hk₁ _ _ n.1, Nat.ne_of_lt (Heap.lt_size n.1), n.2.2⟩
end

section
variable {prog : Program} {w : World} {A : Around} {E : Value → Shared → Prop} {s : Shared} {L : Addr} {G : Heap} {m : Str → Option Value} {news : List (Addr × Obj)}
/- len of a list of the ledger -/
theorem len_led {l : Addr} {its : Array Value} {n : Nat} {Q : Value → Shared → Prop} (N : News G L s.heap news) (hm : (l, listOf its n) ∈ news) (hz : its.size ≤ 16777216)
    (h : ∀ t tk, Q (.int its.size t) { s with toks := tk }) : wpAny (model prog w) A (call (.builtin "len") [.ref l]) Q E s :=
  call_len_list (N.isList hm) (by omega) (h _ _)
end
theorem news_sub {G h : Heap} {L : Addr} {nl nl' : List (Addr × Obj)} (N : News G L h nl) (hs : ∀ p ∈ nl', p ∈ nl) : News G L h nl' := fun p hp => N p (hs p hp)
theorem news_swap {G h : Heap} {L : Addr} {a b : Addr × Obj} {r : List (Addr × Obj)} (N : News G L h (a :: b :: r)) : News G L h (b :: a :: r) := fun p hp => N p (by
  refine mcons hp ?_ fun hp => ?_
  · exact .tail _ (.head _)
  · refine mcons hp ?_ fun hp => ?_
    · exact .head _
    · exact .tail _ (.tail _ hp))
theorem wpAny_weak {α : Type} {M : Model} {A A' : Around} {t : Sem α} {Q : α → Shared → Prop} {E : Value → Shared → Prop} {s : Shared} (h : wpAny M A' t Q E s) (hh : A.handled = A'.handled) (hd : A.depth ≤ A'.depth) (hu : A.units ≤ A'.units) (hf : A'.frames = none) (hg : A'.guards = none) :
    wpAny M A t Q E s := fun Γ p hΓ => h Γ p ⟨hΓ.1.trans hh, Nat.le_trans hΓ.2.1 hd, (fun l hl => by rw [hf] at hl; cases hl), (fun l hl => by rw [hg] at hl; cases hl), Nat.le_trans hΓ.2.2.2.2 hu⟩
theorem ns_at {K : Frag} {h : Heap} {N : Addr} {mN : Str → Option Value} {n : Str} {v : Value} (X : K.In h) (G : h.Ns N mN) (e : nsIn K N n = some (some v)) : mN n = some v := by
  refine ex3_4 G ?_; intro o es ep ho hd _ hf
  try clear G
  unfold nsIn at e
  split at e
  · rename_i c d es' n' sl q
    have z := X _ _ q
    rw [ho] at z
    cases z
    cases hd
    split at e
    · rename_i en he
      cases e
      rw [← hf]
      unfold nsFind findBy
      rw [← Array.find?_toList, he]
      rfl
    · split at e <;> cases e
  · cases e

abbrev A1 : Around := { depth := 900, units := 900 }
abbrev A2 : Around := { depth := 800, units := 800 }
abbrev A3 : Around := { depth := 700, units := 700 }
abbrev A4 : Around := { depth := 600, units := 600 }
abbrev A5 : Around := { depth := 500, units := 500 }
local macro_rules | `(tactic| walk_at "call builtin:len") => `(tactic| (k_here; (with_reducible show wpAny _ _ (call (Value.builtin "len") [Value.ref _]) _ _ _); k_dflt (refine len_led (by k_asm) (by k_mem) (by first | assumption | (simp; omega)) ?_); intro t' tk'))
section
variable {w : World} {G : Heap} {L : Addr} {m : Str → Option Value} {p : Program} {loose : List Str} {mean : ExcName → Option Value} {mg mb : Str → Option Value}
  {E : Value → Shared → Prop} {s : Shared}

theorem next_ok {feed cells : Addr} {turn many : Int} {tt tm : Tok} {vs : List Value} {ns : List Int} {n n2 : Nat} {rest : List (Addr × Obj)} {Q : Value → Shared → Prop}
  (F : Fr G L s.heap m) (T : Top p loose mean mg mb G) (X : (hd.heap_1 w.params).In G)
  (N : News G L s.heap ((feed, listOf #[.ref cells, .int turn tt] n) :: (cells, listOf vs.toArray n2) :: rest))
  (nd1 : @Ne Nat cells feed) (nd2 : ∀ p ∈ rest, p.1 ≠ feed)
  (hi : IntsAre vs ns) (hvl : vs.length ≤ 100) (h0 : 0 ≤ turn) (h1 : turn ≤ 10000) (hm : 0 < many) (hmm : many ≤ 100)
  (h : ∀ h' tk r t t', 0 ≤ r → r < many → Fr G L h' m → News G L h' ((feed, listOf #[.ref cells, .int (turn+1) t'] n) :: (cells, listOf vs.toArray n2) :: rest) → Q (.int r t) { s with heap := h', toks := tk }) :
  wpAny (model PySem.Challenge.rw_pq0169_01.row.prog w) A1 (call (.ref 153) [.ref feed, .int many tm] []) Q E s := by
  revert X
  k_fill
  intro X
  refine wpAny_call ?_
  have hab := F.above
  have hL1 : @Ne Nat feed L := (N _ (.head _)).2.1
  have hL2 : @Ne Nat cells L := (N _ (.tail _ (.head _))).2.1
  have hL3 : ∀ p ∈ rest, p.1 ≠ L := fun p hp => (N p (.tail _ (.tail _ hp))).2.1
  refine' enter0 (binds := [(Str.ofString "feed", .ref feed), (Str.ofString "many", .int many tm)]) F X N (Top.nolimit T) ?k6 ?k7 ?k8 ?k9 ?kB ?_ ?c2 ?c3 ?c4 ?c5
  case k6 => k_is
  case k7 => k_is
  case k8 => decide
  case k9 => exact BindsTo.of_eq rfl
  case c5 => decide
  case kB => exact locs rfl
  case c2 => exact rfl
  case c3 => exact rfl
  case c4 => exact rfl
  intro L' h₁ oL hoL F' N' l0 l1
  clear F N l0
  dsimp only
  k_fold
  k_steps
  · refine h _ _ _ _ _ ?_ ?_ (back_fr (by k_asm) (by k_asm) (by k_mem) hoL hab) (back_news (by k_asm) (by ((repeat (first | exact List.forall_mem_nil _ | refine List.forall_mem_cons.mpr ⟨⟨by k_mem, by k_ne⟩, ?_⟩ | (intro p' hp'; exact ⟨by k_mem, by first | assumption | (apply_assumption; assumption)⟩))))))
    · exact Int.fmod_nonneg_of_pos _ hm
    · exact Int.fmod_lt_of_pos _ hm
  · refine h _ _ _ _ _ ?_ ?_ (back_fr (by k_asm) (by k_asm) (by k_mem) hoL hab) (back_news (by k_asm) (by ((repeat (first | exact List.forall_mem_nil _ | refine List.forall_mem_cons.mpr ⟨⟨by k_mem, by k_ne⟩, ?_⟩ | (intro p' hp'; exact ⟨by k_mem, by first | assumption | (apply_assumption; assumption)⟩))))))
    · exact Int.fmod_nonneg_of_pos _ hm
    · exact Int.fmod_lt_of_pos _ hm
end

section
abbrev excObj (d : Option Addr) (fs : Array Value) : Obj := ⟨.ref 34, d, .fields fs, #[]⟩
theorem slot_wd_get : Slot "wrapper_descriptor" "__get__" "wrapper_descriptor.__get__" := .of (owner := "wrapper_descriptor") (n := "__get__") (by rw [typeLookup_type, builtinLookup_eq_fast]; kernel_rfl) (by decide +kernel) (by decide +kernel) (by decide +kernel)
  (by first | exact .inl (by decide +kernel) | exact .inr (by decide +kernel)) (by rw [isSubtype_type]; kernel_rfl)
theorem entry_wd_get : entryFor table "wrapper_descriptor.__get__" = some Builtin.«wrapper_descriptor.__get__» := entryFor_of_tree (by kernel_rfl)
theorem args_wd_get (a b c : Value) : argsOk "wrapper_descriptor.__get__" ⟨[a, b, c], []⟩ := by unfold argsOk; kernel_rfl
theorem type_exc_init : typeOf (.builtin "Exception.__init__") = pure (.type "wrapper_descriptor") := by show builtinType _ = _; rw [builtinType_eq_fast]; kernel_rfl
theorem own_exc_init : classOwn (.type "Exception") (Str.ofString "__init__") = pure (some (.builtin "Exception.__init__")) := by
  show pure (builtinOwn _ _) = _; rw [builtinOwn_eq_fast]; kernel_rfl
theorem entry_exc_init : entryFor table "Exception.__init__" = some Builtin.«BaseException.__init__» := PySem.F.excBase_Exception.initEntry

variable {prog : Program} {w : World} {A : Around} {E : Value → Shared → Prop} {h : Heap} {g : Array GenState} {d : Drawn} {t : Nat} {os : OsState}
theorem exc_super_ga {so x : Addr} {ox : Obj} {tk : Tok} {Q : Fin → Shared → Prop}
    (hso : h.get? so = some { cls := .type "super", dict := none, data := .fields #[.ref 34, .ref x, .ref 34], slots := #[] }) (hno : Looks (model prog w) h (opaqueClassAbove (.ref 34)) none)
    (hC : Looks (model prog w) h (mroOf (.ref 34)) [.ref 34, .type "Exception", .type "BaseException", .type "object"])
    (hsub : Looks (model prog w) h (isSubtype (.ref 34) (.type "Exception")) true)
    (hx : h.get? x = some ox) (hxc : ox.cls = .ref 34) (hxC : x ≠ 34)
    (hq : Q (.done (.ret (.ref h.objs.size))) ⟨h.push { cls := .type "method-wrapper", data := .fields #[.builtin "Exception.__init__", .ref x] }, g, d, t, os⟩) :
    wpAny (model prog w) A (Builtin.«super.__getattribute__» ⟨[.ref so, .str (Str.ofString "__init__") tk], []⟩) Q E ⟨h, g, d, t, os⟩ := by
  have hlk := slot_wd_get.lookup
  have hne : (Value.ref x == Value.ref 34) = false := by simp [hxC]
  have htx : Looks (model prog w) h (typeOf (.ref x)) (.ref 34) := (Looks.ld (part := some headPart) hx).andThen (by rw [hxc]; exact .now)
  have hdt : ({ cls := .type "super", dict := none, data := .fields #[.ref 34, .ref x, .ref 34], slots := #[] } : Obj).data = .fields #[.ref 34, .ref x, .ref 34] := rfl
  have f0 : (#[.ref 34, .ref x, .ref 34] : Array Value)[0]? = some (.ref 34) := rfl
  have f1 : (#[.ref 34, .ref x, .ref 34] : Array Value)[1]? = some (.ref x) := rfl
  have f2 : (#[.ref 34, .ref x, .ref 34] : Array Value)[2]? = some (.ref 34) := rfl
  have hti := type_exc_init
  have hown := own_exc_init
  unfold Builtin.«super.__getattribute__»
  repeat (first
    | (with_reducible refine wpAny_field hso hdt f0 ?_) | (with_reducible refine wpAny_field hso hdt f1 ?_) | (with_reducible refine wpAny_field hso hdt f2 ?_)
    | (with_reducible refine ks_wpAny_notOpaque hno ?_)
    | (with_reducible refine Looks.at hC ?_)
    | (with_reducible refine wpAny_of_eq hown ?_)
    | (with_reducible refine wpAny_of_eq hti ?_)
    | (with_reducible refine wpAny_of_eq hlk ?_)
    | ((with_reducible show wpAny _ _ (call _ _ _) _ _ _); refine wpAny_call_entry slot_wd_get (show Shared.TypeIs _ (Value.builtin "Exception.__init__") "wrapper_descriptor" from type_exc_init) entry_wd_get ?_ (args_wd_get _ _ _); simp only [hne, Bool.false_eq_true, if_false])
    | wp_step
    | dsimp only)
  rw [hxc, show (".".intercalate ("Exception.__init__".cutAt '.').dropLast) = "Exception" from by decide +kernel]
  refine Looks.at hsub ?_
  simp only [Bool.not_true, Bool.false_eq_true, if_false]
  unfold newFields
  refine wpAny_pure (wpAny_bind (wpAny_bind ?_))
  refine wpAny_alloc ?_
  dsimp only
  refine wpAny_pure (wpAny_pure ⟨_, rfl, ?_⟩)
  repeat (first | wp_step | dsimp only)
  exact hq

theorem exc_getMethod_super {so x : Addr} {ox : Obj} {pl : Sem Bool} {Q : Value × List Value → Shared → Prop}
    (hso : h.get? so = some { cls := .type "super", dict := none, data := .fields #[.ref 34, .ref x, .ref 34], slots := #[] }) (hno : Looks (model prog w) h (opaqueClassAbove (.ref 34)) none)
    (hC : Looks (model prog w) h (mroOf (.ref 34)) [.ref 34, .type "Exception", .type "BaseException", .type "object"])
    (hsub : Looks (model prog w) h (isSubtype (.ref 34) (.type "Exception")) true)
    (hx : h.get? x = some ox) (hxc : ox.cls = .ref 34) (hxC : x ≠ 34)
    (hq : Q (.ref h.objs.size, []) ⟨h.push { cls := .type "method-wrapper", data := .fields #[.builtin "Exception.__init__", .ref x] }, g, d, t + 1, os⟩) :
    wpAny (model prog w) A (getMethod (.ref so) (Str.ofString "__init__") pl) Q E ⟨h, g, d, t, os⟩ := by
  have hlk := F.ks_slot_super_ga.lookup
  have hcan := F.ks_canon_super_ga
  have hT : ∀ t', (⟨h, g, d, t', os⟩ : Shared).TypeIs (.ref so) "super" := fun _ => ⟨_, hso, rfl⟩
  unfold getMethod
  refine wpAny_bind (wpAny_specialOf (hT _) hlk ?_)
  show wpAny _ _ (if (Manifest.canonical "super.__getattribute__" != "object.__getattribute__") = true then _ else _) _ _ _
  rw [if_pos hcan]
  unfold getAttr getAttrBy
  refine wpAny_bind (wpAny_bind (wpAny_mkText (wpAny_holding (wpAny_bind (wpAny_typeOf (hT _) (wpAny_bind (wpAny_of_eq hlk ?_)))))))
  show wpAny _ _ (getAttrByItsOwn (.ref so) (.str (Str.ofString "__init__") t) (.type "super") (.builtin "super.__getattribute__") true false) _ _ _
  unfold getAttrByItsOwn hookBefore callGetattribute boundAndCalled
  refine wpAny_bind (wpAny_of_eq (show (if onTheHeap (.type "super") then typeLookup (.type "super") "__getattr__" else pure none) = pure none from rfl) ?_)
  refine wpAny_bind (wpAny_attempt (wpAny_holding ?_))
  show wpAny _ _ (bindSpecial (.builtin "super.__getattribute__") (.ref so) >>= _) _ _ _
  refine wpAny_bind (wpAny_of_eq (F.ks_slot_super_ga.bind _) ?_)
  refine wpAny_mono (Q := fun v s' => v = .ref h.objs.size ∧ s' = ⟨h.push { cls := .type "method-wrapper", data := .fields #[.builtin "Exception.__init__", .ref x] }, g, d, t + 1, os⟩) (E := fun _ _ => False)
    (wpAny_call_entry F.ks_slot_super_ga (hT _) F.ks_entry_super_ga (exc_super_ga hso hno hC hsub hx hxc hxC ⟨_, rfl, rfl, rfl⟩) (F.ks_gaArgs_super _ _)) (fun v s' hv => ?_) fun _ _ z => z.elim
  refine ex0_2 hv ?_; intro E_1 E_2
  try clear hv
  subst E_1
  subst E_2
  exact wpAny_pure (wpAny_pure hq)
end

section
variable {prog : Program} {w : World} {A : Around} {E : Value → Shared → Prop} {h : Heap} {g : Array GenState} {d : Drawn} {t : Nat} {os : OsState}
theorem exc_wrapper_call {mw x tt : Addr} {v : Value} {Q : Value → Shared → Prop} {oC : Obj} {cd : ClassData} (hC : h.get? 34 = some oC) (hCd : oC.data = .cls cd)
    (hmw : h.get? mw = some { cls := .type "method-wrapper", data := .fields #[.builtin "Exception.__init__", .ref x] })
    (hx : h.get? x = some (excObj none #[.ref tt, .none, .none, .none, .bool false, .none]))
    (hq : Q .none ⟨(h.push { cls := .type "tuple", data := .seq #[v] }).update x (Obj.mapFields fun fs => fs.setIfInBounds 0 (.ref h.objs.size)), g, d, t, os⟩) :
    wpAny (model prog w) A (call (.ref mw) [v]) Q E ⟨h, g, d, t, os⟩ := by
  have F := PySem.F.excBase_Exception
  refine wpAny_call (codeAny_of_tree ?_)
  show wpAny _ A.in1 (callAny (.ref mw) _) _ _ _
  unfold callAny
  refine wpAny_bind (wpAny_load hmw ?_)
  dsimp only
  repeat (first | (with_reducible refine wpAny_load hC ?_; rw [hCd]) | (with_reducible refine wpAny_loadPart hC ?_; rw [hCd]) | wp_step | dsimp only | (with_reducible refine wpAny_onRaise ?_) | (with_reducible refine wpAny_of_eq (check_star_args _ _ _ _ _ _) ?_))
  refine ⟨Code.quiet_builtin _ (by decide +kernel), codeAny_builtin entry_exc_init ?_⟩
  unfold Builtin.«BaseException.__init__» Builtin.BaseException.bexcPut
  dsimp only
  have hx2 := Heap.get?_push_of_some { cls := .type "tuple", data := .seq [v].toArray } hx
  have hd : (excObj none #[.ref tt, .none, .none, .none, .bool false, .none]).data = .fields #[.ref tt, .none, .none, .none, .bool false, .none] := rfl
  repeat (first | wp_step | dsimp only | (with_reducible refine wpAny_field hx2 hd (x := .ref tt) rfl ?_) | (with_reducible refine wpAny_setField hx2 hd (by decide) ?_))
  exact hq
end

section
open Builtin Builtin.ObjectAttr
theorem exc_refuse (self : Value) : refuseLoop self "__setattr__" [.ref 34, .type "Exception", .type "BaseException", .type "object"] = pure () := by
  rw [refuseLoop_ref]; kernel_rfl
end
section
open Builtin Builtin.ObjectAttr
variable {w : World} {A : Around} {E : Value → Shared → Prop} {s : Shared} {L : Addr} {G : Heap} {m : Str → Option Value} {news : List (Addr × Obj)} {R : Result → Shared → Prop}
theorem exc_osa_open {K : Frag} {x : Addr} {od : Option Addr} {fs : Array Value} {name : Str} {tk : Tok} {v : Value} {cd : ClassData} (X : K.In s.heap) (hx : s.heap.get? x = some (excObj od fs))
    (hc : clsIn K 34 = some cd) (hm : cd.mro = [.ref 34, .type "Exception", .type "BaseException", .type "object"]) (ha : findIn K (.ref 34) name = some none)
    (h : wpAny (model PySem.Challenge.rw_pq0169_01.row.prog w) A.in1 (storeInOwnDict (.ref x) (.ref 34) (.str name tk) name v false)
      (fun fin s' => match fin with | .done f => R (.ok f) s' | .again c' => c'.quiet = true ∧ codeAny (model PySem.Challenge.rw_pq0169_01.row.prog w) A c' R s') (fun e s' => R (.error e) s') s) :
    codeAny (model PySem.Challenge.rw_pq0169_01.row.prog w) A (.call (.builtin "object.__setattr__") ⟨[.ref x, .str name tk, v], []⟩) R s := by
  have SF := PySem.F.store_object
  have htx : Looks (model PySem.Challenge.rw_pq0169_01.row.prog w) s.heap (typeOf (.ref x)) (.ref 34) := (Looks.ld (part := some headPart) hx).andThen .now
  have hmr : Looks (model PySem.Challenge.rw_pq0169_01.row.prog w) s.heap (mroOf (.ref 34)) cd.mro := (looks_clsIn X hc).andThen .now
  have sub : Looks (model PySem.Challenge.rw_pq0169_01.row.prog w) s.heap (isInstance (.ref x) (.type "object")) true := htx.andThen (looks_mroIn X (by unfold mroIn; rw [hc, Option.bind_some, hm]; rfl))
  refine codeAny_call_builtin SF.slot.plain SF.entry (@check_slot (model PySem.Challenge.rw_pq0169_01.row.prog w) _ _ s "object.__setattr__" "object" "__setattr__" (.ref x) [.str name tk, v] [] _ SF.kind SF.split sub (SF.args (.ref x) (.str name tk) v) ?_)
  rw [osa_eq, refuse_eq]
  refine wpAny_bind (wpAny_bind (htx.here (wpAny_bind (hmr.here ?_))))
  rw [hm, exc_refuse]
  refine wpAny_pure (wpAny_bind (htx.here (wpAny_bind ((looks_findIn X ha).here (wpAny_bind ?_)))))
  refine wpAny_pure ?_
  exact h
end

section
open Builtin Builtin.ObjectAttr
variable {w : World} {A : Around} {E : Value → Shared → Prop} {s : Shared} {L : Addr} {G : Heap} {m : Str → Option Value} {rest : List (Addr × Obj)} {R : Result → Shared → Prop}

theorem exc_set_new {K : Frag} {x : Addr} {fs : Array Value} {name : Str} {tk : Tok} {v : Value} {cd : ClassData} (F : Fr G L s.heap m) (X : K.In s.heap)
    (N : News G L s.heap ((x, excObj none fs) :: rest)) (off : ∀ p ∈ rest, p.1 ≠ x)
    (hc : clsIn K 34 = some cd) (hm : cd.mro = [.ref 34, .type "Exception", .type "BaseException", .type "object"]) (hh : cd.hasDict = true) (ha : findIn K (.ref 34) name = some none)
    (h : ∀ h' dx tk' hsh, Fr G L h' m → News G L h' ((x, excObj (some dx) fs) :: (dx, dictOf [⟨hsh, .str name tk', v⟩] 1) :: rest) → (∀ p ∈ ((x, excObj none fs) :: rest), p.1 < dx) → R (.ok (.ret .none)) { s with heap := h', toks := s.toks + 1 }) :
    codeAny (model PySem.Challenge.rw_pq0169_01.row.prog w) A (.call (.builtin "object.__setattr__") ⟨[.ref x, .str name tk, v], []⟩) R s := by
  have hx := (N _ (.head _)).1
  refine exc_osa_open X hx hc hm ha ?_
  unfold storeInOwnDict
  refine wpAny_bind (wpAny_pure (wpAny_bind (wpAny_bind (wpAny_loadPart hx (wpAny_bind ((looks_clsIn X hc).here ?_))))))
  rw [hh]
  dsimp only
  have N1 := N.push F { cls := .type "dict", data := .dict #[] } rfl
  have F1 := F.push { cls := .type "dict", data := .dict #[] }
  have hlt : ∀ p ∈ ((x, excObj none fs) :: rest), p.1 < s.heap.objs.size := fun p hp => Heap.lt_size (N p hp).1
  refine wpAny_bind (wpAny_alloc ?_)
  refine wpAny_bind (wpAny_update (N1 _ (.tail _ (.head _))).1 ?_)
  have H_1 := news_upd (pre := [(s.heap.objs.size, { cls := .type "dict", data := .dict #[] })]) (post := rest) (d := x) (o := excObj none fs) (o' := excObj (some s.heap.objs.size) fs) (f := fun o => { o with dict := some s.heap.objs.size }) F1 N1 (fun p hp => by
    rw [List.mem_singleton.mp hp]; exact Nat.ne_of_gt (hlt _ (.head _))) off rfl rfl
  refine ex0_2 H_1 ?_; intro F2 N2
  try clear H_1
  refine wpAny_pure (a := some s.heap.objs.size) (wpAny_bind (wpAny_pure (wpAny_bind ?_)))
  unfold nsSet
  have D : ((s.heap.push { cls := .type "dict", data := .dict #[] }).update x fun o => { o with dict := some s.heap.objs.size }).get? s.heap.objs.size = some { cls := .type "dict", data := .dict #[] } := (N2 (s.heap.objs.size, _) (.head _)).1
  refine wpAny_bind (wpAny_bind (wpAny_askSetting (wpAny_pure (wpAny_bind (wpAny_mkText (wpAny_bind (wpAny_loadPart D ?_)))))))
  dsimp only
  rw [aRefKeyMayBeTheName_at, if_neg (by simp [DictEntry.refKey])]
  refine wpAny_updatePart D ?_
  have H_2 := news_upd (pre := []) (post := (x, excObj (some s.heap.objs.size) fs) :: rest) (d := s.heap.objs.size) (f := Obj.putName name (PyData.keyHash w.params name) (.str name s.toks) v) F2 N2 (fun p hp => nomatch hp) (fun p hp => by
    rcases List.mem_cons.mp hp with rfl | hp
    · exact Nat.ne_of_lt (hlt (x, excObj none fs) (.head _))
    · exact Nat.ne_of_lt (hlt _ (.tail _ hp))) (putName_dict name _ _ v [] 0) rfl
  refine ex0_2 H_2 ?_; intro F3 N3
  try clear H_2
  refine wpAny_bind (wpAny_lookBehind (N3 _ (.head _)).1 (pastItsLine_dict (by show 1 ≤ sizeLine + 1; rw [sizeLine_eq]; decide)) ?_)
  exact wpAny_pure (h _ _ _ _ F3 (news_swap N3) hlt)

theorem exc_set_more {K : Frag} {x dx : Addr} {fs : Array Value} {name n1 : Str} {tk t1 : Tok} {v v1 : Value} {h1 : Int} {cd : ClassData} (F : Fr G L s.heap m) (X : K.In s.heap)
    (N : News G L s.heap ((x, excObj (some dx) fs) :: (dx, dictOf [⟨h1, .str n1 t1, v1⟩] 1) :: rest)) (off1 : x ≠ dx) (off : ∀ p ∈ rest, p.1 ≠ dx) (hne : (n1 == name) = false)
    (hc : clsIn K 34 = some cd) (hm : cd.mro = [.ref 34, .type "Exception", .type "BaseException", .type "object"]) (hh : cd.hasDict = true) (ha : findIn K (.ref 34) name = some none)
    (h : ∀ h' tk' hsh, Fr G L h' m → News G L h' ((x, excObj (some dx) fs) :: (dx, dictOf [⟨h1, .str n1 t1, v1⟩, ⟨hsh, .str name tk', v⟩] 2) :: rest) → R (.ok (.ret .none)) { s with heap := h', toks := s.toks + 1 }) :
    codeAny (model PySem.Challenge.rw_pq0169_01.row.prog w) A (.call (.builtin "object.__setattr__") ⟨[.ref x, .str name tk, v], []⟩) R s := by
  have hx := (N _ (.head _)).1
  refine exc_osa_open X hx hc hm ha ?_
  unfold storeInOwnDict
  refine wpAny_bind (wpAny_pure (wpAny_bind (wpAny_bind (wpAny_loadPart hx (wpAny_bind ((looks_clsIn X hc).here ?_))))))
  rw [hh]
  dsimp only
  refine wpAny_pure (a := some dx) (wpAny_bind (wpAny_pure (wpAny_bind ?_)))
  unfold nsSet
  have D : s.heap.get? dx = some (dictOf [⟨h1, .str n1 t1, v1⟩] 1) := (N (dx, _) (.tail _ (.head _))).1
  refine wpAny_bind (wpAny_bind (wpAny_askSetting (wpAny_pure (wpAny_bind (wpAny_mkText (wpAny_bind (wpAny_loadPart D ?_)))))))
  dsimp only
  rw [aRefKeyMayBeTheName_at, if_neg (by simp [DictEntry.refKey])]
  refine wpAny_updatePart D ?_
  have e : Obj.putName name (PyData.keyHash w.params name) (.str name s.toks) v (dictOf [⟨h1, .str n1 t1, v1⟩] 1) = dictOf [⟨h1, .str n1 t1, v1⟩, ⟨PyData.keyHash w.params name, .str name s.toks, v⟩] 2 := by
    rw [putName_dict]; simp [putL, putN, Value.isStr, hne]
  refine ex0_2 (news_upd (pre := [(x, excObj (some dx) fs)]) (post := rest) (d := dx) (f := Obj.putName name (PyData.keyHash w.params name) (.str name s.toks) v) F N (fun p hp => by rw [List.mem_singleton.mp hp]; exact off1) off e rfl) ?_; intro F3 N3
  refine wpAny_bind (wpAny_lookBehind (N3 _ (.tail _ (.head _))).1 (pastItsLine_dict (by show 2 ≤ sizeLine + 1; rw [sizeLine_eq]; decide)) ?_)
  exact wpAny_pure (h _ _ _ F3 N3)
end

section
variable {w : World}
theorem c34a {K : Frag} {cd : ClassData} {l : List Value} (h : clsIn K 34 = some cd) (hm : cd.mro = l) (hh : cd.hasDict = true) : ∃ cd, clsIn K 34 = some cd ∧ cd.mro = l ∧ cd.hasDict = true := ⟨cd, h, hm, hh⟩
theorem c34 {G : Heap} (X : (hd.heap_1 w.params).In G) : model PySem.Challenge.rw_pq0169_01.row.prog w = model PySem.Challenge.rw_pq0169_01.row.prog w ∧ ∃ cd, clsIn (hd.heap_1 w.params) 34 = some cd ∧ cd.mro = [.ref 34, .type "Exception", .type "BaseException", .type "object"] ∧ cd.hasDict = true := by
  revert X
  k_fill
  intro X
  exact ⟨rfl, c34a (by k_is) (by rfl) (by rfl)⟩
end
section
variable {M : Model} {A : Around} {E : Value → Shared → Prop} {s : Shared} {env : Env} {pos : Pos} {first : List Value} {Q : Value → Shared → Prop} {q : Addr}
abbrev MwAt (q x : Addr) (h : Heap) : Prop := h.get? q = some { cls := .type "method-wrapper", data := .fields #[.builtin "Exception.__init__", .ref x] }
theorem callWith_mw {e : PySem.Expr} {rest : List PySem.Expr} {x : Addr} (h : wpAny M A (spliced (backTo pos (starEach (e :: rest) env))) (fun vs s₁ => MwAt q x s₁.heap ∧ wpAny M A (call (.ref q) (first ++ vs)) Q E s₁) E s)
    (he : starEach (e :: rest) env = (false, eval e env) :: starEach rest env := by rfl) (hplain : (backTo pos (starEach rest env)).any (·.1) = false := by rfl) :
    wpAny M A (callWith pos (.ref q) first (backTo pos (starEach (e :: rest) env)) []) Q E s := by
  rw [he] at h ⊢
  exact callWith_of (P := MwAt q x) (by show ((false || (backTo pos (starEach rest env)).any (·.1)) || false) = false; rw [hplain]; rfl) (fun hh z => ⟨.machine, .inr (.inl rfl), (Looks.ld (part := none) z).andThen .now⟩) (evalArgs_plain h)
end

section
variable {prog : Program} {w : World} {A : Around} {s : Shared} {K : Frag} {L : Addr} {G : Heap} {m : Str → Option Value} {news : List (Addr × Obj)}
    {R : Result → Shared → Prop} {name qual : Str} {params : Arguments} {body : List Stmt} {scope : Scope} {dV kV doc pm cdv ct oc : Value} {an od : Option Addr} {osl : Array (Option Value)} {f cc : Addr} {args : Args} {binds : List (Str × Value)}

theorem enterS (F : Fr G L s.heap m) (X : K.In G) (N : News G L s.heap news) (hlim : G.NoLimit)
    (ho : K.lookup f = some ⟨oc, od, .func (ksFn name qual params body scope dV kV doc pm an cdv ct cc), osl⟩) (hcd : codeIn K cdv qual = true) (hroom : A.depth < recursionLimit)
    (hbind : BindsTo s (ksFn name qual params body scope dV kV doc pm an cdv ct cc) args binds) (hloc : ∀ y ∈ binds, scope.names.lookup y.1 = some .local)
    (h : ∀ L' h₁ oL, FrameIs oL m → Fr G L' h₁ (fun y => binds.reverse.lookup y) → News G L' h₁ ((L, oL) :: news) → (∀ p ∈ news, p.1 < L') → @LT.lt Nat _ L L' →
      _root_.PySem.wpAt (model prog w) (A.deeper (ksEnv qual scope L' f cdv cc)) (.func body (ksEnv qual scope L' f cdv cc)) (execs body (ksEnv qual scope L' f cdv cc))
        (fun fl s' => R (.ok (.ret (match fl with | .ret v => v | _ => .none))) s')
        (fun e s' => wpAny (model prog w) (A.deeper (ksEnv qual scope L' f cdv cc)) (leaving (ksEnv qual scope L' f cdv cc) e) (fun _ s'' => R (.error e) s'') (fun e' s'' => R (.error e') s'') s')
        { s with heap := h₁, toks := s.toks + binds.length })
    (hco : scope.isCoroutine = false) (hgen : scope.isGenerator = false) (hk : scope.kind = .function)
    (hcell : ∀ x ∈ scope.names, x.2 ≠ .cell) : codeAny (model prog w) A (.call (.ref f) args) R s := by
  have X' := X.keeps F.keep
  refine ks_codeAny_call_defAt (fd := ksFn name qual params body scope dV kV doc pm an cdv ct cc) (body := body) (binds := binds) hroom (X' _ _ ho) rfl (hlim.keeps F.keep) (codeRec_of X' hcd) rfl hbind hcell hloc (fun h₁ hns hk₁ => ?_) hco hgen hk
  refine ex1_2 (frameIs_of F) ?_; intro oL hL fi
  have hlt : L < s.heap.objs.size := Heap.lt_size hL
  refine h s.heap.objs.size h₁ oL fi ⟨hns, fun b o e => hk₁ b o (F.keep b o e), ?_⟩ ?_ (fun p hp => Heap.lt_size (N p hp).1) hlt
  · exact Nat.le_trans F.above (Nat.le_of_lt hlt)
  · intro p hp
    refine mcons hp ?_ fun hp => ?_
    · refine ⟨hk₁ _ _ hL, Nat.ne_of_lt hlt, ?_⟩
      exact Heap.get?_none_of_le F.above
    · have n := N p hp
      exact ⟨hk₁ _ _ n.1, Nat.ne_of_lt (Heap.lt_size n.1), n.2.2⟩
end


section
variable {w : World} {G : Heap} {L : Addr} {m : Str → Option Value} {p : Program} {loose : List Str} {mean : ExcName → Option Value} {mg mb : Str → Option Value}
  {E : Value → Shared → Prop} {s : Shared}

end
def P_init_ok (w : World) (G : Heap) (L : Addr) (m : Str → Option Value) (p : Program) (loose : List Str) (mean : ExcName → Option Value) (mg mb : Str → Option Value) (E : Value → Shared → Prop) (s : Shared) (e t : Addr) (code : Str) (tc : Tok) (rest : List (Addr × Obj)) (Q : Value → Shared → Prop) : Prop := ∀ (F : Fr G L s.heap m) (T : Top p loose mean mg mb G) (X : (hd.heap_1 w.params).In G) (N : News G L s.heap ((e, excObj none #[.ref t, .none, .none, .none, .bool false, .none]) :: rest)) (nd2 : ∀ p ∈ rest, p.1 ≠ e) (h : ∀ h' tk dx T hs1 t1 hs2 t2, Fr G L h' m → News G L h' ((e, excObj (some dx) #[.ref T, .none, .none, .none, .bool false, .none]) :: (dx, dictOf [⟨hs1, .str (Str.ofString "code") t1, .str code tc⟩, ⟨hs2, .str (Str.ofString "told") t2, .str (Str.ofString "") 201⟩] 2) :: rest) →
    (∀ p ∈ rest, p.1 < dx) → @LT.lt Nat _ e dx → Q .none { s with heap := h', toks := tk }), wpAny (model PySem.Challenge.rw_pq0169_01.row.prog w) A1 (call (.ref 31) [.ref e, .str code tc] []) Q E s
def U_init_ok (c : (World) × (Heap) × (Addr) × (Str → Option Value) × (Program) × (List Str) × (ExcName → Option Value) × (Str → Option Value) × (Str → Option Value) × (Value → Shared → Prop) × (Shared) × (Addr) × (Addr) × (Str) × (Tok) × (List (Addr × Obj)) × (Value → Shared → Prop)) : Prop := P_init_ok c.1 c.2.1 c.2.2.1 c.2.2.2.1 c.2.2.2.2.1 c.2.2.2.2.2.1 c.2.2.2.2.2.2.1 c.2.2.2.2.2.2.2.1 c.2.2.2.2.2.2.2.2.1 c.2.2.2.2.2.2.2.2.2.1 c.2.2.2.2.2.2.2.2.2.2.1 c.2.2.2.2.2.2.2.2.2.2.2.1 c.2.2.2.2.2.2.2.2.2.2.2.2.1 c.2.2.2.2.2.2.2.2.2.2.2.2.2.1 c.2.2.2.2.2.2.2.2.2.2.2.2.2.2.1 c.2.2.2.2.2.2.2.2.2.2.2.2.2.2.2.1 c.2.2.2.2.2.2.2.2.2.2.2.2.2.2.2.2
/- the letters at which it would fail, if there are such -/
noncomputable def K_init_ok : (World) × (Heap) × (Addr) × (Str → Option Value) × (Program) × (List Str) × (ExcName → Option Value) × (Str → Option Value) × (Str → Option Value) × (Value → Shared → Prop) × (Shared) × (Addr) × (Addr) × (Str) × (Tok) × (List (Addr × Obj)) × (Value → Shared → Prop) := @Classical.epsilon _ (neP ⟨aWorld 0⟩ (neP ⟨default⟩ (neP ⟨default⟩ (neP ⟨default⟩ (neP ⟨default⟩ (neP ⟨default⟩ (neP ⟨default⟩ (neP ⟨default⟩ (neP ⟨default⟩ (neP ⟨default⟩ (neP neS (neP ⟨default⟩ (neP ⟨default⟩ (neP ⟨default⟩ (neP ⟨default⟩ (neP ⟨default⟩ ⟨default⟩)))))))))))))))) fun c => ¬ U_init_ok c
namespace E_init_ok
noncomputable def w : World := K_init_ok.1
noncomputable def G : Heap := K_init_ok.2.1
noncomputable def L : Addr := K_init_ok.2.2.1
noncomputable def m : Str → Option Value := K_init_ok.2.2.2.1
noncomputable def p : Program := K_init_ok.2.2.2.2.1
noncomputable def loose : List Str := K_init_ok.2.2.2.2.2.1
noncomputable def mean : ExcName → Option Value := K_init_ok.2.2.2.2.2.2.1
noncomputable def mg : Str → Option Value := K_init_ok.2.2.2.2.2.2.2.1
noncomputable def mb : Str → Option Value := K_init_ok.2.2.2.2.2.2.2.2.1
noncomputable def E : Value → Shared → Prop := K_init_ok.2.2.2.2.2.2.2.2.2.1
noncomputable def s : Shared := K_init_ok.2.2.2.2.2.2.2.2.2.2.1
noncomputable def e : Addr := K_init_ok.2.2.2.2.2.2.2.2.2.2.2.1
noncomputable def t : Addr := K_init_ok.2.2.2.2.2.2.2.2.2.2.2.2.1
noncomputable def code : Str := K_init_ok.2.2.2.2.2.2.2.2.2.2.2.2.2.1
noncomputable def tc : Tok := K_init_ok.2.2.2.2.2.2.2.2.2.2.2.2.2.2.1
noncomputable def rest : List (Addr × Obj) := K_init_ok.2.2.2.2.2.2.2.2.2.2.2.2.2.2.2.1
noncomputable def Q : Value → Shared → Prop := K_init_ok.2.2.2.2.2.2.2.2.2.2.2.2.2.2.2.2
theorem go : P_init_ok w G L m p loose mean mg mb E s e t code tc rest Q := by
  intro F T X N nd2 h
  revert X
  k_fill
  intro X
  refine wpAny_call ?_
  have hab := F.above
  have hL1 : @Ne Nat e L := (N _ (.head _)).2.1
  have hLr : ∀ p ∈ rest, p.1 ≠ L := fun p hp => (N p (.tail _ hp)).2.1
  refine' enterS (binds := [(Str.ofString "self", .ref e), (Str.ofString "code", .str code tc), (Str.ofString "told", .str (Str.ofString "") 201)]) F X N (Top.nolimit T) ?k6 ?k7 ?k8 ?k9 ?kB ?_ ?c2 ?c3 ?c4 ?c5
  case k6 => k_is
  case k7 => k_is
  case k8 => decide
  case k9 => exact binds_K (by k_in) rfl (by k_is) rfl rfl rfl
  case c5 => decide
  case kB => exact locs rfl
  case c2 => exact rfl
  case c3 => exact rfl
  case c4 => exact rfl
  intro L' h₁ oL hoL F' N' l0 l1
  clear F N l0
  dsimp only
  k_steps
  k_dflt (refine ks_node F' X N' T (by k_is) (by rfl) (by rfl) (ox := excObj none #[.ref t, .none, .none, .none, .bool false, .none]) (odx := none) ⟨(N' _ (.tail _ (.head _))).1, rfl, rfl, trivial⟩ (by k_is) (by rfl) (by first | rfl | decide +kernel) (by k_is) (by k_is) (by k_is) (by k_is) (by decide) (by rfl) (by rfl) (by rfl) (by rfl) (by decide +kernel) (by first | boot_by_name | rfl | kernel_rfl) ?_)
  intro so h2 F2 N2 l2
  have X2 := X.keeps F2.keep
  obtain ⟨-, cd, hc, hcm, hch⟩ := c34 X
  have hCl : Looks (model PySem.Challenge.rw_pq0169_01.row.prog w) h2 (mroOf (.ref 34)) [.ref 34, .type "Exception", .type "BaseException", .type "object"] := hcm ▸ (looks_clsIn X2 hc).andThen .now
  have hsub : Looks (model PySem.Challenge.rw_pq0169_01.row.prog w) h2 (isSubtype (.ref 34) (.type "Exception")) true := looks_mroIn X2 (by k_is)
  have hxC : e ≠ 34 := by
    intro q
    have n := (N2 _ (.tail _ (.tail _ (.head _)))).2.2
    have y := X 34 _ (by k_is)
    dsimp only at n
    rw [q, y] at n
    cases n
  refine exc_getMethod_super (N2 _ (.head _)).1 (looks_opaque X2 (by k_is)) hCl hsub (N2 _ (.tail _ (.tail _ (.head _)))).1 rfl hxC ?_
  have F3 := F2.push { cls := .type "method-wrapper", data := .fields #[.builtin "Exception.__init__", .ref e] }
  have N3 := N2.push F2 { cls := .type "method-wrapper", data := .fields #[.builtin "Exception.__init__", .ref e] } rfl
  dsimp only
  have hC34 : ∃ oC, h2.get? 34 = some oC ∧ oC.data = .cls cd := by
    unfold clsIn at hc
    split at hc
    · rename_i c d cd' sl ho
      cases hc
      exact ⟨_, X2 _ _ ho, rfl⟩
    · cases hc
  refine ex1_2 hC34 ?_; intro oC hC1 hC2
  try clear hC34
  have hlt2 : ∀ p ∈ ((so, ks_superObj 34 e 34) :: (L, oL) :: (e, excObj none #[.ref t, .none, .none, .none, .bool false, .none]) :: rest), p.1 < h2.objs.size := fun p hp => Heap.lt_size (N2 p hp).1
  refine callWith_mw (x := e) ?_
  k_steps
  · exact (N3 _ (.head _)).1
  refine exc_wrapper_call (tt := t) (Heap.get?_push_of_some _ hC1) hC2 (N3 _ (.head _)).1 (N3 _ (.tail _ (.tail _ (.tail _ (.head _))))).1 ?_
  have F4 := F3.push { cls := .type "tuple", data := .seq #[.str code tc] }
  have N4 := N3.push F3 { cls := .type "tuple", data := .seq #[.str code tc] } rfl
  rw [Heap.size_push] at N4 ⊢
  have nso : @Ne Nat so e := Nat.ne_of_gt (l2 (e, _) (.tail _ (.head _)))
  have H_1 := news_upd (pre := [(h2.objs.size + 1, { cls := .type "tuple", data := .seq #[.str code tc] }), (h2.objs.size, { cls := .type "method-wrapper", data := .fields #[.builtin "Exception.__init__", .ref e] }), (so, ks_superObj 34 e 34), (L, oL)]) (post := rest)
    (d := e) (o := excObj none #[.ref t, .none, .none, .none, .bool false, .none]) (o' := excObj none #[.ref (h2.objs.size + 1), .none, .none, .none, .bool false, .none]) (f := Obj.mapFields fun fs => fs.setIfInBounds 0 (.ref (h2.objs.size + 1))) F4 N4 (by
      have a1 := hlt2 (e, _) (.tail _ (.tail _ (.head _)))
      intro p hp
      simp only [List.mem_cons, List.not_mem_nil, or_false] at hp
      rcases hp with rfl | rfl | rfl | rfl
      · exact Nat.ne_of_gt (Nat.lt_succ_of_lt a1)
      · exact Nat.ne_of_gt a1
      · exact nso
      · exact fun q => hL1 q.symm) nd2 rfl rfl
  refine ex0_2 H_1 ?_; intro F5 N5
  try clear H_1
  have N6 := news_sub (nl' := (e, excObj none #[.ref (h2.objs.size + 1), .none, .none, .none, .bool false, .none]) :: (L, oL) :: rest) N5 (by
    intro p hp
    refine mcons hp ?_ fun hp => ?_
    · exact .tail _ (.tail _ (.tail _ (.tail _ (.head _))))
    refine mcons hp ?_ fun hp => ?_
    · exact .tail _ (.tail _ (.tail _ (.head _)))
    · exact .tail _ (.tail _ (.tail _ (.tail _ (.tail _ hp)))))
  clear N5 F4 N4 F3 N3 N2 F2 l2
  k_steps
  have offL : ∀ p ∈ ((L, oL) :: rest), p.1 ≠ e := List.forall_mem_cons.mpr ⟨fun q => hL1 q.symm, nd2⟩
  refine set_plain (X.keeps F5.keep) (ox := excObj none #[.ref (h2.objs.size + 1), .none, .none, .none, .bool false, .none]) (od := none) ⟨(N6 _ (.head _)).1, rfl, rfl, trivial⟩ (by k_is) ?_
  refine exc_set_new F5 (X.keeps F5.keep) N6 offL hc hcm hch (by k_is) ?_
  intro h7 dx tk7 hsh7 F7 N7 l7
  clear F5 N6
  dsimp only
  k_steps
  have hxd : @Ne Nat e dx := Nat.ne_of_lt (l7 (e, _) (.head _))
  refine set_plain (X.keeps F7.keep) (ox := excObj (some dx) #[.ref (h2.objs.size + 1), .none, .none, .none, .bool false, .none]) (od := some _) ⟨(N7 _ (.head _)).1, rfl, rfl, (N7 _ (.tail _ (.head _))).1⟩ (by k_is) ?_
  refine exc_set_more F7 (X.keeps F7.keep) N7 hxd (fun p hp => Nat.ne_of_lt (l7 p (.tail _ hp))) (by decide) hc hcm hch (by k_is) ?_
  intro h8 tk8 hsh8 F8 N8
  clear F7 N7
  dsimp only
  k_steps
  refine h _ _ dx (h2.objs.size + 1) hsh7 tk7 hsh8 tk8 (back_fr F8 N8 (.tail _ (.tail _ (.head _))) hoL hab) (back_news N8 ?_) (fun p hp => l7 p (.tail _ (.tail _ hp))) (l7 (e, _) (.head _))
  intro p hp
  refine mcons hp ?_ fun hp => ?_
  · exact ⟨.head _, hL1⟩
  refine mcons hp ?_ fun hp => ?_
  · exact ⟨.tail _ (.head _), Nat.ne_of_gt (l7 (L, oL) (.tail _ (.head _)))⟩
  · exact ⟨.tail _ (.tail _ (.tail _ hp)), hLr p hp⟩
end E_init_ok
theorem init_ok {w : World} {G : Heap} {L : Addr} {m : Str → Option Value} {p : Program} {loose : List Str} {mean : ExcName → Option Value} {mg mb : Str → Option Value} {E : Value → Shared → Prop} {s : Shared} {e t : Addr} {code : Str} {tc : Tok} {rest : List (Addr × Obj)} {Q : Value → Shared → Prop} : P_init_ok w G L m p loose mean mg mb E s e t code tc rest Q := eps_all (Ψ := U_init_ok) E_init_ok.go (w, G, L, m, p, loose, mean, mg, mb, E, s, e, t, code, tc, rest, Q)
section
variable {w : World} {G : Heap} {L : Addr} {m : Str → Option Value} {p : Program} {loose : List Str} {mean : ExcName → Option Value} {mg mb : Str → Option Value}
  {E : Value → Shared → Prop} {s : Shared}
end

section
variable {M : Model} {A : Around} {E : Value → Shared → Prop} {env : Env}
variable {nm q : Str} {N : Addr} {bs bm : List Value} {hdct : Bool} {sn : List Str} {sub : List Value} {ab : Bool} {col : Option Bool} {dd : Option Addr} {k0 k1 k2 k3 k5 : Option Value} {newId : String}

theorem raise_own {s : Shared} {x : Sem Value} {Q : Flow → Shared → Prop} (hbase : bm.contains (.type "BaseException") = true) (hh : A.handled = none)
    (h : wpAny M A x (fun v s₁ => ∃ e d T, v = .ref e ∧ s₁.heap.get? 34 = some (excClassObj nm q 34 N bs bm hdct sn sub ab col dd k0 k1 k2 k3 k5 newId) ∧
      s₁.heap.get? e = some (excObj d #[.ref T, .none, .none, .none, .bool false, .none]) ∧ E (.ref e) s₁) E s) :
    wpAny M A (raiseStmt env (some x) none) Q E s := by
  have hcB : (Value.ref 34 :: bm).contains (.type "BaseException") = true := by rw [List.contains_cons, hbase, Bool.or_true]
  unfold raiseStmt
  refine wpAny_bind (wpAny_mono h (fun v s₁ h₁ => ?_) fun _ _ x => x)
  refine ex3_4 h₁ ?_; intro e d t E_1 hC he hE
  try clear h₁
  subst E_1
  obtain ⟨hp, g, dr, tk, os⟩ := s₁
  try clear s₁
  repeat (first | with_reducible refine wpAny_loadPart_at he ?_ | with_reducible refine wpAny_loadPart_at hC ?_ | (with_reducible refine wpAny_isSubtype_exc hC ?_; rw [hcB]) | wp_step)
  exact wpAny_raiseNew_none hh hE
end

theorem c34b {G : Heap} {nm q : Str} {N : Addr} {bs bm : List Value} {hdct : Bool} {sn : List Str} {sub : List Value} {ab : Bool} {col : Option Bool} {dd : Option Addr} {k0 k1 k2 k3 k5 : Option Value} {newId : String} {P : Prop}
  (h : G.get? 34 = some (excClassObj nm q 34 N bs bm hdct sn sub ab col dd k0 k1 k2 k3 k5 newId)) (k : ∀ nm q bs hdct sn sub ab col dd k0 k1 k2 k3 k5, G.get? 34 = some (excClassObj nm q 34 N bs bm hdct sn sub ab col dd k0 k1 k2 k3 k5 newId) → P) : P := k _ _ _ _ _ _ _ _ _ _ _ _ _ _ h
abbrev bm34 : List Value := [.type "Exception", .type "BaseException", .type "object"]
section
variable {w : World} {G : Heap} {L : Addr} {m : Str → Option Value} {p : Program} {loose : List Str} {mean : ExcName → Option Value} {mg mb : Str → Option Value}
  {E : Value → Shared → Prop} {s : Shared}
theorem call34 {A : Around} {code : Str} {tc : Tok} {news : List (Addr × Obj)} {Q : Value → Shared → Prop} (hh : A.handled = none) (hdp : A.depth ≤ 890) (hu : A.units ≤ 890)
  (F : Fr G L s.heap m) (T : Top p loose mean mg mb G) (X : (hd.heap_1 w.params).In G) (N : News G L s.heap news)
  (h : ∀ h' tk e dx T hs1 t1 hs2 t2, Fr G L h' m → News G L h' ((e, excObj (some dx) #[.ref T, .none, .none, .none, .bool false, .none]) :: (dx, dictOf [⟨hs1, .str (Str.ofString "code") t1, .str code tc⟩, ⟨hs2, .str (Str.ofString "told") t2, .str (Str.ofString "") 201⟩] 2) :: news) →
    (∀ p ∈ news, p.1 ≠ e) → (∀ p ∈ news, p.1 < dx) → @LT.lt Nat _ e dx → Q (.ref e) { s with heap := h', toks := tk }) :
  wpAny (model PySem.Challenge.rw_pq0169_01.row.prog w) A (call (.ref 34) [.str code tc] []) Q E s := by
  revert X
  k_fill
  intro X
  have X2 := X.keeps F.keep
  refine c34b (X2 34 _ (by k_is)) ?_
  intro nm q bs hdct sn sub ab col dd k0 k1 k2 k3 k5 hC
  have hNs : s.heap.Ns 33 (s.heap.nsMap 33) := .of_isNs (isNs_of_in X2 (by kernel_rfl))
  obtain ⟨hp, g, d, t, os⟩ := s
  try clear s
  refine wpAny_call_exc_init (bm := bm34) PySem.F.excBase_Exception hC hNs (ns_at X2 hNs (by k_is)) (X2 31 _ (by k_is)) rfl ?_ (by show (1:Nat) ≤ sizeLine; rw [sizeLine_eq]; decide)
  intro h1 e hM
  refine ex1_3 (hM.there) ?_; intro tp he ht0 htp
  have F1 : Fr G L h1 m := ⟨F.ns.keeps hM.keeps, fun b o z => hM.keeps b o (F.keep b o z), F.above⟩
  have hlte : ∀ p ∈ news, p.1 ≠ e := fun p hp q => by
    have n := (N p hp).1
    rw [q, hM.new] at n
    cases n
  have N1 : News G L h1 ((e, excObj none #[.ref tp, .none, .none, .none, .bool false, .none]) :: news) := by
    intro p hp
    refine mcons hp ?_ fun hp => ?_
    · refine ⟨he, fun q => ?_, ?_⟩
      · refine ex3_2 (F.ns) ?_; intro oL es ep hL _
        have y := hM.new
        dsimp only at q
        rw [q] at y
        dsimp only at hL
        rw [y] at hL
        cases hL
      · cases hq : G.get? e with
        | none => rfl
        | some o =>
          have y := F.keep _ _ hq
          dsimp only at y
          rw [hM.new] at y
          cases y
    · exact ⟨hM.keeps _ _ (N p hp).1, (N p hp).2⟩
  refine wpAny_weak (A' := A1) (init_ok (L := L) (m := m) (rest := news) F1 T X N1 hlte ?_) ?_ ?_ ?_ rfl rfl
  · intro h' tk dx T1 hs1 t1 hs2 t2 F2 N2 l1 l2
    exact ⟨rfl, h h' tk e dx T1 hs1 t1 hs2 t2 F2 N2 hlte l1 l2⟩
  · exact hh
  · simp only [depth_under_make]; show A.depth + _ ≤ 900; omega
  · show A.units + _ ≤ 900
    have : (Code.builtin "type.__call__" ⟨[.ref 34, .str code tc], []⟩).cUnits ≤ 10 := Nat.le_of_ble_eq_true rfl
    omega
end

section
variable {K : Type} [DecidableEq K]
theorem valueAt_cons (p : K × Value) (r : List (K × Value)) (k : K) : valueAt (p :: r) k = if p.1 = k then some p.2 else valueAt r k := by
  unfold valueAt
  rw [List.find?_cons]
  by_cases h : p.1 = k
  · simp [h]
  · simp [h]
theorem valueAt_append (a b : List (K × Value)) (k : K) : valueAt (a ++ b) k = (valueAt a k).or (valueAt b k) := by
  unfold valueAt
  rw [List.find?_append]
  cases List.find? (fun kv => decide (kv.1 = k)) a <;> simp
theorem valueAt_map_store (kvs : List (K × Value)) (k : K) (v : Value) (k' : K) :
    valueAt (kvs.map fun kv => if kv.1 = k then (kv.1, v) else kv) k' = if k' = k then (valueAt kvs k).map fun _ => v else valueAt kvs k' := by
  induction kvs with
  | nil => simp [valueAt]
  | cons p r ih =>
    rw [List.map_cons, valueAt_cons, valueAt_cons, valueAt_cons, ih]
    by_cases h : p.1 = k
    · simp only [h, if_true]
      by_cases h2 : k = k'
      · subst h2; simp
      · simp [h2, Ne.symm h2]
    · simp only [h, if_false]
      by_cases h2 : p.1 = k'
      · subst h2; simp [h]
      · simp [h2]
theorem any_key {kvs : List (K × Value)} {k : K} : (kvs.any fun kv => decide (kv.1 = k)) = (valueAt kvs k).isSome := by
  unfold valueAt
  rw [Option.isSome_map]
  induction kvs with
  | nil => rfl
  | cons p r ih =>
    rw [List.any_cons, List.find?_cons]
    by_cases h : p.1 = k
    · simp [h]
    · simp only [h, decide_false, Bool.false_or]; exact ih
theorem valueAt_stored (kvs : List (K × Value)) (k : K) (v : Value) (k' : K) : valueAt (stored kvs k v) k' = if k' = k then some v else valueAt kvs k' := by
  unfold stored
  rw [any_key]
  cases h : valueAt kvs k with
  | some x =>
    simp only [Option.isSome_some, if_true]
    rw [valueAt_map_store, h]
    rfl
  | none =>
    simp only [Option.isSome_none, Bool.false_eq_true, if_false]
    rw [valueAt_append, valueAt_cons]
    by_cases h2 : k' = k
    · subst h2; simp [h]
    · simp [h2, Ne.symm h2, valueAt]
theorem stored_same_len {kvs : List (K × Value)} {k : K} {v : Value} (h : (valueAt kvs k).isSome = true) : (stored kvs k v).length = kvs.length := by
  unfold stored
  rw [any_key, h]
  simp
theorem valueAt_without (kvs : List (K × Value)) (k k' : K) : valueAt (without kvs k) k' = if k' = k then none else valueAt kvs k' := by
  induction kvs with
  | nil => simp [valueAt, without]
  | cons p r ih =>
    unfold without at ih ⊢
    rw [List.filter_cons, valueAt_cons]
    by_cases h : p.1 = k
    · simp only [h, ne_eq, not_true_eq_false, decide_false, Bool.false_eq_true, if_false, ih]
      by_cases h2 : k' = k
      · simp [h2]
      · simp [h2, Ne.symm h2]
    · simp only [h, ne_eq, not_false_eq_true, decide_true, if_true]
      rw [valueAt_cons, ih]
      by_cases h2 : p.1 = k'
      · subst h2; simp [h]
      · simp [h2]
theorem without_len (kvs : List (K × Value)) (k : K) : (without kvs k).length ≤ kvs.length := List.length_filter_le _ _
end

/- what leaving a frame does to the heap: the frames' slots, the exception's trace, a new trace entry -/
structure LeftBy (fr : List Addr) (e : Addr) (t0 : Option Addr) (oe : Obj) (vs : Array Value) (h h' : Heap) (TB : Addr) : Prop where
  exc : h'.get? e = some { oe with data := .fields (vs.setIfInBounds 1 (.ref TB)) }
  tb : ∃ ts, h'.get? TB = some { cls := .type "traceback", data := .fields ts } ∧ 3 < ts.size ∧ ts[3]? = some .none
  new : h.objs.size ≤ TB
  keep : ∀ b o, h.get? b = some o → b ≠ e → b ∉ fr → some b ≠ t0 → h'.get? b = some o
  frames : ∀ b o, h.get? b = some o → b ≠ e → (∀ ts, o.data ≠ .fields ts) → ∃ sl, h'.get? b = some { o with slots := sl }

section
variable {M : Model} {A : Around} {E : Value → Shared → Prop} {s : Shared}
theorem note_first {base : Heap} {env : Env} {outer : List Env} {L e : Addr} {oe : Obj} {vs : Array Value} {Q : Unit → Shared → Prop}
    (hfr : A.frames = some (env :: outer)) (hl : s.heap.FunFrames base (env :: outer)) (hf : env.frame = some L)
    (he : s.heap.get? e = some oe) (hd : oe.data = .fields vs) (hsz : 1 < vs.size) (h0 : vs[1]? = some .none)
    (h : ∀ h' TB, LeftBy ((env :: outer).filterMap (·.frame)) e none oe vs s.heap h' TB → Q () { s with heap := h' }) :
    wpAny M A (noteFrame (.ref e) env) (fun _ s₂ => wpAny M A (setFlight (.ref e) none) Q E s₂) E s := by
  have hene : e ∉ (env :: outer).filterMap (·.frame) := fun hm => by
    obtain ⟨_, o, ho, hnf⟩ := (hl.mem hm)
    rw [he] at ho; injection ho with ho; subst ho; exact hnf vs hd
  unfold noteFrame
  simp only [hf]
  refine wpAny_bind (wpAny_field he hd h0 ?_)
  rw [if_neg (by decide)]
  refine wpAny_bind (wpAny_frameOf_fun hfr hl hf fun h₁ hs₁ => ?_)
  refine wpAny_bind (wpAny_entryPlaceOf fun pl hpl => ?_)
  unfold EntryCells.newEntry newFields
  refine wpAny_bind (wpAny_newObj_type ?_ (hpl.sizeOk5 _ _ _ _ _))
  have he₁ : h₁.get? e = some oe := (hs₁.2.1 e hene).trans he
  have he₂ := Heap.get?_push_of_some (h := h₁) { cls := .type "traceback", dict := none, data := .fields ([Value.none, .ref L, .none, rawInt L, .none] ++ (if pl.isEmpty then List.replicate 6 Value.none else pl)).toArray } he₁
  refine wpAny_setField he₂ hd hsz ?_
  have hTe : h₁.objs.size ≠ e := Nat.ne_of_gt (Heap.lt_size he₁)
  have hd₃ := Obj.data_mapFields hd (·.setIfInBounds 1 (Value.ref h₁.objs.size))
  have he₃ := Heap.get?_update_self (Obj.mapFields (·.setIfInBounds 1 (Value.ref h₁.objs.size))) he₂ (Obj.isFreed_of_fields hd₃)
  have hT₃ := (Heap.get?_update_other (h₁.push { cls := .type "traceback", dict := none, data := .fields ([Value.none, .ref L, .none, rawInt L, .none] ++ (if pl.isEmpty then List.replicate 6 Value.none else pl)).toArray })
    (Obj.mapFields (·.setIfInBounds 1 (Value.ref h₁.objs.size))) (Ne.symm hTe)).trans (Heap.get?_push_size h₁ rfl)
  unfold setFlight
  refine wpAny_bind (wpAny_field he₃ hd₃ (x := .ref h₁.objs.size) (by simp [hsz]) ?_)
  rw [if_pos (show (Value.ref h₁.objs.size != Value.none) = true from by simp)]
  refine wpAny_setField hT₃ rfl (by simp only [List.size_toArray, List.length_append, List.length_cons, List.length_nil] <;> omega) (h _ h₁.objs.size ?_)
  have hz : h₁.objs.size = s.heap.objs.size := hs₁.1
  have keep : ∀ b o, b ≠ e → h₁.get? b = some o →
      (((h₁.push { cls := .type "traceback", dict := none, data := .fields ([Value.none, .ref L, .none, rawInt L, .none] ++ (if pl.isEmpty then List.replicate 6 Value.none else pl)).toArray }).update e (Obj.mapFields (·.setIfInBounds 1 (Value.ref h₁.objs.size)))).update h₁.objs.size
        (Obj.mapFields (·.setIfInBounds 3 ((none : Option Addr).elim Value.none fun f => rawInt f)))).get? b = some o := fun b o hbe hb => by
    have hbT : h₁.objs.size ≠ b := Nat.ne_of_gt (Heap.lt_size hb)
    rw [Heap.get?_update_other _ _ hbT, Heap.get?_update_other _ _ (Ne.symm hbe)]
    exact Heap.get?_push_of_some _ hb
  refine ⟨?_, ⟨_, Heap.get?_update_self _ hT₃ (Obj.isFreed_of_fields (Obj.data_mapFields rfl _)), ?_, ?_⟩, Nat.le_of_eq hz.symm, fun b o hb hbe hbf _ => ?_, fun b o hb hbe hnf => ?_⟩
  · rw [Heap.get?_update_other _ _ hTe, he₃]
    obtain ⟨c, d, dt, sl⟩ := oe
    try clear oe
    simp only at hd
    subst hd
    rfl
  · simp only [Array.size_setIfInBounds, List.size_toArray, List.length_append, List.length_cons, List.length_nil]; omega
  · first | (simp; done) | (rcases hpl with rfl | ⟨_, _, _, _, _, _, _, rfl⟩ <;> simp)
  · exact keep b o hbe ((hs₁.2.1 b hbf).trans hb)
  · refine ex1_1 (hs₁.2.2 b o hb) ?_; intro sl hs
    exact ⟨sl, keep b _ hbe hs⟩
theorem leave_first {base : Heap} {env : Env} {outer : List Env} {L e : Addr} {oe : Obj} {vs : Array Value} {Q : Unit → Shared → Prop}
    (hfr : A.frames = some (env :: outer)) (hl : s.heap.FunFrames base (env :: outer)) (hf : env.frame = some L)
    (he : s.heap.get? e = some oe) (hd : oe.data = .fields vs) (hsz : 1 < vs.size) (h0 : vs[1]? = some .none)
    (h : ∀ h' TB, LeftBy ((env :: outer).filterMap (·.frame)) e none oe vs s.heap h' TB → Q () { s with heap := h' }) :
    wpAny M A (leaving env (.ref e)) Q E s := by
  unfold leaving
  exact wpAny_bind (note_first hfr hl hf he hd hsz h0 h)
end
section
variable {M : Model} {A : Around} {E : Value → Shared → Prop} {s : Shared}
theorem note_next {base : Heap} {env : Env} {outer : List Env} {L e T0 : Addr} {oe oT : Obj} {vs ts0 : Array Value} {Q : Unit → Shared → Prop}
    (hfr : A.frames = some (env :: outer)) (hl : s.heap.FunFrames base (env :: outer)) (hf : env.frame = some L)
    (he : s.heap.get? e = some oe) (hd : oe.data = .fields vs) (hsz : 1 < vs.size) (h0 : vs[1]? = some (.ref T0))
    (hT : s.heap.get? T0 = some oT) (hTd : oT.data = .fields ts0) (hT3 : ts0[3]? = some .none) (hTs : 3 < ts0.size) (heT : e ≠ T0)
    (h : ∀ h' TB, LeftBy ((env :: outer).filterMap (·.frame)) e (some T0) oe vs s.heap h' TB → Q () { s with heap := h' }) :
    wpAny M A (noteFrame (.ref e) env) (fun _ s₂ => wpAny M A (setFlight (.ref e) none) Q E s₂) E s := by
  have hene : e ∉ (env :: outer).filterMap (·.frame) := fun hm => by
    obtain ⟨_, o, ho, hnf⟩ := (hl.mem hm)
    rw [he] at ho; injection ho with ho; subst ho; exact hnf vs hd
  unfold noteFrame
  simp only [hf]
  refine wpAny_bind (wpAny_field he hd h0 ?_)
  rw [if_pos (by simp)]
  refine wpAny_bind (wpAny_field hT hTd hT3 ?_)
  rw [if_neg (by simp [rawInt])]
  refine wpAny_bind (wpAny_setField hT hTd hTs ?_)
  have hd4 := Obj.data_mapFields hTd (·.setIfInBounds 3 Value.none)
  have keep4 : ∀ b o, s.heap.get? b = some o → b ≠ T0 → (s.heap.update T0 (Obj.mapFields (·.setIfInBounds 3 Value.none))).get? b = some o := fun b o hb hn => by
    rw [Heap.get?_update_other _ _ (Ne.symm hn)]; exact hb
  have hl4 : (s.heap.update T0 (Obj.mapFields (·.setIfInBounds 3 Value.none))).FunFrames base (env :: outer) := hl.of_keeps fun b o hb hnf => ⟨o, keep4 b o hb (fun q => by rw [q, hT] at hb; injection hb with hb; subst hb; exact hnf ts0 hTd), rfl⟩
  have he4 := keep4 e oe he heT
  refine wpAny_bind (wpAny_frameOf_fun (s := { s with heap := s.heap.update T0 (Obj.mapFields (·.setIfInBounds 3 Value.none)) }) hfr hl4 hf fun h₁ hs₁ => ?_)
  refine wpAny_bind (wpAny_entryPlaceOf fun pl hpl => ?_)
  unfold EntryCells.newEntry newFields
  refine wpAny_bind (wpAny_newObj_type ?_ (hpl.sizeOk5 _ _ _ _ _))
  have he₁ : h₁.get? e = some oe := (hs₁.2.1 e hene).trans he4
  have he₂ := Heap.get?_push_of_some (h := h₁) { cls := .type "traceback", dict := none, data := .fields ([Value.ref T0, .ref L, .none, rawInt L, .none] ++ (if pl.isEmpty then List.replicate 6 Value.none else pl)).toArray } he₁
  refine wpAny_setField he₂ hd hsz ?_
  have hTe : h₁.objs.size ≠ e := Nat.ne_of_gt (Heap.lt_size he₁)
  have hd₃ := Obj.data_mapFields hd (·.setIfInBounds 1 (Value.ref h₁.objs.size))
  have he₃ := Heap.get?_update_self (Obj.mapFields (·.setIfInBounds 1 (Value.ref h₁.objs.size))) he₂ (Obj.isFreed_of_fields hd₃)
  have hT₃ := (Heap.get?_update_other (h₁.push { cls := .type "traceback", dict := none, data := .fields ([Value.ref T0, .ref L, .none, rawInt L, .none] ++ (if pl.isEmpty then List.replicate 6 Value.none else pl)).toArray })
    (Obj.mapFields (·.setIfInBounds 1 (Value.ref h₁.objs.size))) (Ne.symm hTe)).trans (Heap.get?_push_size h₁ rfl)
  unfold setFlight
  refine wpAny_bind (wpAny_field he₃ hd₃ (x := .ref h₁.objs.size) (by simp [hsz]) ?_)
  rw [if_pos (show (Value.ref h₁.objs.size != Value.none) = true from by simp)]
  refine wpAny_setField hT₃ rfl (by simp only [List.size_toArray, List.length_append, List.length_cons, List.length_nil] <;> omega) (h _ h₁.objs.size ?_)
  have hz : h₁.objs.size = s.heap.objs.size := hs₁.1.trans (Heap.size_after_update ..)
  have keep : ∀ b o, b ≠ e → h₁.get? b = some o →
      (((h₁.push { cls := .type "traceback", dict := none, data := .fields ([Value.ref T0, .ref L, .none, rawInt L, .none] ++ (if pl.isEmpty then List.replicate 6 Value.none else pl)).toArray }).update e (Obj.mapFields (·.setIfInBounds 1 (Value.ref h₁.objs.size)))).update h₁.objs.size
        (Obj.mapFields (·.setIfInBounds 3 ((none : Option Addr).elim Value.none fun f => rawInt f)))).get? b = some o := fun b o hbe hb => by
    have hbT : h₁.objs.size ≠ b := Nat.ne_of_gt (Heap.lt_size hb)
    rw [Heap.get?_update_other _ _ hbT, Heap.get?_update_other _ _ (Ne.symm hbe)]
    exact Heap.get?_push_of_some _ hb
  refine ⟨?_, ⟨_, Heap.get?_update_self _ hT₃ (Obj.isFreed_of_fields (Obj.data_mapFields rfl _)), ?_, ?_⟩, Nat.le_of_eq hz.symm, fun b o hb hbe hbf hbc => ?_, fun b o hb hbe hnf => ?_⟩
  · rw [Heap.get?_update_other _ _ hTe, he₃]
    obtain ⟨c, d, dt, sl⟩ := oe
    try clear oe
    simp only at hd
    subst hd
    rfl
  · simp only [Array.size_setIfInBounds, List.size_toArray, List.length_append, List.length_cons, List.length_nil]; omega
  · first | (simp; done) | (rcases hpl with rfl | ⟨_, _, _, _, _, _, _, rfl⟩ <;> simp)
  · exact keep b o hbe ((hs₁.2.1 b hbf).trans (keep4 b o hb (fun q => hbc (by rw [q]))))
  · refine ex1_1 (hs₁.2.2 b o (keep4 b o hb (fun q => by rw [q, hT] at hb; injection hb with hb; subst hb; exact hnf ts0 hTd))) ?_; intro sl hs
    exact ⟨sl, keep b _ hbe hs⟩
theorem leave_next {base : Heap} {env : Env} {outer : List Env} {L e T0 : Addr} {oe oT : Obj} {vs ts0 : Array Value} {Q : Unit → Shared → Prop}
    (hfr : A.frames = some (env :: outer)) (hl : s.heap.FunFrames base (env :: outer)) (hf : env.frame = some L)
    (he : s.heap.get? e = some oe) (hd : oe.data = .fields vs) (hsz : 1 < vs.size) (h0 : vs[1]? = some (.ref T0))
    (hT : s.heap.get? T0 = some oT) (hTd : oT.data = .fields ts0) (hT3 : ts0[3]? = some .none) (hTs : 3 < ts0.size) (heT : e ≠ T0)
    (h : ∀ h' TB, LeftBy ((env :: outer).filterMap (·.frame)) e (some T0) oe vs s.heap h' TB → Q () { s with heap := h' }) :
    wpAny M A (leaving env (.ref e)) Q E s := by
  unfold leaving
  exact wpAny_bind (note_next hfr hl hf he hd hsz h0 hT hTd hT3 hTs heT h)
end

structure Flying (G h : Heap) (e dx : Addr) (code : Str) (led : List (Addr × Obj)) : Prop where
  keep : ∀ b o, G.get? b = some o → h.get? b = some o
  lg : ∀ p ∈ led, h.get? p.1 = some p.2 ∧ p.1 ≠ e ∧ p.1 ≠ dx ∧ G.get? p.1 = none
  ned : e ≠ dx
  newe : G.get? e = none
  newd : G.get? dx = none
  dict : ∃ hs1 t1 tc hs2 t2 v2, h.get? dx = some (dictOf [⟨hs1, .str (Str.ofString "code") t1, .str code tc⟩, ⟨hs2, .str (Str.ofString "told") t2, v2⟩] 2)
  exc : ∃ T tb, h.get? e = some (excObj (some dx) #[.ref T, tb, .none, .none, .bool false, .none]) ∧
    (tb = .none ∨ ∃ TB ts, tb = .ref TB ∧ TB ≠ e ∧ TB ≠ dx ∧ G.get? TB = none ∧ (∀ p ∈ led, p.1 ≠ TB) ∧ h.get? TB = some { cls := .type "traceback", data := .fields ts } ∧ 3 < ts.size ∧ ts[3]? = some .none)

theorem FrameIs.slots {o : Obj} {m : Str → Option Value} (h : FrameIs o m) (sl : Array (Option Value)) : FrameIs { o with slots := sl } m := ⟨h.1, fun sl' h' L e => h.2 sl' h' L e⟩
theorem Flying.sub {G h : Heap} {e dx : Addr} {code : Str} {led led' : List (Addr × Obj)} (Fl : Flying G h e dx code led) (hs : ∀ p ∈ led', p ∈ led) : Flying G h e dx code led' :=
  ⟨Fl.keep, fun p hp => Fl.lg p (hs p hp), Fl.ned, Fl.newe, Fl.newd, Fl.dict, by
    refine ex2_2 (Fl.exc) ?_; intro T tb he htb
    refine ⟨T, tb, he, htb.imp id ?_⟩
    intro N_1
    refine ex2_6 N_1 ?_; intro TB ts a b c d f g
    try clear N_1
    exact ⟨TB, ts, a, b, c, d, fun p hp => f p (hs p hp), g⟩⟩
section
variable {M : Model} {A : Around} {E : Value → Shared → Prop} {s : Shared} {G : Heap} {L e dx : Addr} {m : Str → Option Value} {code : Str} {main frs : List (Addr × Obj)} {env : Env} {outer : List Env}

/- the frames' objects behind a step that turns slots alone -/
theorem frs_up {h h' : Heap} {e : Addr} : ∀ {frs : List (Addr × Obj)} {l : List Env}, Frs l frs → (∀ p ∈ frs, h.get? p.1 = some p.2 ∧ p.1 ≠ e) →
    (∀ b o, h.get? b = some o → b ≠ e → (∀ ts, o.data ≠ .fields ts) → ∃ sl, h'.get? b = some { o with slots := sl }) → ∃ frs', SameUp frs frs' ∧ Frs l frs' ∧ ∀ q ∈ frs', h'.get? q.1 = some q.2 := by
  intro frs l Fs hp hk
  have H_2 := PyProof.Rows.TI.sameUp_of (h' := h') (frs := frs) fun p hp' => hk p.1 p.2 (hp p hp').1 (hp p hp').2 fun ts q => by
    obtain ⟨es, ep, hd⟩ := Fs.dict p hp'
    rw [hd] at q; cases q
  refine ex1_2 H_2 ?_; intro frs' SU ht
  try clear H_2
  exact ⟨frs', SU, Fs.up SU, ht⟩

theorem note_fly (hfr : A.frames = some (env :: outer)) (hf : env.frame = some L) (hk : env.scope.kind ≠ .module) (Fs : Frs outer frs)
    (F : Fr G L s.heap m) (N : News G L s.heap (main ++ frs)) (hLe : L ≠ e) (hLd : L ≠ dx) (hoff : ∀ p ∈ main, ∀ q ∈ frs, p.1 ≠ q.1)
    (Fl : Flying G s.heap e dx code (main ++ frs)) {Q : Unit → Shared → Prop}
    (h : ∀ h' frs' oL', SameUp frs frs' → Frs outer frs' → FrameIs oL' m → Flying G h' e dx code ((L, oL') :: (main ++ frs')) → Q () { s with heap := h' }) :
    wpAny M A (noteFrame (.ref e) env) (fun _ s₂ => wpAny M A (setFlight (.ref e) none) Q E s₂) E s := by
  refine ex1_3 (frameIs_of F) ?_; intro oL hL N_3 hLn
  refine ex2_1 N_3 ?_; intro es ep hLd'
  try clear N_3
  have hGL : G.get? L = none := Heap.get?_none_of_le F.above
  have hfrs : ∀ p ∈ frs, s.heap.get? p.1 = some p.2 ∧ G.get? p.1 = none := fun p hp => ⟨(Fl.lg p (List.mem_append_right _ hp)).1, (Fl.lg p (List.mem_append_right _ hp)).2.2.2⟩
  have hl : s.heap.FunFrames G (env :: outer) := ⟨hk, ⟨L, oL, hf, hGL, hL, fun vs q => by rw [hLd'] at q; cases q⟩, Fs.fun hfrs⟩
  have hadr : (env :: outer).filterMap (·.frame) = L :: frs.map (·.1) := by rw [List.filterMap_cons, hf]; simp only; rw [Fs.addrs]
  refine ex2_2 (Fl.exc) ?_; intro T tb he htb
  have fin : ∀ h' TB (t0 : Option Addr), (∀ b o, G.get? b = some o → some b ≠ t0) → (∀ p ∈ main, some p.1 ≠ t0) → some dx ≠ t0 →
      LeftBy ((env :: outer).filterMap (·.frame)) e t0 (excObj (some dx) #[.ref T, tb, .none, .none, .bool false, .none]) #[.ref T, tb, .none, .none, .bool false, .none] s.heap h' TB → Q () { s with heap := h' } := by
    intro h' TB t0 g1 g2 g3 LB
    rw [hadr] at LB
    refine ex1_3 (frs_up (h' := h') Fs (fun p hp => ⟨(Fl.lg p (List.mem_append_right _ hp)).1, (Fl.lg p (List.mem_append_right _ hp)).2.1⟩) LB.frames) ?_; intro frs' SU Fs' ht
    have nf : ∀ b, (∀ o, G.get? b = some o → False) → True := fun _ _ => trivial
    have hinL : ∀ b, b ≠ L → (∀ q ∈ frs, b ≠ q.1) → b ∉ L :: frs.map (·.1) := fun b h1 h2 hm => by
      rcases List.mem_cons.mp hm with q | hm
      · exact h1 q
      · refine ex1_2 (List.mem_map.mp hm) ?_; intro q hq z
        exact h2 q hq z.symm
    have lt : ∀ b o, s.heap.get? b = some o → b ≠ TB := fun b o z => Nat.ne_of_lt (Nat.lt_of_lt_of_le (Heap.lt_size z) LB.new)
    refine ex6_1 (Fl.dict) ?_; intro hs1 t1 tc hs2 t2 v2 hdx
    have hdx' : h'.get? dx = _ := LB.keep dx _ hdx (Ne.symm Fl.ned) (hinL dx (Ne.symm hLd) fun q hq => Ne.symm (Fl.lg q (List.mem_append_right _ hq)).2.2.1) g3
    refine ex1_1 (LB.frames L oL hL hLe (fun ts q => by rw [hLd'] at q; cases q)) ?_; intro slL hL'
    refine h h' frs' { oL with slots := slL } SU Fs' (FrameIs.slots ⟨⟨es, ep, hLd'⟩, hLn⟩ slL) ⟨fun b o z => ?_, fun p hp => ?_, Fl.ned, Fl.newe, Fl.newd, ⟨hs1, t1, tc, hs2, t2, v2, hdx'⟩, ⟨T, .ref TB, LB.exc, .inr ?_⟩⟩
    · refine LB.keep b o (Fl.keep b o z) (fun q => by rw [q, Fl.newe] at z; cases z) (hinL b (fun q => by rw [q, hGL] at z; cases z) fun q hq y => ?_) (g1 b o z)
      rw [y, (hfrs q hq).2] at z; cases z
    · refine mcons hp ?_ fun hp => ?_
      · exact ⟨hL', hLe, hLd, hGL⟩
      rcases List.mem_append.mp hp with hp | hp
      · have n := Fl.lg p (List.mem_append_left _ hp)
        exact ⟨LB.keep p.1 p.2 n.1 n.2.1 (hinL _ (N p (List.mem_append_left _ hp)).2.1 (hoff p hp)) (g2 p hp), n.2⟩
      · refine ex1_2 (SU.fwd p hp) ?_; intro x hx z
        have n := Fl.lg x (List.mem_append_right _ hx)
        exact ⟨ht p hp, by rw [z]; exact n.2.1, by rw [z]; exact n.2.2.1, by rw [z]; exact n.2.2.2⟩
    · refine ex1_3 (LB.tb) ?_; intro ts hTB h3 h4
      refine in2_8 TB ts rfl (fun q => lt e _ he q.symm) (fun q => lt dx _ hdx q.symm) ?_ (fun p hp => ?_) hTB h3 h4
      · cases z : G.get? TB with
        | none => rfl
        | some o => exact absurd rfl (lt TB o (Fl.keep _ _ z))
      · refine mcons hp ?_ fun hp => ?_
        · exact lt _ _ hL
        rcases List.mem_append.mp hp with hp | hp
        · exact lt _ _ (Fl.lg p (List.mem_append_left _ hp)).1
        · refine ex1_2 (SU.fwd p hp) ?_; intro x hx z
          rw [z]
          exact lt _ _ (Fl.lg x (List.mem_append_right _ hx)).1
  rcases htb with rfl | ⟨TB, ts, rfl, b1, b2, b3, b4, b5, b6, b7⟩
  · exact note_first hfr hl hf he rfl (by simp) rfl fun h' TB LB => fin h' TB none (fun _ _ _ q => by cases q) (fun _ _ q => by cases q) (fun q => by cases q) LB
  · refine note_next hfr hl hf he rfl (by simp) rfl b5 rfl b7 b6 (Ne.symm b1) fun h' TB' LB => fin h' TB' (some TB) (fun b o z q => ?_) (fun p hp q => ?_) (fun q => ?_) LB
    · rw [Option.some.inj q, b3] at z; cases z
    · exact b4 p (List.mem_append_left _ hp) (Option.some.inj q)
    · exact b2 (Option.some.inj q).symm
theorem leave_fly (hfr : A.frames = some (env :: outer)) (hf : env.frame = some L) (hk : env.scope.kind ≠ .module) (Fs : Frs outer frs)
    (F : Fr G L s.heap m) (N : News G L s.heap (main ++ frs)) (hLe : L ≠ e) (hLd : L ≠ dx) (hoff : ∀ p ∈ main, ∀ q ∈ frs, p.1 ≠ q.1)
    (Fl : Flying G s.heap e dx code (main ++ frs)) {Q : Unit → Shared → Prop}
    (h : ∀ h' frs', SameUp frs frs' → Frs outer frs' → Flying G h' e dx code (main ++ frs') → Q () { s with heap := h' }) :
    wpAny M A (leaving env (.ref e)) Q E s := by
  unfold leaving
  exact wpAny_bind (note_fly hfr hf hk Fs F N hLe hLd hoff Fl fun h' frs' _ a b _ d => h h' frs' a b (d.sub fun p hp => .tail _ hp))
end

abbrev tupOf (its : Array Value) (n : Nat := 0) : Obj := { cls := .type "tuple", data := .seq its n }
/- the world itself, its dict, and where its three tables lie -/
structure WorldAt (led : List (Addr × Obj)) (aw awd : Addr) (afi aop afl : Addr) : Prop where
  ex : ∃ es n, (aw, (⟨.ref 142, some awd, .plain, #[]⟩ : Obj)) ∈ led ∧ (awd, dictOf es n) ∈ led ∧ getL (Str.ofString "files") es = some (some (.ref afi)) ∧
    getL (Str.ofString "open") es = some (some (.ref aop)) ∧ getL (Str.ofString "fields") es = some (some (.ref afl))
theorem WorldAt.sub {led led' : List (Addr × Obj)} {aw awd afi aop afl : Addr} (h : WorldAt led aw awd afi aop afl) (hs : ∀ p ∈ led, p ∈ led') : WorldAt led' aw awd afi aop afl :=
  let ⟨es, n, a, b, c⟩ := h.ex; ⟨es, n, hs _ a, hs _ b, c⟩
section
variable {w : World} {G : Heap} {L : Addr} {m : Str → Option Value} {p : Program} {loose : List Str} {mean : ExcName → Option Value} {mg mb : Str → Option Value}
  {E : Value → Shared → Prop} {s : Shared} {A : Around}
theorem channel_ok {aw awd afi aop afl am tp : Addr} {c : Int} {tc t1 t2 : Tok} {oo om : Obj} {kvo : List (Int × Value)} {kvm : List (Str × Value)} {n : Nat} {main : List (Addr × Obj)} {Q : Value → Shared → Prop}
  (hh : A.handled = none) (hdp : A.depth ≤ 890) (hu : A.units ≤ 890)
  (F : Fr G L s.heap m) (T : Top p loose mean mg mb G) (X : (hd.heap_1 w.params).In G) (N : News G L s.heap main)
  (W : WorldAt main aw awd afi aop afl) (m1 : (aop, oo) ∈ main) (d1 : oo.IsDictOf (PySem.intKind PySem.Challenge.rw_pq0169_01.row.prog w) kvo) (lo1 : (aop == sysModules) = false)
  (v1 : valueAt kvo c = some (.ref am)) (m2 : (am, om) ∈ main) (d2 : om.IsDictOf (PySem.strKind PySem.Challenge.rw_pq0169_01.row.prog w) kvm) (v2 : valueAt kvm (Str.ofString "mode") = some (.str (Str.ofString "R") t1))
  (m3 : (tp, tupOf #[.str (Str.ofString "R") t2] n) ∈ main)
  (h : ∀ h' tk, Fr G L h' m → News G L h' main → Q (.ref am) { s with heap := h', toks := tk }) :
  wpAny (model PySem.Challenge.rw_pq0169_01.row.prog w) A (call (.ref 63) [.ref aw, .int c tc, .ref tp] []) Q E s := by
  refine wpAny_weak (A' := A1) ?_ hh (Nat.le_trans hdp (by decide)) (Nat.le_trans hu (by decide)) rfl rfl
  refine ex2_5 (W.ex) ?_; intro esw nw w1 w2 w3 w4 w5
  have v1' : (valueAt kvo c).isSome = true := by rw [v1]; rfl
  revert X
  k_fill
  intro X
  refine wpAny_call ?_
  have hab := F.above
  have hLm : ∀ p ∈ main, p.1 ≠ L := fun p hp => (N p hp).2.1
  refine' enter0 (binds := [(Str.ofString "world", .ref aw), (Str.ofString "channel", .int c tc), (Str.ofString "modes", .ref tp)]) F X N (Top.nolimit T) ?k6 ?k7 ?k8 ?k9 ?kB ?_ ?c2 ?c3 ?c4 ?c5
  (((case k6 => k_is); (case k7 => k_is); (case k8 => first | decide | omega); (case k9 => first | exact BindsTo.of_eq rfl | exact binds_K (by k_in) rfl (by k_is) rfl rfl rfl); (case c5 => decide); (case kB => exact locs rfl); (case c2 => exact rfl); (case c3 => exact rfl); (case c4 => exact rfl)))
  intro L' h₁ oL hoL F' N' l0 l1
  clear F N l0
  dsimp only
  k_fold
  k_steps
  refine notin_tuple_strs (ys := [Str.ofString "R"]) (News.isTup (by k_asm) (by k_mem)) (.cons _ _ .nil) ?_
  k_steps
  exact h _ _ (back_fr (by k_asm) (by k_asm) (by k_mem) hoL hab) (back_news (by k_asm) (fun p hp => ⟨.tail _ hp, hLm p hp⟩))
end

section
variable {w : World} {G : Heap} {L : Addr} {m : Str → Option Value} {p : Program} {loose : List Str} {mean : ExcName → Option Value} {mg mb : Str → Option Value}
  {E : Value → Shared → Prop} {s : Shared} {A : Around}
theorem raise_exec {cn : Str} {cs : Scope} {a : Addr} {ccd : Value} {np cp cpos pos : Pos} {k : Nat} {code : Str} {led : List (Addr × Obj)} {Q : Flow → Shared → Prop}
  (hh : A.handled = none) (hdp : A.depth ≤ 880) (hu : A.units ≤ 880) (hck : cs.kind = .function) (hkd : (envOf cn cs L a ccd).kindOf (Str.ofString "BasicError") = some .globalImplicit)
  (F : Fr G L s.heap m) (T : Top p loose mean mg mb G) (X : (hd.heap_1 w.params).In G) (N : News G L s.heap led)
  (h : ∀ h' tk e dx, Fr G L h' m → News G L h' led → L ≠ e → L ≠ dx → Flying G h' e dx code led → E (.ref e) { s with heap := h', toks := tk }) :
  wpAny (model PySem.Challenge.rw_pq0169_01.row.prog w) A (exec (.Raise (some (.Call (.Name (Str.ofString "BasicError") np) [.Constant (.str code) k cp] [] cpos)) none pos) (envOf cn cs L a ccd)) Q E s := by
  revert X
  k_fill
  intro X
  have X2 := X.keeps F.keep
  refine c34b (X 34 _ (by k_is)) ?_
  intro nm q bs hdct sn sub ab col dd k0 k1 k2 k3 k5 hC
  rw [arm_exec_Raise]
  refine wpAny_bind (wpAny_standAt (raise_own (bm := bm34) (nm := nm) (q := q) (N := 33) (bs := bs) (hdct := hdct) (sn := sn) (sub := sub) (ab := ab) (col := col) (dd := dd) (k0 := k0) (k1 := k1) (k2 := k2) (k3 := k3) (k5 := k5) (newId := "Exception.__new__") (by decide) hh ?_))
  refine wpAny_bind ?_
  refine wpAny_Call_ofName ?_
  refine name_K F X (topRead_of T) (by k_is) ?_ hck hkd
  k_steps
  refine call34 hh (by omega) (by omega) F T X N ?_
  intro h' tk e dx T1 hs1 t1 hs2 t2 F2 N2 l0 l1 l2
  have n1 := N2 _ (.head _)
  have n2 := N2 _ (.tail _ (.head _))
  have led2 : News G L h' led := fun p hp => N2 p (.tail _ (.tail _ hp))
  refine wpAny_bind (wpAny_standAt (wpAny_pure ⟨e, some dx, T1, rfl, F2.keep _ _ hC, n1.1, ?_⟩))
  refine h h' tk e dx F2 led2 (fun q => n1.2.1 q.symm) (fun q => n2.2.1 q.symm) ⟨F2.keep, fun p hp => ⟨(led2 p hp).1, l0 p hp, Nat.ne_of_lt (l1 p hp), (led2 p hp).2.2⟩, Nat.ne_of_lt l2, n1.2.2, n2.2.2, ⟨_, _, _, _, _, _, n2.1⟩, ⟨T1, .none, n1.1, .inl rfl⟩⟩
end
local macro_rules | `(tactic| walk_at "exec Raise some none") => `(tactic| (k_here; k_dflt (refine raise_exec (by first | assumption | rfl) (by first | exact Nat.le_of_ble_eq_true rfl | (refine Nat.le_trans (Nat.succ_le_succ (by assumption)) ?_; exact Nat.le_of_ble_eq_true rfl)) (by first | exact Nat.le_of_ble_eq_true rfl | (refine Nat.le_trans (Nat.add_le_add_right (by assumption) 3) ?_; exact Nat.le_of_ble_eq_true rfl)) rfl rfl (by k_asm) (by k_asm) (by k_asm) (by k_asm) ?_); intro h' tk' e' dx' F' N' le' ld' Fl'))

section
variable {M : Model} {A : Around} {E : Value → Shared → Prop} {s : Shared} {G : Heap} {L L' e dx : Addr} {m m' : Str → Option Value} {code : Str} {main frs : List (Addr × Obj)} {env env₀ : Env} {outer : List Env} {oL : Obj}
theorem leave_back (hA : A.frames = some (env₀ :: outer)) (hf₀ : env₀.frame = some L) (hk₀ : env₀.scope.kind ≠ .module) (Fs : Frs outer frs) (fi : FrameIs oL m) (hab : G.objs.size ≤ L)
    (hLm : ∀ p ∈ main ++ frs, p.1 ≠ L) (hoff : ∀ p ∈ main, ∀ q ∈ frs, p.1 ≠ q.1)
    (hf : env.frame = some L') (hk : env.scope.kind ≠ .module) (F : Fr G L' s.heap m') (N : News G L' s.heap (main ++ (L, oL) :: frs)) (hLe : L' ≠ e) (hLd : L' ≠ dx) (Fl : Flying G s.heap e dx code (main ++ (L, oL) :: frs)) {Q : Unit → Shared → Prop}
    (h : ∀ h' frs', SameUp frs frs' → Frs outer frs' → Fr G L h' m → News G L h' (main ++ frs') → L ≠ e → L ≠ dx → Flying G h' e dx code (main ++ frs') → Q () { s with heap := h' }) :
    wpAny M (A.deeper env) (leaving env (.ref e)) Q E s := by
  have Fs1 : Frs (env₀ :: outer) ((L, oL) :: frs) := ⟨hk₀, hf₀, fi.1, Fs⟩
  have hmemL : (L, oL) ∈ main ++ (L, oL) :: frs := List.mem_append_right _ (.head _)
  refine leave_fly (Around.frames_deeper hA) hf hk Fs1 F N hLe hLd (fun p hp q hq => ?_) Fl fun h' frs1 SU Fs2 Fl2 => ?_
  · refine mcons hq ?_ fun hq => ?_
    · exact hLm p (List.mem_append_left _ hp)
    · exact hoff p hp q hq
  · cases frs1 with
    | nil => exact False.elim SU
    | cons q frs' =>
      refine ex0_3 SU ?_; intro x1 N_1 x3
      try clear SU
      refine ex1_1 N_1 ?_; intro sl x2
      try clear N_1
      obtain ⟨qa, qo⟩ := q
      try clear q
      dsimp only at x1 x2
      subst x1 x2
      have nl := Fl2.lg (qa, { oL with slots := sl }) (List.mem_append_right _ (.head _))
      have n0 := Fl.lg _ hmemL
      have hFr : Fr G qa h' m := ⟨fi.2 sl h' qa nl.1, Fl2.keep, hab⟩
      have sub : ∀ p ∈ main ++ frs', p ∈ main ++ (qa, { oL with slots := sl }) :: frs' := fun p hp => by
        rcases List.mem_append.mp hp with hp | hp
        · exact List.mem_append_left _ hp
        · exact List.mem_append_right _ (.tail _ hp)
      have off : ∀ p ∈ main ++ frs', p.1 ≠ qa := fun p hp => by
        rcases List.mem_append.mp hp with hp | hp
        · exact hLm p (List.mem_append_left _ hp)
        · refine ex1_2 (x3.fwd p hp) ?_; intro y hy z
          rw [z]; exact hLm y (List.mem_append_right _ hy)
      exact h h' frs' x3 Fs2.2.2.2 hFr (fun p hp => ⟨(Fl2.lg p (sub p hp)).1, off p hp, (Fl2.lg p (sub p hp)).2.2.2⟩) n0.2.1 n0.2.2.1 (Fl2.sub sub)
end
section
variable {M : Model} {A : Around} {E : Value → Shared → Prop} {s : Shared} {G : Heap} {L L' e dx : Addr} {m m' : Str → Option Value} {code : Str} {main frs frs1 : List (Addr × Obj)} {env env₀ : Env} {outer : List Env} {oL : Obj}
theorem pass_on (hA : A.frames = some (env₀ :: outer)) (hf₀ : env₀.frame = some L) (hk₀ : env₀.scope.kind ≠ .module) (fi : FrameIs oL m) (hab : G.objs.size ≤ L)
    (hLm : ∀ p ∈ main ++ frs, p.1 ≠ L) (hoff : ∀ p ∈ main, ∀ q ∈ frs, p.1 ≠ q.1)
    (hf : env.frame = some L') (hk : env.scope.kind ≠ .module) (SU : SameUp ((L, oL) :: frs) frs1) (Fs1 : Frs (env₀ :: outer) frs1) (F : Fr G L' s.heap m') (N : News G L' s.heap (main ++ frs1)) (hLe : L' ≠ e) (hLd : L' ≠ dx) (Fl : Flying G s.heap e dx code (main ++ frs1)) {Q : Unit → Shared → Prop}
    (h : ∀ h' frs', SameUp frs frs' → Frs outer frs' → Fr G L h' m → News G L h' (main ++ frs') → L ≠ e → L ≠ dx → Flying G h' e dx code (main ++ frs') → Q () { s with heap := h' }) :
    wpAny M (A.deeper env) (leaving env (.ref e)) Q E s := by
  cases frs1 with
  | nil => exact False.elim SU
  | cons q frs2 =>
    refine ex0_3 SU ?_; intro x1 N_2 x3
    try clear SU
    refine ex1_1 N_2 ?_; intro sl x2
    try clear N_2
    obtain ⟨qa, qo⟩ := q
    try clear q
    dsimp only at x1 x2
    subst x1 x2
    refine leave_back (L := qa) (oL := { oL with slots := sl }) hA hf₀ hk₀ Fs1.2.2.2 (fi.slots sl) hab (fun p hp => ?_) (fun p hp q hq => ?_) hf hk F N hLe hLd Fl fun h' frs' SU2 => h h' frs' (x3.trans SU2)
    · rcases List.mem_append.mp hp with hp | hp
      · exact hLm p (List.mem_append_left _ hp)
      · refine ex1_2 (x3.fwd p hp) ?_; intro y hy z
        rw [z]; exact hLm y (List.mem_append_right _ hy)
    · refine ex1_2 (x3.fwd q hq) ?_; intro y hy z
      rw [z]; exact hoff p hp y hy
end
theorem mem_mid {α : Type} {a : α} {main frs : List α} : ∀ p ∈ main ++ a :: frs, p ∈ a :: (main ++ frs) := fun p hp => by
  rcases List.mem_append.mp hp with hp | hp
  · exact .tail _ (List.mem_append_left _ hp)
  · refine mcons hp ?_ fun hp => ?_
    · exact .head _
    · exact .tail _ (List.mem_append_right _ hp)
theorem mem_mid' {α : Type} {a : α} {main frs : List α} : ∀ p ∈ main ++ frs, p ∈ main ++ a :: frs := fun p hp => by
  rcases List.mem_append.mp hp with hp | hp
  · exact List.mem_append_left _ hp
  · exact List.mem_append_right _ (.tail _ hp)


/- a text by its signs' numbers -/
abbrev TS (l : List Nat) : Str := ⟨l.toArray⟩
theorem ts_len (l : List Nat) : (TS l).length = l.length := by simp [Str.length]
theorem ts_app (a b : List Nat) : TS a ++ TS b = TS (a ++ b) := by
  apply Str.ext'
  show (TS a).cps ++ (TS b).cps = (a ++ b).toArray
  simp
open Builtin Builtin.Str in
theorem slice_to (l : List Nat) {k : Int} (h : 0 ≤ k) : Txt.slice (TS l) none (some k) = TS (l.take k.toNat) := by
  show StrLaws.sliceText _ _ _ = _
  by_cases hk : k ≤ l.length
  · rw [StrLaws.sliceText_to ⟨h, by simpa using hk⟩]
    simp
  · have e : StrLaws.sliceText (TS l) none (some k) = StrLaws.sliceText (TS l) none (some (l.length : Int)) := by
      unfold StrLaws.sliceText
      have q : strSliceIndices none (some k) 1 (TS l).length = strSliceIndices none (some (l.length : Int)) 1 (TS l).length := by
        have a : ¬ k < 0 := Int.not_lt.mpr h
        have a2 : ¬ ((l.length : Int) < 0) := nat_neg
        have b : max (0 : Int) (min k (l.length : Int)) = max 0 (min (l.length : Int) (l.length : Int)) := clip_n hk
        simp only [strSliceIndices, ts_len, a, a2, if_false, show (1 : Int) > 0 from by decide, if_true, b]
      rw [q]
    rw [e, StrLaws.sliceText_to ⟨Int.natCast_nonneg _, by simp⟩]
    have : l.take k.toNat = l := List.take_of_length_le (le_tn hk)
    rw [this]
    simp
theorem slice_from (l : List Nat) {k : Int} (h : 0 ≤ k) (h2 : k ≤ l.length) : Txt.slice (TS l) (some k) none = TS (l.drop k.toNat) := by
  show StrLaws.sliceText _ _ _ = _
  rw [StrLaws.sliceText_from ⟨h, by simpa using h2⟩]
  apply Str.ext'
  simp only [List.toArray_inj]
  rw [List.take_of_length_le]
  simp
  omega
theorem slice_mid (l : List Nat) {a b : Int} (h : 0 ≤ a) (h1 : a ≤ b) (h2 : b ≤ l.length) : Txt.slice (TS l) (some a) (some b) = TS ((l.drop a.toNat).take (b - a).toNat) := by
  show StrLaws.sliceText _ _ _ = _
  rw [StrLaws.sliceText_plain ⟨h, h1, by simpa using h2⟩]
theorem slice_mid_any (l : List Nat) {a b : Int} (h : 0 ≤ a) (h1 : a ≤ b) (h2 : a ≤ l.length) : Txt.slice (TS l) (some a) (some b) = TS ((l.drop a.toNat).take (b - a).toNat) := by
  by_cases hb : b ≤ l.length
  · exact slice_mid l h h1 hb
  · have e : StrLaws.sliceText (TS l) (some a) (some b) = StrLaws.sliceText (TS l) (some a) (some (l.length : Int)) := by
      unfold StrLaws.sliceText
      have q : Builtin.Str.strSliceIndices (some a) (some b) 1 (TS l).length = Builtin.Str.strSliceIndices (some a) (some (l.length : Int)) 1 (TS l).length := by
        have a1 : ¬ b < 0 := Int.not_lt.mpr (Int.le_trans h h1)
        have a2 : ¬ ((l.length : Int) < 0) := nat_neg
        have b1 : max (0 : Int) (min b (l.length : Int)) = max 0 (min (l.length : Int) (l.length : Int)) := clip_n hb
        simp only [Builtin.Str.strSliceIndices, ts_len, a1, a2, if_false, show (1 : Int) > 0 from by decide, if_true, b1]
      rw [q]
    show StrLaws.sliceText _ _ _ = _
    rw [e, StrLaws.sliceText_plain ⟨h, h2, by simp⟩]
    apply Str.ext'
    simp only [List.toArray_inj]
    rw [List.take_of_length_le, List.take_of_length_le] <;> simp <;> omega
theorem mul_ts (c : Nat) (n : Int) : Txt.mul (TS [c]) n = TS (List.replicate n.toNat c) := by
  apply Str.ext'
  apply Array.toList_inj.mp
  rw [mul_one_list]
theorem blank_ts : Str.ofString " " = TS [32] := by decide +kernel
def putL2 (text : List Nat) (many : Nat) (r : Bool) : List Nat :=
  if r then List.replicate (many - (text.take many).length) 32 ++ text.take many else text.take many ++ List.replicate (many - (text.take many).length) 32
theorem putL2_len (text : List Nat) (many : Nat) (r : Bool) : (putL2 text many r).length = many := by
  unfold putL2; split
  · rw [List.length_append, List.length_replicate]; exact Nat.sub_add_cancel (List.length_take_le _ _)
  · rw [List.length_append, List.length_replicate]; exact Nat.add_sub_of_le (List.length_take_le _ _)
theorem slice_from_any (l : List Nat) {k : Int} (h : 0 ≤ k) : Txt.slice (TS l) (some k) none = TS (l.drop k.toNat) := by
  by_cases h2 : k ≤ l.length
  · exact slice_from l h h2
  · have e : StrLaws.sliceText (TS l) (some k) none = StrLaws.sliceText (TS l) (some (l.length : Int)) none := by
      unfold StrLaws.sliceText
      have q : Builtin.Str.strSliceIndices (some k) none 1 (TS l).length = Builtin.Str.strSliceIndices (some (l.length : Int)) none 1 (TS l).length := by
        have a1 : ¬ k < 0 := Int.not_lt.mpr h
        have a2 : ¬ ((l.length : Int) < 0) := nat_neg
        have b1 : max (0 : Int) (min k (l.length : Int)) = max 0 (min (l.length : Int) (l.length : Int)) := clip_n h2
        simp only [Builtin.Str.strSliceIndices, ts_len, a1, a2, if_false, show (1 : Int) > 0 from by decide, if_true, b1]
      rw [q]
    show StrLaws.sliceText _ _ _ = _
    rw [e]
    have := slice_from l (k := (l.length : Int)) (Int.natCast_nonneg _) (Int.le_refl _)
    rw [show Txt.slice (TS l) (some (l.length : Int)) none = StrLaws.sliceText (TS l) (some (l.length : Int)) none from rfl] at this
    rw [this]
    simp
    omega
def putFile (tl bl : List Nat) (begun size : Nat) : List Nat :=
  (tl ++ List.replicate (begun - tl.length) 0).take begun ++ bl ++ (tl ++ List.replicate (begun - tl.length) 0).drop (begun + size)

section
variable {w : World} {G : Heap} {L : Addr} {m : Str → Option Value} {p : Program} {loose : List Str} {mean : ExcName → Option Value} {mg mb : Str → Option Value}
  {E : Value → Shared → Prop} {s : Shared} {A : Around}
theorem channel_bad {env₀ : Env} {outer : List Env} {aw awd afi aop afl tp : Addr} {c : Int} {tc : Tok} {oo : Obj} {kvo : List (Int × Value)} {main frs : List (Addr × Obj)} {Q : Value → Shared → Prop}
  (hA : A.frames = some (env₀ :: outer)) (hf₀ : env₀.frame = some L) (hk₀ : env₀.scope.kind ≠ .module) (Fs : Frs outer frs) (hoff : ∀ p ∈ main, ∀ q ∈ frs, p.1 ≠ q.1)
  (hh : A.handled = none) (hdp : A.depth ≤ 870) (hu : A.units ≤ 870)
  (F : Fr G L s.heap m) (T : Top p loose mean mg mb G) (X : (hd.heap_1 w.params).In G) (N : News G L s.heap (main ++ frs))
  (W : WorldAt (main ++ frs) aw awd afi aop afl) (m1 : (aop, oo) ∈ main ++ frs) (d1 : oo.IsDictOf (PySem.intKind PySem.Challenge.rw_pq0169_01.row.prog w) kvo) (lo1 : (aop == sysModules) = false)
  (v1 : valueAt kvo c = none)
  (hE : ∀ h' tk e dx frs', SameUp frs frs' → Frs outer frs' → Fr G L h' m → News G L h' (main ++ frs') → L ≠ e → L ≠ dx → Flying G h' e dx (Str.ofString "BN") (main ++ frs') → E (.ref e) { s with heap := h', toks := tk }) :
  wpAny (model PySem.Challenge.rw_pq0169_01.row.prog w) A (call (.ref 63) [.ref aw, .int c tc, .ref tp] []) Q E s := by
  refine ex2_5 (W.ex) ?_; intro esw nw w1 w2 w3 w4 w5
  have v1' : (valueAt kvo c).isSome = false := by rw [v1]; rfl
  revert X
  k_fill
  intro X
  refine wpAny_call ?_
  have hab := F.above
  have hLm : ∀ p ∈ main ++ frs, p.1 ≠ L := fun p hp => (N p hp).2.1
  refine' enter0 (binds := [(Str.ofString "world", .ref aw), (Str.ofString "channel", .int c tc), (Str.ofString "modes", .ref tp)]) F X N (Top.nolimit T) ?k6 ?k7 ?k8 ?k9 ?kB ?_ ?c2 ?c3 ?c4 ?c5
  case k8 => exact Nat.lt_of_le_of_lt hdp (by decide)
  (((case k6 => k_is); (case k7 => k_is); (case k9 => first | exact BindsTo.of_eq rfl | exact binds_K (by k_in) rfl (by k_is) rfl rfl rfl); (case c5 => decide); (case kB => exact locs rfl); (case c2 => exact rfl); (case c3 => exact rfl); (case c4 => exact rfl)))
  intro L' h₁ oL hoL F' N' l0 l1
  clear F N l0
  dsimp only
  k_fold
  k_steps
  with_reducible rename Flying _ _ _ _ _ _ => Fl9
  refine leave_back (L' := L') hA hf₀ hk₀ Fs hoL hab hLm hoff rfl (show ScopeKind.function ≠ ScopeKind.module by decide) (by k_asm) (news_sub (by k_asm) (by ((intro p' hp'; have hq' := mem_mid p' hp'; k_mem)))) (by assumption) (by assumption) (Fl9.sub (by ((intro p' hp'; have hq' := mem_mid p' hp'; k_mem)))) ?_
  intro h2 frs' SU Fs' F4 N4 l4 l5 Fl2
  exact hE h2 _ _ _ frs' SU Fs' F4 N4 l4 l5 Fl2
end

section
variable {w : World} {G : Heap} {L : Addr} {m : Str → Option Value} {p : Program} {loose : List Str} {mean : ExcName → Option Value} {mg mb : Str → Option Value}
  {E : Value → Shared → Prop} {s : Shared} {A : Around}
theorem ftext_none {aw awd afi aop afl : Addr} {nm : Str} {tn : Tok} {ofl : Obj} {kvf : List (Str × Value)} {main : List (Addr × Obj)} {Q : Value → Shared → Prop}
  (hh : A.handled = none) (hdp : A.depth ≤ 890) (hu : A.units ≤ 890)
  (F : Fr G L s.heap m) (T : Top p loose mean mg mb G) (X : (hd.heap_1 w.params).In G) (N : News G L s.heap main)
  (W : WorldAt main aw awd afi aop afl) (m1 : (afl, ofl) ∈ main) (d1 : ofl.IsDictOf (PySem.strKind PySem.Challenge.rw_pq0169_01.row.prog w) kvf) (lo1 : (afl == sysModules) = false)
  (v1 : valueAt kvf nm = none)
  (h : ∀ h' tk, Fr G L h' m → News G L h' main → Q .none { s with heap := h', toks := tk }) :
  wpAny (model PySem.Challenge.rw_pq0169_01.row.prog w) A (call (.ref 82) [.ref aw, .str nm tn] []) Q E s := by
  refine wpAny_weak (A' := A1) ?_ hh (Nat.le_trans hdp (by decide)) (Nat.le_trans hu (by decide)) rfl rfl
  refine ex2_5 (W.ex) ?_; intro esw nw w1 w2 w3 w4 w5
  have v1' : (valueAt kvf nm).isSome = false := by rw [v1]; rfl
  revert X
  k_fill
  intro X
  refine wpAny_call ?_
  have hab := F.above
  have hLm : ∀ p ∈ main, p.1 ≠ L := fun p hp => (N p hp).2.1
  refine' enter0 (binds := [(Str.ofString "world", .ref aw), (Str.ofString "name", .str nm tn)]) F X N (Top.nolimit T) ?k6 ?k7 ?k8 ?k9 ?kB ?_ ?c2 ?c3 ?c4 ?c5
  (((case k6 => k_is); (case k7 => k_is); (case k8 => first | decide | omega); (case k9 => first | exact BindsTo.of_eq rfl | exact binds_K (by k_in) rfl (by k_is) rfl rfl rfl); (case c5 => decide); (case kB => exact locs rfl); (case c2 => exact rfl); (case c3 => exact rfl); (case c4 => exact rfl)))
  intro L' h₁ oL hoL F' N' l0 l1
  clear F N l0
  dsimp only
  k_fold
  k_steps
  exact h _ _ (back_fr (by k_asm) (by k_asm) (by k_mem) hoL hab) (back_news (by k_asm) (fun p hp => ⟨.tail _ hp, hLm p hp⟩))

theorem ftext_some {aw awd afi aop afl af am : Addr} {nm b : Str} {c at_ many : Int} {tn t1 t2 t3 t4 : Tok} {nf : Nat} {ofl oo om : Obj} {kvf kvm : List (Str × Value)} {kvo : List (Int × Value)} {main : List (Addr × Obj)} {Q : Value → Shared → Prop}
  (hh : A.handled = none) (hdp : A.depth ≤ 890) (hu : A.units ≤ 890)
  (F : Fr G L s.heap m) (T : Top p loose mean mg mb G) (X : (hd.heap_1 w.params).In G) (N : News G L s.heap main)
  (W : WorldAt main aw awd afi aop afl) (m1 : (afl, ofl) ∈ main) (d1 : ofl.IsDictOf (PySem.strKind PySem.Challenge.rw_pq0169_01.row.prog w) kvf) (lo1 : (afl == sysModules) = false)
  (v1 : valueAt kvf nm = some (.ref af)) (m2 : (af, tupOf #[.int c t1, .int at_ t2, .int many t3] nf) ∈ main)
  (m3 : (aop, oo) ∈ main) (d3 : oo.IsDictOf (PySem.intKind PySem.Challenge.rw_pq0169_01.row.prog w) kvo) (v3 : valueAt kvo c = some (.ref am))
  (m4 : (am, om) ∈ main) (d4 : om.IsDictOf (PySem.strKind PySem.Challenge.rw_pq0169_01.row.prog w) kvm) (v4 : valueAt kvm (Str.ofString "buffer") = some (.str b t4))
  (q4 : b.length ≤ 100)
  (h : ∀ h' tk t, Fr G L h' m → News G L h' main → Q (.str (Txt.slice b (some at_) (some (at_ + many))) t) { s with heap := h', toks := tk }) :
  wpAny (model PySem.Challenge.rw_pq0169_01.row.prog w) A (call (.ref 82) [.ref aw, .str nm tn] []) Q E s := by
  refine wpAny_weak (A' := A1) ?_ hh (Nat.le_trans hdp (by decide)) (Nat.le_trans hu (by decide)) rfl rfl
  refine ex2_5 (W.ex) ?_; intro esw nw w1 w2 w3 w4 w5
  have v1' : (valueAt kvf nm).isSome = true := by rw [v1]; rfl
  revert X
  k_fill
  intro X
  refine wpAny_call ?_
  have hab := F.above
  have hLm : ∀ p ∈ main, p.1 ≠ L := fun p hp => (N p hp).2.1
  refine' enter0 (binds := [(Str.ofString "world", .ref aw), (Str.ofString "name", .str nm tn)]) F X N (Top.nolimit T) ?k6 ?k7 ?k8 ?k9 ?kB ?_ ?c2 ?c3 ?c4 ?c5
  (((case k6 => k_is); (case k7 => k_is); (case k8 => first | decide | omega); (case k9 => first | exact BindsTo.of_eq rfl | exact binds_K (by k_in) rfl (by k_is) rfl rfl rfl); (case c5 => decide); (case kB => exact locs rfl); (case c2 => exact rfl); (case c3 => exact rfl); (case c4 => exact rfl)))
  intro L' h₁ oL hoL F' N' l0 l1
  clear F N l0
  dsimp only
  k_fold
  k_steps
  dsimp only
  k_unfold
  dsimp only
  exact h _ _ _ (back_fr (by k_asm) (by k_asm) (by k_mem) hoL hab) (back_news (by k_asm) (fun p hp => ⟨.tail _ hp, hLm p hp⟩))
end

section
variable {w : World} {G : Heap} {L : Addr} {m : Str → Option Value} {p : Program} {loose : List Str} {mean : ExcName → Option Value} {mg mb : Str → Option Value}
  {E : Value → Shared → Prop} {s : Shared} {A : Around}
theorem without_none {K : Type} [DecidableEq K] {kvs : List (K × Value)} {k : K} (h : valueAt kvs k = none) : without kvs k = kvs := by
  unfold without
  unfold valueAt at h
  rw [Option.map_eq_none_iff, List.find?_eq_none] at h
  rw [List.filter_eq_self]
  intro a ha
  have := h a ha
  simpa using this

theorem nofield_ok {aw awd afi aop afl : Addr} {nm : Str} {tn : Tok} {ofl : Obj} {kvf : List (Str × Value)} {rest : List (Addr × Obj)} {Q : Value → Shared → Prop}
  (hh : A.handled = none) (hdp : A.depth ≤ 890) (hu : A.units ≤ 890)
  (F : Fr G L s.heap m) (T : Top p loose mean mg mb G) (X : (hd.heap_1 w.params).In G) (N : News G L s.heap ((afl, ofl) :: rest)) (off : ∀ p ∈ rest, p.1 ≠ afl)
  (W : WorldAt rest aw awd afi aop afl) (d1 : ofl.IsDictOf (PySem.strKind PySem.Challenge.rw_pq0169_01.row.prog w) kvf) (lo1 : (afl == sysModules) = false) (z1 : kvf.length ≤ 100)
  (h : ∀ h' tk ofl', Fr G L h' m → News G L h' ((afl, ofl') :: rest) → ofl'.IsDictOf (PySem.strKind PySem.Challenge.rw_pq0169_01.row.prog w) (without kvf nm) → Q .none { s with heap := h', toks := tk }) :
  wpAny (model PySem.Challenge.rw_pq0169_01.row.prog w) A (call (.ref 89) [.ref aw, .str nm tn] []) Q E s := by
  refine wpAny_weak (A' := A1) ?_ hh (Nat.le_trans hdp (by decide)) (Nat.le_trans hu (by decide)) rfl rfl
  refine ex2_5 (W.ex) ?_; intro esw nw w1 w2 w3 w4 w5
  revert X
  k_fill
  intro X
  refine wpAny_call ?_
  have hab := F.above
  have hL1 : @Ne Nat afl L := (N _ (.head _)).2.1
  have hL1' : @Ne Nat L afl := Ne.symm hL1
  have hLm : ∀ p ∈ rest, p.1 ≠ L := fun p hp => (N p (.tail _ hp)).2.1
  refine' enter0 (binds := [(Str.ofString "world", .ref aw), (Str.ofString "name", .str nm tn)]) F X N (Top.nolimit T) ?k6 ?k7 ?k8 ?k9 ?kB ?_ ?c2 ?c3 ?c4 ?c5
  (((case k6 => k_is); (case k7 => k_is); (case k8 => first | decide | omega); (case k9 => first | exact BindsTo.of_eq rfl | exact binds_K (by k_in) rfl (by k_is) rfl rfl rfl); (case c5 => decide); (case kB => exact locs rfl); (case c2 => exact rfl); (case c3 => exact rfl); (case c4 => exact rfl)))
  intro L' h₁ oL hoL F' N' l0 l1
  clear F N l0
  dsimp only
  k_fold
  cases v1 : valueAt kvf nm with
  | none =>
    have v1' : (valueAt kvf nm).isSome = false := by rw [v1]; rfl
    k_steps
    exact h _ _ _ (back_fr (by k_asm) (by k_asm) (by k_mem) hoL hab) (back_news (by k_asm) (by ((repeat (first | exact List.forall_mem_nil _ | refine List.forall_mem_cons.mpr ⟨⟨by k_mem, by k_ne⟩, ?_⟩ | (intro p' hp'; exact ⟨by k_mem, by first | assumption | (apply_assumption; assumption)⟩)))))) (by rw [without_none v1]; exact d1)
  | some v =>
    have v1' : (valueAt kvf nm).isSome = true := by rw [v1]; rfl
    k_steps
    exact h _ _ _ (back_fr (by k_asm) (by k_asm) (by k_mem) hoL hab) (back_news (by k_asm) (by ((repeat (first | exact List.forall_mem_nil _ | refine List.forall_mem_cons.mpr ⟨⟨by k_mem, by k_ne⟩, ?_⟩ | (intro p' hp'; exact ⟨by k_mem, by first | assumption | (apply_assumption; assumption)⟩)))))) (by assumption)
end

section
variable {w : World} {G : Heap} {L : Addr} {m : Str → Option Value} {p : Program} {loose : List Str} {mean : ExcName → Option Value} {mg mb : Str → Option Value}
  {E : Value → Shared → Prop} {s : Shared} {A : Around}
def placedT (text : Str) (many : Int) (r : Bool) : Str :=
  if r then Txt.mul (Str.ofString " ") (many - (Txt.slice text none (some many)).length) ++ Txt.slice text none (some many)
  else Txt.slice text none (some many) ++ Txt.mul (Str.ofString " ") (many - (Txt.slice text none (some many)).length)
theorem placedT_ts {tl : List Nat} {many : Int} {r : Bool} (h : 0 ≤ many) : placedT (TS tl) many r = TS (putL2 tl many.toNat r) := by
  unfold placedT putL2
  rw [slice_to tl h, ts_len, blank_ts, mul_ts]
  have e : (many - ((tl.take many.toNat).length : Int)).toNat = many.toNat - (tl.take many.toNat).length := tn_sub
  rw [e]
  split <;> rw [ts_app]
theorem placed_ok {text : Str} {many : Int} {r : Bool} {t1 t2 : Tok} {main : List (Addr × Obj)} {Q : Value → Shared → Prop}
  (hh : A.handled = none) (hdp : A.depth ≤ 890) (hu : A.units ≤ 890)
  (F : Fr G L s.heap m) (T : Top p loose mean mg mb G) (X : (hd.heap_1 w.params).In G) (N : News G L s.heap main)
  (q1 : 0 ≤ many) (q2 : many ≤ 100) (q4 : text.length ≤ 100)
  (h : ∀ h' tk t, Fr G L h' m → News G L h' main → Q (.str (placedT text many r) t) { s with heap := h', toks := tk }) :
  wpAny (model PySem.Challenge.rw_pq0169_01.row.prog w) A (call (.ref 96) [.str text t1, .int many t2, .bool r] []) Q E s := by
  refine wpAny_weak (A' := A1) ?_ hh (Nat.le_trans hdp (by decide)) (Nat.le_trans hu (by decide)) rfl rfl
  revert X
  k_fill
  intro X
  refine wpAny_call ?_
  have hab := F.above
  have hLm : ∀ p ∈ main, p.1 ≠ L := fun p hp => (N p hp).2.1
  refine' enter0 (binds := [(Str.ofString "text", .str text t1), (Str.ofString "many", .int many t2), (Str.ofString "is_right", .bool r)]) F X N (Top.nolimit T) ?k6 ?k7 ?k8 ?k9 ?kB ?_ ?c2 ?c3 ?c4 ?c5
  (((case k6 => k_is); (case k7 => k_is); (case k8 => first | decide | omega); (case k9 => first | exact BindsTo.of_eq rfl | exact binds_K (by k_in) rfl (by k_is) rfl rfl rfl); (case c5 => decide); (case kB => exact locs rfl); (case c2 => exact rfl); (case c3 => exact rfl); (case c4 => exact rfl)))
  intro L' h₁ oL hoL F' N' l0 l1
  clear F N l0
  dsimp only
  k_fold
  cases r
  all_goals (
    k_steps
    dsimp only
    k_unfold
    dsimp only
    exact h _ _ _ (back_fr (by k_asm) (by k_asm) (by k_mem) hoL hab) (back_news (by k_asm) (fun p hp => ⟨.tail _ hp, hLm p hp⟩)))
end

section
variable {w : World} {G : Heap} {L : Addr} {m : Str → Option Value} {p : Program} {loose : List Str} {mean : ExcName → Option Value} {mg mb : Str → Option Value}
  {E : Value → Shared → Prop} {s : Shared} {A : Around}
def setT (b text : Str) (at_ many : Int) (r : Bool) : Str := Txt.slice b none (some at_) ++ placedT text many r ++ Txt.slice b (some (at_ + many)) none
theorem setT_ts {bl tl : List Nat} {at_ many : Int} {r : Bool} (h0 : 0 ≤ at_) (h : 0 ≤ many) (h2 : at_ + many ≤ bl.length) :
    setT (TS bl) (TS tl) at_ many r = TS (bl.take at_.toNat ++ putL2 tl many.toNat r ++ bl.drop (at_ + many).toNat) := by
  unfold setT
  rw [placedT_ts h, slice_to bl h0, slice_from bl (by omega) h2, ts_app, ts_app]
theorem setp_ok {aw awd afi aop afl af am : Addr} {nm : Str} {bl tl : List Nat} {c at_ many : Int} {r : Bool} {tn t0 t1 t2 t3 t4 : Tok} {nf : Nat} {ofl oo om : Obj} {kvf kvm : List (Str × Value)} {kvo : List (Int × Value)} {rest : List (Addr × Obj)} {Q : Value → Shared → Prop}
  (hh : A.handled = none) (hdp : A.depth ≤ 800) (hu : A.units ≤ 800)
  (F : Fr G L s.heap m) (T : Top p loose mean mg mb G) (X : (hd.heap_1 w.params).In G) (N : News G L s.heap ((am, om) :: rest)) (off : ∀ p ∈ rest, p.1 ≠ am)
  (W : WorldAt rest aw awd afi aop afl) (m1 : (afl, ofl) ∈ rest) (d1 : ofl.IsDictOf (PySem.strKind PySem.Challenge.rw_pq0169_01.row.prog w) kvf) (lo1 : (afl == sysModules) = false)
  (v1 : valueAt kvf nm = some (.ref af)) (m2 : (af, tupOf #[.int c t1, .int at_ t2, .int many t3] nf) ∈ rest)
  (m3 : (aop, oo) ∈ rest) (d3 : oo.IsDictOf (PySem.intKind PySem.Challenge.rw_pq0169_01.row.prog w) kvo) (v3 : valueAt kvo c = some (.ref am))
  (d4 : om.IsDictOf (PySem.strKind PySem.Challenge.rw_pq0169_01.row.prog w) kvm) (v4 : valueAt kvm (Str.ofString "buffer") = some (.str (TS bl) t4)) (z4 : kvm.length ≤ 100)
  (q2 : 0 ≤ many) (q3 : many ≤ 100) (q4 : bl.length ≤ 100) (q5 : tl.length ≤ 100)
  (h : ∀ h' tk om' t, Fr G L h' m → News G L h' ((am, om') :: rest) → om'.IsDictOf (PySem.strKind PySem.Challenge.rw_pq0169_01.row.prog w) (stored kvm (Str.ofString "buffer") (.str (setT (TS bl) (TS tl) at_ many r) t)) → Q .none { s with heap := h', toks := tk }) :
  wpAny (model PySem.Challenge.rw_pq0169_01.row.prog w) A (call (.ref 103) [.ref aw, .str nm tn, .str (TS tl) t0, .bool r] []) Q E s := by
  refine wpAny_weak (A' := A2) ?_ hh (Nat.le_trans hdp (by decide)) (Nat.le_trans hu (by decide)) rfl rfl
  refine ex2_5 (W.ex) ?_; intro esw nw w1 w2 w3 w4 w5
  revert X
  k_fill
  intro X
  refine wpAny_call ?_
  have hab := F.above
  have hL1 : @Ne Nat am L := (N _ (.head _)).2.1
  have hL1' : @Ne Nat L am := Ne.symm hL1
  have hLm : ∀ p ∈ rest, p.1 ≠ L := fun p hp => (N p (.tail _ hp)).2.1
  have hpl : (placedT (TS tl) many r).length ≤ 100 := by rw [placedT_ts q2, ts_len, putL2_len]; omega
  have hbl : (TS bl).length ≤ 100 := by rw [ts_len]; exact q4
  refine' enter0 (binds := [(Str.ofString "world", .ref aw), (Str.ofString "name", .str nm tn), (Str.ofString "text", .str (TS tl) t0), (Str.ofString "is_right", .bool r)]) F X N (Top.nolimit T) ?k6 ?k7 ?k8 ?k9 ?kB ?_ ?c2 ?c3 ?c4 ?c5
  (((case k6 => k_is); (case k7 => k_is); (case k8 => first | decide | omega); (case k9 => first | exact BindsTo.of_eq rfl | exact binds_K (by k_in) rfl (by k_is) rfl rfl rfl); (case c5 => decide); (case kB => exact locs rfl); (case c2 => exact rfl); (case c3 => exact rfl); (case c4 => exact rfl)))
  intro L' h₁ oL hoL F' N' l0 l1
  clear F N l0
  dsimp only
  k_fold
  k_steps
  refine placed_ok rfl (Nat.le_of_ble_eq_true rfl) (Nat.le_of_ble_eq_true rfl) (by k_asm) T X (by k_asm) q2 q3 (by rw [ts_len]; exact q5) ?_
  intro h2 tk2 t2' F2 N2
  k_steps
  exact h _ _ _ _ (back_fr (by k_asm) (by k_asm) (by k_mem) hoL hab) (back_news (by k_asm) (by ((repeat (first | exact List.forall_mem_nil _ | refine List.forall_mem_cons.mpr ⟨⟨by k_mem, by k_ne⟩, ?_⟩ | (intro p' hp'; exact ⟨by k_mem, by first | assumption | (apply_assumption; assumption)⟩)))))) (by assumption)
end

section
variable {w : World} {G : Heap} {L : Addr} {m : Str → Option Value} {p : Program} {loose : List Str} {mean : ExcName → Option Value} {mg mb : Str → Option Value}
  {E : Value → Shared → Prop} {s : Shared} {A : Around}
theorem told_ok {am : Addr} {n : Int} {tn : Tok} {main : List (Addr × Obj)} {Q : Value → Shared → Prop}
  (hh : A.handled = none) (hdp : A.depth ≤ 890) (hu : A.units ≤ 890)
  (F : Fr G L s.heap m) (T : Top p loose mean mg mb G) (X : (hd.heap_1 w.params).In G) (N : News G L s.heap main)
  (q1 : 1 ≤ n) (q2 : n ≤ 3)
  (h : ∀ h' tk, Fr G L h' m → News G L h' main → Q (.int n tn) { s with heap := h', toks := tk }) :
  wpAny (model PySem.Challenge.rw_pq0169_01.row.prog w) A (call (.ref 110) [.ref am, .int n tn] []) Q E s := by
  refine wpAny_weak (A' := A1) ?_ hh (Nat.le_trans hdp (by decide)) (Nat.le_trans hu (by decide)) rfl rfl
  revert X
  k_fill
  intro X
  refine wpAny_call ?_
  have hab := F.above
  have hLm : ∀ p ∈ main, p.1 ≠ L := fun p hp => (N p hp).2.1
  refine' enter0 (binds := [(Str.ofString "found", .ref am), (Str.ofString "number", .int n tn)]) F X N (Top.nolimit T) ?k6 ?k7 ?k8 ?k9 ?kB ?_ ?c2 ?c3 ?c4 ?c5
  (((case k6 => k_is); (case k7 => k_is); (case k8 => first | decide | omega); (case k9 => first | exact BindsTo.of_eq rfl | exact binds_K (by k_in) rfl (by k_is) rfl rfl rfl); (case c5 => decide); (case kB => exact locs rfl); (case c2 => exact rfl); (case c3 => exact rfl); (case c4 => exact rfl)))
  intro L' h₁ oL hoL F' N' l0 l1
  clear F N l0
  dsimp only
  k_fold
  k_steps
  (((try dsimp only); k_unfold; (try dsimp only)))
  exact h _ _ (back_fr (by k_asm) (by k_asm) (by k_mem) hoL hab) (back_news (by k_asm) (fun p hp => ⟨.tail _ hp, hLm p hp⟩))
end

/- a made channel: what its dict says -/
structure MadeIs (kvm : List (Str × Value)) (nm : Str) (size : Int) (b : List Nat) (rec_ : Int) : Prop where
  mode : ∃ t, valueAt kvm (Str.ofString "mode") = some (.str (Str.ofString "R") t)
  name : ∃ t, valueAt kvm (Str.ofString "name") = some (.str nm t)
  size : ∃ t, valueAt kvm (Str.ofString "size") = some (.int size t)
  buf : ∃ t, valueAt kvm (Str.ofString "buffer") = some (.str (TS b) t)
  rec_ : ∃ t, valueAt kvm (Str.ofString "record") = some (.int rec_ t)
  len : kvm.length = 6
theorem MadeIs.put_buf {kvm : List (Str × Value)} {nm : Str} {size : Int} {b b' : List Nat} {r : Int} {x : Str} {t : Tok} (M : MadeIs kvm nm size b r) (hx : x = TS b') :
    MadeIs (stored kvm (Str.ofString "buffer") (.str x t)) nm size b' r := by
  obtain ⟨N_1, N_2, N_3, N_4, N_5, M6⟩ := M
  try clear M
  refine ex1_1 N_1 ?_; intro tm M1
  try clear N_1
  refine ex1_1 N_2 ?_; intro tm2 M2
  try clear N_2
  refine ex1_1 N_3 ?_; intro tm3 M3
  try clear N_3
  refine ex1_1 N_4 ?_; intro tm4 M4
  try clear N_4
  refine ex1_1 N_5 ?_; intro tm5 M5
  try clear N_5
  subst hx
  refine ⟨⟨tm, ?_⟩, ⟨tm2, ?_⟩, ⟨tm3, ?_⟩, ⟨t, ?_⟩, ⟨tm5, ?_⟩, ?_⟩
  · rw [valueAt_stored, if_neg (by decide)]; exact M1
  · rw [valueAt_stored, if_neg (by decide)]; exact M2
  · rw [valueAt_stored, if_neg (by decide)]; exact M3
  · rw [valueAt_stored, if_pos rfl]
  · rw [valueAt_stored, if_neg (by decide)]; exact M5
  · rw [stored_same_len (by rw [M4]; rfl)]; exact M6
theorem MadeIs.put_rec {kvm : List (Str × Value)} {nm : Str} {size : Int} {b : List Nat} {r n : Int} {t : Tok} (M : MadeIs kvm nm size b r) :
    MadeIs (stored kvm (Str.ofString "record") (.int n t)) nm size b n := by
  obtain ⟨N_6, N_7, N_8, N_9, N_10, M6⟩ := M
  try clear M
  refine ex1_1 N_6 ?_; intro tm M1
  try clear N_6
  refine ex1_1 N_7 ?_; intro tm2 M2
  try clear N_7
  refine ex1_1 N_8 ?_; intro tm3 M3
  try clear N_8
  refine ex1_1 N_9 ?_; intro tm4 M4
  try clear N_9
  refine ex1_1 N_10 ?_; intro tm5 M5
  try clear N_10
  refine ⟨⟨tm, ?_⟩, ⟨tm2, ?_⟩, ⟨tm3, ?_⟩, ⟨tm4, ?_⟩, ⟨t, ?_⟩, ?_⟩
  · rw [valueAt_stored, if_neg (by decide)]; exact M1
  · rw [valueAt_stored, if_neg (by decide)]; exact M2
  · rw [valueAt_stored, if_neg (by decide)]; exact M3
  · rw [valueAt_stored, if_neg (by decide)]; exact M4
  · rw [valueAt_stored, if_pos rfl]
  · rw [stored_same_len (by rw [M5]; rfl)]; exact M6
section
variable {w : World} {G : Heap} {L : Addr} {m : Str → Option Value} {p : Program} {loose : List Str} {mean : ExcName → Option Value} {mg mb : Str → Option Value}
  {E : Value → Shared → Prop} {s : Shared} {A : Around}
theorem get_ok {aw awd afi aop afl am : Addr} {nm : Str} {bl tl : List Nat} {c n size rec0 : Int} {tc tn tt : Tok} {oo om ofi : Obj} {kvm kvfi : List (Str × Value)} {kvo : List (Int × Value)} {rest : List (Addr × Obj)} {Q : Value → Shared → Prop}
  (hh : A.handled = none) (hdp : A.depth ≤ 800) (hu : A.units ≤ 800)
  (F : Fr G L s.heap m) (T : Top p loose mean mg mb G) (X : (hd.heap_1 w.params).In G) (N : News G L s.heap ((am, om) :: rest)) (off : ∀ p ∈ rest, p.1 ≠ am)
  (W : WorldAt rest aw awd afi aop afl)
  (m3 : (aop, oo) ∈ rest) (d3 : oo.IsDictOf (PySem.intKind PySem.Challenge.rw_pq0169_01.row.prog w) kvo) (lo3 : (aop == sysModules) = false) (v3 : valueAt kvo c = some (.ref am))
  (d4 : om.IsDictOf (PySem.strKind PySem.Challenge.rw_pq0169_01.row.prog w) kvm) (M : MadeIs kvm nm size bl rec0)
  (m5 : (afi, ofi) ∈ rest) (d5 : ofi.IsDictOf (PySem.strKind PySem.Challenge.rw_pq0169_01.row.prog w) kvfi) (v5 : valueAt kvfi nm = some (.str (TS tl) tt))
  (q1 : 1 ≤ n) (q2 : n ≤ 3) (q3 : 1 ≤ size) (q4 : size ≤ 10) (q5 : tl.length ≤ 100) (q6 : (n - 1) * size < tl.length)
  (h : ∀ h' tk om' kvm', Fr G L h' m → News G L h' ((am, om') :: rest) → om'.IsDictOf (PySem.strKind PySem.Challenge.rw_pq0169_01.row.prog w) kvm' → MadeIs kvm' nm size (((tl.drop ((n - 1) * size).toNat).take size.toNat ++ List.replicate size.toNat 0).take size.toNat) n → Q .none { s with heap := h', toks := tk }) :
  wpAny (model PySem.Challenge.rw_pq0169_01.row.prog w) A (call (.ref 117) [.ref aw, .int c tc, .int n tn] []) Q E s := by
  refine wpAny_weak (A' := A2) ?_ hh (Nat.le_trans hdp (by decide)) (Nat.le_trans hu (by decide)) rfl rfl
  refine ex2_5 (W.ex) ?_; intro esw nw w1 w2 w3 w4 w5
  obtain ⟨N_11, N_12, N_13, N_14, N_15, M6⟩ := (id M)
  refine ex1_1 N_11 ?_; intro tm M1
  try clear N_11
  refine ex1_1 N_12 ?_; intro tm2 M2
  try clear N_12
  refine ex1_1 N_13 ?_; intro tm3 M3
  try clear N_13
  refine ex1_1 N_14 ?_; intro tm4 M4
  try clear N_14
  refine ex1_1 N_15 ?_; intro tm5 M5
  try clear N_15
  revert X
  k_fill
  intro X
  refine wpAny_call ?_
  have hab := F.above
  have hL1 : @Ne Nat am L := (N _ (.head _)).2.1
  have hL1' : @Ne Nat L am := Ne.symm hL1
  have hLm : ∀ p ∈ rest, p.1 ≠ L := fun p hp => (N p (.tail _ hp)).2.1
  have hb0 : 0 ≤ (n - 1) * size := Int.mul_nonneg (Int.sub_nonneg_of_le q1) (ge_1 q3)
  have q6' : (n - 1) * size < ((TS tl).length : Int) := by rw [ts_len]; exact q6
  have htl : (TS tl).length ≤ 100 := by rw [ts_len]; exact q5
  refine' enter0 (binds := [(Str.ofString "world", .ref aw), (Str.ofString "channel", .int c tc), (Str.ofString "number", .int n tn)]) F X N (Top.nolimit T) ?k6 ?k7 ?k8 ?k9 ?kB ?_ ?c2 ?c3 ?c4 ?c5
  (((case k6 => k_is); (case k7 => k_is); (case k8 => first | decide | omega); (case k9 => first | exact BindsTo.of_eq rfl | exact binds_K (by k_in) rfl (by k_is) rfl rfl rfl); (case c5 => decide); (case kB => exact locs rfl); (case c2 => exact rfl); (case c3 => exact rfl); (case c4 => exact rfl)))
  intro L' h₁ oL hoL F' N' l0 l1
  clear F N l0
  dsimp only
  k_fold
  k_steps
  refine channel_ok rfl (by (exact Nat.le_of_ble_eq_true rfl)) (by (exact Nat.le_of_ble_eq_true rfl)) (by k_asm) T X (by k_asm) (W.sub (by ((intro p' hp'; k_mem)))) (by k_mem) d3 lo3 v3 (by k_mem) d4 M1 (by k_mem) ?_
  intro h2 tk2 F2 N2
  k_steps
  refine told_ok rfl (by (exact Nat.le_of_ble_eq_true rfl)) (by (exact Nat.le_of_ble_eq_true rfl)) (by k_asm) T X (by k_asm) q1 q2 ?_
  intro h3 tk3 F3 N3
  k_steps
  refine h _ _ _ _ (back_fr (by k_asm) (by k_asm) (by k_mem) hoL hab) (back_news (by k_asm) (by ((repeat (first | exact List.forall_mem_nil _ | refine List.forall_mem_cons.mpr ⟨⟨by k_mem, by k_ne⟩, ?_⟩ | (intro p' hp'; exact ⟨by k_mem, by first | assumption | (apply_assumption; assumption)⟩)))))) (by assumption) ((M.put_buf ?_).put_rec)
  rw [slice_mid_any tl hb0 (le_addr (ge_1 q3)) (Int.le_of_lt q6), show ({ cps := #[Int.toNat 0] } : Str) = TS [0] from rfl, mul_ts, ts_app, slice_to _ (ge_1 q3), show (n - 1) * size + size - (n - 1) * size = size from add_sub_l]
end

section
variable {w : World} {G : Heap} {L : Addr} {m : Str → Option Value} {p : Program} {loose : List Str} {mean : ExcName → Option Value} {mg mb : Str → Option Value}
  {E : Value → Shared → Prop} {s : Shared} {A : Around}
theorem get_bn {env₀ : Env} {outer : List Env} {aw awd afi aop afl : Addr} {c n : Int} {tc tn : Tok} {oo : Obj} {kvo : List (Int × Value)} {main frs : List (Addr × Obj)} {Q : Value → Shared → Prop}
  (hA : A.frames = some (env₀ :: outer)) (hf₀ : env₀.frame = some L) (hk₀ : env₀.scope.kind ≠ .module) (Fs : Frs outer frs) (hoff : ∀ p ∈ main, ∀ q ∈ frs, p.1 ≠ q.1)
  (hh : A.handled = none) (hdp : A.depth ≤ 800) (hu : A.units ≤ 800)
  (F : Fr G L s.heap m) (T : Top p loose mean mg mb G) (X : (hd.heap_1 w.params).In G) (N : News G L s.heap (main ++ frs))
  (W : WorldAt (main ++ frs) aw awd afi aop afl) (m1 : (aop, oo) ∈ main ++ frs) (d1 : oo.IsDictOf (PySem.intKind PySem.Challenge.rw_pq0169_01.row.prog w) kvo) (lo1 : (aop == sysModules) = false)
  (v1 : valueAt kvo c = none)
  (hE : ∀ h' tk e dx frs', SameUp frs frs' → Frs outer frs' → Fr G L h' m → News G L h' (main ++ frs') → L ≠ e → L ≠ dx → Flying G h' e dx (Str.ofString "BN") (main ++ frs') → E (.ref e) { s with heap := h', toks := tk }) :
  wpAny (model PySem.Challenge.rw_pq0169_01.row.prog w) A (call (.ref 117) [.ref aw, .int c tc, .int n tn] []) Q E s := by
  revert X
  k_fill
  intro X
  refine wpAny_call ?_
  have hab := F.above
  have hLm : ∀ p ∈ main ++ frs, p.1 ≠ L := fun p hp => (N p hp).2.1
  refine' enter0 (binds := [(Str.ofString "world", .ref aw), (Str.ofString "channel", .int c tc), (Str.ofString "number", .int n tn)]) F X N (Top.nolimit T) ?k6 ?k7 ?k8 ?k9 ?kB ?_ ?c2 ?c3 ?c4 ?c5
  case k8 => exact Nat.lt_of_le_of_lt hdp (by decide)
  (((case k6 => k_is); (case k7 => k_is); (case k9 => first | exact BindsTo.of_eq rfl | exact binds_K (by k_in) rfl (by k_is) rfl rfl rfl); (case c5 => decide); (case kB => exact locs rfl); (case c2 => exact rfl); (case c3 => exact rfl); (case c4 => exact rfl)))
  intro L' h₁ oL hoL F' N' l0 l1
  clear F N
  dsimp only
  k_fold
  k_steps
  refine channel_bad (main := main) (frs := (L, oL) :: frs) (Around.frames_deeper hA) rfl (show ScopeKind.function ≠ ScopeKind.module by decide) ⟨hk₀, hf₀, hoL.1, Fs⟩ (fun p hp q hq => ?_) hh (by show A.depth + 1 ≤ 870; omega) (by show A.units + 3 ≤ 870; omega) (by k_asm) T X (news_sub (by k_asm) fun p hp => .tail _ (mem_mid p hp)) (W.sub fun p hp => mem_mid' p hp) (mem_mid' _ m1) d1 lo1 v1 ?_
  · refine mcons hq ?_ fun hq => ?_
    · exact hLm p (List.mem_append_left _ hp)
    · exact hoff p hp q hq
  intro h2 tk2 e dx frs1 SU Fs2 F3 N3 l2 l3 Fl
  k_unfold
  dsimp only
  refine pass_on (L' := L') hA hf₀ hk₀ hoL hab hLm hoff rfl (show ScopeKind.function ≠ ScopeKind.module by decide) SU Fs2 F3 N3 l2 l3 Fl ?_
  intro h3 frs' SU2 Fs' F4 N4 l4 l5 Fl2
  exact hE h3 _ e dx frs' SU2 Fs' F4 N4 l4 l5 Fl2
theorem get_ef {env₀ : Env} {outer : List Env} {aw awd afi aop afl am : Addr} {nm : Str} {bl tl : List Nat} {c n size rec0 : Int} {tc tn tt : Tok} {oo om ofi : Obj} {kvm kvfi : List (Str × Value)} {kvo : List (Int × Value)} {main frs : List (Addr × Obj)} {Q : Value → Shared → Prop}
  (hA : A.frames = some (env₀ :: outer)) (hf₀ : env₀.frame = some L) (hk₀ : env₀.scope.kind ≠ .module) (Fs : Frs outer frs) (hoff : ∀ p ∈ main, ∀ q ∈ frs, p.1 ≠ q.1)
  (hh : A.handled = none) (hdp : A.depth ≤ 800) (hu : A.units ≤ 800)
  (F : Fr G L s.heap m) (T : Top p loose mean mg mb G) (X : (hd.heap_1 w.params).In G) (N : News G L s.heap (main ++ frs))
  (W : WorldAt (main ++ frs) aw awd afi aop afl)
  (m3 : (aop, oo) ∈ main ++ frs) (d3 : oo.IsDictOf (PySem.intKind PySem.Challenge.rw_pq0169_01.row.prog w) kvo) (lo3 : (aop == sysModules) = false) (v3 : valueAt kvo c = some (.ref am))
  (m4 : (am, om) ∈ main ++ frs) (d4 : om.IsDictOf (PySem.strKind PySem.Challenge.rw_pq0169_01.row.prog w) kvm) (M : MadeIs kvm nm size bl rec0)
  (m5 : (afi, ofi) ∈ main ++ frs) (d5 : ofi.IsDictOf (PySem.strKind PySem.Challenge.rw_pq0169_01.row.prog w) kvfi) (v5 : valueAt kvfi nm = some (.str (TS tl) tt))
  (q1 : 1 ≤ n) (q2 : n ≤ 3) (q3 : 1 ≤ size) (q4 : size ≤ 10) (q5 : tl.length ≤ 100) (q6 : tl.length ≤ (n - 1) * size)
  (hE : ∀ h' tk e dx frs', SameUp frs frs' → Frs outer frs' → Fr G L h' m → News G L h' (main ++ frs') → L ≠ e → L ≠ dx → Flying G h' e dx (Str.ofString "EF") (main ++ frs') → E (.ref e) { s with heap := h', toks := tk }) :
  wpAny (model PySem.Challenge.rw_pq0169_01.row.prog w) A (call (.ref 117) [.ref aw, .int c tc, .int n tn] []) Q E s := by
  obtain ⟨ah, ad, af, ag, au⟩ := A
  try clear A
  dsimp only at hA hh hdp hu
  subst hA hh
  refine ex2_5 (W.ex) ?_; intro esw nw w1 w2 w3 w4 w5
  obtain ⟨N_1, N_2, N_3, N_4, N_5, M6⟩ := (id M)
  refine ex1_1 N_1 ?_; intro tm M1
  try clear N_1
  refine ex1_1 N_2 ?_; intro tm2 M2
  try clear N_2
  refine ex1_1 N_3 ?_; intro tm3 M3
  try clear N_3
  refine ex1_1 N_4 ?_; intro tm4 M4
  try clear N_4
  refine ex1_1 N_5 ?_; intro tm5 M5
  try clear N_5
  revert X
  k_fill
  intro X
  refine wpAny_call ?_
  have hab := F.above
  have hLm : ∀ p ∈ main ++ frs, p.1 ≠ L := fun p hp => (N p hp).2.1
  have hb0 : 0 ≤ (n - 1) * size := Int.mul_nonneg (by omega) (by omega)
  have q6' : ((TS tl).length : Int) ≤ (n - 1) * size := by rw [ts_len]; exact q6
  have htl : (TS tl).length ≤ 100 := by rw [ts_len]; exact q5
  refine' enter0 (binds := [(Str.ofString "world", .ref aw), (Str.ofString "channel", .int c tc), (Str.ofString "number", .int n tn)]) F X N (Top.nolimit T) ?k6 ?k7 ?k8 ?k9 ?kB ?_ ?c2 ?c3 ?c4 ?c5
  case k8 => exact Nat.lt_of_le_of_lt hdp (by decide)
  (((case k6 => k_is); (case k7 => k_is); (case k9 => first | exact BindsTo.of_eq rfl | exact binds_K (by k_in) rfl (by k_is) rfl rfl rfl); (case c5 => decide); (case kB => exact locs rfl); (case c2 => exact rfl); (case c3 => exact rfl); (case c4 => exact rfl)))
  intro L' h₁ oL hoL F' N' l0 l1
  clear F N
  dsimp only
  k_fold
  k_steps
  refine channel_ok rfl (by show ad + 1 ≤ 890; omega) (by show au + 3 ≤ 890; omega) (by k_asm) T X (by k_asm) (W.sub (by ((intro p' hp'; k_mem)))) (by k_mem) d3 lo3 v3 (by k_mem) d4 M1 (by k_mem) ?_
  intro h2 tk2 F2 N2
  k_steps
  refine told_ok rfl (by show ad + 1 ≤ 890; omega) (by show au + 3 ≤ 890; omega) (by k_asm) T X (by k_asm) q1 q2 ?_
  intro h3 tk3 F3 N3
  k_steps
  with_reducible rename Flying _ _ _ _ _ _ => Fl9
  refine leave_back rfl hf₀ hk₀ Fs hoL hab hLm hoff rfl (show ScopeKind.function ≠ ScopeKind.module by decide) (by k_asm) (news_sub (by k_asm) (by ((intro p' hp'; have hq' := mem_mid p' hp'; k_mem)))) (by assumption) (by assumption) (Fl9.sub (by ((intro p' hp'; have hq' := mem_mid p' hp'; k_mem)))) ?_
  intro h4 frs' SU2 Fs' F4 N4 l4 l5 Fl2
  exact hE h4 _ _ _ frs' SU2 Fs' F4 N4 l4 l5 Fl2
end

section
variable {w : World} {G : Heap} {L : Addr} {m : Str → Option Value} {p : Program} {loose : List Str} {mean : ExcName → Option Value} {mg mb : Str → Option Value}
  {E : Value → Shared → Prop} {s : Shared} {A : Around}
end
def P_put_ok (w : World) (G : Heap) (L : Addr) (m : Str → Option Value) (p : Program) (loose : List Str) (mean : ExcName → Option Value) (mg mb : Str → Option Value) (E : Value → Shared → Prop) (s : Shared) (A : Around) (aw awd afi aop afl am : Addr) (nm : Str) (bl tl : List Nat) (c rec0 : Int) (tc tn tt tr : Tok) (oo om ofi : Obj) (kvm kvfi : List (Str × Value)) (kvo : List (Int × Value)) (rest : List (Addr × Obj)) (Q : Value → Shared → Prop) : Prop := ∀ {n : Int} {size : Int} (hh : A.handled = none) (hdp : A.depth ≤ 800) (hu : A.units ≤ 800) (F : Fr G L s.heap m) (T : Top p loose mean mg mb G) (X : (hd.heap_1 w.params).In G) (N : News G L s.heap ((am, om) :: (afi, ofi) :: rest)) (ne : @Ne Nat am afi) (off : ∀ p ∈ rest, p.1 ≠ am) (off2 : ∀ p ∈ rest, p.1 ≠ afi) (W : WorldAt rest aw awd afi aop afl) (m3 : (aop, oo) ∈ rest) (d3 : oo.IsDictOf (PySem.intKind PySem.Challenge.rw_pq0169_01.row.prog w) kvo) (lo3 : (aop == sysModules) = false) (v3 : valueAt kvo c = some (.ref am)) (d4 : om.IsDictOf (PySem.strKind PySem.Challenge.rw_pq0169_01.row.prog w) kvm) (M : MadeIs kvm nm size bl rec0) (d5 : ofi.IsDictOf (PySem.strKind PySem.Challenge.rw_pq0169_01.row.prog w) kvfi) (v5 : valueAt kvfi nm = some (.str (TS tl) tt)) (z5 : kvfi.length ≤ 10) (q1 : 1 ≤ n) (q2 : n ≤ 3) (q3 : 1 ≤ size) (q4 : size ≤ 10) (q5 : tl.length ≤ 100) (q6 : bl.length ≤ 100) (h : ∀ h' tk om' ofi' kvm' t', Fr G L h' m → News G L h' ((am, om') :: (afi, ofi') :: rest) → om'.IsDictOf (PySem.strKind PySem.Challenge.rw_pq0169_01.row.prog w) kvm' → MadeIs kvm' nm size bl n →
    ofi'.IsDictOf (PySem.strKind PySem.Challenge.rw_pq0169_01.row.prog w) (stored kvfi nm (.str (TS (putFile tl bl ((n - 1) * size).toNat size.toNat)) t')) → Q .none { s with heap := h', toks := tk }), wpAny (model PySem.Challenge.rw_pq0169_01.row.prog w) A (call (.ref 124) [.ref aw, .int c tc, .int n tn, .int 90 tr] []) Q E s
def U_put_ok (c : (World) × (Heap) × (Addr) × (Str → Option Value) × (Program) × (List Str) × (ExcName → Option Value) × (Str → Option Value) × (Str → Option Value) × (Value → Shared → Prop) × (Shared) × (Around) × (Addr) × (Addr) × (Addr) × (Addr) × (Addr) × (Addr) × (Str) × (List Nat) × (List Nat) × (Int) × (Int) × (Tok) × (Tok) × (Tok) × (Tok) × (Obj) × (Obj) × (Obj) × (List (Str × Value)) × (List (Str × Value)) × (List (Int × Value)) × (List (Addr × Obj)) × (Value → Shared → Prop)) : Prop := P_put_ok c.1 c.2.1 c.2.2.1 c.2.2.2.1 c.2.2.2.2.1 c.2.2.2.2.2.1 c.2.2.2.2.2.2.1 c.2.2.2.2.2.2.2.1 c.2.2.2.2.2.2.2.2.1 c.2.2.2.2.2.2.2.2.2.1 c.2.2.2.2.2.2.2.2.2.2.1 c.2.2.2.2.2.2.2.2.2.2.2.1 c.2.2.2.2.2.2.2.2.2.2.2.2.1 c.2.2.2.2.2.2.2.2.2.2.2.2.2.1 c.2.2.2.2.2.2.2.2.2.2.2.2.2.2.1 c.2.2.2.2.2.2.2.2.2.2.2.2.2.2.2.1 c.2.2.2.2.2.2.2.2.2.2.2.2.2.2.2.2.1 c.2.2.2.2.2.2.2.2.2.2.2.2.2.2.2.2.2.1 c.2.2.2.2.2.2.2.2.2.2.2.2.2.2.2.2.2.2.1 c.2.2.2.2.2.2.2.2.2.2.2.2.2.2.2.2.2.2.2.1 c.2.2.2.2.2.2.2.2.2.2.2.2.2.2.2.2.2.2.2.2.1 c.2.2.2.2.2.2.2.2.2.2.2.2.2.2.2.2.2.2.2.2.2.1 c.2.2.2.2.2.2.2.2.2.2.2.2.2.2.2.2.2.2.2.2.2.2.1 c.2.2.2.2.2.2.2.2.2.2.2.2.2.2.2.2.2.2.2.2.2.2.2.1 c.2.2.2.2.2.2.2.2.2.2.2.2.2.2.2.2.2.2.2.2.2.2.2.2.1 c.2.2.2.2.2.2.2.2.2.2.2.2.2.2.2.2.2.2.2.2.2.2.2.2.2.1 c.2.2.2.2.2.2.2.2.2.2.2.2.2.2.2.2.2.2.2.2.2.2.2.2.2.2.1 c.2.2.2.2.2.2.2.2.2.2.2.2.2.2.2.2.2.2.2.2.2.2.2.2.2.2.2.1 c.2.2.2.2.2.2.2.2.2.2.2.2.2.2.2.2.2.2.2.2.2.2.2.2.2.2.2.2.1 c.2.2.2.2.2.2.2.2.2.2.2.2.2.2.2.2.2.2.2.2.2.2.2.2.2.2.2.2.2.1 c.2.2.2.2.2.2.2.2.2.2.2.2.2.2.2.2.2.2.2.2.2.2.2.2.2.2.2.2.2.2.1 c.2.2.2.2.2.2.2.2.2.2.2.2.2.2.2.2.2.2.2.2.2.2.2.2.2.2.2.2.2.2.2.1 c.2.2.2.2.2.2.2.2.2.2.2.2.2.2.2.2.2.2.2.2.2.2.2.2.2.2.2.2.2.2.2.2.1 c.2.2.2.2.2.2.2.2.2.2.2.2.2.2.2.2.2.2.2.2.2.2.2.2.2.2.2.2.2.2.2.2.2.1 c.2.2.2.2.2.2.2.2.2.2.2.2.2.2.2.2.2.2.2.2.2.2.2.2.2.2.2.2.2.2.2.2.2.2
/- the letters at which it would fail, if there are such -/
noncomputable def K_put_ok : (World) × (Heap) × (Addr) × (Str → Option Value) × (Program) × (List Str) × (ExcName → Option Value) × (Str → Option Value) × (Str → Option Value) × (Value → Shared → Prop) × (Shared) × (Around) × (Addr) × (Addr) × (Addr) × (Addr) × (Addr) × (Addr) × (Str) × (List Nat) × (List Nat) × (Int) × (Int) × (Tok) × (Tok) × (Tok) × (Tok) × (Obj) × (Obj) × (Obj) × (List (Str × Value)) × (List (Str × Value)) × (List (Int × Value)) × (List (Addr × Obj)) × (Value → Shared → Prop) := @Classical.epsilon _ (neP ⟨aWorld 0⟩ (neP ⟨default⟩ (neP ⟨default⟩ (neP ⟨default⟩ (neP ⟨default⟩ (neP ⟨default⟩ (neP ⟨default⟩ (neP ⟨default⟩ (neP ⟨default⟩ (neP ⟨default⟩ (neP neS (neP ⟨{}⟩ (neP ⟨default⟩ (neP ⟨default⟩ (neP ⟨default⟩ (neP ⟨default⟩ (neP ⟨default⟩ (neP ⟨default⟩ (neP ⟨default⟩ (neP ⟨default⟩ (neP ⟨default⟩ (neP ⟨default⟩ (neP ⟨default⟩ (neP ⟨default⟩ (neP ⟨default⟩ (neP ⟨default⟩ (neP ⟨default⟩ (neP ⟨default⟩ (neP ⟨default⟩ (neP ⟨default⟩ (neP ⟨default⟩ (neP ⟨default⟩ (neP ⟨default⟩ (neP ⟨default⟩ ⟨default⟩)))))))))))))))))))))))))))))))))) fun c => ¬ U_put_ok c
namespace E_put_ok
noncomputable def w : World := K_put_ok.1
noncomputable def G : Heap := K_put_ok.2.1
noncomputable def L : Addr := K_put_ok.2.2.1
noncomputable def m : Str → Option Value := K_put_ok.2.2.2.1
noncomputable def p : Program := K_put_ok.2.2.2.2.1
noncomputable def loose : List Str := K_put_ok.2.2.2.2.2.1
noncomputable def mean : ExcName → Option Value := K_put_ok.2.2.2.2.2.2.1
noncomputable def mg : Str → Option Value := K_put_ok.2.2.2.2.2.2.2.1
noncomputable def mb : Str → Option Value := K_put_ok.2.2.2.2.2.2.2.2.1
noncomputable def E : Value → Shared → Prop := K_put_ok.2.2.2.2.2.2.2.2.2.1
noncomputable def s : Shared := K_put_ok.2.2.2.2.2.2.2.2.2.2.1
noncomputable def A : Around := K_put_ok.2.2.2.2.2.2.2.2.2.2.2.1
noncomputable def aw : Addr := K_put_ok.2.2.2.2.2.2.2.2.2.2.2.2.1
noncomputable def awd : Addr := K_put_ok.2.2.2.2.2.2.2.2.2.2.2.2.2.1
noncomputable def afi : Addr := K_put_ok.2.2.2.2.2.2.2.2.2.2.2.2.2.2.1
noncomputable def aop : Addr := K_put_ok.2.2.2.2.2.2.2.2.2.2.2.2.2.2.2.1
noncomputable def afl : Addr := K_put_ok.2.2.2.2.2.2.2.2.2.2.2.2.2.2.2.2.1
noncomputable def am : Addr := K_put_ok.2.2.2.2.2.2.2.2.2.2.2.2.2.2.2.2.2.1
noncomputable def nm : Str := K_put_ok.2.2.2.2.2.2.2.2.2.2.2.2.2.2.2.2.2.2.1
noncomputable def bl : List Nat := K_put_ok.2.2.2.2.2.2.2.2.2.2.2.2.2.2.2.2.2.2.2.1
noncomputable def tl : List Nat := K_put_ok.2.2.2.2.2.2.2.2.2.2.2.2.2.2.2.2.2.2.2.2.1
noncomputable def c : Int := K_put_ok.2.2.2.2.2.2.2.2.2.2.2.2.2.2.2.2.2.2.2.2.2.1
noncomputable def rec0 : Int := K_put_ok.2.2.2.2.2.2.2.2.2.2.2.2.2.2.2.2.2.2.2.2.2.2.1
noncomputable def tc : Tok := K_put_ok.2.2.2.2.2.2.2.2.2.2.2.2.2.2.2.2.2.2.2.2.2.2.2.1
noncomputable def tn : Tok := K_put_ok.2.2.2.2.2.2.2.2.2.2.2.2.2.2.2.2.2.2.2.2.2.2.2.2.1
noncomputable def tt : Tok := K_put_ok.2.2.2.2.2.2.2.2.2.2.2.2.2.2.2.2.2.2.2.2.2.2.2.2.2.1
noncomputable def tr : Tok := K_put_ok.2.2.2.2.2.2.2.2.2.2.2.2.2.2.2.2.2.2.2.2.2.2.2.2.2.2.1
noncomputable def oo : Obj := K_put_ok.2.2.2.2.2.2.2.2.2.2.2.2.2.2.2.2.2.2.2.2.2.2.2.2.2.2.2.1
noncomputable def om : Obj := K_put_ok.2.2.2.2.2.2.2.2.2.2.2.2.2.2.2.2.2.2.2.2.2.2.2.2.2.2.2.2.1
noncomputable def ofi : Obj := K_put_ok.2.2.2.2.2.2.2.2.2.2.2.2.2.2.2.2.2.2.2.2.2.2.2.2.2.2.2.2.2.1
noncomputable def kvm : List (Str × Value) := K_put_ok.2.2.2.2.2.2.2.2.2.2.2.2.2.2.2.2.2.2.2.2.2.2.2.2.2.2.2.2.2.2.1
noncomputable def kvfi : List (Str × Value) := K_put_ok.2.2.2.2.2.2.2.2.2.2.2.2.2.2.2.2.2.2.2.2.2.2.2.2.2.2.2.2.2.2.2.1
noncomputable def kvo : List (Int × Value) := K_put_ok.2.2.2.2.2.2.2.2.2.2.2.2.2.2.2.2.2.2.2.2.2.2.2.2.2.2.2.2.2.2.2.2.1
noncomputable def rest : List (Addr × Obj) := K_put_ok.2.2.2.2.2.2.2.2.2.2.2.2.2.2.2.2.2.2.2.2.2.2.2.2.2.2.2.2.2.2.2.2.2.1
noncomputable def Q : Value → Shared → Prop := K_put_ok.2.2.2.2.2.2.2.2.2.2.2.2.2.2.2.2.2.2.2.2.2.2.2.2.2.2.2.2.2.2.2.2.2.2
theorem go : P_put_ok w G L m p loose mean mg mb E s A aw awd afi aop afl am nm bl tl c rec0 tc tn tt tr oo om ofi kvm kvfi kvo rest Q := by
  intro n size hh hdp hu F T X N ne off off2 W m3 d3 lo3 v3 d4 M d5 v5 z5 q1 q2 q3 q4 q5 q6 h
  refine wpAny_weak (A' := A2) ?_ hh (Nat.le_trans hdp (by decide)) (Nat.le_trans hu (by decide)) rfl rfl
  refine ex2_5 (W.ex) ?_; intro esw nw w1 w2 w3 w4 w5
  obtain ⟨N_1, N_2, N_3, N_4, N_5, M6⟩ := (id M)
  refine ex1_1 N_1 ?_; intro tm M1
  try clear N_1
  refine ex1_1 N_2 ?_; intro tm2 M2
  try clear N_2
  refine ex1_1 N_3 ?_; intro tm3 M3
  try clear N_3
  refine ex1_1 N_4 ?_; intro tm4 M4
  try clear N_4
  refine ex1_1 N_5 ?_; intro tm5 M5
  try clear N_5
  revert X
  k_fill
  intro X
  refine wpAny_call ?_
  have hab := F.above
  have hL1 : @Ne Nat am L := (N _ (.head _)).2.1
  have hL1' : @Ne Nat L am := Ne.symm hL1
  have hL2 : @Ne Nat afi L := (N _ (.tail _ (.head _))).2.1
  have hL2' : @Ne Nat L afi := Ne.symm hL2
  have hLm : ∀ p ∈ rest, p.1 ≠ L := fun p hp => (N p (.tail _ (.tail _ hp))).2.1
  have hb0 : 0 ≤ (n - 1) * size := Int.mul_nonneg (Int.sub_nonneg_of_le q1) (ge_1 q3)
  have hb1 : (n - 1) * size ≤ 20 := by
    exact Int.mul_le_mul (c := 2) (d := 10) (sub_le2 q2) q4 (ge_1 q3) (by decide)
  have htl : (TS tl).length ≤ 100 := by rw [ts_len]; exact q5
  have htx0 : TS tl ++ Txt.mul (Str.ofString "\x00") ((n - 1) * size - ((TS tl).length : Int)) = TS (tl ++ List.replicate (((n - 1) * size).toNat - tl.length) 0) := by
    rw [show Str.ofString "\x00" = TS [0] from by decide +kernel, mul_ts, ts_app, ts_len]
    congr 4
    exact tn_sub
  have htx : (TS tl ++ Txt.mul (Str.ofString "\x00") ((n - 1) * size - ((TS tl).length : Int))).length ≤ 200 := by
    rw [htx0, ts_len, List.length_append, List.length_replicate]; exact len200 q5 hb1
  have hbl : (TS bl).length ≤ 100 := by rw [ts_len]; exact q6
  refine' enter0 (binds := [(Str.ofString "world", .ref aw), (Str.ofString "channel", .int c tc), (Str.ofString "number", .int n tn), (Str.ofString "room", .int 90 tr)]) F X N (Top.nolimit T) ?k6 ?k7 ?k8 ?k9 ?kB ?_ ?c2 ?c3 ?c4 ?c5
  (((case k6 => k_is); (case k7 => k_is); (case k8 => first | decide | omega); (case k9 => first | exact BindsTo.of_eq rfl | exact binds_K (by k_in) rfl (by k_is) rfl rfl rfl); (case c5 => decide); (case kB => exact locs rfl); (case c2 => exact rfl); (case c3 => exact rfl); (case c4 => exact rfl)))
  intro L' h₁ oL hoL F' N' l0 l1
  clear F N l0
  dsimp only
  k_fold
  k_steps
  refine channel_ok rfl (by (exact Nat.le_of_ble_eq_true rfl)) (by (exact Nat.le_of_ble_eq_true rfl)) (by k_asm) T X (by k_asm) (W.sub (by ((intro p' hp'; k_mem)))) (by k_mem) d3 lo3 v3 (by k_mem) d4 M1 (by k_mem) ?_
  intro h2 tk2 F2 N2
  k_steps
  refine told_ok rfl (by (exact Nat.le_of_ble_eq_true rfl)) (by (exact Nat.le_of_ble_eq_true rfl)) (by k_asm) T X (by k_asm) q1 q2 ?_
  intro h3 tk3 F3 N3
  k_steps
  have hput : Txt.slice (TS tl ++ Txt.mul (Str.ofString "\x00") ((n - 1) * size - ((TS tl).length : Int))) none (some ((n - 1) * size)) ++ TS bl ++ Txt.slice (TS tl ++ Txt.mul (Str.ofString "\x00") ((n - 1) * size - ((TS tl).length : Int))) (some ((n - 1) * size + size)) none =
      TS (putFile tl bl ((n - 1) * size).toNat size.toNat) := by
    rw [htx0, slice_to _ hb0, slice_from_any _ (Int.add_nonneg hb0 (ge_1 q3)), ts_app, ts_app, show ((n - 1) * size + size).toNat = ((n - 1) * size).toNat + size.toNat from Int.toNat_add hb0 (ge_1 q3)]
    rfl
  refine h _ _ _ _ _ _ (back_fr (by k_asm) (by k_asm) (by k_mem) hoL hab) (back_news (by k_asm) (by ((repeat (first | exact List.forall_mem_nil _ | refine List.forall_mem_cons.mpr ⟨⟨by k_mem, by k_ne⟩, ?_⟩ | (intro p' hp'; exact ⟨by k_mem, by first | assumption | (apply_assumption; assumption)⟩)))))) (by assumption) M.put_rec (by rw [← hput]; assumption)
end E_put_ok
theorem put_ok {w : World} {G : Heap} {L : Addr} {m : Str → Option Value} {p : Program} {loose : List Str} {mean : ExcName → Option Value} {mg mb : Str → Option Value} {E : Value → Shared → Prop} {s : Shared} {A : Around} {aw awd afi aop afl am : Addr} {nm : Str} {bl tl : List Nat} {c rec0 : Int} {tc tn tt tr : Tok} {oo om ofi : Obj} {kvm kvfi : List (Str × Value)} {kvo : List (Int × Value)} {rest : List (Addr × Obj)} {Q : Value → Shared → Prop} : P_put_ok w G L m p loose mean mg mb E s A aw awd afi aop afl am nm bl tl c rec0 tc tn tt tr oo om ofi kvm kvfi kvo rest Q := eps_all (Ψ := U_put_ok) E_put_ok.go (w, G, L, m, p, loose, mean, mg, mb, E, s, A, aw, awd, afi, aop, afl, am, nm, bl, tl, c, rec0, tc, tn, tt, tr, oo, om, ofi, kvm, kvfi, kvo, rest, Q)
section
variable {w : World} {G : Heap} {L : Addr} {m : Str → Option Value} {p : Program} {loose : List Str} {mean : ExcName → Option Value} {mg mb : Str → Option Value}
  {E : Value → Shared → Prop} {s : Shared} {A : Around}
end

section
variable {w : World} {G : Heap} {L : Addr} {m : Str → Option Value} {p : Program} {loose : List Str} {mean : ExcName → Option Value} {mg mb : Str → Option Value}
  {E : Value → Shared → Prop} {s : Shared} {A : Around}
theorem put_bn {env₀ : Env} {outer : List Env} {aw awd afi aop afl : Addr} {c n : Int} {tc tn tr : Tok} {oo : Obj} {kvo : List (Int × Value)} {main frs : List (Addr × Obj)} {Q : Value → Shared → Prop}
  (hA : A.frames = some (env₀ :: outer)) (hf₀ : env₀.frame = some L) (hk₀ : env₀.scope.kind ≠ .module) (Fs : Frs outer frs) (hoff : ∀ p ∈ main, ∀ q ∈ frs, p.1 ≠ q.1)
  (hh : A.handled = none) (hdp : A.depth ≤ 800) (hu : A.units ≤ 800)
  (F : Fr G L s.heap m) (T : Top p loose mean mg mb G) (X : (hd.heap_1 w.params).In G) (N : News G L s.heap (main ++ frs))
  (W : WorldAt (main ++ frs) aw awd afi aop afl) (m1 : (aop, oo) ∈ main ++ frs) (d1 : oo.IsDictOf (PySem.intKind PySem.Challenge.rw_pq0169_01.row.prog w) kvo) (lo1 : (aop == sysModules) = false)
  (v1 : valueAt kvo c = none)
  (hE : ∀ h' tk e dx frs', SameUp frs frs' → Frs outer frs' → Fr G L h' m → News G L h' (main ++ frs') → L ≠ e → L ≠ dx → Flying G h' e dx (Str.ofString "BN") (main ++ frs') → E (.ref e) { s with heap := h', toks := tk }) :
  wpAny (model PySem.Challenge.rw_pq0169_01.row.prog w) A (call (.ref 124) [.ref aw, .int c tc, .int n tn, .int 90 tr] []) Q E s := by
  revert X
  k_fill
  intro X
  refine wpAny_call ?_
  have hab := F.above
  have hLm : ∀ p ∈ main ++ frs, p.1 ≠ L := fun p hp => (N p hp).2.1
  refine' enter0 (binds := [(Str.ofString "world", .ref aw), (Str.ofString "channel", .int c tc), (Str.ofString "number", .int n tn), (Str.ofString "room", .int 90 tr)]) F X N (Top.nolimit T) ?k6 ?k7 ?k8 ?k9 ?kB ?_ ?c2 ?c3 ?c4 ?c5
  case k8 => exact Nat.lt_of_le_of_lt hdp (by decide)
  (((case k6 => k_is); (case k7 => k_is); (case k9 => first | exact BindsTo.of_eq rfl | exact binds_K (by k_in) rfl (by k_is) rfl rfl rfl); (case c5 => decide); (case kB => exact locs rfl); (case c2 => exact rfl); (case c3 => exact rfl); (case c4 => exact rfl)))
  intro L' h₁ oL hoL F' N' l0 l1
  clear F N
  dsimp only
  k_fold
  k_steps
  refine channel_bad (main := main) (frs := (L, oL) :: frs) (Around.frames_deeper hA) rfl (show ScopeKind.function ≠ ScopeKind.module by decide) ⟨hk₀, hf₀, hoL.1, Fs⟩ (fun p hp q hq => ?_) hh (by show A.depth + 1 ≤ 870; omega) (by show A.units + 3 ≤ 870; omega) (by k_asm) T X (news_sub (by k_asm) fun p hp => .tail _ (mem_mid p hp)) (W.sub fun p hp => mem_mid' p hp) (mem_mid' _ m1) d1 lo1 v1 ?_
  · refine mcons hq ?_ fun hq => ?_
    · exact hLm p (List.mem_append_left _ hp)
    · exact hoff p hp q hq
  intro h2 tk2 e dx frs1 SU Fs2 F3 N3 l2 l3 Fl
  k_unfold
  dsimp only
  refine pass_on (L' := L') hA hf₀ hk₀ hoL hab hLm hoff rfl (show ScopeKind.function ≠ ScopeKind.module by decide) SU Fs2 F3 N3 l2 l3 Fl ?_
  intro h3 frs' SU2 Fs' F4 N4 l4 l5 Fl2
  exact hE h3 _ e dx frs' SU2 Fs' F4 N4 l4 l5 Fl2
end

section
open LCg
variable {prog : Program} {w : World} {A : Around} {E : Value → Shared → Prop} {s : Shared} {G : Heap} {L : Addr} {m : Str → Option Value} {env : Env}

/- where one turn of a comprehension ends: the ledger as it was -/
def TurnEnd (G : Heap) (L : Addr) (m : Str → Option Value) (s : Shared) (I : Addr) (oI : Obj) (C D : Addr) (oD : Obj) (led : List (Addr × Obj)) (s₂ : Shared) : Prop :=
  ∃ h tk oC m', s₂ = { s with heap := h, toks := tk } ∧ NsObj oC m' ∧ Fr G L h m ∧ News G L h ((I, oI) :: (C, oC) :: (D, oD) :: led)

/- a list comprehension with one test, over any walk, that leaves the ledger as it is -/
theorem comp_turns {elt iter c tgt : PySem.Expr} {scope : Scope} {cl : List (Str × Addr)} {pos : Pos} {s₂ : Shared} {I : Addr} {fp : List Addr} {n : Nat} {P : Nat → Value → Prop} {St : Nat → Heap → Prop} {led : List (Addr × Obj)}
    {ys : Nat → List Value} {RR : Value → Addr → Result → Shared → Prop}
    (W : Walks prog w A I fp [I] n P St) (hsz : n ≤ sizeLine) (hIo : ∀ i h, St i h → ∃ o, h.get? I = some o)
    (hSt : ∀ i h h', St i h → (∀ o, h.get? I = some o → h'.get? I = some o) → News G L h' led → St i h')
    (hgo : ∀ i v (s : Shared) (Q : Unit → Shared → Prop) (E : Value → Shared → Prop), P i v → St (i + 1) s.heap → Q () s → wpAny (model prog w) A (letOwnedTupleGo tgt (.ref I) v) Q E s)
    (hcell : ∀ y ∈ scope.names, y.2 ≠ .cell) (hkind : scope.kind = .function) (hst : St 0 s₂.heap) (hfp : ∀ b ∈ fp, b < s₂.heap.objs.size)
    (F : Fr G L s₂.heap m) (N : News G L s₂.heap led) (hIL : L ≠ I) (hI₀ : G.get? I = none) (off : ∀ p ∈ led, p.1 ≠ I)
    (y0 : ys 0 = []) (yl : ∀ i, i ≤ n → (ys i).length ≤ i)
    (turn : ∀ i, i < n → ∀ v, P i v → ∀ oI C oC D m' h tk (E' : Value → Shared → Prop), NsObj oC m' → Fr G L h m → News G L h ((I, oI) :: (C, oC) :: (D, lst (ys i)) :: led) → Off3 I C D led → @Ne Nat I C → @Ne Nat I D → @Ne Nat C D →
      wpAny (model prog w) A (assign tgt (compEnvC scope cl C env) v) (fun _ s₃ => wpAny (model prog w) A (isTrue c (compEnvC scope cl C env) (eval c (compEnvC scope cl C env))) (fun ok s₄ => if ok = true then
          wpAny (model prog w) A (eval elt (compEnvC scope cl C env)) (fun y s₅ => ys (i + 1) = ys i ++ [y] ∧ TurnEnd G L m s₂ I oI C D (lst (ys i)) led s₅) E' s₄
        else ys (i + 1) = ys i ∧ TurnEnd G L m s₂ I oI C D (lst (ys i)) led s₄) E' s₃) E' { s₂ with heap := h, toks := tk })
    (hRR : ∀ D C h tk m', Fr G L h m → News G L h ((D, lst (ys n)) :: led) → Off1 D led → h.Ns C m' → G.get? C = none → G.get? D = none → C ≠ L → D ≠ L → C ≠ D → (∀ p ∈ led, p.1 ≠ C) → RR (.ref D) C (.ok .next) { s₂ with heap := h, toks := tk }) :
    wpAny (model prog w) A (newList []) (fun acc s₃ => wpAny (model prog w) A (newFunctionEnv scope env.globals cl [] env.qual none .none (some env)) (fun cenv s₄ =>
      codeAny (model prog w) A (.compStart (.ListComp elt [⟨tgt, iter, [c], 0⟩] scope pos) 0 (.ref I) acc { cenv with scope := relabel scope env }) (RR acc cenv.locals) s₄) E s₃) E s₂ := by
  refine wpAny_newObj_type (wpAny_newFunctionEnv hcell (by intro y hy; simp at hy) (fun h₁ hns₁ hsb₁ => ?_) hkind)
  dsimp only at hns₁ hsb₁ ⊢
  generalize hH2 : s₂.heap.push { cls := .type "list", dict := none, data := .seq ([] : List Value).toArray } = H2 at hns₁ hsb₁ ⊢
  have hC : H2.objs.size = s₂.heap.objs.size + 1 := by rw [← hH2, Heap.size_push]
  generalize hCC : H2.objs.size = C at *
  generalize hDD : s₂.heap.objs.size = D at *
  have fresh : ∀ a, D ≤ a → s₂.heap.get? a = none := fun a ha => by
    cases e : s₂.heap.get? a with
    | none => rfl
    | some o' => exact absurd (Heap.lt_size e) (Nat.not_lt.mpr (hDD ▸ ha))
  have freshG : ∀ a, D ≤ a → G.get? a = none := fun a ha => by
    cases e : G.get? a with
    | none => rfl
    | some o' => have := F.keep a o' e; rw [fresh a ha] at this; cases this
  have lt_of : ∀ b o, s₂.heap.get? b = some o → b < D := fun b o e => hDD ▸ Heap.lt_size e
  have hDC : D ≠ C := by rw [hC]; exact Nat.ne_of_lt (Nat.lt_succ_self _)
  have nD : ∀ b, b < D → b ≠ D := fun b hb => Nat.ne_of_lt hb
  have nC : ∀ b, b < D → b ≠ C := fun b hb => by rw [hC]; exact Nat.ne_of_lt (Nat.lt_succ_of_lt hb)
  have hIf : I ∈ fp := W.sub I (List.mem_singleton.mpr rfl)
  have hIlt : I < D := hfp I hIf
  have hLlt : L < D := by have := F.ns.lt; rw [hDD] at this; exact this
  have old : ∀ b o, s₂.heap.get? b = some o → h₁.get? b = some o := fun b o e => hsb₁.extBut b o (nC b (lt_of b o e)) (Heap.get?_push_of_some _ (hH2 ▸ Heap.get?_push_of_some _ e))
  have hacc : h₁.get? D = some (lst []) := hsb₁.extBut _ _ hDC (Heap.get?_push_of_some _ (by rw [← hH2, ← hDD]; exact Heap.get?_push_size _ rfl))
  have hst₁ : St 0 h₁ := W.frame _ _ _ hst fun b _ o e => old b o e
  have offs : ∀ p ∈ led, p.1 ≠ I ∧ p.1 ≠ C ∧ p.1 ≠ D := fun p hp => ⟨off p hp, nC _ (lt_of _ _ (N p hp).1), nD _ (lt_of _ _ (N p hp).1)⟩
  have hCL : C ≠ L := Ne.symm (nC L hLlt)
  have hDL : D ≠ L := Ne.symm (nD L hLlt)
  have hC₀ : G.get? C = none := freshG _ (by rw [hC]; exact Nat.le_succ _)
  have hD₀ : G.get? D = none := freshG _ (Nat.le_refl _)
  have loop : ∀ s₃ : Shared, s₃ = { s₂ with heap := h₁, toks := s₂.toks + ([] : List (Str × Value)).length } →
      codeAny (model prog w) A (.compLoop (.ListComp elt [⟨tgt, iter, [c], 0⟩] scope pos) 0 (.ref I) (.ref D) (compEnvC scope cl C env)) (RR (.ref D) C) s₃ := by
    rintro s₃ rfl
    refine kct_loop (fun k s' => ∃ h' tk i m', s' = { s₂ with heap := h', toks := tk } ∧ i ≤ n ∧ k = n + 1 - i ∧ St i h' ∧ Fr G L h' m ∧ h'.Ns C m' ∧ News G L h' ((D, lst (ys i)) :: led)) ?_ (n + 1)
      ⟨h₁, _, 0, _, rfl, Nat.zero_le _, rfl, hst₁, F.keeps old, hns₁, fun p hp => ?_⟩
    · intro k s' N_1
      refine ex4_7 N_1 ?_; intro h' tk i m' E_2 hi E_3 hst' F' hn' N'
      try clear N_1
      subst E_2
      subst E_3
      have offD : ∀ p ∈ (D, lst (ys i)) :: led, p.1 ≠ I := fun p hp => by
        refine mcons hp ?_ fun hp => ?_
        · exact Ne.symm (nD I hIlt)
        · exact (offs p hp).1
      by_cases hlt : i < n
      · refine W.item i _ _ _ hlt hst' fun v h₂ tk₂ hPv hst₂ hk₂ => ?_
        refine hgo i v _ _ _ hPv hst₂ ?_
        refine ex1_1 (hIo _ _ hst₂) ?_; intro oI heI
        refine ex1_2 (ns_obj (hn'.at' fun o e => hk₂ _ o (by simpa using Ne.symm (nC I hIlt)) e)) ?_; intro oC heC hoC
        have F₂ : Fr G L h₂ m := fr_but F' hk₂ hIL hI₀
        have N₂ : News G L h₂ ((I, oI) :: (C, oC) :: (D, lst (ys i)) :: led) := fun p hp => by
          refine mcons hp ?_ fun hp => ?_
          · exact ⟨heI, Ne.symm hIL, hI₀⟩
          · refine mcons hp ?_ fun hp => ?_
            · exact ⟨heC, hCL, hC₀⟩
            · exact news_but N' hk₂ offD p hp
        have next : ∀ (y' : List Value) (h₃ : Heap) (tk₃ : Nat) (oC' : Obj) (m'' : Str → Option Value), NsObj oC' m'' → Fr G L h₃ m → News G L h₃ ((I, oI) :: (C, oC') :: (D, lst y') :: led) → ys (i + 1) = y' →
            ∃ q, q < n + 1 - i ∧ ∃ h' tk i m', ({ s₂ with heap := h₃, toks := tk₃ } : Shared) = { s₂ with heap := h', toks := tk } ∧ i ≤ n ∧ q = n + 1 - i ∧ St i h' ∧ Fr G L h' m ∧ h'.Ns C m' ∧ News G L h' ((D, lst (ys i)) :: led) := by
          intro y' h₃ tk₃ oC' m'' hoC' F₃ N₃ ey
          refine ⟨n + 1 - (i + 1), by omega, h₃, tk₃, i + 1, m'', rfl, hlt, rfl, hSt _ _ _ hst₂ (fun o e => ?_) (fun p hp => N₃ p (.tail _ (.tail _ (.tail _ hp)))), F₃, hoC'.ns (N₃ _ (.tail _ (.head _))).1, ?_⟩
          · rw [heI] at e; cases e; exact (N₃ _ (.head _)).1
          · rw [ey]; exact fun p hp => N₃ p (.tail _ (.tail _ hp))
        refine wpAny_mono (turn i hlt v hPv oI C oC D _ h₂ tk₂ _ hoC F₂ N₂ (Off3.of offs) (nC I hIlt) (nD I hIlt) (Ne.symm hDC)) (fun _ s₃ h₃ => wpAny_mono h₃ (fun ok s₄ h₄ => ?_) fun _ _ e => e) fun _ _ e => e
        cases ok with
        | false =>
          simp only [Bool.false_eq_true, if_false] at h₄ ⊢
          obtain ⟨ey, h₅, tk₅, oC', m'', E_4, hoC', F₅, N₅⟩ := h₄
          try clear h₄
          subst E_4
          exact next _ _ _ _ _ hoC' F₅ N₅ ey
        | true =>
          simp only [if_true] at h₄ ⊢
          refine wpAny_mono h₄ (fun y s₅ h₅ => ?_) fun _ _ e => e
          revert h₅
          intro O_5
          obtain ⟨ey, h₅, tk₅, oC', m'', E_6, hoC', F₅, N₅⟩ := O_5
          try clear O_5
          subst E_6
          refine append_at (hsz := by show (ys i).toArray.size ≤ sizeLine; rw [List.size_toArray]; exact Nat.le_trans (Nat.le_trans (yl i hi) hi) hsz) (N₅ _ (.tail _ (.tail _ (.head _)))).1 fun h₆ hs₆ hD₆ => ?_
          refine next (ys i ++ [y]) h₆ _ oC' m'' hoC' (F₅.change hs₆ hDL hD₀) (fun p hp => ?_) ey
          refine mcons hp ?_ fun hp => ?_
          · exact ⟨hs₆.extBut _ _ (nD I hIlt) (N₅ _ (.head _)).1, (N₅ _ (.head _)).2⟩
          refine mcons hp ?_ fun hp => ?_
          · exact ⟨hs₆.extBut _ _ (Ne.symm hDC) (N₅ _ (.tail _ (.head _))).1, (N₅ _ (.tail _ (.head _))).2⟩
          refine mcons hp ?_ fun hp => ?_
          · exact ⟨hD₆.trans (congrArg some (lst_snoc (ys i) y)), hDL, hD₀⟩
          · have z := N₅ p (.tail _ (.tail _ (.tail _ hp)))
            exact ⟨hs₆.extBut _ _ (offs p hp).2.2 z.1, z.2⟩
      · obtain rfl : i = n := Nat.le_antisymm hi (Nat.not_lt.mp hlt)
        refine W.done _ _ _ hst' fun h₂ tk₂ hk₂ => ?_
        exact hRR _ _ h₂ tk₂ _ (fr_but F' hk₂ hIL hI₀) (news_but N' hk₂ offD) (Off3.of offs).one (hn'.at' fun o e => hk₂ _ o (by simpa using Ne.symm (nC I hIlt)) e) hC₀ hD₀ hCL hDL (Ne.symm hDC) (fun p hp => (offs p hp).2.1)
    · refine mcons hp ?_ fun hp => ?_
      · exact ⟨by rw [y0]; exact hacc, hDL, hD₀⟩
      · exact ⟨old _ _ (N p hp).1, (N p hp).2⟩
  exact codeAny_compStart_list (loop _ rfl) (W.self 0 _ _ _ hst₁ (loop _ rfl))

/- the same, over a list of the ledger -/
theorem comp_list {elt iter c tgt : PySem.Expr} {scope : Scope} {cl : List (Str × Addr)} {pos : Pos} {led : List (Addr × Obj)} {ys : Nat → List Value} {Q : Value → Shared → Prop} {src : Addr} {xs : List Value} {k : Nat}
    (_F₀ : Fr G L s.heap m) (_N₀ : News G L s.heap led) (hm : (src, listOf xs.toArray k) ∈ led) (hsz : xs.length ≤ sizeLine) (y0 : ys 0 = []) (yl : ∀ i, i ≤ xs.length → (ys i).length ≤ i)
    (hgo : ∀ v I l j (s : Shared) (Q : Unit → Shared → Prop) (E : Value → Shared → Prop), v ∈ xs → s.heap.IsListIter I l j → Q () s → wpAny (model prog w) A (letOwnedTupleGo tgt (.ref I) v) Q E s)
    (hclos : closureFor scope env = pure cl) (hcell : ∀ y ∈ scope.names, y.2 ≠ .cell) (hkind : scope.kind = .function)
    (hnames : ∀ y ∈ scope.names, y.2 = .local → scope.names.lookup y.1 = some .local) (hh : A.handled = none)
    (h : wpAny (model prog w) A (eval iter env) (fun x s₁ => x = .ref src ∧ Fr G L s₁.heap m ∧ News G L s₁.heap led ∧
      (∀ g, (∀ i, i < xs.length → ∀ v, xs[i]? = some v → ∀ I oI C oC D m' h tk (E' : Value → Shared → Prop), NsObj oC m' → Fr G L h m → News G L h ((I, oI) :: (C, oC) :: (D, lst (ys i)) :: led) → Off3 I C D led → @Ne Nat I C → @Ne Nat I D → @Ne Nat C D →
        wpAny (model prog w) A (assign tgt (compEnvC scope cl C env) v) (fun _ s₃ => wpAny (model prog w) A (isTrue c (compEnvC scope cl C env) (eval c (compEnvC scope cl C env))) (fun ok s₄ => if ok = true then
          wpAny (model prog w) A (eval elt (compEnvC scope cl C env)) (fun y s₅ => ys (i + 1) = ys i ++ [y] ∧ TurnEnd G L m { s₁ with heap := g } I oI C D (lst (ys i)) led s₅) E' s₄
        else ys (i + 1) = ys i ∧ TurnEnd G L m { s₁ with heap := g } I oI C D (lst (ys i)) led s₄) E' s₃) E' { s₁ with heap := h, toks := tk })) ∧
      (∀ D h tk, Fr G L h m → News G L h ((D, lst (ys xs.length)) :: led) → Off1 D led → Q (.ref D) { s₁ with heap := h, toks := tk })) E s)
    (hs : ∀ x, foldedSetIterable iter env x = pure x := by intro _; rfl) :
    wpAny (model prog w) A (eval (.ListComp elt [⟨tgt, iter, [c], 0⟩] scope pos) env) Q E s := by
  rw [eval_ListComp]
  refine wpAny_comprehension_free (use := none) rfl hs hclos hkind hnames (wpAny_mono h (fun xv s₁ h₁ => ?_) fun _ _ e => e)
  refine ex0_5 h₁ ?_; intro E_7 F N turn hQ
  try clear h₁
  subst E_7
  have hl : s₁.heap.IsList src xs.toArray := N.isList hm
  have hlt : src < s₁.heap.objs.size := Heap.lt_size (N _ hm).1
  refine wpAny_pyIter_list hl ?_
  have up : ∀ b o, s₁.heap.get? b = some o → (s₁.heap.push { cls := .type "list_iterator", data := .fields #[.ref src, .int 0 0] }).get? b = some o := fun b o e => Heap.get?_push_of_some _ e
  refine comp_turns (n := xs.toArray.size) (led := led) (Walks.list hh s₁.heap.objs.size src (Nat.ne_of_lt hlt) xs.toArray) (by simpa using hsz) (fun i h st => by obtain ⟨o, e, _⟩ := st.1; exact ⟨o, e⟩) (fun i h h' st e N' => ⟨st.1.at e, N'.isList hm⟩)
    (fun i v s Q E hv st q => hgo v _ _ _ s Q E (List.mem_of_getElem? (by simpa using hv)) st.1 q) hcell hkind ⟨⟨_, Heap.get?_push_size _ rfl, rfl, rfl⟩, hl.push _⟩ (fun b hb => ?_) (F.keeps up) (N.grown up) (Nat.ne_of_lt F.ns.lt) (next_is_new F) (fun p hp => Nat.ne_of_lt (Heap.lt_size (N p hp).1)) y0 (by simpa using yl) ?_ ?_
  · show b < (s₁.heap.push _).objs.size
    rw [Heap.size_push]
    refine mcons hb ?_ fun hb => ?_
    · exact Nat.lt_succ_self _
    · rw [List.mem_singleton.mp hb]; exact Nat.lt_succ_of_lt hlt
  · intro i hi v hv oI C oC D m' h tk E' a b c d e f g
    exact turn _ i (by simpa using hi) v (by simpa using hv) _ oI C oC D m' h tk E' a b c d e f g
  · intro D C h tk m' F' N' o1 hn hC₀ hD₀ hCL hDL hCD offC
    refine ⟨m', hn, fun h'' hs'' => hQ D h'' tk (F'.change hs'' hCL hC₀) (fun p hp => ?_) o1⟩
    have N'' : News G L h ((D, lst (ys xs.length)) :: led) := by simpa using N'
    refine ⟨hs''.extBut _ _ ?_ (N'' p hp).1, (N'' p hp).2⟩
    refine mcons hp ?_ fun hp => ?_
    · exact Ne.symm hCD
    · exact offC p hp
end

/- a list of (number, name) tuples of the ledger -/
def PartsIn (led : List (Addr × Obj)) : List Value → List (Int × Str) → Prop
  | [], [] => True
  | v :: vs, p :: ps => (∃ T k t u, v = .ref T ∧ (T, tupOf #[.int p.1 t, .str p.2 u] k) ∈ led) ∧ PartsIn led vs ps
  | _, _ => False
theorem PartsIn.sub {led led' : List (Addr × Obj)} (h : ∀ p ∈ led, p ∈ led') : ∀ {vs : List Value} {ps : List (Int × Str)}, PartsIn led vs ps → PartsIn led' vs ps
  | [], [], _ => trivial
  | _ :: _, _ :: _, ⟨⟨T, k, t, u, e, m⟩, r⟩ => ⟨⟨T, k, t, u, e, h _ m⟩, PartsIn.sub h r⟩
  | [], _ :: _, x => x.elim
  | _ :: _, [], x => x.elim
theorem PartsIn.length {led : List (Addr × Obj)} : ∀ {vs : List Value} {ps : List (Int × Str)}, PartsIn led vs ps → vs.length = ps.length
  | [], [], _ => rfl
  | _ :: _, _ :: _, ⟨_, r⟩ => congrArg (· + 1) r.length
  | [], _ :: _, x => x.elim
  | _ :: _, [], x => x.elim
theorem PartsIn.append {led : List (Addr × Obj)} : ∀ {vs us : List Value} {ps qs : List (Int × Str)}, PartsIn led vs ps → PartsIn led us qs → PartsIn led (vs ++ us) (ps ++ qs)
  | [], _, [], _, _, y => y
  | _ :: _, _, _ :: _, _, ⟨a, r⟩, y => ⟨a, r.append y⟩
  | [], _, _ :: _, _, x, _ => x.elim
  | _ :: _, _, [], _, x, _ => x.elim
theorem PartsIn.at {led : List (Addr × Obj)} : ∀ {vs : List Value} {ps : List (Int × Str)}, PartsIn led vs ps → ∀ {i : Nat} {v : Value}, vs[i]? = some v → ∃ p T k t u, ps[i]? = some p ∧ v = .ref T ∧ (T, tupOf #[.int p.1 t, .str p.2 u] k) ∈ led
  | [], [], _, i, v, e => by simp at e
  | w :: vs, p :: ps, ⟨⟨T, k, t, u, e', m⟩, r⟩, 0, v, e => by
    have : w = v := by simpa using e
    subst this
    exact in5_3 p T k t u rfl e' m
  | w :: vs, p :: ps, ⟨_, r⟩, i + 1, v, e => by
    refine ex5_2 (PartsIn.at r (i := i) (v := v) (by simpa using e)) ?_; intro q T k t u a b
    exact in5_2 q T k t u (by simpa using a) b
  | [], _ :: _, x, _, _, _ => x.elim
  | _ :: _, [], x, _, _, _ => x.elim

section
open LCg
variable {prog : Program} {w : World} {A : Around} {E : Value → Shared → Prop} {s : Shared} {G : Heap} {L : Addr} {m : Str → Option Value} {env : Env}
theorem intsAre_snoc : ∀ {vs : List Value} {ns : List Int} {n : Int} {t : Tok}, IntsAre vs ns → IntsAre (vs ++ [.int n t]) (ns ++ [n]) := fun h => h.append (.cons _ _ .nil)

/- [many for many, name in parts] -/
theorem comp_firsts {iter : PySem.Expr} {a b : Str} {pa pb tp pe : Pos} {kk : Nat} {scope : Scope} {cl : List (Str × Addr)} {pos : Pos} {led : List (Addr × Obj)} {Q : Value → Shared → Prop} {src : Addr} {xs : List Value} {ps : List (Int × Str)} {k : Nat}
    (F₀ : Fr G L s.heap m) (_N₀ : News G L s.heap led) (hm : (src, listOf xs.toArray k) ∈ led) (hsz : xs.length ≤ sizeLine) (P : PartsIn led xs ps) (hh : A.handled = none)
    (hclos : closureFor scope env = pure cl) (hcell : ∀ y ∈ scope.names, y.2 ≠ .cell) (hkind : scope.kind = .function)
    (hnames : ∀ y ∈ scope.names, y.2 = .local → scope.names.lookup y.1 = some .local) (hx : scope.names.lookup a = some .local) (hx₂ : scope.names.lookup b = some .local) (hxx : a ≠ b) (hdb : (a == ("__debug__" : Str)) = false)
    (h : wpAny (model prog w) A (eval iter env) (fun x s₁ => x = .ref src ∧ Fr G L s₁.heap m ∧ News G L s₁.heap led ∧
      ∀ D h tk ys, Fr G L h m → News G L h ((D, lst ys) :: led) → Off1 D led → IntsAre ys (ps.map (·.1)) → Q (.ref D) { s₁ with heap := h, toks := tk }) E s)
    (hs : ∀ x, foldedSetIterable iter env x = pure x := by intro _; rfl) :
    wpAny (model prog w) A (eval (.ListComp (.Name a pe) [⟨.Tuple [.Name a pa, .Name b pb] kk tp, iter, [], 0⟩] scope pos) env) Q E s := by
  refine LCp.ListComp_P F₀ hclos hcell hkind hnames hx hx₂ hxx (wpAny_mono h (fun x s₁ h₁ => ?_) fun _ _ e => e) hs
  refine ex0_4 h₁ ?_; intro E_1 F N hQ
  try clear h₁
  subst E_1
  refine LCp.SrcLP.ledger hh F N hm (by simpa using hsz) fun g => ?_
  have key : ∀ r i ys, i + r = xs.length → IntsAre ys ((ps.take i).map (·.1)) → LCp.CompRestP prog w A G L m env (.Name a pe) a b scope cl { s₁ with heap := g } (SrcAt G src xs.toArray) (fun i v => xs.toArray[i]? = some v)
      (FinE G L m { s₁ with heap := g } Q) r i ys led := by
    intro r
    induction r with
    | zero =>
      intro i ys e hy
      refine LCp.CompRestP.zero ?_
      intro D h tk F' N' o
      refine hQ D h tk ys F' N' o ?_
      rw [List.take_of_length_le (by rw [← P.length]; omega)] at hy
      exact hy
    | succ r ih =>
      intro i ys e hy
      refine LCp.CompRestP.succ fun v hv => ?_
      refine ex5_3 (P.at (i := i) (v := v) (by simpa using hv)) ?_; intro p T k' t u hp E_2 hmT
      subst E_2
      refine in5_5 T _ _ _ _ rfl hmT rfl rfl ?_
      intro I oI C oC D m₂ h tk E' hC ha hb F' N' off ne
      refine LCgL.ld_own N' (.tail _ (.head _)) hC ha ?_ hkind (lookup_relabel_local hx) hdb
      refine CompEnd.intro F' N' led (fun _ h => h) off (.inr ⟨_, hm, rfl, _, rfl⟩) ?_
      refine ih (i + 1) _ (by omega) ?_
      rw [List.take_add_one, hp]
      simpa using intsAre_snoc hy
  simpa using key xs.length 0 [] (by omega) .nil
end

section
variable {prog : Program} {w : World} {A : Around} {E : Value → Shared → Prop} {s : Shared} {env : Env} {G : Heap} {target : PySem.Expr} {body : List Stmt} {Q : Flow → Shared → Prop} {α : Type}
/- where one turn of a for ends -/
def LoopEnd (G : Heap) (L : Addr) (s : Shared) (I : Addr) (oI : Obj) (J : (Str → Option Value) → List (Addr × Obj) → Prop) (s₃ : Shared) : Prop :=
  ∃ h' tk' m' news', s₃ = { s with heap := h', toks := tk' } ∧ Fr G L h' m' ∧ News G L h' ((I, oI) :: news') ∧ (∀ p ∈ news', p.1 ≠ I) ∧ J m' news'
/- a for over values, with a statement J of what is left, the names and the ledger -/
theorem items_ind {src : Addr} {lo : Obj} {I : Addr} (J : List α → List Value → (Str → Option Value) → List (Addr × Obj) → Prop)
    (hlen : ∀ as vs m news, J as vs m news → as.length = vs.length)
    (hsrc : ∀ as vs m news, J as vs m news → (src, lo) ∈ news)
    (step : ∀ a as v vs m news h tk oI, J (a :: as) (v :: vs) m news → Fr G env.locals h m → News G env.locals h ((I, oI) :: news) →
      wpAny (model prog w) A (assign target env v) (fun _ s₂ => wpAny (model prog w) A (execs body env) (fun f s₃ => match f with
        | .ret v => Q (.ret v) s₃
        | .brk => Q .next s₃
        | _ => LoopEnd G env.locals { s with heap := h, toks := tk } I oI (J as vs) s₃) E s₂) E { s with heap := h, toks := tk })
    (done : ∀ m news h tk, J [] [] m news → Fr G env.locals h m → News G env.locals h news → Q .next { s with heap := h, toks := tk }) :
    ∀ vs as m news, J as vs m news → ItemsRest prog w A E G env target body Q s [(I, "list_iterator")] [(src, lo)] (vs.map .val) m news := by
  intro vs
  induction vs with
  | nil =>
    intro as m news hJ
    have e : as = [] := List.length_eq_zero_iff.mp (by rw [hlen _ _ _ _ hJ]; rfl)
    subst e
    exact ItemsRest.zero fun h tk F N => done m news h tk hJ F N
  | cons v vs ih =>
    intro as m news hJ
    cases as with
    | nil => exact absurd (hlen _ _ _ _ hJ) (by simp)
    | cons a as =>
      refine ItemsRest.val fun h tk F => AllObj.cons fun oI _ => AllObj.nil fun N => ?_
      refine wpAny_mono (step a as v vs m news h tk oI hJ F N) (fun _ s₂ h₂ => wpAny_mono h₂ (fun f s₃ h₃ => ?_) fun _ _ e => e) fun _ _ e => e
      have fin : LoopEnd G env.locals { s with heap := h, toks := tk } I oI (J as vs) s₃ →
          UnrEndW G env.locals { s with heap := h, toks := tk } [(I, oI)] (fun m' n' => SubL [(src, lo)] n' ∧ ItemsRest prog w A E G env target body Q s [(I, "list_iterator")] [(src, lo)] (vs.map .val) m' n') s₃ := by
        intro N_3
        refine ex4_5 N_3 ?_; intro h' tk' m' news' E_4 F' N' off J'
        try clear N_3
        subst E_4
        exact in4_6 h' tk' m' news' rfl F' N' (fun p hp q hq => by rw [List.mem_singleton.mp hq]; exact off p hp) (And.intro (hsrc _ _ _ _ J') trivial) (ih as m' news' J')
      cases f with
      | ret v => exact h₃
      | brk => exact h₃
      | next => exact fin h₃
      | cont => exact fin h₃
end

/- channel, place, signs -/
abbrev Fld := Int × Int × Int
def IsFld (led : List (Addr × Obj)) (v : Value) (x : Fld) : Prop := ∃ T k t1 t2 t3, v = .ref T ∧ (T, tupOf #[.int x.1 t1, .int x.2.1 t2, .int x.2.2 t3] k) ∈ led
/- the fields' dict against what it says -/
def Rel {α : Type} (R : Value → α → Prop) : List (Str × Value) → List (Str × α) → Prop
  | [], [] => True
  | p :: r, q :: r' => p.1 = q.1 ∧ R p.2 q.2 ∧ Rel R r r'
  | _, _ => False
theorem Rel.mono {α : Type} {R R' : Value → α → Prop} (h : ∀ v x, R v x → R' v x) : ∀ {a : List (Str × Value)} {b : List (Str × α)}, Rel R a b → Rel R' a b
  | [], [], _ => trivial
  | _ :: _, _ :: _, ⟨e, r, x⟩ => ⟨e, h _ _ r, Rel.mono h x⟩
  | [], _ :: _, x => x.elim
  | _ :: _, [], x => x.elim
theorem Rel.length {α : Type} {R : Value → α → Prop} : ∀ {a : List (Str × Value)} {b : List (Str × α)}, Rel R a b → a.length = b.length
  | [], [], _ => rfl
  | _ :: _, _ :: _, ⟨_, _, x⟩ => congrArg (· + 1) x.length
  | [], _ :: _, x => x.elim
  | _ :: _, [], x => x.elim
theorem Rel.keys {α : Type} {R : Value → α → Prop} : ∀ {a : List (Str × Value)} {b : List (Str × α)}, Rel R a b → a.map (·.1) = b.map (·.1)
  | [], [], _ => rfl
  | _ :: _, _ :: _, ⟨e, _, x⟩ => by simp [e, x.keys]
  | [], _ :: _, x => x.elim
  | _ :: _, [], x => x.elim
/- what a name has -/
def look {α : Type} (l : List (Str × α)) (n : Str) : Option α := (l.find? fun p => p.1 = n).map (·.2)
theorem look_cons {α : Type} (p : Str × α) (r : List (Str × α)) (n : Str) : look (p :: r) n = if p.1 = n then some p.2 else look r n := by
  unfold look
  by_cases h : p.1 = n <;> simp [h]
theorem Rel.look {α : Type} {R : Value → α → Prop} : ∀ {a : List (Str × Value)} {b : List (Str × α)}, Rel R a b → ∀ n, (valueAt a n = none ∧ look b n = none) ∨ ∃ v x, valueAt a n = some v ∧ look b n = some x ∧ R v x
  | [], [], _, n => .inl ⟨rfl, rfl⟩
  | p :: r, q :: r', ⟨e, hr, x⟩, n => by
    rw [valueAt_cons, look_cons, ← e]
    by_cases h : p.1 = n
    · exact .inr ⟨p.2, q.2, by simp [h], by simp [h], hr⟩
    · simpa [h] using Rel.look x n
  | [], _ :: _, x, _ => x.elim
  | _ :: _, [], x, _ => x.elim
def putN {α : Type} (l : List (Str × α)) (n : Str) (x : α) : List (Str × α) :=
  if (look l n).isSome then l.map (fun p => if p.1 = n then (p.1, x) else p) else l ++ [(n, x)]
def dropN {α : Type} (l : List (Str × α)) (n : Str) : List (Str × α) := l.filter fun p => decide (p.1 ≠ n)
theorem Rel.map_put {α : Type} {R : Value → α → Prop} {n : Str} {v : Value} {x : α} (h : R v x) : ∀ {a : List (Str × Value)} {b : List (Str × α)}, Rel R a b → Rel R (a.map fun p => if p.1 = n then (p.1, v) else p) (b.map fun p => if p.1 = n then (p.1, x) else p)
  | [], [], _ => trivial
  | p :: r, q :: r', ⟨e, hr, y⟩ => by
    refine ⟨?_, ?_, Rel.map_put h y⟩
    · by_cases c : p.1 = n <;> simp [c, ← e]
    · by_cases c : p.1 = n
      · simpa [c, ← e] using h
      · simpa [c, ← e] using hr
  | [], _ :: _, x => x.elim
  | _ :: _, [], x => x.elim
theorem Rel.snoc {α : Type} {R : Value → α → Prop} {n : Str} {v : Value} {x : α} (h : R v x) : ∀ {a : List (Str × Value)} {b : List (Str × α)}, Rel R a b → Rel R (a ++ [(n, v)]) (b ++ [(n, x)])
  | [], [], _ => ⟨rfl, h, trivial⟩
  | _ :: _, _ :: _, ⟨e, r, y⟩ => ⟨e, r, Rel.snoc h y⟩
  | [], _ :: _, x => x.elim
  | _ :: _, [], x => x.elim
theorem Rel.put {α : Type} {R : Value → α → Prop} {n : Str} {v : Value} {x : α} (h : R v x) {a : List (Str × Value)} {b : List (Str × α)} (y : Rel R a b) : Rel R (stored a n v) (putN b n x) := by
  unfold stored putN
  have e : (a.any fun kv => decide (kv.1 = n)) = (_root_.Mine.look b n).isSome := by
    rw [any_key]
    rcases y.look n with ⟨h1, h2⟩ | ⟨v, x, h1, h2, _⟩
    · rw [h1, h2]; rfl
    · rw [h1, h2]; rfl
  rw [e]
  split
  · exact y.map_put h
  · exact y.snoc h
theorem Rel.filter {α : Type} {R : Value → α → Prop} (f : Str → Bool) : ∀ {a : List (Str × Value)} {b : List (Str × α)}, Rel R a b → Rel R (a.filter fun p => f p.1) (b.filter fun p => f p.1)
  | [], [], _ => trivial
  | p :: r, q :: r', ⟨e, hr, y⟩ => by
    rw [List.filter_cons, List.filter_cons, ← e]
    cases f p.1
    · simp only [Bool.false_eq_true, if_false]; exact Rel.filter f y
    · simp only [if_true]; exact ⟨e, hr, Rel.filter f y⟩
  | [], _ :: _, x => x.elim
  | _ :: _, [], x => x.elim
theorem putN_len {α : Type} (l : List (Str × α)) (n : Str) (x : α) : (putN l n x).length ≤ l.length + 1 := by
  unfold putN; split <;> simp
abbrev FieldsAt (led : List (Addr × Obj)) : List (Str × Value) → List (Str × Fld) → Prop := Rel (IsFld led)
theorem IsFld.sub {led led' : List (Addr × Obj)} (h : ∀ p ∈ led, p ∈ led') {v : Value} {x : Fld} : IsFld led v x → IsFld led' v x := fun ⟨T, k, a, b, c, e, m⟩ => ⟨T, k, a, b, c, e, h _ m⟩
theorem FieldsAt.sub {led led' : List (Addr × Obj)} (h : ∀ p ∈ led, p ∈ led') {a : List (Str × Value)} {b : List (Str × Fld)} (x : FieldsAt led a b) : FieldsAt led' a b := Rel.mono (fun _ _ y => y.sub h) x
/- what set_fields makes of the fields -/
def fput (c : Int) : Int → List (Str × Fld) → List (Int × Str) → List (Str × Fld)
  | _, fl, [] => fl
  | a, fl, p :: r => fput c (a + p.1) (putN fl p.2 (c, a, p.1)) r
theorem Rel.drop {α : Type} {R : Value → α → Prop} {a : List (Str × Value)} {b : List (Str × α)} (y : Rel R a b) (n : Str) : Rel R (without a n) (dropN b n) := y.filter (fun z => decide (z ≠ n))
theorem look_mem {α : Type} : ∀ {l : List (Str × α)} {n : Str} {x : α}, look l n = some x → (n, x) ∈ l
  | [], _, _, h => by simp [look] at h
  | p :: r, n, x, h => by
    rw [look_cons] at h
    by_cases e : p.1 = n
    · rw [if_pos e] at h
      have : p = (n, x) := Prod.ext e (Option.some.inj h)
      rw [this]; exact .head _
    · rw [if_neg e] at h
      exact .tail _ (look_mem h)
theorem look_some {α : Type} : ∀ {l : List (Str × α)} {p : Str × α}, p ∈ l → ∃ x, look l p.1 = some x
  | q :: r, p, h => by
    rw [look_cons]
    by_cases e : q.1 = p.1
    · exact ⟨q.2, by rw [if_pos e]⟩
    · rw [if_neg e]
      rcases List.mem_cons.mp h with rfl | h
      · exact absurd rfl e
      · exact look_some h
theorem look_uniq {α : Type} : ∀ {l : List (Str × α)}, (l.map (·.1)).Nodup → ∀ {p q : Str × α}, p ∈ l → q ∈ l → p.1 = q.1 → p = q
  | [], _, _, _, hp, _, _ => nomatch hp
  | r :: l, hn, p, q, hp, hq, e => by
    rw [List.map_cons, List.nodup_cons] at hn
    rcases List.mem_cons.mp hp with h1 | h1 <;> rcases List.mem_cons.mp hq with h2 | h2
    · rw [h1, h2]
    · exact absurd (show r.1 ∈ l.map (·.1) from List.mem_map.mpr ⟨q, h2, by rw [← e, h1]⟩) hn.1
    · exact absurd (show r.1 ∈ l.map (·.1) from List.mem_map.mpr ⟨p, h1, by rw [e, h2]⟩) hn.1
    · exact look_uniq hn.2 h1 h2 e
def keepC (c : Int) (as : List Str) (p : Str × Fld) : Bool := decide (p.2.1 ≠ c) || decide (p.1 ∈ as)
theorem keepC_step {fl : List (Str × Fld)} {c : Int} {a : Str} {as : List Str} {x : Fld} (hn : (fl.map (·.1)).Nodup) (ha : a ∉ as) (hx : (a, x) ∈ fl) :
    (if x.1 = c then dropN (fl.filter (keepC c (a :: as))) a else fl.filter (keepC c (a :: as))) = fl.filter (keepC c as) := by
  by_cases hc : x.1 = c
  · rw [if_pos hc]
    unfold dropN
    rw [List.filter_filter]
    refine List.filter_congr fun p hp => ?_
    by_cases e : p.1 = a
    · have : p = (a, x) := look_uniq hn hp hx e
      subst this
      simp [keepC, hc, ha]
    · simp [keepC, e]
  · rw [if_neg hc]
    refine List.filter_congr fun p hp => ?_
    by_cases e : p.1 = a
    · have : p = (a, x) := look_uniq hn hp hx e
      subst this
      simp [keepC, hc]
    · simp [keepC, e]

section
open LCg
variable {prog : Program} {w : World} {A : Around} {E : Value → Shared → Prop} {s : Shared} {G : Heap} {L : Addr} {m : Str → Option Value} {env : Env}
/- a post that the walk does not open -/
def Mid {α : Type} (P : α → Shared → Prop) (a : α) (s : Shared) : Prop := P a s

theorem comp_pair {a b : Str} {pa pb tp : Pos} {kk : Nat} {scope : Scope} {cl : List (Str × Addr)} {I C D T : Addr} {oI oC oD : Obj} {x y : Value} {m' : Str → Option Value} {led : List (Addr × Obj)} {Q : Unit → Shared → Prop} {n : Nat}
    (hh : A.handled = none) (hC : NsObj oC m') (F : Fr G L s.heap m) (N : News G L s.heap ((I, oI) :: (C, oC) :: (D, oD) :: led)) (off : Off3 I C D led) (ne1 : @Ne Nat I C) (ne3 : @Ne Nat C D)
    (hm : (T, tupOf #[x, y] n) ∈ led) (hxa : scope.names.lookup a = some .local) (hxb : scope.names.lookup b = some .local) (hab : ¬ a = b) (hkind : scope.kind = .function)
    (h : ∀ h' tk oC' m'', NsObj oC' m'' → m'' a = some x → m'' b = some y → Fr G L h' m → News G L h' ((I, oI) :: (C, oC') :: (D, oD) :: led) → Q () { s with heap := h', toks := tk }) :
    wpAny (model prog w) A (assign (.Tuple [.Name a pa, .Name b pb] kk tp) (compEnvC scope cl C env) (.ref T)) Q E s := by
  have zC := N _ (.tail _ (.head _))
  have hT : s.heap.IsTuple T #[x, y] := ⟨_, (N _ (.tail _ (.tail _ (.tail _ hm)))).1, rfl, _, rfl⟩
  refine kcp_assign (env := compEnvC scope cl C env) hh hT (lookup_relabel_local hxa) (lookup_relabel_local hxb) (by simp [compEnvC, relabel, hkind]) (hC.ns zC.1) fun h₄ tk₄ hn₄ hs₄ => ?_
  refine ex1_2 (ns_obj hn₄) ?_; intro oC' heC hoC
  have offs := off.mem
  refine h h₄ tk₄ oC' _ hoC (by simp [hab]) (by simp) ⟨F.ns.at' fun o e => hs₄ _ o (Ne.symm zC.2.1) e, fun c o e => hs₄ c o (fun q => by have q' : c = C := q; rw [q', zC.2.2] at e; cases e) (F.keep c o e), F.above⟩ ?_
  intro p hp
  refine mcons hp ?_ fun hp => ?_
  · exact ⟨hs₄ _ _ ne1 (N _ (.head _)).1, (N _ (.head _)).2⟩
  refine mcons hp ?_ fun hp => ?_
  · exact ⟨heC, zC.2⟩
  refine mcons hp ?_ fun hp => ?_
  · exact ⟨hs₄ _ _ (Ne.symm ne3) (N _ (.tail _ (.tail _ (.head _)))).1, (N _ (.tail _ (.tail _ (.head _)))).2⟩
  · have z := N p (.tail _ (.tail _ (.tail _ hp)))
    exact ⟨hs₄ _ _ (offs p hp).2.1 z.1, z.2⟩

theorem comp_name {a : Str} {pa : Pos} {scope : Scope} {cl : List (Str × Addr)} {I C D : Addr} {oI oC oD : Obj} {x : Value} {m' : Str → Option Value} {led : List (Addr × Obj)} {Q : Unit → Shared → Prop}
    (hC : NsObj oC m') (F : Fr G L s.heap m) (N : News G L s.heap ((I, oI) :: (C, oC) :: (D, oD) :: led)) (off : Off3 I C D led) (ne1 : @Ne Nat I C) (ne3 : @Ne Nat C D)
    (hxa : scope.names.lookup a = some .local) (hkind : scope.kind = .function)
    (h : ∀ h' tk oC' m'', NsObj oC' m'' → m'' a = some x → Fr G L h' m → News G L h' ((I, oI) :: (C, oC') :: (D, oD) :: led) → Q () { s with heap := h', toks := tk }) :
    wpAny (model prog w) A (assign (.Name a pa) (compEnvC scope cl C env) x) Q E s := by
  have zC := N _ (.tail _ (.head _))
  refine wpAny_assign_Name (wpAny_storeName_local (lookup_relabel_local hxa) (hC.ns zC.1) (fun h₄ hn₄ hs₄ => ?_) (by simp [compEnvC, relabel, hkind]))
  refine ex1_2 (ns_obj hn₄) ?_; intro oC' heC hoC
  have offs := off.mem
  have hs := hs₄.extBut
  refine h h₄ _ oC' _ hoC (by simp) ⟨F.ns.at' fun o e => hs _ o (Ne.symm zC.2.1) e, fun c o e => hs c o (fun q => by have q' : c = C := q; rw [q', zC.2.2] at e; cases e) (F.keep c o e), F.above⟩ ?_
  intro p hp
  refine mcons hp ?_ fun hp => ?_
  · exact ⟨hs _ _ ne1 (N _ (.head _)).1, (N _ (.head _)).2⟩
  refine mcons hp ?_ fun hp => ?_
  · exact ⟨heC, zC.2⟩
  refine mcons hp ?_ fun hp => ?_
  · exact ⟨hs _ _ (Ne.symm ne3) (N _ (.tail _ (.tail _ (.head _)))).1, (N _ (.tail _ (.tail _ (.head _)))).2⟩
  · have z := N p (.tail _ (.tail _ (.tail _ hp)))
    exact ⟨hs _ _ (offs p hp).2.1 z.1, z.2⟩
end

theorem m_none2 {a b : Str} {g : Str → Option Value} (h1 : g a = none) (h2 : g b = none) : g = fun y => if y = a then none else if y = b then none else g y := by
  funext y
  by_cases e1 : y = a
  · subst e1; simp [h1]
  by_cases e2 : y = b
  · subst e2; simp [h2]
  simp [e1, e2]
section
variable {w : World} {G : Heap} {L : Addr} {m : Str → Option Value} {p : Program} {loose : List Str} {mean : ExcName → Option Value} {mg mb : Str → Option Value}
  {E : Value → Shared → Prop} {s : Shared} {A : Around}
end
def P_setf_ok (w : World) (G : Heap) (L : Addr) (m : Str → Option Value) (p : Program) (loose : List Str) (mean : ExcName → Option Value) (mg mb : Str → Option Value) (E : Value → Shared → Prop) (s : Shared) (A : Around) (aw awd afi aop afl am ap : Addr) (nm : Str) (bl : List Nat) (c rec0 : Int) (tc : Tok) (np : Nat) (oo om ofl : Obj) (kvm kvf : List (Str × Value)) (fl : List (Str × Fld)) (kvo : List (Int × Value)) (rest R : List (Addr × Obj)) (vs : List Value) (ps : List (Int × Str)) (Q : Value → Shared → Prop) : Prop := ∀ {size : Int} (hh : A.handled = none) (hdp : A.depth ≤ 800) (hu : A.units ≤ 800) (F : Fr G L s.heap m) (T : Top p loose mean mg mb G) (X : (hd.heap_1 w.params).In G) (N : News G L s.heap ((afl, ofl) :: rest)) (off : ∀ p ∈ rest, p.1 ≠ afl) (W : WorldAt rest aw awd afi aop afl) (m3 : (aop, oo) ∈ rest) (d3 : oo.IsDictOf (PySem.intKind PySem.Challenge.rw_pq0169_01.row.prog w) kvo) (lo3 : (aop == sysModules) = false) (v3 : valueAt kvo c = some (.ref am)) (m4 : (am, om) ∈ rest) (d4 : om.IsDictOf (PySem.strKind PySem.Challenge.rw_pq0169_01.row.prog w) kvm) (M : MadeIs kvm nm size bl rec0) (d5 : ofl.IsDictOf (PySem.strKind PySem.Challenge.rw_pq0169_01.row.prog w) kvf) (f5 : FieldsAt R kvf fl) (z5 : fl.length ≤ 10) (mp : (ap, listOf vs.toArray np) ∈ rest) (P : PartsIn rest vs ps) (q1 : ∀ x ∈ ps, 0 ≤ x.1) (q2 : (ps.map (·.1)).sum ≤ size) (q3 : ps.length ≤ 10) (h : ∀ h' tk ofl' kvf' ext, Fr G L h' m → News G L h' ((afl, ofl') :: (ext ++ rest)) → ofl'.IsDictOf (PySem.strKind PySem.Challenge.rw_pq0169_01.row.prog w) kvf' → FieldsAt (ext ++ R) kvf' (fput c 0 fl ps) → (∀ p ∈ ext, ∀ q ∈ (afl, ofl) :: rest, @LT.lt Nat _ q.1 p.1) → Q .none { s with heap := h', toks := tk }), wpAny (model PySem.Challenge.rw_pq0169_01.row.prog w) A (call (.ref 75) [.ref aw, .int c tc, .ref ap] []) Q E s
def U_setf_ok (c : (World) × (Heap) × (Addr) × (Str → Option Value) × (Program) × (List Str) × (ExcName → Option Value) × (Str → Option Value) × (Str → Option Value) × (Value → Shared → Prop) × (Shared) × (Around) × (Addr) × (Addr) × (Addr) × (Addr) × (Addr) × (Addr) × (Addr) × (Str) × (List Nat) × (Int) × (Int) × (Tok) × (Nat) × (Obj) × (Obj) × (Obj) × (List (Str × Value)) × (List (Str × Value)) × (List (Str × Fld)) × (List (Int × Value)) × (List (Addr × Obj)) × (List (Addr × Obj)) × (List Value) × (List (Int × Str)) × (Value → Shared → Prop)) : Prop := P_setf_ok c.1 c.2.1 c.2.2.1 c.2.2.2.1 c.2.2.2.2.1 c.2.2.2.2.2.1 c.2.2.2.2.2.2.1 c.2.2.2.2.2.2.2.1 c.2.2.2.2.2.2.2.2.1 c.2.2.2.2.2.2.2.2.2.1 c.2.2.2.2.2.2.2.2.2.2.1 c.2.2.2.2.2.2.2.2.2.2.2.1 c.2.2.2.2.2.2.2.2.2.2.2.2.1 c.2.2.2.2.2.2.2.2.2.2.2.2.2.1 c.2.2.2.2.2.2.2.2.2.2.2.2.2.2.1 c.2.2.2.2.2.2.2.2.2.2.2.2.2.2.2.1 c.2.2.2.2.2.2.2.2.2.2.2.2.2.2.2.2.1 c.2.2.2.2.2.2.2.2.2.2.2.2.2.2.2.2.2.1 c.2.2.2.2.2.2.2.2.2.2.2.2.2.2.2.2.2.2.1 c.2.2.2.2.2.2.2.2.2.2.2.2.2.2.2.2.2.2.2.1 c.2.2.2.2.2.2.2.2.2.2.2.2.2.2.2.2.2.2.2.2.1 c.2.2.2.2.2.2.2.2.2.2.2.2.2.2.2.2.2.2.2.2.2.1 c.2.2.2.2.2.2.2.2.2.2.2.2.2.2.2.2.2.2.2.2.2.2.1 c.2.2.2.2.2.2.2.2.2.2.2.2.2.2.2.2.2.2.2.2.2.2.2.1 c.2.2.2.2.2.2.2.2.2.2.2.2.2.2.2.2.2.2.2.2.2.2.2.2.1 c.2.2.2.2.2.2.2.2.2.2.2.2.2.2.2.2.2.2.2.2.2.2.2.2.2.1 c.2.2.2.2.2.2.2.2.2.2.2.2.2.2.2.2.2.2.2.2.2.2.2.2.2.2.1 c.2.2.2.2.2.2.2.2.2.2.2.2.2.2.2.2.2.2.2.2.2.2.2.2.2.2.2.1 c.2.2.2.2.2.2.2.2.2.2.2.2.2.2.2.2.2.2.2.2.2.2.2.2.2.2.2.2.1 c.2.2.2.2.2.2.2.2.2.2.2.2.2.2.2.2.2.2.2.2.2.2.2.2.2.2.2.2.2.1 c.2.2.2.2.2.2.2.2.2.2.2.2.2.2.2.2.2.2.2.2.2.2.2.2.2.2.2.2.2.2.1 c.2.2.2.2.2.2.2.2.2.2.2.2.2.2.2.2.2.2.2.2.2.2.2.2.2.2.2.2.2.2.2.1 c.2.2.2.2.2.2.2.2.2.2.2.2.2.2.2.2.2.2.2.2.2.2.2.2.2.2.2.2.2.2.2.2.1 c.2.2.2.2.2.2.2.2.2.2.2.2.2.2.2.2.2.2.2.2.2.2.2.2.2.2.2.2.2.2.2.2.2.1 c.2.2.2.2.2.2.2.2.2.2.2.2.2.2.2.2.2.2.2.2.2.2.2.2.2.2.2.2.2.2.2.2.2.2.1 c.2.2.2.2.2.2.2.2.2.2.2.2.2.2.2.2.2.2.2.2.2.2.2.2.2.2.2.2.2.2.2.2.2.2.2.1 c.2.2.2.2.2.2.2.2.2.2.2.2.2.2.2.2.2.2.2.2.2.2.2.2.2.2.2.2.2.2.2.2.2.2.2.2
/- the letters at which it would fail, if there are such -/
noncomputable def K_setf_ok : (World) × (Heap) × (Addr) × (Str → Option Value) × (Program) × (List Str) × (ExcName → Option Value) × (Str → Option Value) × (Str → Option Value) × (Value → Shared → Prop) × (Shared) × (Around) × (Addr) × (Addr) × (Addr) × (Addr) × (Addr) × (Addr) × (Addr) × (Str) × (List Nat) × (Int) × (Int) × (Tok) × (Nat) × (Obj) × (Obj) × (Obj) × (List (Str × Value)) × (List (Str × Value)) × (List (Str × Fld)) × (List (Int × Value)) × (List (Addr × Obj)) × (List (Addr × Obj)) × (List Value) × (List (Int × Str)) × (Value → Shared → Prop) := @Classical.epsilon _ (neP ⟨aWorld 0⟩ (neP ⟨default⟩ (neP ⟨default⟩ (neP ⟨default⟩ (neP ⟨default⟩ (neP ⟨default⟩ (neP ⟨default⟩ (neP ⟨default⟩ (neP ⟨default⟩ (neP ⟨default⟩ (neP neS (neP ⟨{}⟩ (neP ⟨default⟩ (neP ⟨default⟩ (neP ⟨default⟩ (neP ⟨default⟩ (neP ⟨default⟩ (neP ⟨default⟩ (neP ⟨default⟩ (neP ⟨default⟩ (neP ⟨default⟩ (neP ⟨default⟩ (neP ⟨default⟩ (neP ⟨default⟩ (neP ⟨default⟩ (neP ⟨default⟩ (neP ⟨default⟩ (neP ⟨default⟩ (neP ⟨default⟩ (neP ⟨default⟩ (neP ⟨default⟩ (neP ⟨default⟩ (neP ⟨default⟩ (neP ⟨default⟩ (neP ⟨default⟩ (neP ⟨default⟩ ⟨default⟩)))))))))))))))))))))))))))))))))))) fun c => ¬ U_setf_ok c
namespace E_setf_ok
noncomputable def w : World := K_setf_ok.1
noncomputable def G : Heap := K_setf_ok.2.1
noncomputable def L : Addr := K_setf_ok.2.2.1
noncomputable def m : Str → Option Value := K_setf_ok.2.2.2.1
noncomputable def p : Program := K_setf_ok.2.2.2.2.1
noncomputable def loose : List Str := K_setf_ok.2.2.2.2.2.1
noncomputable def mean : ExcName → Option Value := K_setf_ok.2.2.2.2.2.2.1
noncomputable def mg : Str → Option Value := K_setf_ok.2.2.2.2.2.2.2.1
noncomputable def mb : Str → Option Value := K_setf_ok.2.2.2.2.2.2.2.2.1
noncomputable def E : Value → Shared → Prop := K_setf_ok.2.2.2.2.2.2.2.2.2.1
noncomputable def s : Shared := K_setf_ok.2.2.2.2.2.2.2.2.2.2.1
noncomputable def A : Around := K_setf_ok.2.2.2.2.2.2.2.2.2.2.2.1
noncomputable def aw : Addr := K_setf_ok.2.2.2.2.2.2.2.2.2.2.2.2.1
noncomputable def awd : Addr := K_setf_ok.2.2.2.2.2.2.2.2.2.2.2.2.2.1
noncomputable def afi : Addr := K_setf_ok.2.2.2.2.2.2.2.2.2.2.2.2.2.2.1
noncomputable def aop : Addr := K_setf_ok.2.2.2.2.2.2.2.2.2.2.2.2.2.2.2.1
noncomputable def afl : Addr := K_setf_ok.2.2.2.2.2.2.2.2.2.2.2.2.2.2.2.2.1
noncomputable def am : Addr := K_setf_ok.2.2.2.2.2.2.2.2.2.2.2.2.2.2.2.2.2.1
noncomputable def ap : Addr := K_setf_ok.2.2.2.2.2.2.2.2.2.2.2.2.2.2.2.2.2.2.1
noncomputable def nm : Str := K_setf_ok.2.2.2.2.2.2.2.2.2.2.2.2.2.2.2.2.2.2.2.1
noncomputable def bl : List Nat := K_setf_ok.2.2.2.2.2.2.2.2.2.2.2.2.2.2.2.2.2.2.2.2.1
noncomputable def c : Int := K_setf_ok.2.2.2.2.2.2.2.2.2.2.2.2.2.2.2.2.2.2.2.2.2.1
noncomputable def rec0 : Int := K_setf_ok.2.2.2.2.2.2.2.2.2.2.2.2.2.2.2.2.2.2.2.2.2.2.1
noncomputable def tc : Tok := K_setf_ok.2.2.2.2.2.2.2.2.2.2.2.2.2.2.2.2.2.2.2.2.2.2.2.1
noncomputable def np : Nat := K_setf_ok.2.2.2.2.2.2.2.2.2.2.2.2.2.2.2.2.2.2.2.2.2.2.2.2.1
noncomputable def oo : Obj := K_setf_ok.2.2.2.2.2.2.2.2.2.2.2.2.2.2.2.2.2.2.2.2.2.2.2.2.2.1
noncomputable def om : Obj := K_setf_ok.2.2.2.2.2.2.2.2.2.2.2.2.2.2.2.2.2.2.2.2.2.2.2.2.2.2.1
noncomputable def ofl : Obj := K_setf_ok.2.2.2.2.2.2.2.2.2.2.2.2.2.2.2.2.2.2.2.2.2.2.2.2.2.2.2.1
noncomputable def kvm : List (Str × Value) := K_setf_ok.2.2.2.2.2.2.2.2.2.2.2.2.2.2.2.2.2.2.2.2.2.2.2.2.2.2.2.2.1
noncomputable def kvf : List (Str × Value) := K_setf_ok.2.2.2.2.2.2.2.2.2.2.2.2.2.2.2.2.2.2.2.2.2.2.2.2.2.2.2.2.2.1
noncomputable def fl : List (Str × Fld) := K_setf_ok.2.2.2.2.2.2.2.2.2.2.2.2.2.2.2.2.2.2.2.2.2.2.2.2.2.2.2.2.2.2.1
noncomputable def kvo : List (Int × Value) := K_setf_ok.2.2.2.2.2.2.2.2.2.2.2.2.2.2.2.2.2.2.2.2.2.2.2.2.2.2.2.2.2.2.2.1
noncomputable def rest : List (Addr × Obj) := K_setf_ok.2.2.2.2.2.2.2.2.2.2.2.2.2.2.2.2.2.2.2.2.2.2.2.2.2.2.2.2.2.2.2.2.1
noncomputable def R : List (Addr × Obj) := K_setf_ok.2.2.2.2.2.2.2.2.2.2.2.2.2.2.2.2.2.2.2.2.2.2.2.2.2.2.2.2.2.2.2.2.2.1
noncomputable def vs : List Value := K_setf_ok.2.2.2.2.2.2.2.2.2.2.2.2.2.2.2.2.2.2.2.2.2.2.2.2.2.2.2.2.2.2.2.2.2.2.1
noncomputable def ps : List (Int × Str) := K_setf_ok.2.2.2.2.2.2.2.2.2.2.2.2.2.2.2.2.2.2.2.2.2.2.2.2.2.2.2.2.2.2.2.2.2.2.2.1
noncomputable def Q : Value → Shared → Prop := K_setf_ok.2.2.2.2.2.2.2.2.2.2.2.2.2.2.2.2.2.2.2.2.2.2.2.2.2.2.2.2.2.2.2.2.2.2.2.2
theorem go : P_setf_ok w G L m p loose mean mg mb E s A aw awd afi aop afl am ap nm bl c rec0 tc np oo om ofl kvm kvf fl kvo rest R vs ps Q := by
  intro size hh hdp hu F T X N off W m3 d3 lo3 v3 m4 d4 M d5 f5 z5 mp P q1 q2 q3 h
  refine wpAny_weak (A' := A2) ?_ hh (Nat.le_trans hdp (by decide)) (Nat.le_trans hu (by decide)) rfl rfl
  refine ex2_5 (W.ex) ?_; intro esw nw w1 w2 w3 w4 w5
  obtain ⟨N_1, N_2, N_3, N_4, N_5, M6⟩ := (id M)
  refine ex1_1 N_1 ?_; intro tm M1
  try clear N_1
  refine ex1_1 N_2 ?_; intro tm2 M2
  try clear N_2
  refine ex1_1 N_3 ?_; intro tm3 M3
  try clear N_3
  refine ex1_1 N_4 ?_; intro tm4 M4
  try clear N_4
  refine ex1_1 N_5 ?_; intro tm5 M5
  try clear N_5
  revert X
  k_fill
  intro X
  refine wpAny_call ?_
  have hab := F.above
  have hvl : vs.length ≤ 10 := by rw [P.length]; exact q3
  have hL1 : @Ne Nat afl L := (N _ (.head _)).2.1
  have hL1' : @Ne Nat L afl := Ne.symm hL1
  have hLm : ∀ p ∈ rest, p.1 ≠ L := fun p hp => (N p (.tail _ hp)).2.1
  refine' enter0 (binds := [(Str.ofString "world", .ref aw), (Str.ofString "channel", .int c tc), (Str.ofString "parts", .ref ap)]) F X N (Top.nolimit T) ?k6 ?k7 ?k8 ?k9 ?kB ?_ ?c2 ?c3 ?c4 ?c5
  (((case k6 => k_is); (case k7 => k_is); (case k8 => first | decide | omega); (case k9 => first | exact BindsTo.of_eq rfl | exact binds_K (by k_in) rfl (by k_is) rfl rfl rfl); (case c5 => decide); (case kB => exact locs rfl); (case c2 => exact rfl); (case c3 => exact rfl); (case c4 => exact rfl)))
  intro L' h₁ oL hoL F' N' l0 l1
  clear F N l0
  dsimp only
  k_fold
  k_steps
  refine channel_ok rfl (by (exact Nat.le_of_ble_eq_true rfl)) (by (exact Nat.le_of_ble_eq_true rfl)) (by k_asm) T X (by k_asm) (W.sub (by ((intro p' hp'; k_mem)))) (by k_mem) d3 lo3 v3 (by k_mem) d4 M1 (by k_mem) ?_
  intro h2 tk2 F2 N2
  (repeat ((fail_if_success (with_reducible show wpAny _ _ (eval (Expr.ListComp _ _ _ _) _) _ _ _)); first | (k_unfold; (try dsimp only)) | walk1 | (dsimp only; walk1) | (leave1; try dsimp only)))
  refine comp_list (ys := fun _ => []) (xs := vs) (led := (L, oL) :: (afl, ofl) :: rest) (by k_asm) (news_sub (by k_asm) (by ((intro p' hp'; k_mem)))) (by k_mem) (Nat.le_trans hvl (by (exact Nat.le_of_ble_eq_true rfl))) rfl (fun _ _ => Nat.zero_le _) ?hgo (by rfl) (by decide) (by rfl) (by decide) (by rfl) ?_
  case hgo =>
    intro v I l j s Q E hv hI hQ
    obtain ⟨i, hi, hv⟩ := (List.getElem_of_mem hv)
    refine ex5_3 (P.at (i := i) (v := v) (by rw [List.getElem?_eq_getElem hi, hv])) ?_; intro p9 T9 k9 t9 u9 _ E_6 _
    subst E_6
    exact wpAny_letOwnedTupleGo_listiter hI hQ
  walk1
  refine ⟨rfl, by k_asm, news_sub (by k_asm) (by ((intro p' hp'; k_mem))), ?_, ?_⟩
  · intro g i hi v hv I oI C oC D m' h tk E' hC F9 N9 o9 e1 e2 e3
    refine ex5_3 (P.at hv) ?_; intro p9 T9 k9 t9 u9 hp9 E_7 hm9
    subst E_7
    have hn9 : 0 ≤ p9.1 := q1 _ (List.mem_of_getElem? hp9)
    refine comp_pair (by rfl) hC F9 N9 o9 e1 e3 (.tail _ (.tail _ hm9)) (by rfl) (by rfl) (by decide) (by rfl) ?_
    intro h5 tk5 oC5 m5 hC5 hx5 hy5 F5 N5
    have hlt : decide (p9.1 < 0) = false := decide_eq_false (by omega)
    k_steps
    exact in4_4 _ _ _ _ rfl hC5 F5 N5
  · intro D9 h9 tk9 F9 N9 o9
    dsimp only
    (repeat ((fail_if_success (with_reducible show wpAny _ _ (eval (Expr.ListComp _ _ _ _) _) _ _ _)); first | (k_unfold; (try dsimp only)) | walk1 | (dsimp only; walk1) | (leave1; try dsimp only)))
    refine comp_firsts (led := (D9, LCg.lst []) :: (L, oL) :: (afl, ofl) :: rest) (by k_asm) (news_sub (by k_asm) (by ((intro p' hp'; k_mem)))) (by k_mem) (Nat.le_trans hvl (by (exact Nat.le_of_ble_eq_true rfl))) (P.sub (by ((intro p' hp'; k_mem)))) (by rfl) (by rfl) (by decide) (by rfl) (by decide) (by rfl) (by rfl) (by decide) (by decide) ?_
    walk1
    refine ⟨rfl, by k_asm, news_sub (by k_asm) (by ((intro p' hp'; k_mem))), ?_⟩
    intro D8 h8 tk8 ys F8 N8 o8 i8
    k_steps
    rename_i F7 N7
    have W2 : WorldAt ((L, oL) :: rest) aw awd afi aop afl := W.sub (by ((intro p' hp'; k_mem)))
    generalize hbase : (L, oL) :: rest = base at W2
    have hsub : ∀ p ∈ rest, p ∈ base := by rw [← hbase]; exact fun p hp => .tail _ hp
    have hoff : ∀ p ∈ base, p.1 ≠ afl := by
      rw [← hbase]; intro p hp
      refine mcons hp ?_ fun hp => ?_
      · exact hL1'
      · exact off p hp
    refine' For_turns F7 ?_
    have NB := news_sub N7 (nl' := (afl, ofl) :: (L, oL) :: rest) (by ((repeat (first | exact List.forall_mem_nil _ | refine List.forall_mem_cons.mpr ⟨by k_mem, ?_⟩ | (intro p' hp'; k_mem)))))
    rw [hbase] at NB
    walk1
    refine iter_listTurns (by rfl) F7 NB (lo := listOf vs.toArray np) (.tail _ (hsub _ mp)) rfl rfl (fun I hI => ?_)
    refine items_ind (α := Int × Str) (J := fun as us m' news => ∃ at' t' kvf' fl' ofl' ext, (∃ v1 v2 : Option Value, m' = fun y => if y = Str.ofString "many" then v1 else if y = Str.ofString "name" then v2 else if y = Str.ofString "at" then some (.int at' t') else if y = Str.ofString "found" then some (.ref am) else [(Str.ofString "world", Value.ref aw), (Str.ofString "channel", .int c tc), (Str.ofString "parts", .ref ap)].reverse.lookup y) ∧ news = (afl, ofl') :: (ext ++ base) ∧ ofl'.IsDictOf (PySem.strKind PySem.Challenge.rw_pq0169_01.row.prog w) kvf' ∧
      FieldsAt (ext ++ R) kvf' fl' ∧ PartsIn rest us as ∧ fput c at' fl' as = fput c 0 fl ps ∧ fl'.length + as.length ≤ 20 ∧ (∀ p ∈ ext, ∀ q ∈ (afl, ofl) :: base, @LT.lt Nat _ q.1 p.1) ∧ ∀ p ∈ ext, p.1 ≠ I)
      ?hlen ?hsrc ?step ?done vs ps _ _ ?init
    case hlen => rintro as us m' news ⟨_, _, _, _, _, _, _, _, _, _, P', _⟩; exact P'.length.symm
    case hsrc =>
      intro as us m' news N_8
      refine ex6_3 N_8 ?_; intro _ _ _ _ _ _ _ E_9 _
      try clear N_8
      subst E_9
      exact .tail _ (List.mem_append_right _ (hsub _ mp))
    case init =>
      exact in6_9 0 _ kvf fl ofl ([]) ⟨none, none, m_none2 rfl rfl⟩ rfl d5 f5 P rfl (by omega) (by simp) (by simp)
    case done =>
      intro m' news h9 tk9 N_10 F6 N6
      refine ex6_9 N_10 ?_; intro at' t' kvf' fl' ofl' ext N_11 E_12 a5 a6 a7 a8 a9 a10 a11
      try clear N_10
      refine ex2_1 N_11 ?_; intro b1 b2 E_13
      try clear N_11
      subst E_13
      subst E_12
      k_steps
      have hLb : (L, oL) ∈ base := by rw [← hbase]; exact .head _
      have hLe : ∀ p ∈ ext, p.1 ≠ L := fun p hp => Ne.symm (Nat.ne_of_lt (a10 p hp _ (.tail _ hLb)))
      refine h _ _ ofl' kvf' ext (back_fr F6 N6 (.tail _ (List.mem_append_right _ hLb)) hoL hab) (back_news N6 ?_) a5 ?_ (fun p hp q hq => ?_)
      · intro p hp
        refine mcons hp ?_ fun hp => ?_
        · exact ⟨.head _, hL1⟩
        · rcases List.mem_append.mp hp with hp | hp
          · exact ⟨.tail _ (List.mem_append_left _ hp), hLe p hp⟩
          · exact ⟨.tail _ (List.mem_append_right _ (hsub _ hp)), hLm p hp⟩
      · have a8' : fl' = fput c 0 fl ps := a8
        rw [← a8']
        exact a6
      · refine mcons hq ?_ fun hq => ?_
        · exact a10 p hp _ (.head _)
        · exact a10 p hp _ (.tail _ (hsub _ hq))
    case step =>
      intro a as v us m' news h9 tk9 oI N_14 F6 N6
      refine ex6_9 N_14 ?_; intro at' t' kvf' fl' ofl' ext N_15 E_16 a5 a6 a7 a8 a9 a10 a11
      try clear N_14
      refine ex2_1 N_15 ?_; intro b1 b2 E_17
      try clear N_15
      subst E_17
      subst E_16
      revert a7
      intro O_18
      refine ex0_2 O_18 ?_; intro N_19 a7
      try clear O_18
      refine ex4_2 N_19 ?_; intro T9 k9 t9 u9 E_20 hm9
      try clear N_19
      subst E_20
      have hex : ∀ p ∈ ext, p.1 ≠ afl := fun p hp => Ne.symm (Nat.ne_of_lt (a10 p hp _ (.head _)))
      have hsub' : ∀ p ∈ base, p ∈ ext ++ base := fun p hp => List.mem_append_right _ hp
      have hoff' : ∀ p ∈ ext ++ base, p.1 ≠ afl := fun p hp => (List.mem_append.mp hp).elim (hex p) (hoff p)
      have hIt : ∀ p ∈ ext ++ base, p.1 ≠ I := fun p hp => (List.mem_append.mp hp).elim (a11 p) (fun hp => Nat.ne_of_lt (hI p (.tail _ hp)))
      have hIf : @Ne Nat I afl := Ne.symm (Nat.ne_of_lt (hI _ (.head _)))
      have hIf' : @Ne Nat afl I := Ne.symm hIf
      have W3 := W2.sub hsub'
      have hm9' := hsub' _ (hsub _ hm9)
      generalize htl : ext ++ base = tl at N6 hsub' hoff' hIt W3 hm9'
      refine ex2_5 (W3.ex) ?_; intro esw' nw' w1' w2' w3' w4' w5'
      have z5 : kvf'.length ≤ 20 := by rw [a6.length]; exact Nat.le_trans (Nat.le_add_right _ _) (Nat.le_trans a9 (Nat.le_of_ble_eq_true rfl))
      (repeat ((fail_if_success (with_reducible show wpAny _ _ (execs (_ :: _) _) _ _ _)); first | (k_unfold; (try dsimp only)) | walk1 | (dsimp only; walk1) | (leave1; try dsimp only)))
      refine wp_hide ?_
      intro Q_ hQ_
      k_steps
      rename_i D4 h3 l4 h4 o4 e4 h5 F5 N5
      have hlt4 : ∀ q ∈ tl, @LT.lt Nat _ q.1 D4 := fun q hq => PySem.W.tb_ltOf l4.2.2 _ hq
      refine hQ_ _ _ ?_
      refine in4_5 h5 _ _ ((afl, o4) :: (D4, _) :: tl) rfl F5 (news_sub N5 (by ((repeat (first | exact List.forall_mem_nil _ | refine List.forall_mem_cons.mpr ⟨by k_mem, ?_⟩ | (intro p' hp'; k_mem)))))) ?_ ?_
      · intro p hp
        refine mcons hp ?_ fun hp => ?_
        · exact hIf'
        refine mcons hp ?_ fun hp => ?_
        · exact Ne.symm (Nat.ne_of_lt l4.1)
        · exact hIt p hp
      · refine in6_9 (at' + a.1) tk (stored kvf' a.2 (.ref D4)) (putN fl' a.2 (c, at', a.1)) o4 ((D4, tupOf #[.int c tc, .int at' t', .int a.1 t9] 0) :: ext) ⟨some (.int a.1 t9), some (.str a.2 u9), ?_⟩ ?_ e4 ?_ a7 a8 ?_ ?_ ?_
        · funext y
          by_cases e1 : y = Str.ofString "many"
          · subst e1; rfl
          by_cases e2 : y = Str.ofString "name"
          · subst e2; rfl
          simp only [if_neg e1, if_neg e2]
          split <;> rfl
        · rw [← htl]; rfl
        · refine Rel.put ⟨D4, 0, _, _, _, rfl, .head _⟩ (FieldsAt.sub (fun p hp => .tail _ hp) a6)
        · have := putN_len fl' a.2 (c, at', a.1)
          simp at a9; omega
        · intro p hp q hq
          refine mcons hp ?_ fun hp => ?_
          · refine mcons hq ?_ fun hq => ?_
            · exact l4.2.1
            · exact hlt4 q (hsub' q hq)
          · exact a10 p hp q hq
        · intro p hp
          refine mcons hp ?_ fun hp => ?_
          · exact Ne.symm (Nat.ne_of_lt l4.1)
          · exact a11 p hp
end E_setf_ok
theorem setf_ok {w : World} {G : Heap} {L : Addr} {m : Str → Option Value} {p : Program} {loose : List Str} {mean : ExcName → Option Value} {mg mb : Str → Option Value} {E : Value → Shared → Prop} {s : Shared} {A : Around} {aw awd afi aop afl am ap : Addr} {nm : Str} {bl : List Nat} {c rec0 : Int} {tc : Tok} {np : Nat} {oo om ofl : Obj} {kvm kvf : List (Str × Value)} {fl : List (Str × Fld)} {kvo : List (Int × Value)} {rest R : List (Addr × Obj)} {vs : List Value} {ps : List (Int × Str)} {Q : Value → Shared → Prop} : P_setf_ok w G L m p loose mean mg mb E s A aw awd afi aop afl am ap nm bl c rec0 tc np oo om ofl kvm kvf fl kvo rest R vs ps Q := eps_all (Ψ := U_setf_ok) E_setf_ok.go (w, G, L, m, p, loose, mean, mg, mb, E, s, A, aw, awd, afi, aop, afl, am, ap, nm, bl, c, rec0, tc, np, oo, om, ofl, kvm, kvf, fl, kvo, rest, R, vs, ps, Q)
section
variable {w : World} {G : Heap} {L : Addr} {m : Str → Option Value} {p : Program} {loose : List Str} {mean : ExcName → Option Value} {mg mb : Str → Option Value}
  {E : Value → Shared → Prop} {s : Shared} {A : Around}
end

section
variable {w : World} {G : Heap} {L : Addr} {m : Str → Option Value} {p : Program} {loose : List Str} {mean : ExcName → Option Value} {mg mb : Str → Option Value}
  {E : Value → Shared → Prop} {s : Shared} {A : Around}
theorem setf_bn {env₀ : Env} {outer : List Env} {aw awd afi aop afl ap : Addr} {c : Int} {tc : Tok} {oo : Obj} {kvo : List (Int × Value)} {main frs : List (Addr × Obj)} {Q : Value → Shared → Prop}
  (hA : A.frames = some (env₀ :: outer)) (hf₀ : env₀.frame = some L) (hk₀ : env₀.scope.kind ≠ .module) (Fs : Frs outer frs) (hoff : ∀ p ∈ main, ∀ q ∈ frs, p.1 ≠ q.1)
  (hh : A.handled = none) (hdp : A.depth ≤ 800) (hu : A.units ≤ 800)
  (F : Fr G L s.heap m) (T : Top p loose mean mg mb G) (X : (hd.heap_1 w.params).In G) (N : News G L s.heap (main ++ frs))
  (W : WorldAt (main ++ frs) aw awd afi aop afl) (m1 : (aop, oo) ∈ main ++ frs) (d1 : oo.IsDictOf (PySem.intKind PySem.Challenge.rw_pq0169_01.row.prog w) kvo) (lo1 : (aop == sysModules) = false)
  (v1 : valueAt kvo c = none)
  (hE : ∀ h' tk e dx frs', SameUp frs frs' → Frs outer frs' → Fr G L h' m → News G L h' (main ++ frs') → L ≠ e → L ≠ dx → Flying G h' e dx (Str.ofString "BN") (main ++ frs') → E (.ref e) { s with heap := h', toks := tk }) :
  wpAny (model PySem.Challenge.rw_pq0169_01.row.prog w) A (call (.ref 75) [.ref aw, .int c tc, .ref ap] []) Q E s := by
  revert X
  k_fill
  intro X
  refine wpAny_call ?_
  have hab := F.above
  have hLm : ∀ p ∈ main ++ frs, p.1 ≠ L := fun p hp => (N p hp).2.1
  refine' enter0 (binds := [(Str.ofString "world", .ref aw), (Str.ofString "channel", .int c tc), (Str.ofString "parts", .ref ap)]) F X N (Top.nolimit T) ?k6 ?k7 ?k8 ?k9 ?kB ?_ ?c2 ?c3 ?c4 ?c5
  case k8 => exact Nat.lt_of_le_of_lt hdp (by decide)
  (((case k6 => k_is); (case k7 => k_is); (case k9 => first | exact BindsTo.of_eq rfl | exact binds_K (by k_in) rfl (by k_is) rfl rfl rfl); (case c5 => decide); (case kB => exact locs rfl); (case c2 => exact rfl); (case c3 => exact rfl); (case c4 => exact rfl)))
  intro L' h₁ oL hoL F' N' l0 l1
  clear F N
  dsimp only
  k_fold
  k_steps
  refine channel_bad (main := main) (frs := (L, oL) :: frs) (Around.frames_deeper hA) rfl (show ScopeKind.function ≠ ScopeKind.module by decide) ⟨hk₀, hf₀, hoL.1, Fs⟩ (fun p hp q hq => ?_) hh (by show A.depth + 1 ≤ 870; omega) (by show A.units + 3 ≤ 870; omega) (by k_asm) T X (news_sub (by k_asm) fun p hp => .tail _ (mem_mid p hp)) (W.sub fun p hp => mem_mid' p hp) (mem_mid' _ m1) d1 lo1 v1 ?_
  · refine mcons hq ?_ fun hq => ?_
    · exact hLm p (List.mem_append_left _ hp)
    · exact hoff p hp q hq
  intro h2 tk2 e dx frs1 SU Fs2 F3 N3 l2 l3 Fl
  k_unfold
  dsimp only
  refine pass_on (L' := L') hA hf₀ hk₀ hoL hab hLm hoff rfl (show ScopeKind.function ≠ ScopeKind.module by decide) SU Fs2 F3 N3 l2 l3 Fl ?_
  intro h3 frs' SU2 Fs' F4 N4 l4 l5 Fl2
  exact hE h3 _ e dx frs' SU2 Fs' F4 N4 l4 l5 Fl2
theorem setf_fo {env₀ : Env} {outer : List Env} {aw awd afi aop afl am ap : Addr} {nm : Str} {bl : List Nat} {c size rec0 : Int} {tc : Tok} {np : Nat} {oo om : Obj} {kvm : List (Str × Value)} {kvo : List (Int × Value)} {main frs : List (Addr × Obj)} {vs : List Value} {ps : List (Int × Str)} {Q : Value → Shared → Prop}
  (hA : A.frames = some (env₀ :: outer)) (hf₀ : env₀.frame = some L) (hk₀ : env₀.scope.kind ≠ .module) (Fs : Frs outer frs) (hoff : ∀ p ∈ main, ∀ q ∈ frs, p.1 ≠ q.1)
  (hh : A.handled = none) (hdp : A.depth ≤ 800) (hu : A.units ≤ 800)
  (F : Fr G L s.heap m) (T : Top p loose mean mg mb G) (X : (hd.heap_1 w.params).In G) (N : News G L s.heap (main ++ frs))
  (W : WorldAt (main ++ frs) aw awd afi aop afl)
  (m3 : (aop, oo) ∈ main ++ frs) (d3 : oo.IsDictOf (PySem.intKind PySem.Challenge.rw_pq0169_01.row.prog w) kvo) (lo3 : (aop == sysModules) = false) (v3 : valueAt kvo c = some (.ref am))
  (m4 : (am, om) ∈ main ++ frs) (d4 : om.IsDictOf (PySem.strKind PySem.Challenge.rw_pq0169_01.row.prog w) kvm) (M : MadeIs kvm nm size bl rec0)
  (mp : (ap, listOf vs.toArray np) ∈ main ++ frs) (P : PartsIn (main ++ frs) vs ps) (q1 : ∀ x ∈ ps, 0 ≤ x.1) (q2 : size < (ps.map (·.1)).sum) (q3 : ps.length ≤ 10)
  (hE : ∀ h' tk e dx frs', SameUp frs frs' → Frs outer frs' → Fr G L h' m → News G L h' (main ++ frs') → L ≠ e → L ≠ dx → Flying G h' e dx (Str.ofString "FO") (main ++ frs') → E (.ref e) { s with heap := h', toks := tk }) :
  wpAny (model PySem.Challenge.rw_pq0169_01.row.prog w) A (call (.ref 75) [.ref aw, .int c tc, .ref ap] []) Q E s := by
  obtain ⟨ah, ad, af, ag, au⟩ := A
  try clear A
  dsimp only at hA hh hdp hu
  subst hA hh
  refine ex2_5 (W.ex) ?_; intro esw nw w1 w2 w3 w4 w5
  obtain ⟨N_1, N_2, N_3, N_4, N_5, M6⟩ := (id M)
  refine ex1_1 N_1 ?_; intro tm M1
  try clear N_1
  refine ex1_1 N_2 ?_; intro tm2 M2
  try clear N_2
  refine ex1_1 N_3 ?_; intro tm3 M3
  try clear N_3
  refine ex1_1 N_4 ?_; intro tm4 M4
  try clear N_4
  refine ex1_1 N_5 ?_; intro tm5 M5
  try clear N_5
  revert X
  k_fill
  intro X
  refine wpAny_call ?_
  have hab := F.above
  have hvl : vs.length ≤ 10 := by rw [P.length]; exact q3
  have hLm : ∀ p ∈ main ++ frs, p.1 ≠ L := fun p hp => (N p hp).2.1
  refine' enter0 (binds := [(Str.ofString "world", .ref aw), (Str.ofString "channel", .int c tc), (Str.ofString "parts", .ref ap)]) F X N (Top.nolimit T) ?k6 ?k7 ?k8 ?k9 ?kB ?_ ?c2 ?c3 ?c4 ?c5
  case k8 => exact Nat.lt_of_le_of_lt hdp (by decide)
  (((case k6 => k_is); (case k7 => k_is); (case k9 => first | exact BindsTo.of_eq rfl | exact binds_K (by k_in) rfl (by k_is) rfl rfl rfl); (case c5 => decide); (case kB => exact locs rfl); (case c2 => exact rfl); (case c3 => exact rfl); (case c4 => exact rfl)))
  intro L' h₁ oL hoL F' N' l0 l1
  clear F N
  dsimp only
  k_fold
  k_steps
  refine channel_ok rfl (by show ad + 1 ≤ 890; omega) (by show au + 3 ≤ 890; omega) (by k_asm) T X (by k_asm) (W.sub (by ((intro p' hp'; k_mem)))) (by k_mem) d3 lo3 v3 (by k_mem) d4 M1 (by k_mem) ?_
  intro h2 tk2 F2 N2
  (repeat ((fail_if_success (with_reducible show wpAny _ _ (eval (Expr.ListComp _ _ _ _) _) _ _ _)); first | (k_unfold; (try dsimp only)) | walk1 | (dsimp only; walk1) | (leave1; try dsimp only)))
  refine comp_list (ys := fun _ => []) (xs := vs) (led := (L, oL) :: (main ++ frs)) (by k_asm) (news_sub (by k_asm) (by ((intro p' hp'; k_mem)))) (by k_mem) (Nat.le_trans hvl (by (exact Nat.le_of_ble_eq_true rfl))) rfl (fun _ _ => Nat.zero_le _) ?hgo (by rfl) (by decide) (by rfl) (by decide) (by rfl) ?_
  case hgo =>
    intro v I l j s Q E hv hI hQ
    obtain ⟨i, hi, hv⟩ := (List.getElem_of_mem hv)
    refine ex5_3 (P.at (i := i) (v := v) (by rw [List.getElem?_eq_getElem hi, hv])) ?_; intro p9 T9 k9 t9 u9 _ E_6 _
    subst E_6
    exact wpAny_letOwnedTupleGo_listiter hI hQ
  walk1
  refine ⟨rfl, by k_asm, news_sub (by k_asm) (by ((intro p' hp'; k_mem))), ?_, ?_⟩
  · intro g i hi v hv I oI C oC D m' h tk E' hC F9 N9 o9 e1 e2 e3
    refine ex5_3 (P.at hv) ?_; intro p9 T9 k9 t9 u9 hp9 E_7 hm9
    subst E_7
    have hn9 : 0 ≤ p9.1 := q1 _ (List.mem_of_getElem? hp9)
    refine comp_pair (by rfl) hC F9 N9 o9 e1 e3 (.tail _ hm9) (by rfl) (by rfl) (by decide) (by rfl) ?_
    intro h5 tk5 oC5 m5 hC5 hx5 hy5 F5 N5
    have hlt : decide (p9.1 < 0) = false := decide_eq_false (by omega)
    k_steps
    exact in4_4 _ _ _ _ rfl hC5 F5 N5
  · intro D9 h9 tk9 F9 N9 o9
    dsimp only
    (repeat ((fail_if_success (with_reducible show wpAny _ _ (eval (Expr.ListComp _ _ _ _) _) _ _ _)); first | (k_unfold; (try dsimp only)) | walk1 | (dsimp only; walk1) | (leave1; try dsimp only)))
    refine comp_firsts (led := (D9, LCg.lst []) :: (L, oL) :: (main ++ frs)) (by k_asm) (news_sub (by k_asm) (by ((intro p' hp'; k_mem)))) (by k_mem) (Nat.le_trans hvl (by (exact Nat.le_of_ble_eq_true rfl))) (P.sub (by ((intro p' hp'; k_mem)))) (by rfl) (by rfl) (by decide) (by rfl) (by decide) (by rfl) (by rfl) (by decide) (by decide) ?_
    walk1
    refine ⟨rfl, by k_asm, news_sub (by k_asm) (by ((intro p' hp'; k_mem))), ?_⟩
    intro D8 h8 tk8 ys F8 N8 o8 i8
    k_steps
    with_reducible rename Flying _ _ _ _ _ _ => Fl9
    refine leave_back rfl hf₀ hk₀ Fs hoL hab hLm hoff rfl (show ScopeKind.function ≠ ScopeKind.module by decide) (by k_asm) (news_sub (by k_asm) (by ((intro p' hp'; have hq' := mem_mid p' hp'; k_mem)))) (by assumption) (by assumption) (Fl9.sub (by ((intro p' hp'; have hq' := mem_mid p' hp'; k_mem)))) ?_
    intro h4 frs' SU2 Fs' F4 N4 l4 l5 Fl2
    exact hE h4 _ _ _ frs' SU2 Fs' F4 N4 l4 l5 Fl2
end

theorem strsAre_of : ∀ (vs : List Value) (ks : List Str), vs.length = ks.length → (∀ (j : Nat) v, vs[j]? = some v → ∃ k t, ks[j]? = some k ∧ v = .str k t) → StrsAre vs ks
  | [], [], _, _ => .nil
  | v :: vs, k :: ks, hl, h => by
    refine ex2_2 (h 0 v rfl) ?_; intro k' t e1 e2
    have : k = k' := by simpa using e1
    subst this e2
    exact .cons k t (strsAre_of vs ks (by simpa using hl) fun j v e => by simpa using h (j + 1) v (by simpa using e))
  | [], _ :: _, hl, _ => by simp at hl
  | _ :: _, [], hl, _ => by simp at hl
section
variable {prog : Program} {w : World} {A : Around} {E : Value → Shared → Prop} {s : Shared} {G : Heap} {L d : Addr} {m : Str → Option Value} {news : List (Addr × Obj)} {Q : Value → Shared → Prop}
/- sorted of a dict with names as keys -/
theorem sorted_keys {od : Obj} {kvs : List (Str × Value)} (hh : A.handled = none) (F : Fr G L s.heap m) (N : News G L s.heap news) (hm : (d, od) ∈ news) (hd : od.IsDictOf (PySem.strKind prog w) kvs) (lo : (d == sysModules) = false) (hn : kvs.length < 64)
    (h : ∀ (B : Addr) h' tk (vs : List Value) (ks : List Str) n, Fr G L h' m → News G L h' ((B, listOf vs.toArray n) :: news) → (∀ q ∈ news, q.1 < B) → StrsAre vs ks → ks.Perm (kvs.map (·.1)) → Q (.ref B) { s with heap := h', toks := tk }) :
    wpAny (model prog w) A (call (.builtin "sorted") [.ref d]) Q E s := by
  refine ex1_1 ((kda_dict N hm hd).dictAt) ?_; intro ep hat
  refine kdu_sorted (kdl_dict (knd := PySem.strKind prog w) (kvs := kvs) (ep := ep) lo) hh F N hat (kdl_size (by omega)) fun B h' tk vs F' N' l1 hl hv => ?_
  have hS : StrsAre vs (kvs.map (·.1)) := strsAre_of _ _ (by simpa using hl) fun j v e => by
    refine ex2_2 (hv j v e) ?_; intro k x hx hk
    refine ex1_1 (Value.isStrOf_shape hk) ?_; intro t E_1
    subst E_1
    exact ⟨k, t, by rw [List.getElem?_map, hx]; rfl, rfl⟩
  have z := N' _ (.head _)
  refine wpAny_call_entry PyProof.Rows.slot_list_sort ⟨_, z.1, rfl⟩ PyProof.Rows.entry_list_sort (list_sort_treeK (n := 0) (vs := vs) strKind_oneLt z.1 hS.keysOf (fun v₁ v₂ rest e => keyKind_strs (by rw [← e]; exact hS)) (by omega) fun st' hp hs => ⟨.none, rfl, ?_⟩) (PyProof.Rows.args_list_sort _)
  refine ex1_3 (sorted_out_str hS hp hs) ?_; intro ss' h1 h2 h3
  generalize (arrOf st').map (·.2) = out at h1
  refine ex1_1 (sortedHeap_at (out := out) z.1) ?_; intro e he
  have old : ∀ b o, b ≠ B → h'.get? b = some o → (sortedHeap h' B vs out).get? b = some o := fun b o hb hg => by rw [sortedHeap_old hb (Heap.lt_size hg)]; exact hg
  refine h B _ tk out.toList ss' e ⟨F'.ns.at' fun o g => old _ o (Ne.symm z.2.1) g, fun b o g => old b o (fun q => by have q' : b = B := q; rw [q', z.2.2] at g; cases g) (F'.keep b o g), F'.above⟩ ?_ l1 h1 h2
  intro p hp
  refine mcons hp ?_ fun hp => ?_
  · exact ⟨by simpa using he, z.2⟩
  · have y := N' p (.tail _ hp)
    exact ⟨old _ _ (Nat.ne_of_lt (l1 p hp)) y.1, y.2⟩
end

theorem m_none1 {a : Str} {g : Str → Option Value} (h1 : g a = none) : g = fun y => if y = a then none else g y := by
  funext y
  by_cases e1 : y = a
  · subst e1; simp [h1]
  simp [e1]
section
variable {w : World} {G : Heap} {L : Addr} {m : Str → Option Value} {p : Program} {loose : List Str} {mean : ExcName → Option Value} {mg mb : Str → Option Value}
  {E : Value → Shared → Prop} {s : Shared} {A : Around}
end
def P_close_ok (w : World) (G : Heap) (L : Addr) (m : Str → Option Value) (p : Program) (loose : List Str) (mean : ExcName → Option Value) (mg mb : Str → Option Value) (E : Value → Shared → Prop) (s : Shared) (A : Around) (aw awd afi aop afl : Addr) (c : Int) (tc : Tok) (oo ofl : Obj) (kvf : List (Str × Value)) (fl : List (Str × Fld)) (kvo : List (Int × Value)) (rest stt : List (Addr × Obj)) (Q : Value → Shared → Prop) : Prop := ∀ (hh : A.handled = none) (hdp : A.depth ≤ 800) (hu : A.units ≤ 800) (F : Fr G L s.heap m) (T : Top p loose mean mg mb G) (X : (hd.heap_1 w.params).In G) (N : News G L s.heap ((aop, oo) :: (afl, ofl) :: rest)) (off : ∀ p ∈ rest, p.1 ≠ afl) (off2 : ∀ p ∈ rest, p.1 ≠ aop) (ne1 : @Ne Nat aop afl) (W : WorldAt rest aw awd afi aop afl) (d3 : oo.IsDictOf (PySem.intKind PySem.Challenge.rw_pq0169_01.row.prog w) kvo) (lo3 : (aop == sysModules) = false) (lo5 : (afl == sysModules) = false) (d5 : ofl.IsDictOf (PySem.strKind PySem.Challenge.rw_pq0169_01.row.prog w) kvf) (hstt : ∀ p ∈ stt, p ∈ rest) (f5 : FieldsAt stt kvf fl) (z5 : fl.length ≤ 10) (z3 : kvo.length ≤ 10) (h : ∀ h' tk oo' ofl' kvf', Fr G L h' m → News G L h' ((aop, oo') :: (afl, ofl') :: rest) → oo'.IsDictOf (PySem.intKind PySem.Challenge.rw_pq0169_01.row.prog w) (without kvo c) → ofl'.IsDictOf (PySem.strKind PySem.Challenge.rw_pq0169_01.row.prog w) kvf' → FieldsAt stt kvf' (fl.filter fun p => decide (p.2.1 ≠ c)) → Q .none { s with heap := h', toks := tk }), wpAny (model PySem.Challenge.rw_pq0169_01.row.prog w) A (call (.ref 70) [.ref aw, .int c tc] []) Q E s
def U_close_ok (c : (World) × (Heap) × (Addr) × (Str → Option Value) × (Program) × (List Str) × (ExcName → Option Value) × (Str → Option Value) × (Str → Option Value) × (Value → Shared → Prop) × (Shared) × (Around) × (Addr) × (Addr) × (Addr) × (Addr) × (Addr) × (Int) × (Tok) × (Obj) × (Obj) × (List (Str × Value)) × (List (Str × Fld)) × (List (Int × Value)) × (List (Addr × Obj)) × (List (Addr × Obj)) × (Value → Shared → Prop)) : Prop := P_close_ok c.1 c.2.1 c.2.2.1 c.2.2.2.1 c.2.2.2.2.1 c.2.2.2.2.2.1 c.2.2.2.2.2.2.1 c.2.2.2.2.2.2.2.1 c.2.2.2.2.2.2.2.2.1 c.2.2.2.2.2.2.2.2.2.1 c.2.2.2.2.2.2.2.2.2.2.1 c.2.2.2.2.2.2.2.2.2.2.2.1 c.2.2.2.2.2.2.2.2.2.2.2.2.1 c.2.2.2.2.2.2.2.2.2.2.2.2.2.1 c.2.2.2.2.2.2.2.2.2.2.2.2.2.2.1 c.2.2.2.2.2.2.2.2.2.2.2.2.2.2.2.1 c.2.2.2.2.2.2.2.2.2.2.2.2.2.2.2.2.1 c.2.2.2.2.2.2.2.2.2.2.2.2.2.2.2.2.2.1 c.2.2.2.2.2.2.2.2.2.2.2.2.2.2.2.2.2.2.1 c.2.2.2.2.2.2.2.2.2.2.2.2.2.2.2.2.2.2.2.1 c.2.2.2.2.2.2.2.2.2.2.2.2.2.2.2.2.2.2.2.2.1 c.2.2.2.2.2.2.2.2.2.2.2.2.2.2.2.2.2.2.2.2.2.1 c.2.2.2.2.2.2.2.2.2.2.2.2.2.2.2.2.2.2.2.2.2.2.1 c.2.2.2.2.2.2.2.2.2.2.2.2.2.2.2.2.2.2.2.2.2.2.2.1 c.2.2.2.2.2.2.2.2.2.2.2.2.2.2.2.2.2.2.2.2.2.2.2.2.1 c.2.2.2.2.2.2.2.2.2.2.2.2.2.2.2.2.2.2.2.2.2.2.2.2.2.1 c.2.2.2.2.2.2.2.2.2.2.2.2.2.2.2.2.2.2.2.2.2.2.2.2.2.2
/- the letters at which it would fail, if there are such -/
noncomputable def K_close_ok : (World) × (Heap) × (Addr) × (Str → Option Value) × (Program) × (List Str) × (ExcName → Option Value) × (Str → Option Value) × (Str → Option Value) × (Value → Shared → Prop) × (Shared) × (Around) × (Addr) × (Addr) × (Addr) × (Addr) × (Addr) × (Int) × (Tok) × (Obj) × (Obj) × (List (Str × Value)) × (List (Str × Fld)) × (List (Int × Value)) × (List (Addr × Obj)) × (List (Addr × Obj)) × (Value → Shared → Prop) := @Classical.epsilon _ (neP ⟨aWorld 0⟩ (neP ⟨default⟩ (neP ⟨default⟩ (neP ⟨default⟩ (neP ⟨default⟩ (neP ⟨default⟩ (neP ⟨default⟩ (neP ⟨default⟩ (neP ⟨default⟩ (neP ⟨default⟩ (neP neS (neP ⟨{}⟩ (neP ⟨default⟩ (neP ⟨default⟩ (neP ⟨default⟩ (neP ⟨default⟩ (neP ⟨default⟩ (neP ⟨default⟩ (neP ⟨default⟩ (neP ⟨default⟩ (neP ⟨default⟩ (neP ⟨default⟩ (neP ⟨default⟩ (neP ⟨default⟩ (neP ⟨default⟩ (neP ⟨default⟩ ⟨default⟩)))))))))))))))))))))))))) fun c => ¬ U_close_ok c
namespace E_close_ok
noncomputable def w : World := K_close_ok.1
noncomputable def G : Heap := K_close_ok.2.1
noncomputable def L : Addr := K_close_ok.2.2.1
noncomputable def m : Str → Option Value := K_close_ok.2.2.2.1
noncomputable def p : Program := K_close_ok.2.2.2.2.1
noncomputable def loose : List Str := K_close_ok.2.2.2.2.2.1
noncomputable def mean : ExcName → Option Value := K_close_ok.2.2.2.2.2.2.1
noncomputable def mg : Str → Option Value := K_close_ok.2.2.2.2.2.2.2.1
noncomputable def mb : Str → Option Value := K_close_ok.2.2.2.2.2.2.2.2.1
noncomputable def E : Value → Shared → Prop := K_close_ok.2.2.2.2.2.2.2.2.2.1
noncomputable def s : Shared := K_close_ok.2.2.2.2.2.2.2.2.2.2.1
noncomputable def A : Around := K_close_ok.2.2.2.2.2.2.2.2.2.2.2.1
noncomputable def aw : Addr := K_close_ok.2.2.2.2.2.2.2.2.2.2.2.2.1
noncomputable def awd : Addr := K_close_ok.2.2.2.2.2.2.2.2.2.2.2.2.2.1
noncomputable def afi : Addr := K_close_ok.2.2.2.2.2.2.2.2.2.2.2.2.2.2.1
noncomputable def aop : Addr := K_close_ok.2.2.2.2.2.2.2.2.2.2.2.2.2.2.2.1
noncomputable def afl : Addr := K_close_ok.2.2.2.2.2.2.2.2.2.2.2.2.2.2.2.2.1
noncomputable def c : Int := K_close_ok.2.2.2.2.2.2.2.2.2.2.2.2.2.2.2.2.2.1
noncomputable def tc : Tok := K_close_ok.2.2.2.2.2.2.2.2.2.2.2.2.2.2.2.2.2.2.1
noncomputable def oo : Obj := K_close_ok.2.2.2.2.2.2.2.2.2.2.2.2.2.2.2.2.2.2.2.1
noncomputable def ofl : Obj := K_close_ok.2.2.2.2.2.2.2.2.2.2.2.2.2.2.2.2.2.2.2.2.1
noncomputable def kvf : List (Str × Value) := K_close_ok.2.2.2.2.2.2.2.2.2.2.2.2.2.2.2.2.2.2.2.2.2.1
noncomputable def fl : List (Str × Fld) := K_close_ok.2.2.2.2.2.2.2.2.2.2.2.2.2.2.2.2.2.2.2.2.2.2.1
noncomputable def kvo : List (Int × Value) := K_close_ok.2.2.2.2.2.2.2.2.2.2.2.2.2.2.2.2.2.2.2.2.2.2.2.1
noncomputable def rest : List (Addr × Obj) := K_close_ok.2.2.2.2.2.2.2.2.2.2.2.2.2.2.2.2.2.2.2.2.2.2.2.2.1
noncomputable def stt : List (Addr × Obj) := K_close_ok.2.2.2.2.2.2.2.2.2.2.2.2.2.2.2.2.2.2.2.2.2.2.2.2.2.1
noncomputable def Q : Value → Shared → Prop := K_close_ok.2.2.2.2.2.2.2.2.2.2.2.2.2.2.2.2.2.2.2.2.2.2.2.2.2.2
theorem go : P_close_ok w G L m p loose mean mg mb E s A aw awd afi aop afl c tc oo ofl kvf fl kvo rest stt Q := by
  intro hh hdp hu F T X N off off2 ne1 W d3 lo3 lo5 d5 hstt f5 z5 z3 h
  refine wpAny_weak (A' := A2) ?_ hh (Nat.le_trans hdp (by decide)) (Nat.le_trans hu (by decide)) rfl rfl
  refine ex2_5 (W.ex) ?_; intro esw nw w1 w2 w3 w4 w5
  revert X
  k_fill
  intro X
  refine wpAny_call ?_
  have hab := F.above
  have ne1' : @Ne Nat afl aop := Ne.symm ne1
  have hL1 : @Ne Nat afl L := (N _ (.tail _ (.head _))).2.1
  have hL2 : @Ne Nat aop L := (N _ (.head _)).2.1
  have hL1' : @Ne Nat L afl := Ne.symm hL1
  have hL2' : @Ne Nat L aop := Ne.symm hL2
  have hLm : ∀ p ∈ rest, p.1 ≠ L := fun p hp => (N p (.tail _ (.tail _ hp))).2.1
  refine' enter0 (binds := [(Str.ofString "world", .ref aw), (Str.ofString "channel", .int c tc)]) F X N (Top.nolimit T) ?k6 ?k7 ?k8 ?k9 ?kB ?_ ?c2 ?c3 ?c4 ?c5
  (((case k6 => k_is); (case k7 => k_is); (case k8 => first | decide | omega); (case k9 => first | exact BindsTo.of_eq rfl | exact binds_K (by k_in) rfl (by k_is) rfl rfl rfl); (case c5 => decide); (case kB => exact locs rfl); (case c2 => exact rfl); (case c3 => exact rfl); (case c4 => exact rfl)))
  intro L' h₁ oL hoL F' N' l0 l1
  clear F N l0
  dsimp only
  k_fold
  walk1
  walk1
  refine wpAny_mono (?h1 : wpAny _ _ _ (Mid fun fl' s' => fl' = Flow.next ∧ ∃ h' tk oo', s' = { s with heap := h', toks := tk } ∧ Fr G L' h' (fun y => [(Str.ofString "world", Value.ref aw), (Str.ofString "channel", .int c tc)].reverse.lookup y) ∧ News G L' h' ((L, oL) :: (aop, oo') :: (afl, ofl) :: rest) ∧ oo'.IsDictOf (PySem.intKind PySem.Challenge.rw_pq0169_01.row.prog w) (without kvo c)) _ _) (fun fl' s' hx => ?_) (fun _ _ e => e)
  case h1 =>
    rcases hv : valueAt kvo c with _ | v
    · have hw : without kvo c = kvo := without_of_not_mem _ _ (fun hc => by
        refine ex1_2 (List.mem_map.mp hc) ?_; intro q hq e
        have := any_key (kvs := kvo) (k := c)
        rw [hv] at this
        have h2 : (kvo.any fun kv => decide (kv.1 = c)) = true := List.any_eq_true.mpr ⟨q, hq, by simpa using e⟩
        rw [h2] at this; cases this)
      have hb : (valueAt kvo c).isSome = false := by rw [hv]; rfl
      k_steps
      exact ⟨rfl, _, _, _, rfl, by k_asm, news_sub (by k_asm) (by ((repeat (first | exact List.forall_mem_nil _ | refine List.forall_mem_cons.mpr ⟨by k_mem, ?_⟩ | (intro p' hp'; k_mem))))), by rw [hw]; exact d3⟩
    · have hb : (valueAt kvo c).isSome = true := by rw [hv]; rfl
      k_steps
      exact ⟨rfl, _, _, _, rfl, by k_asm, news_sub (by k_asm) (by ((repeat (first | exact List.forall_mem_nil _ | refine List.forall_mem_cons.mpr ⟨by k_mem, ?_⟩ | (intro p' hp'; k_mem))))), by assumption⟩
  obtain ⟨E_1, h2, tk2, oo', E_2, F2, N2, hd2⟩ := hx
  try clear hx
  subst E_1
  subst E_2
  have hnd : (kvf.map (·.1)).Nodup := by obtain ⟨_, _, _, _, _, _, hn⟩ := d5; exact hn
  clear F' N'
  dsimp only
  walk1
  with_reducible rename Fr _ _ _ _ => F2
  refine' For_turns F2 ?_
  k_steps
  refine sorted_keys (by rfl) (by k_asm) (by k_asm) (by k_mem) d5 lo5 (by rw [f5.length]; omega) ?_
  intro B h3 tk3 vs ks n3 F3 N3 hB hS hP
  k_steps
  have hfn : (fl.map (·.1)).Nodup := by rw [← f5.keys]; exact hnd
  have W2 : WorldAt ((B, listOf vs.toArray n3) :: (L, oL) :: rest) aw awd afi aop afl := W.sub (by ((intro p' hp'; k_mem)))
  generalize hbase : (B, listOf vs.toArray n3) :: (L, oL) :: rest = base at W2
  have hsub : ∀ p ∈ rest, p ∈ base := by rw [← hbase]; exact fun p hp => .tail _ (.tail _ hp)
  have hBb : (B, listOf vs.toArray n3) ∈ base := by rw [← hbase]; exact .head _
  have hLb : (L, oL) ∈ base := by rw [← hbase]; exact .tail _ (.head _)
  have hoff : ∀ p ∈ base, p.1 ≠ afl := by
    rw [← hbase]; intro p hp
    refine mcons hp ?_ fun hp => ?_
    · exact Ne.symm (Nat.ne_of_lt (hB _ (.tail _ (.tail _ (.head _)))))
    refine mcons hp ?_ fun hp => ?_
    · exact hL1'
    · exact off p hp
  have hoff2 : ∀ p ∈ base, p.1 ≠ aop := by
    rw [← hbase]; intro p hp
    refine mcons hp ?_ fun hp => ?_
    · exact Ne.symm (Nat.ne_of_lt (hB _ (.tail _ (.head _))))
    refine mcons hp ?_ fun hp => ?_
    · exact hL2'
    · exact off2 p hp
  have NB := news_sub N3 (nl' := (aop, oo') :: (afl, ofl) :: (B, listOf vs.toArray n3) :: (L, oL) :: rest) (by ((repeat (first | exact List.forall_mem_nil _ | refine List.forall_mem_cons.mpr ⟨by k_mem, ?_⟩ | (intro p' hp'; k_mem)))))
  rw [hbase] at NB
  refine iter_listTurns (by rfl) F3 NB (lo := listOf vs.toArray n3) (.tail _ (.tail _ hBb)) rfl rfl (fun I hI => ?_)
  have hIa : @Ne Nat I aop := Ne.symm (Nat.ne_of_lt (hI _ (.head _)))
  have hIf : @Ne Nat I afl := Ne.symm (Nat.ne_of_lt (hI _ (.tail _ (.head _))))
  have hIa' : @Ne Nat aop I := Ne.symm hIa
  have hIf' : @Ne Nat afl I := Ne.symm hIf
  have hIb : ∀ p ∈ base, p.1 ≠ I := fun p hp => Nat.ne_of_lt (hI p (.tail _ (.tail _ hp)))
  refine items_ind (α := Str) (J := fun as us m' news => ∃ ofl' kvf', (∃ v1 : Option Value, m' = fun y => if y = Str.ofString "name" then v1 else [(Str.ofString "world", Value.ref aw), (Str.ofString "channel", .int c tc)].reverse.lookup y) ∧ news = (aop, oo') :: (afl, ofl') :: base ∧ ofl'.IsDictOf (PySem.strKind PySem.Challenge.rw_pq0169_01.row.prog w) kvf' ∧
      FieldsAt stt kvf' (fl.filter (keepC c as)) ∧ StrsAre us as ∧ as.Nodup ∧ ∀ a ∈ as, a ∈ fl.map (·.1))
      ?hlen ?hsrc ?step ?done vs ks _ _ ?init
  case hlen => rintro as us m' news ⟨_, _, _, _, _, _, S, _⟩; exact S.length.symm
  case hsrc =>
    intro as us m' news N_3
    refine ex2_3 N_3 ?_; intro _ _ _ E_4 _
    try clear N_3
    subst E_4
    exact .tail _ (.tail _ hBb)
  case init =>
    have hk : ∀ a ∈ ks, a ∈ fl.map (·.1) := fun a ha => by rw [← f5.keys]; exact hP.mem_iff.mp ha
    have hfl : fl.filter (keepC c ks) = fl := List.filter_eq_self.mpr fun p hp => by
      have : p.1 ∈ ks := hP.mem_iff.mpr (by rw [f5.keys]; exact List.mem_map.mpr ⟨p, hp, rfl⟩)
      simp [keepC, this]
    exact in2_7 ofl kvf ⟨none, m_none1 rfl⟩ rfl d5 (by rw [hfl]; exact f5) hS (hP.nodup_iff.mpr hnd) hk
  case done =>
    intro m' news h9 tk9 N_5 F6 N6
    refine ex2_7 N_5 ?_; intro ofl' kvf' N_6 E_7 a5 a6 a7 a8 a9
    try clear N_5
    refine ex1_1 N_6 ?_; intro b1 E_8
    try clear N_6
    subst E_8
    subst E_7
    k_steps
    refine h _ _ oo' ofl' kvf' (back_fr F6 N6 (.tail _ (.tail _ hLb)) hoL hab) (back_news N6 ?_) hd2 a5 ?_
    · intro p hp
      refine mcons hp ?_ fun hp => ?_
      · exact ⟨.head _, hL2⟩
      refine mcons hp ?_ fun hp => ?_
      · exact ⟨.tail _ (.head _), hL1⟩
      · exact ⟨.tail _ (.tail _ (hsub _ hp)), hLm p hp⟩
    · have e : (fl.filter fun p => decide (p.2.1 ≠ c)) = fl.filter (keepC c []) := List.filter_congr fun p _ => by simp [keepC]
      rw [e]; exact a6
  case step =>
    intro a as v us m' news h9 tk9 oI N_9 F6 N6
    refine ex2_7 N_9 ?_; intro ofl' kvf' N_10 E_11 a5 a6 a7 a8 a9
    try clear N_9
    refine ex1_1 N_10 ?_; intro b1 E_12
    try clear N_10
    subst E_12
    subst E_11
    cases a7 with
    | cons _ ta a7 =>
    refine ex2_5 (W2.ex) ?_; intro esw' nw' w1' w2' w3' w4' w5'
    have z5' : kvf'.length ≤ 20 := by rw [a6.length]; exact Nat.le_trans (List.length_filter_le _ _) (by omega)
    rw [List.nodup_cons] at a8
    refine ex1_2 (List.mem_map.mp (a9 a (.head _))) ?_; intro q hq hqa
    have hqc : q ∈ fl.filter (keepC c (a :: as)) := List.mem_filter.mpr ⟨hq, by simp [keepC, hqa]⟩
    refine ex1_1 (look_some hqc) ?_; intro x' hx'
    rw [hqa] at hx'
    have hst := fun x hx => keepC_step (x := x) (c := c) hfn a8.1 hx
    rcases a6.look a with ⟨_, hn⟩ | ⟨v', x, hv', hx, T9, k9, t1, t2, t3, rfl, hm9⟩
    · rw [hn] at hx'; cases hx'
    have hxf : (a, x) ∈ fl := (List.mem_filter.mp (look_mem hx)).1
    have hm9' := hsub _ (hstt _ hm9)
    have hst' := hst x hxf
    have hoffI : ∀ ofl'' : Obj, ∀ p ∈ (aop, oo') :: (afl, ofl'') :: base, p.1 ≠ I := by
      intro ofl'' p hp
      refine mcons hp ?_ fun hp => ?_
      · exact hIa'
      refine mcons hp ?_ fun hp => ?_
      · exact hIf'
      · exact hIb p hp
    have hmm : (fun y => if y = Str.ofString "name" then some (Value.str a ta) else if y = Str.ofString "name" then b1 else [(Str.ofString "world", Value.ref aw), (Str.ofString "channel", .int c tc)].reverse.lookup y) =
        fun y => if y = Str.ofString "name" then some (Value.str a ta) else [(Str.ofString "world", Value.ref aw), (Str.ofString "channel", .int c tc)].reverse.lookup y := by
      funext y
      by_cases e : y = Str.ofString "name"
      · rw [if_pos e, if_pos e]
      · rw [if_neg e, if_neg e, if_neg e]
    (repeat ((fail_if_success (with_reducible show wpAny _ _ (execs (_ :: _) _) _ _ _)); first | (k_unfold; (try dsimp only)) | walk1 | (dsimp only; walk1) | (leave1; try dsimp only)))
    refine wp_hide ?_
    intro Q_ hQ_
    k_steps
    · have hc : x.1 = c := by assumption
      rw [if_pos hc] at hst'
      refine hQ_ _ _ ?_
      refine in4_5 _ _ _ ((aop, oo') :: (afl, _) :: base) rfl (by k_asm) (news_sub (by k_asm) (by ((repeat (first | exact List.forall_mem_nil _ | refine List.forall_mem_cons.mpr ⟨by k_mem, ?_⟩ | (intro p' hp'; k_mem)))))) (hoffI _) ?_
      exact in2_7 _ _ ⟨_, hmm⟩ rfl (by assumption) (by rw [← hst']; exact a6.drop a) a7 (a8.2) (fun b hb => a9 b (.tail _ hb))
    · have hc : x.1 ≠ c := by assumption
      rw [if_neg hc] at hst'
      refine hQ_ _ _ ?_
      refine in4_5 _ _ _ ((aop, oo') :: (afl, _) :: base) rfl (by k_asm) (news_sub (by k_asm) (by ((repeat (first | exact List.forall_mem_nil _ | refine List.forall_mem_cons.mpr ⟨by k_mem, ?_⟩ | (intro p' hp'; k_mem)))))) (hoffI _) ?_
      exact in2_7 _ _ ⟨_, hmm⟩ rfl a5 (by rw [← hst']; exact a6) a7 (a8.2) (fun b hb => a9 b (.tail _ hb))
end E_close_ok
theorem close_ok {w : World} {G : Heap} {L : Addr} {m : Str → Option Value} {p : Program} {loose : List Str} {mean : ExcName → Option Value} {mg mb : Str → Option Value} {E : Value → Shared → Prop} {s : Shared} {A : Around} {aw awd afi aop afl : Addr} {c : Int} {tc : Tok} {oo ofl : Obj} {kvf : List (Str × Value)} {fl : List (Str × Fld)} {kvo : List (Int × Value)} {rest stt : List (Addr × Obj)} {Q : Value → Shared → Prop} : P_close_ok w G L m p loose mean mg mb E s A aw awd afi aop afl c tc oo ofl kvf fl kvo rest stt Q := eps_all (Ψ := U_close_ok) E_close_ok.go (w, G, L, m, p, loose, mean, mg, mb, E, s, A, aw, awd, afi, aop, afl, c, tc, oo, ofl, kvf, fl, kvo, rest, stt, Q)
section
variable {w : World} {G : Heap} {L : Addr} {m : Str → Option Value} {p : Program} {loose : List Str} {mean : ExcName → Option Value} {mg mb : Str → Option Value}
  {E : Value → Shared → Prop} {s : Shared} {A : Around}
end

section
open LCg
variable {prog : Program} {w : World} {A : Around} {E : Value → Shared → Prop} {s : Shared} {G : Heap} {L : Addr} {m : Str → Option Value} {env : Env}
/- a list comprehension with one test over a plain text -/
theorem comp_str {elt iter c : PySem.Expr} {a : Str} {pa : Pos} {scope : Scope} {cl : List (Str × Addr)} {pos : Pos} {led : List (Addr × Obj)} {ys : Nat → List Value} {Q : Value → Shared → Prop} {x : Str} {t : Tok}
    (_F₀ : Fr G L s.heap m) (_N₀ : News G L s.heap led) (hx : x.cps.all (· < 128) = true) (hsz : x.cps.size ≤ sizeLine) (y0 : ys 0 = []) (yl : ∀ i, i ≤ x.cps.size → (ys i).length ≤ i)
    (hclos : closureFor scope env = pure cl) (hcell : ∀ y ∈ scope.names, y.2 ≠ .cell) (hkind : scope.kind = .function)
    (hnames : ∀ y ∈ scope.names, y.2 = .local → scope.names.lookup y.1 = some .local) (hh : A.handled = none)
    (h : wpAny (model prog w) A (eval iter env) (fun xv s₁ => xv = .str x t ∧ Fr G L s₁.heap m ∧ News G L s₁.heap led ∧
      (∀ g, (∀ i, i < x.cps.size → ∀ v, SignAt x i v → ∀ I oI C oC D m' h tk (E' : Value → Shared → Prop), NsObj oC m' → Fr G L h m → News G L h ((I, oI) :: (C, oC) :: (D, lst (ys i)) :: led) → Off3 I C D led → @Ne Nat I C → @Ne Nat I D → @Ne Nat C D →
        wpAny (model prog w) A (assign (.Name a pa) (compEnvC scope cl C env) v) (fun _ s₃ => wpAny (model prog w) A (isTrue c (compEnvC scope cl C env) (eval c (compEnvC scope cl C env))) (fun ok s₄ => if ok = true then
          wpAny (model prog w) A (eval elt (compEnvC scope cl C env)) (fun y s₅ => ys (i + 1) = ys i ++ [y] ∧ TurnEnd G L m { s₁ with heap := g } I oI C D (lst (ys i)) led s₅) E' s₄
        else ys (i + 1) = ys i ∧ TurnEnd G L m { s₁ with heap := g } I oI C D (lst (ys i)) led s₄) E' s₃) E' { s₁ with heap := h, toks := tk })) ∧
      (∀ D h tk, Fr G L h m → News G L h ((D, lst (ys x.cps.size)) :: led) → Off1 D led → Q (.ref D) { s₁ with heap := h, toks := tk })) E s)
    (hs : ∀ x, foldedSetIterable iter env x = pure x := by intro _; rfl) :
    wpAny (model prog w) A (eval (.ListComp elt [⟨.Name a pa, iter, [c], 0⟩] scope pos) env) Q E s := by
  rw [eval_ListComp]
  refine wpAny_comprehension_free (use := none) rfl hs hclos hkind hnames (wpAny_mono h (fun xv s₁ h₁ => ?_) fun _ _ e => e)
  refine ex0_5 h₁ ?_; intro E_1 F N turn hQ
  try clear h₁
  subst E_1
  refine wpAny_pyIter_ascii hx ?_
  have up : ∀ b o, s₁.heap.get? b = some o → (s₁.heap.push { cls := .type "str_ascii_iterator", data := .fields #[.str x t, .int 0 0] }).get? b = some o := fun b o e => Heap.get?_push_of_some _ e
  refine comp_turns (n := x.cps.size) (led := led) (Walks.strAscii hh s₁.heap.objs.size x t) hsz (fun i h st => by obtain ⟨o, e, _⟩ := st; exact ⟨o, e⟩) (fun i h h' st e N' => by obtain ⟨o, e', r⟩ := st; exact ⟨o, e o e', r⟩)
    (fun i v s Q E hv st q => wpAny_pure q) hcell hkind ⟨_, Heap.get?_push_size _ rfl, rfl, rfl⟩ (fun b hb => ?_) (F.keeps up) (N.grown up) (Nat.ne_of_lt F.ns.lt) (next_is_new F) (fun p hp => Nat.ne_of_lt (Heap.lt_size (N p hp).1)) y0 yl ?_ ?_
  · show b < (s₁.heap.push _).objs.size
    rw [Heap.size_push]
    rw [List.mem_singleton.mp hb]; exact Nat.lt_succ_self _
  · intro i hi v hv oI C oC D m' h tk E' a b c d e f g
    exact turn _ i hi v hv _ oI C oC D m' h tk E' a b c d e f g
  · intro D C h tk m' F' N' o1 hn hC₀ hD₀ hCL hDL hCD offC
    refine ⟨m', hn, fun h'' hs'' => hQ D h'' tk (F'.change hs'' hCL hC₀) (fun p hp => ?_) o1⟩
    refine ⟨hs''.extBut _ _ ?_ (N' p hp).1, (N' p hp).2⟩
    refine mcons hp ?_ fun hp => ?_
    · exact Ne.symm hCD
    · exact offC p hp
end

section
variable {w : World} {G : Heap} {L : Addr} {m : Str → Option Value} {p : Program} {loose : List Str} {mean : ExcName → Option Value} {mg mb : Str → Option Value}
  {E : Value → Shared → Prop} {s : Shared} {A : Around}
theorem int_tok (w : World) : ∀ k v, (PySem.intKind PySem.Challenge.rw_pq0169_01.row.prog w).is k v = true → ∃ t, v = kyVal (PyData.int k) t := fun _ _ h => Value.isInt_shape h
theorem written0 {aw awd afi aop afl : Addr} {nm : Str} {t1 t2 : Tok} {oo : Obj} {rest : List (Addr × Obj)} {Q : Value → Shared → Prop}
  (hh : A.handled = none) (hdp : A.depth ≤ 890) (hu : A.units ≤ 890)
  (F : Fr G L s.heap m) (T : Top p loose mean mg mb G) (X : (hd.heap_1 w.params).In G) (N : News G L s.heap rest)
  (W : WorldAt rest aw awd afi aop afl)
  (m3 : (aop, oo) ∈ rest) (d3 : oo.IsDictOf (PySem.intKind PySem.Challenge.rw_pq0169_01.row.prog w) []) (lo3 : (aop == sysModules) = false)
  (h : ∀ h' tk, Fr G L h' m → News G L h' rest → Q (.bool false) { s with heap := h', toks := tk }) :
  wpAny (model PySem.Challenge.rw_pq0169_01.row.prog w) A (call (.ref 56) [.ref aw, .str (Str.ofString "R") t1, .str nm t2] []) Q E s := by
  refine wpAny_weak (A' := A1) ?_ hh (Nat.le_trans hdp (by decide)) (Nat.le_trans hu (by decide)) rfl rfl
  refine ex2_5 (W.ex) ?_; intro esw nw w1 w2 w3 w4 w5
  revert X
  k_fill
  intro X
  refine wpAny_call ?_
  have hab := F.above
  have hLm : ∀ p ∈ rest, p.1 ≠ L := fun p hp => (N p hp).2.1
  refine' enter0 (binds := [(Str.ofString "world", .ref aw), (Str.ofString "mode", .str (Str.ofString "R") t1), (Str.ofString "name", .str nm t2)]) F X N (Top.nolimit T) ?k6 ?k7 ?k8 ?k9 ?kB ?_ ?c2 ?c3 ?c4 ?c5
  (((case k6 => k_is); (case k7 => k_is); (case k8 => first | decide | omega); (case k9 => first | exact BindsTo.of_eq rfl | exact binds_K (by k_in) rfl (by k_is) rfl rfl rfl); (case c5 => decide); (case kB => exact locs rfl); (case c2 => exact rfl); (case c3 => exact rfl); (case c4 => exact rfl)))
  intro L' h₁ oL hoL F' N' l0 l1
  clear F N l0
  dsimp only
  k_fold
  walk1
  walk1
  with_reducible rename Fr _ _ _ _ => F2
  refine' For_turns F2 ?_
  k_steps
  refine kta_keys (knd := PySem.intKind PySem.Challenge.rw_pq0169_01.row.prog w) (enc := PyData.int) (by rfl) (by k_asm) (by k_asm) (by k_mem) d3 lo3 (int_tok w) rfl (fun I hI => ?_)
  refine ItemsRest.zero ?_
  intro h3 tk3 F3 N3
  k_steps
  exact h _ _ (back_fr (by k_asm) (by k_asm) (by k_mem) hoL hab) (back_news (by k_asm) (by ((repeat (first | exact List.forall_mem_nil _ | refine List.forall_mem_cons.mpr ⟨⟨by k_mem, by k_ne⟩, ?_⟩ | (intro p' hp'; exact ⟨by k_mem, by first | assumption | (apply_assumption; assumption)⟩))))))
theorem written1 {aw awd afi aop afl am : Addr} {nm nm1 : Str} {bl : List Nat} {size rec0 : Int} {om : Obj} {kvm : List (Str × Value)} {t1 t2 : Tok} {oo : Obj} {rest : List (Addr × Obj)} {Q : Value → Shared → Prop}
  (hh : A.handled = none) (hdp : A.depth ≤ 890) (hu : A.units ≤ 890)
  (F : Fr G L s.heap m) (T : Top p loose mean mg mb G) (X : (hd.heap_1 w.params).In G) (N : News G L s.heap rest)
  (W : WorldAt rest aw awd afi aop afl)
  (m3 : (aop, oo) ∈ rest) (d3 : oo.IsDictOf (PySem.intKind PySem.Challenge.rw_pq0169_01.row.prog w) [(1, .ref am)]) (lo3 : (aop == sysModules) = false)
  (m4 : (am, om) ∈ rest) (d4 : om.IsDictOf (PySem.strKind PySem.Challenge.rw_pq0169_01.row.prog w) kvm) (M : MadeIs kvm nm1 size bl rec0) (hnm : (nm1 == nm) = false)
  (h : ∀ h' tk, Fr G L h' m → News G L h' rest → Q (.bool false) { s with heap := h', toks := tk }) :
  wpAny (model PySem.Challenge.rw_pq0169_01.row.prog w) A (call (.ref 56) [.ref aw, .str (Str.ofString "R") t1, .str nm t2] []) Q E s := by
  refine wpAny_weak (A' := A1) ?_ hh (Nat.le_trans hdp (by decide)) (Nat.le_trans hu (by decide)) rfl rfl
  obtain ⟨N_1, N_2, N_3, N_4, N_5, M6⟩ := (id M)
  refine ex1_1 N_1 ?_; intro tm M1
  try clear N_1
  refine ex1_1 N_2 ?_; intro tm2 M2
  try clear N_2
  refine ex1_1 N_3 ?_; intro tm3 M3
  try clear N_3
  refine ex1_1 N_4 ?_; intro tm4 M4
  try clear N_4
  refine ex1_1 N_5 ?_; intro tm5 M5
  try clear N_5
  have v3 : valueAt [((1 : Int), Value.ref am)] 1 = some (.ref am) := rfl
  refine ex2_5 (W.ex) ?_; intro esw nw w1 w2 w3 w4 w5
  revert X
  k_fill
  intro X
  refine wpAny_call ?_
  have hab := F.above
  have hLm : ∀ p ∈ rest, p.1 ≠ L := fun p hp => (N p hp).2.1
  refine' enter0 (binds := [(Str.ofString "world", .ref aw), (Str.ofString "mode", .str (Str.ofString "R") t1), (Str.ofString "name", .str nm t2)]) F X N (Top.nolimit T) ?k6 ?k7 ?k8 ?k9 ?kB ?_ ?c2 ?c3 ?c4 ?c5
  (((case k6 => k_is); (case k7 => k_is); (case k8 => first | decide | omega); (case k9 => first | exact BindsTo.of_eq rfl | exact binds_K (by k_in) rfl (by k_is) rfl rfl rfl); (case c5 => decide); (case kB => exact locs rfl); (case c2 => exact rfl); (case c3 => exact rfl); (case c4 => exact rfl)))
  intro L' h₁ oL hoL F' N' l0 l1
  clear F N l0
  dsimp only
  k_fold
  walk1
  walk1
  with_reducible rename Fr _ _ _ _ => F2
  refine' For_turns F2 ?_
  k_steps
  refine kta_keys (knd := PySem.intKind PySem.Challenge.rw_pq0169_01.row.prog w) (enc := PyData.int) (by rfl) (by k_asm) (by k_asm) (by k_mem) d3 lo3 (int_tok w) rfl (fun I hI => ?_)
  refine ItemsRest.tok (fun t3 h3 tk3 F3 => AllObj.cons fun oI _ => AllObj.nil fun N3 => ?_)
  show wpAny _ _ (assign _ _ (Value.int 1 t3)) _ _ _
  have hf3 : decide (nm1 = nm) = false := by simpa using hnm
  k_steps
  refine in4_6 _ _ _ ((L, oL) :: rest) rfl (by k_asm) (news_sub (nl' := (I, oI) :: (L, oL) :: rest) (by k_asm) (by ((repeat (first | exact List.forall_mem_nil _ | refine List.forall_mem_cons.mpr ⟨by k_mem, ?_⟩ | (intro p' hp'; k_mem)))))) (fun p hp q hq => ?_) ⟨by k_mem, trivial⟩ (ItemsRest.zero ?_)
  · rw [List.mem_singleton.mp hq]
    exact Nat.ne_of_lt (hI p hp)
  intro h4 tk4 F4 N4
  k_steps
  exact h _ _ (back_fr (by k_asm) (by k_asm) (by k_mem) hoL hab) (back_news (by k_asm) (by ((repeat (first | exact List.forall_mem_nil _ | refine List.forall_mem_cons.mpr ⟨⟨by k_mem, by k_ne⟩, ?_⟩ | (intro p' hp'; exact ⟨by k_mem, by first | assumption | (apply_assumption; assumption)⟩))))))
end

section
variable {w : World} {G : Heap} {L : Addr} {m : Str → Option Value} {p : Program} {loose : List Str} {mean : ExcName → Option Value} {mg mb : Str → Option Value}
  {E : Value → Shared → Prop} {s : Shared} {A : Around}
theorem check_ok {t : Tok} {x : Str} {rest : List (Addr × Obj)} {Q : Value → Shared → Prop}
  (hh : A.handled = none) (hdp : A.depth ≤ 890) (hu : A.units ≤ 890)
  (F : Fr G L s.heap m) (T : Top p loose mean mg mb G) (X : (hd.heap_1 w.params).In G) (N : News G L s.heap rest)
  (x1 : x.cps.all (· < 128) = true) (x2 : ∀ (i c : Nat), x.cps[i]? = some c → 33 ≤ c ∧ c ≤ 126) (x3 : x.length = 3)
  (h : ∀ h' tk, Fr G L h' m → News G L h' rest → Q (.str x t) { s with heap := h', toks := tk }) :
  wpAny (model PySem.Challenge.rw_pq0169_01.row.prog w) A (call (.ref 42) [.str x t] []) Q E s := by
  refine wpAny_weak (A' := A1) ?_ hh (Nat.le_trans hdp (by decide)) (Nat.le_trans hu (by decide)) rfl rfl
  revert X
  k_fill
  intro X
  refine wpAny_call ?_
  have hab := F.above
  have hLm : ∀ p ∈ rest, p.1 ≠ L := fun p hp => (N p hp).2.1
  refine' enter0 (binds := [(Str.ofString "name", .str x t)]) F X N (Top.nolimit T) ?k6 ?k7 ?k8 ?k9 ?kB ?_ ?c2 ?c3 ?c4 ?c5
  (((case k6 => k_is); (case k7 => k_is); (case k8 => first | decide | omega); (case k9 => first | exact BindsTo.of_eq rfl | exact binds_K (by k_in) rfl (by k_is) rfl rfl rfl); (case c5 => decide); (case kB => exact locs rfl); (case c2 => exact rfl); (case c3 => exact rfl); (case c4 => exact rfl)))
  intro L' h₁ oL hoL F' N' l0 l1
  clear F N l0
  dsimp only
  k_fold
  have x3' : x.cps.size = 3 := x3
  have d1 : decide ((1 : Int) ≤ (x.length : Int)) = true := decide_eq_true (by omega)
  have d2 : decide ((x.length : Int) ≤ 30) = true := decide_eq_true (by omega)
  (repeat ((fail_if_success (with_reducible show wpAny _ _ (eval (Expr.ListComp _ _ _ _) _) _ _ _)); first | (k_unfold; (try dsimp only)) | walk1 | (dsimp only; walk1) | (leave1; try dsimp only)))
  refine comp_str (ys := fun _ => []) (x := x) (t := t) (by k_asm) (by k_asm) x1 (by rw [x3']; (exact Nat.le_of_ble_eq_true rfl)) rfl (fun _ _ => Nat.zero_le _) (by rfl) (by decide) (by rfl) (by decide) (by rfl) ?_
  walk1
  refine ⟨rfl, by k_asm, by k_asm, ?_, ?_⟩
  · intro g i hi v hv I oI C oC D m' h tk E' hC F9 N9 o9 e1 e2 e3
    refine ex2_2 hv ?_; intro ch u9 hc9 E_1
    try clear hv
    subst E_1
    refine ex0_2 (x2 _ _ hc9) ?_; intro g1 g2
    refine comp_name hC F9 N9 o9 e1 e3 (by rfl) (by rfl) ?_
    intro h5 tk5 oC5 m5 hC5 hx5 F5 N5
    k_steps
    · trivial
    · exact in4_4 _ _ _ _ rfl hC5 F5 N5
  · intro D9 h9 tk9 F9 N9 o9
    dsimp only
    k_steps
    exact h _ _ (back_fr (by k_asm) (by k_asm) (by k_mem) hoL hab) (back_news (by k_asm) (by ((repeat (first | exact List.forall_mem_nil _ | refine List.forall_mem_cons.mpr ⟨⟨by k_mem, by k_ne⟩, ?_⟩ | (intro p' hp'; exact ⟨by k_mem, by first | assumption | (apply_assumption; assumption)⟩))))))
end

theorem one_cps : (Str.ofString "ONE").cps = #[79, 78, 69] := by rfl
theorem two_cps : (Str.ofString "TWO").cps = #[84, 87, 79] := by rfl
section
variable {w : World} {G : Heap} {L : Addr} {m : Str → Option Value} {p : Program} {loose : List Str} {mean : ExcName → Option Value} {mg mb : Str → Option Value}
  {E : Value → Shared → Prop} {s : Shared} {A : Around}
theorem openA {aw awd afi aop afl : Addr} {t1 t2 t3 t4 : Tok} {oo ofi : Obj} {rest : List (Addr × Obj)} {Q : Value → Shared → Prop}
  (hh : A.handled = none) (hdp : A.depth ≤ 800) (hu : A.units ≤ 800)
  (F : Fr G L s.heap m) (T : Top p loose mean mg mb G) (X : (hd.heap_1 w.params).In G) (N : News G L s.heap ((afi, ofi) :: (aop, oo) :: rest)) (off : ∀ p ∈ rest, p.1 ≠ afi) (off2 : ∀ p ∈ rest, p.1 ≠ aop) (ne1 : @Ne Nat afi aop)
  (W : WorldAt rest aw awd afi aop afl)
  (d3 : oo.IsDictOf (PySem.intKind PySem.Challenge.rw_pq0169_01.row.prog w) []) (lo3 : (aop == sysModules) = false)
  (d4 : ofi.IsDictOf (PySem.strKind PySem.Challenge.rw_pq0169_01.row.prog w) []) (lo4 : (afi == sysModules) = false)
  (h : ∀ h' tk am om ofi' oo' kvm t, Fr G L h' m → News G L h' ((am, om) :: (afi, ofi') :: (aop, oo') :: rest) → oo'.IsDictOf (PySem.intKind PySem.Challenge.rw_pq0169_01.row.prog w) [(1, .ref am)] → ofi'.IsDictOf (PySem.strKind PySem.Challenge.rw_pq0169_01.row.prog w) [(Str.ofString "ONE", .str (Str.ofString "") t)] →
    om.IsDictOf (PySem.strKind PySem.Challenge.rw_pq0169_01.row.prog w) kvm → MadeIs kvm (Str.ofString "ONE") 4 (List.replicate 4 0) 0 → (∀ q ∈ (afi, ofi) :: (aop, oo) :: rest, @LT.lt Nat _ q.1 am) → Q .none { s with heap := h', toks := tk }) :
  wpAny (model PySem.Challenge.rw_pq0169_01.row.prog w) A (call (.ref 49) [.ref aw, .str (Str.ofString "R") t1, .int 1 t2, .str (Str.ofString "ONE") t3, .int 4 t4] []) Q E s := by
  refine wpAny_weak (A' := A2) ?_ hh (Nat.le_trans hdp (by decide)) (Nat.le_trans hu (by decide)) rfl rfl
  refine ex2_5 (W.ex) ?_; intro esw nw w1 w2 w3 w4 w5
  revert X
  k_fill
  intro X
  refine wpAny_call ?_
  have hab := F.above
  have ne1' : @Ne Nat aop afi := Ne.symm ne1
  have hL1 : @Ne Nat afi L := (N _ (.head _)).2.1
  have hL2 : @Ne Nat aop L := (N _ (.tail _ (.head _))).2.1
  have hL1' : @Ne Nat L afi := Ne.symm hL1
  have hL2' : @Ne Nat L aop := Ne.symm hL2
  have hLm : ∀ p ∈ rest, p.1 ≠ L := fun p hp => (N p (.tail _ (.tail _ hp))).2.1
  refine' enter0 (binds := [(Str.ofString "world", .ref aw), (Str.ofString "mode", .str (Str.ofString "R") t1), (Str.ofString "channel", .int 1 t2), (Str.ofString "name", .str (Str.ofString "ONE") t3), (Str.ofString "size", .int 4 t4)]) F X N (Top.nolimit T) ?k6 ?k7 ?k8 ?k9 ?kB ?_ ?c2 ?c3 ?c4 ?c5
  (((case k6 => k_is); (case k7 => k_is); (case k8 => first | decide | omega); (case k9 => first | exact BindsTo.of_eq rfl | exact binds_K (by k_in) rfl (by k_is) rfl rfl rfl); (case c5 => decide); (case kB => exact locs rfl); (case c2 => exact rfl); (case c3 => exact rfl); (case c4 => exact rfl)))
  intro L' h₁ oL hoL F' N' l0 l1
  clear F N l0
  dsimp only
  k_fold
  have c1 : ∀ (i c : Nat), (Str.ofString "ONE").cps[i]? = some c → 33 ≤ c ∧ c ≤ 126 := by
    rw [one_cps]
    intro i c hc
    match i, hc with
    | 0, hc => cases hc; decide
    | 1, hc => cases hc; decide
    | 2, hc => cases hc; decide
    | i + 3, hc => simp at hc
  have v3 : (valueAt ([] : List (Int × Value)) 1).isSome = false := rfl
  have v4 : (valueAt ([] : List (Str × Value)) (Str.ofString "ONE")).isSome = false := rfl
  k_steps
  refine written0 rfl (by (exact Nat.le_of_ble_eq_true rfl)) (by (exact Nat.le_of_ble_eq_true rfl)) (by k_asm) T X (by k_asm) (W.sub (by ((intro p' hp'; k_mem)))) (by k_mem) d3 lo3 ?_
  intro h2 tk2 F2 N2
  k_steps
  refine check_ok rfl (by (exact Nat.le_of_ble_eq_true rfl)) (by (exact Nat.le_of_ble_eq_true rfl)) (by k_asm) T X (by k_asm) (by rw [one_cps]; decide +kernel) c1 rfl ?_
  intro h3 tk3 F3 N3
  k_steps
  with_reducible rename _ ∧ _ ∧ _ ∧ AllLt _ _ => l9
  refine h _ _ _ _ _ _ _ _ (back_fr (by k_asm) (by k_asm) (by k_mem) hoL hab) ?news (by assumption) (by assumption) (by assumption) ?made ?lt
  case news => exact back_news (by k_asm) (by ((repeat (first | exact List.forall_mem_nil _ | refine List.forall_mem_cons.mpr ⟨⟨by k_mem, by k_ne⟩, ?_⟩ | (intro p' hp'; exact ⟨by k_mem, by first | assumption | (apply_assumption; assumption)⟩)))))
  case made => exact MadeIs.put_buf (b := []) ⟨⟨_, rfl⟩, ⟨_, rfl⟩, ⟨_, rfl⟩, ⟨_, rfl⟩, ⟨_, rfl⟩, rfl⟩ (by rfl)
  case lt =>
    intro q hq
    refine mcons hq ?_ fun hq => ?_
    · exact l9.2.1
    refine mcons hq ?_ fun hq => ?_
    · exact l9.2.2.1
    · exact PySem.W.tb_ltOf l9.2.2.2 _ hq
theorem openB {aw awd afi aop afl a1 : Addr} {bl : List Nat} {rec0 : Int} {om1 : Obj} {kv1 : List (Str × Value)} {tf : Tok} {t1 t2 t3 t4 : Tok} {oo ofi : Obj} {rest : List (Addr × Obj)} {Q : Value → Shared → Prop}
  (hh : A.handled = none) (hdp : A.depth ≤ 800) (hu : A.units ≤ 800)
  (F : Fr G L s.heap m) (T : Top p loose mean mg mb G) (X : (hd.heap_1 w.params).In G) (N : News G L s.heap ((afi, ofi) :: (aop, oo) :: rest)) (off : ∀ p ∈ rest, p.1 ≠ afi) (off2 : ∀ p ∈ rest, p.1 ≠ aop) (ne1 : @Ne Nat afi aop)
  (W : WorldAt rest aw awd afi aop afl)
  (d3 : oo.IsDictOf (PySem.intKind PySem.Challenge.rw_pq0169_01.row.prog w) [(1, .ref a1)]) (m1 : (a1, om1) ∈ rest) (d1 : om1.IsDictOf (PySem.strKind PySem.Challenge.rw_pq0169_01.row.prog w) kv1) (M1 : MadeIs kv1 (Str.ofString "ONE") 4 bl rec0) (lo3 : (aop == sysModules) = false)
  (d4 : ofi.IsDictOf (PySem.strKind PySem.Challenge.rw_pq0169_01.row.prog w) [(Str.ofString "ONE", .str (Str.ofString "") tf)]) (lo4 : (afi == sysModules) = false)
  (h : ∀ h' tk am om ofi' oo' kvm t, Fr G L h' m → News G L h' ((am, om) :: (afi, ofi') :: (aop, oo') :: rest) → oo'.IsDictOf (PySem.intKind PySem.Challenge.rw_pq0169_01.row.prog w) [(1, .ref a1), (2, .ref am)] → ofi'.IsDictOf (PySem.strKind PySem.Challenge.rw_pq0169_01.row.prog w) [(Str.ofString "ONE", .str (Str.ofString "") tf), (Str.ofString "TWO", .str (Str.ofString "") t)] →
    om.IsDictOf (PySem.strKind PySem.Challenge.rw_pq0169_01.row.prog w) kvm → MadeIs kvm (Str.ofString "TWO") 6 (List.replicate 6 0) 0 → (∀ q ∈ (afi, ofi) :: (aop, oo) :: rest, @LT.lt Nat _ q.1 am) → Q .none { s with heap := h', toks := tk }) :
  wpAny (model PySem.Challenge.rw_pq0169_01.row.prog w) A (call (.ref 49) [.ref aw, .str (Str.ofString "R") t1, .int 2 t2, .str (Str.ofString "TWO") t3, .int 6 t4] []) Q E s := by
  refine wpAny_weak (A' := A2) ?_ hh (Nat.le_trans hdp (by decide)) (Nat.le_trans hu (by decide)) rfl rfl
  refine ex2_5 (W.ex) ?_; intro esw nw w1 w2 w3 w4 w5
  revert X
  k_fill
  intro X
  refine wpAny_call ?_
  have hab := F.above
  have ne1' : @Ne Nat aop afi := Ne.symm ne1
  have hL1 : @Ne Nat afi L := (N _ (.head _)).2.1
  have hL2 : @Ne Nat aop L := (N _ (.tail _ (.head _))).2.1
  have hL1' : @Ne Nat L afi := Ne.symm hL1
  have hL2' : @Ne Nat L aop := Ne.symm hL2
  have hLm : ∀ p ∈ rest, p.1 ≠ L := fun p hp => (N p (.tail _ (.tail _ hp))).2.1
  refine' enter0 (binds := [(Str.ofString "world", .ref aw), (Str.ofString "mode", .str (Str.ofString "R") t1), (Str.ofString "channel", .int 2 t2), (Str.ofString "name", .str (Str.ofString "TWO") t3), (Str.ofString "size", .int 6 t4)]) F X N (Top.nolimit T) ?k6 ?k7 ?k8 ?k9 ?kB ?_ ?c2 ?c3 ?c4 ?c5
  (((case k6 => k_is); (case k7 => k_is); (case k8 => first | decide | omega); (case k9 => first | exact BindsTo.of_eq rfl | exact binds_K (by k_in) rfl (by k_is) rfl rfl rfl); (case c5 => decide); (case kB => exact locs rfl); (case c2 => exact rfl); (case c3 => exact rfl); (case c4 => exact rfl)))
  intro L' h₁ oL hoL F' N' l0 l1
  clear F N l0
  dsimp only
  k_fold
  have c1 : ∀ (i c : Nat), (Str.ofString "TWO").cps[i]? = some c → 33 ≤ c ∧ c ≤ 126 := by
    rw [two_cps]
    intro i c hc
    match i, hc with
    | 0, hc => cases hc; decide
    | 1, hc => cases hc; decide
    | 2, hc => cases hc; decide
    | i + 3, hc => simp at hc
  have v3 : (valueAt [((1 : Int), Value.ref a1)] 2).isSome = false := rfl
  have v4 : (valueAt [(Str.ofString "ONE", Value.str (Str.ofString "") tf)] (Str.ofString "TWO")).isSome = false := by rfl
  k_steps
  refine written1 rfl (by (exact Nat.le_of_ble_eq_true rfl)) (by (exact Nat.le_of_ble_eq_true rfl)) (by k_asm) T X (by k_asm) (W.sub (by ((intro p' hp'; k_mem)))) (by k_mem) d3 lo3 (by k_mem) d1 M1 (by rfl) ?_
  intro h2 tk2 F2 N2
  k_steps
  refine check_ok rfl (by (exact Nat.le_of_ble_eq_true rfl)) (by (exact Nat.le_of_ble_eq_true rfl)) (by k_asm) T X (by k_asm) (by rw [two_cps]; decide +kernel) c1 rfl ?_
  intro h3 tk3 F3 N3
  k_steps
  with_reducible rename _ ∧ _ ∧ _ ∧ AllLt _ _ => l9
  refine h _ _ _ _ _ _ _ _ (back_fr (by k_asm) (by k_asm) (by k_mem) hoL hab) ?news (by assumption) (by assumption) (by assumption) ?made ?lt
  case news => exact back_news (by k_asm) (by ((repeat (first | exact List.forall_mem_nil _ | refine List.forall_mem_cons.mpr ⟨⟨by k_mem, by k_ne⟩, ?_⟩ | (intro p' hp'; exact ⟨by k_mem, by first | assumption | (apply_assumption; assumption)⟩)))))
  case made => exact MadeIs.put_buf (b := []) ⟨⟨_, rfl⟩, ⟨_, rfl⟩, ⟨_, rfl⟩, ⟨_, rfl⟩, ⟨_, rfl⟩, rfl⟩ (by rfl)
  case lt =>
    intro q hq
    refine mcons hq ?_ fun hq => ?_
    · exact l9.2.1
    refine mcons hq ?_ fun hq => ?_
    · exact l9.2.2.1
    · exact PySem.W.tb_ltOf l9.2.2.2 _ hq
end

section
variable {w : World}
theorem c34k {G : Heap} (X : (hd.heap_1 w.params).In G) : model PySem.Challenge.rw_pq0169_01.row.prog w = model PySem.Challenge.rw_pq0169_01.row.prog w ∧ nsIn (hd.heap_1 w.params) mainGlobals (Str.ofString "BasicError") = some (some (.ref 34)) ∧
    hasDictIn (hd.heap_1 w.params) 34 = true ∧ findIn (hd.heap_1 w.params) (.ref 34) (Str.ofString "code") = some none := by
  revert X
  k_fill
  intro X
  exact ⟨rfl, by k_is, by k_is, by k_is⟩
end
section
variable {M : Model} {A : Around} {E : Value → Shared → Prop} {s : Shared} {G : Heap} {e dx : Addr} {code : Str} {led : List (Addr × Obj)}
theorem fly_flight {Q : Unit → Shared → Prop} (Fl : Flying G s.heap e dx code led) (h : ∀ h', Flying G h' e dx code led → Q () { s with heap := h' }) : wpAny M A (setFlight (.ref e) none) Q E s := by
  refine ex2_2 (Fl.exc) ?_; intro T tb he htb
  rcases htb with rfl | ⟨TB, ts, rfl, b1, b2, b3, b4, b5, b6, b7⟩
  · unfold setFlight
    refine wpAny_bind (wpAny_field he rfl (x := .none) rfl ?_)
    rw [if_neg (by decide)]
    exact wpAny_pure (h _ Fl)
  · refine wpAny_setFlight_none he rfl rfl b5 rfl b6 (h _ ?_)
    have up : ∀ b o, b ≠ TB → s.heap.get? b = some o → (s.heap.update TB (Obj.mapFields (·.setIfInBounds 3 .none))).get? b = some o := fun b o hb z => by
      rw [Heap.get?_update_other _ _ (Ne.symm hb)]; exact z
    refine ex6_1 (Fl.dict) ?_; intro hs1 t1 tc hs2 t2 v2 hdx
    refine ⟨fun b o z => up b o (fun q => by rw [q, b3] at z; cases z) (Fl.keep b o z), fun p hp => ⟨up _ _ (b4 p hp) (Fl.lg p hp).1, (Fl.lg p hp).2⟩, Fl.ned, Fl.newe, Fl.newd, ⟨hs1, t1, tc, hs2, t2, v2, up _ _ (Ne.symm b2) hdx⟩,
      ⟨T, .ref TB, up _ _ (Ne.symm b1) he, .inr ⟨TB, ts.setIfInBounds 3 .none, rfl, b1, b2, b3, b4, ?_, by rw [Array.size_setIfInBounds]; exact b6, ?_⟩⟩⟩
    · exact Heap.get?_update_self _ b5 (Obj.isFreed_of_fields (Obj.data_mapFields rfl _))
    · simp [b6]
end
section
variable {w : World} {G : Heap} {L a e dx : Addr} {m : Str → Option Value} {p : Program} {loose : List Str} {mean : ExcName → Option Value} {mg mb : Str → Option Value}
  {E : Value → Shared → Prop} {s : Shared} {A : Around} {name : Str} {scope : Scope} {cd : Value} {outer : List Env} {main frs : List (Addr × Obj)} {code n : Str} {b₀ : Stmt} {suite : List Stmt} {pos np : Pos} {rest : List ExceptHandler} {Q : Flow → Shared → Prop}
theorem caught (hfr : A.frames = some (envOf name scope L a cd :: outer)) (Fs : Frs outer frs) (F : Fr G L s.heap m) (N : News G L s.heap (main ++ frs)) (hLe : L ≠ e) (hLd : L ≠ dx) (hoff : ∀ p ∈ main, ∀ q ∈ frs, p.1 ≠ q.1)
    (T : Top p loose mean mg mb G) (X : (hd.heap_1 w.params).In G) (Fl : Flying G s.heap e dx code (main ++ frs))
    (k : ∀ h' frs' tk hs1 t1 tc hs2 t2 v2 oe, SameUp frs frs' → Frs outer frs' → Fr G L h' (fun y => if y = n then some (.ref e) else m y) → oe.cls = .ref 34 → oe.dict = some dx → notCls oe = true →
      News G L h' ((e, oe) :: (dx, dictOf [⟨hs1, .str (Str.ofString "code") t1, .str code tc⟩, ⟨hs2, .str (Str.ofString "told") t2, v2⟩] 2) :: (main ++ frs')) →
      wpAny (model PySem.Challenge.rw_pq0169_01.row.prog w) (A.mark (some (.ref e))) (execs (b₀ :: suite) (envOf name scope L a cd))
        (fun f s₄ => wpAny (model PySem.Challenge.rw_pq0169_01.row.prog w) A (do bindName (envOf name scope L a cd) n .none; unbindBehindTheSuite (envOf name scope L a cd) n pos) (fun _ s₅ => Q f s₅) E s₄)
        (AsSuiteRaised (model PySem.Challenge.rw_pq0169_01.row.prog w) (A.mark (some (.ref e))) (envOf name scope L a cd) n pos (notedBy (model PySem.Challenge.rw_pq0169_01.row.prog w) (A.mark (some (.ref e))) (envOf name scope L a cd) (cameBackBy (model PySem.Challenge.rw_pq0169_01.row.prog w) A (envOf name scope L a cd) E)))
        { s with heap := h', toks := tk })
    (hk : scope.kind = .function := by rfl) (hlo : (envOf name scope L a cd).kindOf n = some .local := by rfl) (hx : (envOf name scope L a cd).kindOf (Str.ofString "BasicError") = some .globalImplicit := by rfl) :
    wpAny (model PySem.Challenge.rw_pq0169_01.row.prog w) A (noteFrame (.ref e) (envOf name scope L a cd))
      (fun _ s₂ => wpAny (model PySem.Challenge.rw_pq0169_01.row.prog w) A (setFlight (.ref e) none) (fun _ s₃ =>
        wpAny (model PySem.Challenge.rw_pq0169_01.row.prog w) A (handleBy (.ref e) (envOf name scope L a cd) (.ExceptHandler (some (.Name (Str.ofString "BasicError") np)) (some n) (b₀ :: suite) pos :: rest)) Q E s₃) E s₂) E s := by
  refine note_fly hfr rfl (by show scope.kind ≠ _; rw [hk]; decide) Fs F N hLe hLd hoff Fl fun h4 frs4 oL4 SU4 Fs4 fi4 Fl4 => ?_
  have F4 : Fr G L h4 m := ⟨fi4.2 oL4.slots h4 L (Fl4.lg (L, oL4) (.head _)).1, Fl4.keep, F.above⟩
  refine ex0_3 (c34k X) ?_; intro _ q2 _
  revert X
  k_fill
  intro X
  refine c34b (X 34 _ (by k_is)) ?_
  intro nm qn bs hdct sn sub ab col dd k0 k1 k2 k3 k5 hC
  refine ex2_2 (Fl4.exc) ?_; intro T4 tb4 he4 _
  refine wpAny_handleBy_cons (codeAny_handlers_test (name_K F4 X (topRead_of T) q2 ?_ hk hx)) (by intro q; cases q)
  refine wpAny_excMatches_sub_self (F4.keep _ _ hC) he4 rfl (bm := bm34) (by decide) (codeAny_handlers_suite_as ?_)
  refine fly_flight Fl4 fun h5 Fl5 => ?_
  have F5 : Fr G L h5 m := ⟨fi4.2 oL4.slots h5 L (Fl5.lg (L, oL4) (.head _)).1, Fl5.keep, F.above⟩
  refine ex2_2 (Fl5.exc) ?_; intro T5 tb5 he5 _
  refine ex6_1 (Fl5.dict) ?_; intro hs1 t1 tc hs2 t2 v2 hdx
  have hLm : ∀ q ∈ main ++ frs4, q.1 ≠ L := fun q hq => by
    rcases List.mem_append.mp hq with hq | hq
    · exact (N q (List.mem_append_left _ hq)).2.1
    · refine ex1_2 (SU4.fwd q hq) ?_; intro x hx' z
      rw [z]; exact (N x (List.mem_append_right _ hx')).2.1
  have N5 : News G L h5 ((e, excObj (some dx) #[.ref T5, tb5, .none, .none, .bool false, .none]) :: (dx, dictOf [⟨hs1, .str (Str.ofString "code") t1, .str code tc⟩, ⟨hs2, .str (Str.ofString "told") t2, v2⟩] 2) :: (main ++ frs4)) := fun q hq => by
    refine mcons hq ?_ fun hq => ?_
    · exact ⟨he5, Ne.symm hLe, Fl5.newe⟩
    refine mcons hq ?_ fun hq => ?_
    · exact ⟨hdx, Ne.symm hLd, Fl5.newd⟩
    · have z := Fl5.lg q (.tail _ hq)
      exact ⟨z.1, hLm q hq, z.2.2.2⟩
  refine stN F5 N5 (fun h6 F6 N6 => ?_) hk hlo
  exact k h6 frs4 _ hs1 t1 tc hs2 t2 v2 _ SU4 Fs4 F6 rfl rfl rfl N6
end

section
theorem be_slot : Slot "BaseException" "__getattribute__" "BaseException.__getattribute__" := .of (owner := "BaseException") (n := "__getattribute__") (by rw [typeLookup_type, builtinLookup_eq_fast]; kernel_rfl) (by decide +kernel) (by decide +kernel) (by decide +kernel)
  (by first | exact .inl (by decide +kernel) | exact .inr (by decide +kernel)) (by rw [isSubtype_type]; kernel_rfl)
theorem be_entry : entryFor table "BaseException.__getattribute__" = some Builtin.«object.__getattribute__» :=
  entryFor_alias (id' := "object.__getattribute__") (by kernel_rfl) (by first | rfl | decide +kernel) (by decide +kernel) (by kernel_rfl)
theorem be_args (o a : Value) : argsOk "BaseException.__getattribute__" ⟨[o, a], []⟩ := by unfold argsOk; kernel_rfl
theorem be_kind : builtinKind "BaseException.__getattribute__" = some .slot := by decide +kernel
theorem be_split : splitId "BaseException.__getattribute__" = some ("BaseException", "__getattribute__") := by decide +kernel
end
section
variable {w : World}
theorem c34g {G : Heap} (X : (hd.heap_1 w.params).In G) : model PySem.Challenge.rw_pq0169_01.row.prog w = model PySem.Challenge.rw_pq0169_01.row.prog w ∧ findIn (hd.heap_1 w.params) (.ref 34) "__getattribute__" = some (some (.builtin "BaseException.__getattribute__")) ∧
    findIn (hd.heap_1 w.params) (.ref 34) "__getattr__" = some none ∧ findIn (hd.heap_1 w.params) (.ref 34) (Str.ofString "code") = some none := by
  revert X
  k_fill
  intro X
  exact ⟨rfl, by k_is, by k_is, by k_is⟩
end
section
variable {w : World} {A : Around} {E : Value → Shared → Prop} {s : Shared} {K : Frag} {x : Addr} {ox : Obj} {es : List DictEntry} {n : Nat} {cd : ClassData} {name : Str} {expr : Bool} {v : Value} {Q : Value → Shared → Prop}
theorem exc_get (X : K.In s.heap) (I : InstAt s.heap x ox 34 (some (dictOf es n))) (hc : clsIn K 34 = some cd) (hm : cd.mro = [.ref 34, .type "Exception", .type "BaseException", .type "object"]) (hh : hasDictIn K 34 = true)
    (hga : findIn K (.ref 34) "__getattribute__" = some (some (.builtin "BaseException.__getattribute__"))) (hgt : findIn K (.ref 34) "__getattr__" = some none) (ha : findIn K (.ref 34) name = some none)
    (hl : getL name es = some (some v)) (hv : handedIn v = true) (h : Q v { s with toks := s.toks + 1 }) :
    wpAny (model PySem.Challenge.rw_pq0169_01.row.prog w) A (getAttr (.ref x) name expr) Q E s := by
  obtain ⟨hp, g, d, t, os⟩ := s
  try clear s
  have L0 := I.type (M := model PySem.Challenge.rw_pq0169_01.row.prog w)
  have L1 := looks_findIn (M := model PySem.Challenge.rw_pq0169_01.row.prog w) X hga
  have L2 := looks_findIn (M := model PySem.Challenge.rw_pq0169_01.row.prog w) X hgt
  have L3 := looks_find (M := model PySem.Challenge.rw_pq0169_01.row.prog w) X I (findObj_own hh ha rfl hl)
  have sub : Looks (model PySem.Challenge.rw_pq0169_01.row.prog w) hp (isInstance (.ref x) (.type "BaseException")) true := L0.andThen (looks_mroIn X (by unfold mroIn; rw [hc, Option.bind_some, hm]; rfl))
  unfold getAttr getAttrBy
  refine wpAny_bind (wpAny_mkText (wpAny_holding (wpAny_bind (L0.at (wpAny_bind (L1.at ?_))))))
  dsimp only
  have ne : ¬ ((onTheHeap (.ref 34) && (Value.builtin "BaseException.__getattribute__" == Value.builtin "object.__getattribute__")) = true) := by
    first | (simp [onTheHeap]; done) | decide
  rw [if_neg ne]
  unfold getAttrByItsOwn hookBefore callGetattribute boundAndCalled
  refine wpAny_bind (show wpAny _ _ (typeLookup (.ref 34) (Str.ofString "__getattr__")) _ _ _ from L2.at ?_)
  refine wpAny_bind (wpAny_attempt (wpAny_holding ?_))
  have e : (expr && onTheHeap (.builtin "BaseException.__getattribute__")) = false := by cases expr <;> rfl
  rw [e]
  show wpAny _ _ (bindSpecial (.builtin "BaseException.__getattribute__") (.ref x) >>= _) _ _ _
  refine wpAny_bind (wpAny_of_eq (be_slot.bind _) ?_)
  refine wpAny_mono (Q := fun u s' => u = v ∧ s' = ⟨hp, g, d, t + 1, os⟩) (E := fun _ _ => False) (wpAny_call ?_) (fun u s' hu => ?_) fun _ _ z => z.elim
  · refine codeAny_call_builtin be_slot.plain be_entry (@check_slot (model PySem.Challenge.rw_pq0169_01.row.prog w) _ _ ⟨hp, g, d, t + 1, os⟩ "BaseException.__getattribute__" "BaseException" "__getattribute__" (.ref x) [.str name t] [] _ be_kind be_split sub (be_args (.ref x) (.str name t)) ?_)
    unfold Builtin.«object.__getattribute__»
    refine wpAny_bind (wpAny_pure (wpAny_bind (wpAny_pure (wpAny_bind (L0.at (wpAny_bind (L3.at ?_)))))))
    exact wpAny_pure ⟨rfl, rfl⟩
  · refine ex0_2 hu ?_; intro E_1 E_2
    try clear hu
    subst E_1
    subst E_2
    show wpAny _ _ (pure _ >>= _) _ _ _
    refine wpAny_bind (wpAny_pure ?_)
    show wpAny _ _ (handedOut _) _ _ _
    rw [handedOut_of hv]
    exact wpAny_pure h
end

section
variable {prog : Program} {w : World} {A : Around} {s : Shared} {K : Frag} {L : Addr} {G : Heap} {m : Str → Option Value} {news : List (Addr × Obj)}
    {R : Result → Shared → Prop} {name qual : Str} {params : Arguments} {scope : Scope} {cl : List (Str × Addr)} {f : Addr} {args : Args} {binds : List (Str × Value)}
/- enter a lambda of the ledger -/
theorem enterLam {body : PySem.Expr} {pm ctv : Value} {c' : Addr} (F : Fr G L s.heap m) (N : News G L s.heap news) (hlim : G.NoLimit)
    (ho : (f, kla_obj name qual params body scope cl pm c' ctv) ∈ news) (hcd : s.heap.CodeRec (.ref c') qual) (hroom : A.depth < recursionLimit)
    (hbind : bindArgs (kla_fn name qual params body scope cl pm (.ref c') ctv) args = pure binds) (hloc : ∀ y ∈ binds, scope.names.lookup y.1 = some .local)
    (h : ∀ L' h₁ oL, FrameIs oL m → Fr G L' h₁ (fun y => binds.reverse.lookup y) → News G L' h₁ ((L, oL) :: news) → (∀ p ∈ news, p.1 < L') → @LT.lt Nat _ L L' →
      wpAny (model prog w) (A.deeper (envX qual scope L' f (.ref c') cl)) (eval body (envX qual scope L' f (.ref c') cl))
        (fun v s' => R (.ok (.ret v)) s')
        (fun e s' => wpAny (model prog w) (A.deeper (envX qual scope L' f (.ref c') cl)) (leaving (envX qual scope L' f (.ref c') cl) e) (fun _ s'' => R (.error e) s'') (fun e' s'' => R (.error e') s'') s')
        { s with heap := h₁, toks := s.toks + binds.length })
    (hco : scope.isCoroutine = false) (hgen : scope.isGenerator = false) (hk : scope.kind = .function)
    (hcell : ∀ x ∈ scope.names, x.2 ≠ .cell) : codeAny (model prog w) A (.call (.ref f) args) R s := by
  refine kla_callFunE hroom (N _ ho).1 rfl hco hgen rfl hcd ?_
  rw [hbind]
  refine wpAny_pure (wpAny_newFunctionEnv hcell hloc (fun h₁ hns hsb => ⟨(hlim.keeps F.keep).fresh _ hsb, ?_⟩) hk)
  show codeAny _ _ (.expr body (envX qual scope s.heap.objs.size f (.ref c') cl)) _ _
  have hk₁ : ∀ b o, s.heap.get? b = some o → h₁.get? b = some o := fun b o e => hsb.extBut b o (Nat.ne_of_lt (Heap.lt_size e)) (Heap.get?_push_of_some _ e)
  refine ex1_2 (frameIs_of F) ?_; intro oL hL fi
  have hlt : L < s.heap.objs.size := Heap.lt_size hL
  refine kla_codeExpr (h s.heap.objs.size h₁ oL fi ⟨hns, fun b o e => hk₁ b o (F.keep b o e), Nat.le_trans F.above (Nat.le_of_lt hlt)⟩ (fun p hp => ?_) (fun p hp => Heap.lt_size (N p hp).1) hlt)
  refine mcons hp ?_ fun hp => ?_
  · exact ⟨hk₁ _ _ hL, Nat.ne_of_lt hlt, Heap.get?_none_of_le F.above⟩
  · have n := N p hp
    exact ⟨hk₁ _ _ n.1, Nat.ne_of_lt (Heap.lt_size n.1), n.2.2⟩

/- enter a plain def with cell variables -/
theorem enterC {oc dV kV doc pm cdv ct : Value} {an od : Option Addr} {osl : Array (Option Value)} {body : List Stmt} (F : Fr G L s.heap m) (X : K.In G) (N : News G L s.heap news) (hlim : G.NoLimit)
    (ho : K.lookup f = some ⟨oc, od, .func (fnX name qual params body scope [] dV kV doc pm an cdv ct), osl⟩) (hcd : codeIn K cdv qual = true) (hroom : A.depth < recursionLimit)
    (hbind : BindsTo s (fnX name qual params body scope [] dV kV doc pm an cdv ct) args binds)
    (hkind : ∀ n, ∀ x ∈ binds, scope.names.lookup x.1 = some .local ∨ (scope.names.lookup x.1 = some .cell ∧ ((cellsFrom n scope.names []).lookup x.1).isSome = true))
    (hnd : ((cellsFrom 0 scope.names []).map (·.1)).Nodup)
    (h : ∀ L' h₁ tk oL cells, FrameIs oL m → Fr G L' h₁ (bindL (envOfC qual scope L' f cdv).kindOf binds fun _ => none) → News G L' h₁ (cells ++ (L, oL) :: news) →
      CellsAre (bindC (envOfC qual scope L' f cdv).kindOf binds fun _ => none) (cellsFrom (L' + 1) scope.names []) cells → (∀ p ∈ (L, oL) :: news, p.1 < L') →
      wpAny (model prog w) (A.deeper (envOfC qual scope L' f cdv)) (execs body (envOfC qual scope L' f cdv))
        (fun fl s' => R (.ok (.ret (match fl with | .ret v => v | _ => .none))) s')
        (fun e s' => wpAny (model prog w) (A.deeper (envOfC qual scope L' f cdv)) (leaving (envOfC qual scope L' f cdv) e) (fun _ s'' => R (.error e) s'') (fun e' s'' => R (.error e') s'') s')
        { s with heap := h₁, toks := tk })
    (hco : scope.isCoroutine = false) (hgen : scope.isGenerator = false) (hk : scope.kind = .function) : codeAny (model prog w) A (.call (.ref f) args) R s := by
  have X' := X.keeps F.keep
  refine codeAny_call_function hroom (X' _ _ ho) rfl hco hgen rfl (codeRec_of X' hcd) (hbind _ _ _ _ ?_)
  refine wpAny_newFunctionEnv_cells hk (hkind _) fun env' he s' x => ?_
  subst he
  refine ⟨(hlim.keeps F.keep).keeps x.toInCall.keep, codeAny_func ?_⟩
  refine ex2_2 (x.done) ?_; intro h₁ tk E_1 _
  subst E_1
  have hk₁ := x.toInCall.keep
  refine ex1_2 (Cl.news (h₀ := s.heap) (Nat.le_refl _) fun n c hm => ⟨x.cell n c (lookup_of_mem_nodup (cellsFrom_names scope.names 0 (s.heap.objs.size + 1) [] [] rfl ▸ hnd) hm), x.above n c hm⟩) ?_; intro cells NC Y
  refine ex1_2 (frameIs_of F) ?_; intro oL hL fi
  have hlt : L < s.heap.objs.size := Heap.lt_size hL
  refine h s.heap.objs.size h₁ tk oL cells fi ⟨x.toInCall.ns, fun b o e => hk₁ b o (F.keep b o e), Nat.le_trans F.above (Nat.le_of_lt hlt)⟩ (fun p hp => ?_) Y (fun p hp => ?_)
  · rcases List.mem_append.mp hp with hp | hp
    · refine ⟨(NC p hp).1, (NC p hp).2.1, ?_⟩
      cases q : G.get? p.1 with
      | none => rfl
      | some o => have := F.keep _ _ q; rw [(NC p hp).2.2] at this; cases this
    · refine mcons hp ?_ fun hp => ?_
      · exact ⟨hk₁ _ _ hL, Nat.ne_of_lt hlt, Heap.get?_none_of_le F.above⟩
      · have n := N p hp
        exact ⟨hk₁ _ _ n.1, Nat.ne_of_lt (Heap.lt_size n.1), n.2.2⟩
  · refine mcons hp ?_ fun hp => ?_
    · exact hlt
    · exact Heap.lt_size (N p hp).1
end

section
variable {w : World} {G : Heap} {L : Addr} {m : Str → Option Value} {p : Program} {loose : List Str} {mean : ExcName → Option Value} {mg mb : Str → Option Value}
  {E : Value → Shared → Prop} {s : Shared} {A : Around}
/- _law_code of a deed that comes back -/
theorem code_none {dl : Addr} {oc : Value} {od : Option Addr} {fd : FuncData} {sl : Array (Option Value)} {led : List (Addr × Obj)} {P : List (Addr × Obj) → Prop} {Q : Value → Shared → Prop}
  (hh : A.handled = none) (hdp : A.depth ≤ 600) (hu : A.units ≤ 600)
  (F : Fr G L s.heap m) (T : Top p loose mean mg mb G) (X : (hd.heap_1 w.params).In G) (N : News G L s.heap led) (hdl : (dl, (⟨oc, od, .func fd, sl⟩ : Obj)) ∈ led)
  (deed : ∀ (A' : Around) (L' : Addr) (oL : Obj) (s' : Shared) (m' : Str → Option Value) (Q' : Value → Shared → Prop) (E' : Value → Shared → Prop), FrameIs oL m → A'.handled = none → A'.depth ≤ 700 → A'.units ≤ 700 → Fr G L' s'.heap m' → News G L' s'.heap ((L, oL) :: led) → (∀ p ∈ led, p.1 ≠ L) →
    (∀ h' tk led' v, Fr G L' h' m' → News G L' h' ((L, oL) :: led') → (∀ p ∈ led', p.1 ≠ L) → P led' → Q' v { s' with heap := h', toks := tk }) →
    wpAny (model PySem.Challenge.rw_pq0169_01.row.prog w) A' (call (.ref dl) [] []) Q' E' s')
  (h : ∀ h' tk led', Fr G L h' m → News G L h' led' → P led' → Q .none { s with heap := h', toks := tk }) :
  wpAny (model PySem.Challenge.rw_pq0169_01.row.prog w) A (call (.ref 160) [.ref dl] []) Q E s := by
  refine wpAny_weak (A' := A4) ?_ hh (Nat.le_trans hdp (by decide)) (Nat.le_trans hu (by decide)) rfl rfl
  revert X
  k_fill
  intro X
  refine wpAny_call ?_
  have hab := F.above
  have hLm : ∀ p ∈ led, p.1 ≠ L := fun p hp => (N p hp).2.1
  refine' enter0 (binds := [(Str.ofString "deed", .ref dl)]) F X N (Top.nolimit T) ?k6 ?k7 ?k8 ?k9 ?kB ?_ ?c2 ?c3 ?c4 ?c5
  (((case k6 => k_is); (case k7 => k_is); (case k8 => first | decide | omega); (case k9 => first | exact BindsTo.of_eq rfl | exact binds_K (by k_in) rfl (by k_is) rfl rfl rfl); (case c5 => decide); (case kB => exact locs rfl); (case c2 => exact rfl); (case c3 => exact rfl); (case c4 => exact rfl)))
  intro L' h₁ oL hoL F' N' l0 l1
  clear F N l0
  dsimp only
  k_fold
  walk1
  walk1
  refine wpAny_Try_except ?_
  repeat ((fail_if_success ((with_reducible show wpAny _ _ (callWith _ (Value.ref dl) _ _ _) _ _ _))); first | (k_unfold; (try dsimp only)) | walk1 | (dsimp only; walk1) | (leave1; try dsimp only))
  with_reducible rename News _ _ _ _ => N2
  refine callWith_F0 ⟨oc, od, fd, sl, (N2 _ (.tail _ hdl)).1⟩ ?_
  refine deed _ L' oL _ _ _ _ hoL rfl (by (exact Nat.le_of_ble_eq_true rfl)) (by (exact Nat.le_of_ble_eq_true rfl)) (by k_asm) N2 hLm ?_
  intro h2 tk2 led' v F2 N3 hL3 hP
  k_steps
  exact h _ _ led' (back_fr F2 N3 (.head _) hoL hab) (back_news N3 fun p hp => ⟨.tail _ hp, hL3 p hp⟩) hP
/- _law_code of a deed that raises -/
theorem code_some {env₀ : Env} {outer : List Env} {dl : Addr} {oc : Value} {od : Option Addr} {fd : FuncData} {sl : Array (Option Value)} {code : Str} {main frs : List (Addr × Obj)} {Q : Value → Shared → Prop}
  (hA : A.frames = some (env₀ :: outer)) (hf₀ : env₀.frame = some L) (hk₀ : env₀.scope.kind ≠ .module) (Fs : Frs outer frs) (hoff : ∀ p ∈ main, ∀ q ∈ frs, p.1 ≠ q.1)
  (hh : A.handled = none) (hdp : A.depth ≤ 600) (hu : A.units ≤ 600)
  (F : Fr G L s.heap m) (T : Top p loose mean mg mb G) (X : (hd.heap_1 w.params).In G) (N : News G L s.heap (main ++ frs)) (hdl : (dl, (⟨oc, od, .func fd, sl⟩ : Obj)) ∈ main ++ frs)
  (deed : ∀ (A' : Around) (env' : Env) (L' : Addr) (oL : Obj) (s' : Shared) (m' : Str → Option Value) (Q' : Value → Shared → Prop) (E' : Value → Shared → Prop), A'.frames = some (env' :: env₀ :: outer) → env'.frame = some L' → env'.scope.kind ≠ .module → FrameIs oL m →
    A'.handled = none → A'.depth ≤ 700 → A'.units ≤ 700 → Fr G L' s'.heap m' → News G L' s'.heap (main ++ (L, oL) :: frs) → (∀ p ∈ main, ∀ q ∈ (L, oL) :: frs, p.1 ≠ q.1) → Frs (env₀ :: outer) ((L, oL) :: frs) →
    (∀ h' tk e dx frs', SameUp ((L, oL) :: frs) frs' → Frs (env₀ :: outer) frs' → Fr G L' h' m' → News G L' h' (main ++ frs') → L' ≠ e → L' ≠ dx → Flying G h' e dx code (main ++ frs') → E' (.ref e) { s' with heap := h', toks := tk }) →
    wpAny (model PySem.Challenge.rw_pq0169_01.row.prog w) A' (call (.ref dl) [] []) Q' E' s')
  (h : ∀ h' tk t frs', SameUp frs frs' → Frs outer frs' → Fr G L h' m → News G L h' (main ++ frs') → Q (.str code t) { s with heap := h', toks := tk }) :
  wpAny (model PySem.Challenge.rw_pq0169_01.row.prog w) A (call (.ref 160) [.ref dl] []) Q E s := by
  obtain ⟨ah, ad, af, ag, au⟩ := A
  try clear A
  dsimp only at hA hh hdp hu
  subst hA hh
  have X0 := X
  revert X
  k_fill
  intro X
  refine wpAny_call ?_
  have hab := F.above
  have hLm : ∀ p ∈ main ++ frs, p.1 ≠ L := fun p hp => (N p hp).2.1
  refine' enter0 (binds := [(Str.ofString "deed", .ref dl)]) F X N (Top.nolimit T) ?k6 ?k7 ?k8 ?k9 ?kB ?_ ?c2 ?c3 ?c4 ?c5
  case k8 => exact Nat.lt_of_le_of_lt hdp (by decide)
  (((case k6 => k_is); (case k7 => k_is); (case k9 => first | exact BindsTo.of_eq rfl | exact binds_K (by k_in) rfl (by k_is) rfl rfl rfl); (case c5 => decide); (case kB => exact locs rfl); (case c2 => exact rfl); (case c3 => exact rfl); (case c4 => exact rfl)))
  intro L' h₁ oL hoL F' N' l0 l1
  clear F N l0
  dsimp only
  k_fold
  walk1
  walk1
  refine wpAny_Try_except ?_
  repeat ((fail_if_success ((with_reducible show wpAny _ _ (callWith _ (Value.ref dl) _ _ _) _ _ _))); first | (k_unfold; (try dsimp only)) | walk1 | (dsimp only; walk1) | (leave1; try dsimp only))
  with_reducible rename News _ _ _ _ => N2
  refine callWith_F0 ⟨oc, od, fd, sl, (N2 _ (.tail _ hdl)).1⟩ ?_
  have Fs1 : Frs (env₀ :: outer) ((L, oL) :: frs) := ⟨hk₀, hf₀, hoL.1, Fs⟩
  have hoff1 : ∀ p ∈ main, ∀ q ∈ (L, oL) :: frs, p.1 ≠ q.1 := fun p hp q hq => by
    refine mcons hq ?_ fun hq => ?_
    · exact hLm p (List.mem_append_left _ hp)
    · exact hoff p hp q hq
  refine deed _ _ L' oL _ _ _ _ (Around.frames_deeper rfl) rfl (show ScopeKind.function ≠ ScopeKind.module by decide) hoL rfl (by show ad + 1 ≤ 700; omega) (by show au + 3 ≤ 700; omega) (by k_asm) (news_sub N2 fun p hp => mem_mid p hp) hoff1 Fs1 ?_
  intro h2 tk2 e dx frs1 SU1 Fs2 F2 N3 hLe hLd Fl
  refine caught (Around.frames_deeper rfl) Fs2 F2 N3 hLe hLd (fun p hp q hq => ?_) T X Fl ?_
  · refine ex1_2 (SU1.fwd q hq) ?_; intro y hy z
    rw [z]; exact hoff1 p hp y hy
  intro h3 frs2 tk3 hs1 t1 tc hs2 t2 v2 oe SU2 Fs3 F3 oec oed oen N4
  k_steps
  refine ex0_4 (c34g X0) ?_; intro _ g1 g2 g3
  refine ex0_4 (c34k X0) ?_; intro _ _ g4 _
  obtain ⟨_, cd, g5, g6, _⟩ := (c34 X0)
  refine exc_get (es := [⟨hs1, .str (Str.ofString "code") t1, .str code tc⟩, ⟨hs2, .str (Str.ofString "told") t2, v2⟩]) (n := 2) (X0.keeps F3.keep) ⟨(N4 _ (.head _)).1, oec, oen, by rw [oed]; exact (N4 _ (.tail _ (.head _))).1⟩ g5 g6 g4 g1 g2 g3 rfl rfl ?_
  refine wpAny_nameGoes rfl F3.ns rfl (fun h5 m5 hn5 hs5 => ?_)
  dsimp only
  have SU := SU1.trans SU2
  have N5 : ∀ p ∈ main ++ frs2, h5.get? p.1 = some p.2 ∧ G.get? p.1 = none := fun p hp => ⟨hs5.extBut _ _ (N4 p (.tail _ (.tail _ hp))).2.1 (N4 p (.tail _ (.tail _ hp))).1, (N4 p (.tail _ (.tail _ hp))).2.2⟩
  have K5 : ∀ b o, G.get? b = some o → h5.get? b = some o := fun b o z => hs5.extBut b o (fun q => by
    have q' : b = L' := q
    rw [q', Heap.get?_none_of_le F3.above] at z; cases z) (F3.keep b o z)
  clear N4
  cases frs2 with
  | nil => exact False.elim SU
  | cons q frs' =>
    refine ex0_3 SU ?_; intro x1 N_1 x3
    try clear SU
    refine ex1_1 N_1 ?_; intro sl' x2
    try clear N_1
    obtain ⟨qa, qo⟩ := q
    try clear q
    dsimp only at x1 x2
    subst x1 x2
    have nq := N5 (qa, { oL with slots := sl' }) (List.mem_append_right _ (.head _))
    refine h _ _ _ frs' x3 Fs3.2.2.2 ⟨hoL.2 sl' h5 qa nq.1, K5, hab⟩ (fun p hp => ?_)
    have hp2 : p ∈ main ++ (qa, { oL with slots := sl' }) :: frs' := mem_mid' p hp
    refine ⟨(N5 p hp2).1, ?_, (N5 p hp2).2⟩
    rcases List.mem_append.mp hp with hp | hp
    · exact hLm p (List.mem_append_left _ hp)
    · refine ex1_2 (x3.fwd p hp) ?_; intro y hy z
      rw [z]; exact hLm y (List.mem_append_right _ hy)
end

/- a maker's table: every code object in it stands in the ledger and bears the one name -/
def TabOk (R : List (Addr × Obj)) (qual : Str) (ps : Array Value) : Prop :=
  TriplesOk ps.toList ∧ ∀ pos cv, codeAmong pos ps.toList = some cv → ∃ c' oc vs t, cv = .ref c' ∧ (c', oc) ∈ R ∧ oc.data = .fields vs ∧ vs[1]? = some (.str qual t)
theorem TabOk.nil (R : List (Addr × Obj)) (qual : Str) : TabOk R qual #[] := ⟨trivial, fun pos cv h => by cases h⟩
theorem TabOk.sub {R R' : List (Addr × Obj)} {qual : Str} {ps : Array Value} (h : TabOk R qual ps) (hs : ∀ p ∈ R, p ∈ R') : TabOk R' qual ps :=
  ⟨h.1, fun pos cv e => let ⟨c', oc, vs, t, a, b, r⟩ := h.2 pos cv e; ⟨c', oc, vs, t, a, hs _ b, r⟩⟩
theorem codeAmong_more {pos : Pos} {a b : Int} {c cv : Value} (l : List Value) (h : TriplesOk l) (e : codeAmong pos (l ++ [rawInt a, rawInt b, c]) = some cv) : codeAmong pos l = some cv ∨ cv = c := by
  fun_induction TriplesOk l with
  | case1 =>
    simp only [List.nil_append, codeAmong, rawInt] at e
    split at e
    · exact .inr (Option.some.inj e).symm
    · cases e
  | case2 a' t b' u x rest ih =>
    simp only [List.cons_append, codeAmong] at e ⊢
    split at e
    · rename_i hc; rw [if_pos hc]; exact .inl e
    · rename_i hc; rw [if_neg hc]; exact ih h e
  | case3 l h1 h2 => exact h.elim
theorem TabOk.snoc {R : List (Addr × Obj)} {qual : Str} {ps : Array Value} {a b : Int} {c' : Addr} {oc : Obj} {vs : Array Value} {t : Tok} (h : TabOk R qual ps) (hd : oc.data = .fields vs) (hv : vs[1]? = some (.str qual t)) :
    TabOk ((c', oc) :: R) qual (ps ++ #[rawInt a, rawInt b, .ref c']) := by
  refine ⟨by simpa using TriplesOk_snoc a b (.ref c') ps.toList h.1, fun pos cv e => ?_⟩
  have e' : codeAmong pos (ps.toList ++ [rawInt a, rawInt b, .ref c']) = some cv := by simpa using e
  rcases codeAmong_more _ h.1 e' with e2 | rfl
  · refine ex4_3 (h.2 pos cv e2) ?_; intro c2 oc2 vs2 t2 a2 b2 r2
    exact in4_3 c2 oc2 vs2 t2 a2 (.tail _ b2) r2
  · exact in4_4 c' oc vs t rfl (.head _) hd hv
section
variable {M : Model} {A : Around} {E : Value → Shared → Prop} {s : Shared} {G : Heap} {L a c P : Addr} {m mg mb : Str → Option Value} {cn : Str} {cs : Scope} {ccd : Value} {cl : List (Str × Addr)} {rest R : List (Addr × Obj)}
  {p : Program} {loose : List Str} {mean : ExcName → Option Value} {name qual : Str} {params : Arguments} {body : PySem.Expr} {scope : Scope} {ps : Array Value} {pos : Pos} {clos : List (Str × Addr)}
/- a lambda is made: for the first time, or again -/
theorem lam_make {Q : Value → Shared → Prop} (F : Fr G L s.heap m) (N : News G L s.heap ((P, tabObj ps) :: rest)) (off : ∀ q ∈ rest, q.1 ≠ P) (T : Top p loose mean mg mb G) (C : CodeHd G c P) (hcd : ccd = .ref c)
    (tk : TabOk R qual ps) (hR : ∀ q ∈ R, q ∈ rest) (hdef : defaultsOf params (envX cn cs L a ccd cl) = ([], [])) (hq : (envX cn cs L a ccd cl).qual ++ "<lambda>" = qual) (hcl : closureFor scope (envX cn cs L a ccd cl) = pure clos)
    (h : ∀ f olam c' oc vs t ctv ps' ext h' tk', olam = kla_obj "<lambda>" qual params body scope clos ((mg "__name__").getD .none) c' ctv → Fr G L h' m →
      News G L h' ((f, olam) :: (P, tabObj ps') :: (ext ++ rest)) → (c', oc) ∈ ext ++ R → oc.data = .fields vs → vs[1]? = some (.str qual t) →
      TabOk (ext ++ R) qual ps' → (∀ q ∈ ext, ∀ r ∈ (P, tabObj ps) :: rest, @LT.lt Nat _ r.1 q.1) → (∀ q ∈ ext, @LT.lt Nat _ q.1 f) → (∀ r ∈ (P, tabObj ps) :: rest, @LT.lt Nat _ r.1 f) → Q (.ref f) { s with heap := h', toks := tk' }) :
    wpAny M A (eval (.Lambda params body scope pos) (envX cn cs L a ccd cl)) Q E s := by
  refine kla_eval hdef ?_
  rw [hq]
  cases hca : codeAmong pos ps.toList with
  | none =>
    refine kla_nest F N T C hcd (UpdF.head off) tk.1 hca hcl fun f c' oc vs t ctv h' tk' F' N' hd hv l1 l2 => ?_
    refine h f _ c' oc vs t ctv (ps ++ #[rawInt pos.line, rawInt pos.col, .ref c']) [(c', oc)] h' tk' rfl F' (news_sub N' ?_) (.head _) hd hv (tk.snoc hd hv) (fun q hq r hr => ?_) (fun q hq => ?_) (fun r hr => Nat.lt_trans (l1 r hr) l2)
    · intro p hp
      refine mcons hp ?_ fun hp => ?_
      · exact .head _
      refine mcons hp ?_ fun hp => ?_
      · exact .tail _ (.tail _ (.head _))
      refine mcons hp ?_ fun hp => ?_
      · exact .tail _ (.head _)
      · exact .tail _ (.tail _ (.tail _ hp))
    · rw [List.mem_singleton.mp hq]; exact l1 r hr
    · rw [List.mem_singleton.mp hq]; exact l2
  | some cv =>
    refine ex4_4 (tk.2 pos cv hca) ?_; intro c' oc vs t E_1 hm hd hv
    subst E_1
    refine kla_hit F N T C hcd (.head _) tk.1 hca hcl fun f ctv h' tk' F' N' l1 => ?_
    exact h f _ c' oc vs t ctv ps [] h' tk' rfl F' N' hm hd hv tk (fun q hq => nomatch hq) (fun q hq => nomatch hq) l1
end

section
variable {w : World} {G : Heap} {L : Addr} {m : Str → Option Value} {p : Program} {loose : List Str} {mean : ExcName → Option Value} {mg mb : Str → Option Value}
  {E : Value → Shared → Prop} {s : Shared} {A : Around}
/- _law_next, in any surrounding -/
theorem next_any {feed cells : Addr} {turn many : Int} {tt tm : Tok} {vs : List Value} {ns : List Int} {n n2 : Nat} {rest : List (Addr × Obj)} {Q : Value → Shared → Prop}
  (hh : A.handled = none) (hdp : A.depth ≤ 890) (hu : A.units ≤ 890)
  (F : Fr G L s.heap m) (T : Top p loose mean mg mb G) (X : (hd.heap_1 w.params).In G)
  (N : News G L s.heap ((feed, listOf #[.ref cells, .int turn tt] n) :: (cells, listOf vs.toArray n2) :: rest))
  (nd1 : @Ne Nat cells feed) (nd2 : ∀ p ∈ rest, p.1 ≠ feed)
  (hi : IntsAre vs ns) (hvl : vs.length ≤ 100) (h0 : 0 ≤ turn) (h1 : turn ≤ 10000) (hm : 0 < many) (hmm : many ≤ 100)
  (h : ∀ h' tk r t t', 0 ≤ r → r < many → Fr G L h' m → News G L h' ((feed, listOf #[.ref cells, .int (turn+1) t'] n) :: (cells, listOf vs.toArray n2) :: rest) → Q (.int r t) { s with heap := h', toks := tk }) :
  wpAny (model PySem.Challenge.rw_pq0169_01.row.prog w) A (call (.ref 153) [.ref feed, .int many tm] []) Q E s :=
  wpAny_weak (A' := A1) (next_ok F T X N nd1 nd2 hi hvl h0 h1 hm hmm h) hh (Nat.le_trans hdp (by decide)) (Nat.le_trans hu (by decide)) rfl rfl
end
theorem wpAny_weakF {α : Type} {M : Model} {A A' : Around} {t : Sem α} {Q : α → Shared → Prop} {E : Value → Shared → Prop} {s : Shared} (h : wpAny M A' t Q E s) (hh : A.handled = A'.handled) (hd : A.depth ≤ A'.depth) (hu : A.units ≤ A'.units) (hf : A'.frames = A.frames) (hg : A'.guards = none) :
    wpAny M A t Q E s := fun Γ p hΓ => h Γ p ⟨hΓ.1.trans hh, Nat.le_trans hΓ.2.1 hd, (fun l hl => hΓ.2.2.1 l (by rw [← hf]; exact hl)), (fun l hl => by rw [hg] at hl; cases hl), Nat.le_trans hΓ.2.2.2.2 hu⟩
section
variable {prog : Program} {w : World} {A : Around} {E : Value → Shared → Prop} {s : Shared} {env : Env} {G : Heap} {x : Str} {body : List Stmt} {Q : Flow → Shared → Prop}
/- a for over a range, with a statement J of the turn, the names and the ledger -/
theorem range_ind {I : Addr} {a : Int} {n : Nat} (J : Nat → (Str → Option Value) → List (Addr × Obj) → Prop)
    (step : ∀ i m news t h tk oI, i < n → J i m news → Fr G env.locals h (fun y => if y = x then some (.int (a + (i : Int)) t) else m y) → News G env.locals h ((I, oI) :: news) →
      wpAny (model prog w) A (execs body env) (fun f s₃ => match f with
        | .ret v => Q (.ret v) s₃
        | .brk => Q .next s₃
        | _ => LoopEnd G env.locals { s with heap := h, toks := tk } I oI (J (i + 1)) s₃) E { s with heap := h, toks := tk })
    (done : ∀ m news h tk, J n m news → Fr G env.locals h m → News G env.locals h news → Q .next { s with heap := h, toks := tk }) :
    ∀ k i m news, i + k = n → J i m news → RangeRest prog w A E G env x body Q s I a n k i m news := by
  intro k
  induction k with
  | zero =>
    intro i m news e hJ
    have e' : i = n := e
    subst e'
    exact RangeRest.zero fun h tk F N => done m news h tk hJ F N
  | succ k ih =>
    intro i m news e hJ
    refine RangeRest.succ fun t h tk F N => wpAny_mono (step i m news t h tk _ (by omega) hJ F N) (fun f s₃ h₃ => ?_) fun _ _ e => e
    have fin : LoopEnd G env.locals { s with heap := h, toks := tk } I (itR (a + ((i + 1 : Nat) : Int)) ((n : Int) - ((i + 1 : Nat) : Int))) (J (i + 1)) s₃ →
        UnrEnd G env.locals { s with heap := h, toks := tk } I (itR (a + ((i + 1 : Nat) : Int)) ((n : Int) - ((i + 1 : Nat) : Int))) (RangeRest prog w A E G env x body Q s I a n k (i + 1)) s₃ := by
      intro N_1
      refine ex4_5 N_1 ?_; intro h' tk' m' news' E_2 F' N' off J'
      try clear N_1
      subst E_2
      exact in4_5 h' tk' m' news' rfl F' N' off (ih (i + 1) m' news' (by omega) J')
    cases f with
    | ret v => exact h₃
    | brk => exact h₃
    | next => exact fin h₃
    | cont => exact fin h₃
end
theorem range_facts {a b : Int} (h0 : 0 ≤ a) (h1 : a ≤ b) (h2 : b ≤ 1000) : Builtin.Range.small a b 1 = true ∧ Builtin.Range.rangeSize a b 1 = ((b - a).toNat : Int) := by
  have hs : Builtin.Range.rangeSize a b 1 = b - a := by
    unfold Builtin.Range.rangeSize
    have e : (b - a + (1 - 1)) = b - a := by omega
    by_cases h : a < b
    · simp [h]
    · have : a = b := by omega
      subst this; simp
  refine ⟨?_, by rw [hs]; omega⟩
  unfold Builtin.Range.small
  rw [hs]
  simp only [Builtin.Range.rangeFitsLong, Bool.and_eq_true, decide_eq_true_eq, Bool.or_eq_true, beq_iff_eq]
  refine ⟨⟨⟨⟨?_, ?_⟩, ?_⟩, ?_⟩, ?_⟩
  all_goals first | omega | (simp; omega)


/- the twin's place of a field: the channel and the list of places -/
def IsPlace (led : List (Addr × Obj)) (v : Value) (x : Fld) : Prop :=
  ∃ T k t q n us, v = .ref T ∧ (T, tupOf #[.int x.1 t, .ref q] k) ∈ led ∧ (q, listOf us.toArray n) ∈ led ∧ IntsAre us (rangeKs x.2.1 x.2.2.toNat)
abbrev PlacesAt (led : List (Addr × Obj)) : List (Str × Value) → List (Str × Fld) → Prop := Rel (IsPlace led)
theorem IsPlace.sub {led led' : List (Addr × Obj)} (h : ∀ p ∈ led, p ∈ led') {v : Value} {x : Fld} : IsPlace led v x → IsPlace led' v x := fun ⟨T, k, t, q, n, us, e, a, b, c⟩ => ⟨T, k, t, q, n, us, e, h _ a, h _ b, c⟩
theorem PlacesAt.sub {led led' : List (Addr × Obj)} (h : ∀ p ∈ led, p ∈ led') {a : List (Str × Value)} {b : List (Str × Fld)} (x : PlacesAt led a b) : PlacesAt led' a b := Rel.mono (fun _ _ y => y.sub h) x
theorem at_none {α : Type} {R : Value → α → Prop} {a : List (Str × Value)} {b : List (Str × α)} {n : Str} (r : Rel R a b) (g : look b n = none) : valueAt a n = none := by
  rcases Rel.look r n with ⟨u, _⟩ | ⟨v, y, h1, h2, _⟩
  · exact u
  · rw [g] at h2; cases h2
/- what lies under a name that is known -/
theorem at_field {led : List (Addr × Obj)} {a : List (Str × Value)} {b : List (Str × Fld)} {n : Str} {x : Fld} (r : FieldsAt led a b) (g : look b n = some x) {G : Prop}
    (h : ∀ T k t1 t2 t3, valueAt a n = some (.ref T) → (T, tupOf #[.int x.1 t1, .int x.2.1 t2, .int x.2.2 t3] k) ∈ led → G) : G := by
  rcases Rel.look r n with ⟨_, u⟩ | ⟨v, y, h1, h2, T, k, t1, t2, t3, e, m⟩
  · rw [g] at u; cases u
  · rw [g] at h2; cases h2; exact h T k t1 t2 t3 (by rw [h1, e]) m
theorem at_key {led : List (Addr × Obj)} {a : List (Str × Value)} {b : List (Str × Fld)} {n : Str} {v0 : Value} (r : PlacesAt led a b) (g : valueAt a n = some v0) {G : Prop}
    (h : ∀ x T k t q m us, v0 = .ref T → look b n = some x → (T, tupOf #[.int x.1 t, .ref q] k) ∈ led → (q, listOf us.toArray m) ∈ led → IntsAre us (rangeKs x.2.1 x.2.2.toNat) → G) : G := by
  rcases Rel.look r n with ⟨u, _⟩ | ⟨v, y, h1, h2, T, k, t, q, m, us, e, m1, m2, m3⟩
  · rw [g] at u; cases u
  · rw [g] at h1; cases h1; exact h y T k t q m us e h2 m1 m2 m3
theorem at_place {led : List (Addr × Obj)} {a : List (Str × Value)} {b : List (Str × Fld)} {n : Str} {x : Fld} (r : PlacesAt led a b) (g : look b n = some x) {G : Prop}
    (h : ∀ T k t q m us, valueAt a n = some (.ref T) → (T, tupOf #[.int x.1 t, .ref q] k) ∈ led → (q, listOf us.toArray m) ∈ led → IntsAre us (rangeKs x.2.1 x.2.2.toNat) → G) : G := by
  rcases Rel.look r n with ⟨_, u⟩ | ⟨v, y, h1, h2, T, k, t, q, m, us, e, m1, m2, m3⟩
  · rw [g] at u; cases u
  · rw [g] at h2; cases h2; exact h T k t q m us (by rw [h1, e]) m1 m2 m3
/- the k-th of the five names -/
def nameN (k : Nat) : Str := TS [80 + k, 36]
def IsName (x : Str) : Prop := ∃ k, k < 5 ∧ x = nameN k
theorem pqrst (r : Int) (h0 : 0 ≤ r) (h1 : r < 5) : Txt.item (Str.ofString "PQRST") r ++ Str.ofString "$" = nameN r.toNat := by
  have H_1 : ∃ k : Nat, r = (k : Int) := ⟨r.toNat, by omega⟩
  refine ex1_1 H_1 ?_; intro k E_2
  try clear H_1
  subst E_2
  have hk : k < 5 := by omega
  match k, hk with
  | 0, _ => rfl
  | 1, _ => rfl
  | 2, _ => rfl
  | 3, _ => rfl
  | 4, _ => rfl
/- the parts that are drawn -/
def PartOk (x : Int × Str) : Prop := 0 ≤ x.1 ∧ x.1 ≤ 3 ∧ IsName x.2
theorem PartsIn.snoc {led : List (Addr × Obj)} {vs : List Value} {ps : List (Int × Str)} {T : Addr} {a : Int} {b : Str} {t u : Tok} {k : Nat} (h : PartsIn led vs ps) (m : (T, tupOf #[.int a t, .str b u] k) ∈ led) : PartsIn led (vs ++ [.ref T]) (ps ++ [(a, b)]) :=
  h.append ⟨⟨T, k, t, u, rfl, m⟩, trivial⟩

section
variable {w : World} {G : Heap} {m : Str → Option Value} {p : Program} {loose : List Str} {mean : ExcName → Option Value} {mg mb : Str → Option Value}
  {s : Shared} {A : Around} {qual : Str} {body : PySem.Expr} {scope : Scope} {cl : List (Str × Addr)} {pm ctv : Value} {params : Arguments} {f c' : Addr} {oc olam : Obj} {vs : Array Value} {t : Tok}
/- the call of a lambda without arguments, its body comes back -/
theorem lam_ok {L : Addr} {led : List (Addr × Obj)} {Q E : Value → Shared → Prop} {P : List (Addr × Obj) → Prop}
  (hh : A.handled = none) (hdp : A.depth ≤ 700) (hu : A.units ≤ 700) (F : Fr G L s.heap m) (T : Top p loose mean mg mb G) (N : News G L s.heap led)
  (ho : (f, olam) ∈ led) (hol : olam = kla_obj "<lambda>" qual params body scope cl pm c' ctv) (hc : (c', oc) ∈ led) (hd : oc.data = .fields vs) (hv : vs[1]? = some (.str qual t))
  (hbind : bindArgs (kla_fn "<lambda>" qual params body scope cl pm (.ref c') ctv) ⟨[], []⟩ = pure []) (hco : scope.isCoroutine = false) (hgen : scope.isGenerator = false) (hk : scope.kind = .function) (hcell : ∀ x ∈ scope.names, x.2 ≠ .cell)
  (hbody : ∀ L' oL h₁ tk (Q' E' : Value → Shared → Prop), FrameIs oL m → Fr G L' h₁ (fun _ => none) → News G L' h₁ ((L, oL) :: led) → (∀ p ∈ led, @LT.lt Nat _ p.1 L') → @LT.lt Nat _ L L' →
    (∀ h' tk' led' v, Fr G L' h' (fun _ => none) → News G L' h' ((L, oL) :: led') → (∀ p ∈ led', p.1 ≠ L) → P led' → Q' v { s with heap := h', toks := tk' }) →
    wpAny (model PySem.Challenge.rw_pq0169_01.row.prog w) { handled := none, depth := 701, units := 703 } (eval body (envX qual scope L' f (.ref c') cl)) Q' E' { s with heap := h₁, toks := tk })
  (h : ∀ h' tk led' v, Fr G L h' m → News G L h' led' → P led' → Q v { s with heap := h', toks := tk }) :
  wpAny (model PySem.Challenge.rw_pq0169_01.row.prog w) A (call (.ref f) [] []) Q E s := by
  subst hol
  refine wpAny_weak (A' := A3) ?_ hh hdp hu rfl rfl
  refine wpAny_call (enterLam F N (Top.nolimit T) ho (codeRec_news N hc hd hv) (by exact Nat.lt_of_le_of_lt (Nat.le_refl 700) (by decide)) hbind (fun y hy => nomatch hy) ?_ hco hgen hk hcell)
  intro L' h₁ oL hoL F' N' l0 l1
  have hab := F.above
  refine wpAny_weak (A' := { handled := none, depth := 701, units := 703 }) (hbody L' oL h₁ _ _ _ hoL F' N' l0 l1 ?_) rfl (Nat.le_refl _) (Nat.le_refl _) rfl rfl
  intro h' tk' led' v F2 N2 hL hP
  exact h h' tk' led' v (back_fr F2 N2 (.head _) hoL hab) (back_news N2 fun p hp => ⟨.tail _ hp, hL p hp⟩) hP
/- the call of a lambda without arguments, its body raises -/
theorem lam_raise {env₀ : Env} {outer : List Env} {L : Addr} {code : Str} {main frs : List (Addr × Obj)} {Q E : Value → Shared → Prop}
  (hA : A.frames = some (env₀ :: outer)) (hf₀ : env₀.frame = some L) (hk₀ : env₀.scope.kind ≠ .module) (Fs : Frs outer frs) (hoff : ∀ p ∈ main, ∀ q ∈ frs, p.1 ≠ q.1)
  (hh : A.handled = none) (hdp : A.depth ≤ 700) (hu : A.units ≤ 700) (F : Fr G L s.heap m) (T : Top p loose mean mg mb G) (N : News G L s.heap (main ++ frs))
  (ho : (f, olam) ∈ main) (hol : olam = kla_obj "<lambda>" qual params body scope cl pm c' ctv) (hc : (c', oc) ∈ main) (hd : oc.data = .fields vs) (hv : vs[1]? = some (.str qual t))
  (hbind : bindArgs (kla_fn "<lambda>" qual params body scope cl pm (.ref c') ctv) ⟨[], []⟩ = pure []) (hco : scope.isCoroutine = false) (hgen : scope.isGenerator = false) (hk : scope.kind = .function) (hcell : ∀ x ∈ scope.names, x.2 ≠ .cell)
  (hbody : ∀ (A' : Around) (env' : Env) L' oL h₁ tk (Q' E' : Value → Shared → Prop), A'.frames = some (env' :: env₀ :: outer) → env'.frame = some L' → env'.scope.kind ≠ .module → A'.handled = none → A'.depth ≤ 701 → A'.units ≤ 703 → env' = envX qual scope L' f (.ref c') cl → FrameIs oL m → Fr G L' h₁ (fun _ => none) → News G L' h₁ (main ++ (L, oL) :: frs) →
    (∀ p ∈ main, ∀ q ∈ (L, oL) :: frs, p.1 ≠ q.1) → Frs (env₀ :: outer) ((L, oL) :: frs) → (∀ p ∈ main, @LT.lt Nat _ p.1 L') →
    (∀ h' tk e dx frs', SameUp ((L, oL) :: frs) frs' → Frs (env₀ :: outer) frs' → Fr G L' h' (fun _ => none) → News G L' h' (main ++ frs') → L' ≠ e → L' ≠ dx → Flying G h' e dx code (main ++ frs') → E' (.ref e) { s with heap := h', toks := tk }) →
    wpAny (model PySem.Challenge.rw_pq0169_01.row.prog w) A' (eval body env') Q' E' { s with heap := h₁, toks := tk })
  (hE : ∀ h' tk e dx frs', SameUp frs frs' → Frs outer frs' → Fr G L h' m → News G L h' (main ++ frs') → L ≠ e → L ≠ dx → Flying G h' e dx code (main ++ frs') → E (.ref e) { s with heap := h', toks := tk }) :
  wpAny (model PySem.Challenge.rw_pq0169_01.row.prog w) A (call (.ref f) [] []) Q E s := by
  subst hol
  refine wpAny_weakF (A' := { handled := none, depth := 700, frames := some (env₀ :: outer), units := 700 }) ?_ hh hdp hu hA.symm rfl
  refine wpAny_call (enterLam F N (Top.nolimit T) (List.mem_append_left _ ho) (codeRec_news N (List.mem_append_left _ hc) hd hv) (by exact Nat.lt_of_le_of_lt (Nat.le_refl 700) (by decide)) hbind (fun y hy => nomatch hy) ?_ hco hgen hk hcell)
  intro L' h₁ oL hoL F' N' l0 l1
  have hab := F.above
  have hLm : ∀ p ∈ main ++ frs, p.1 ≠ L := fun p hp => (N p hp).2.1
  have hkl : (envX qual scope L' f (.ref c') cl).scope.kind ≠ .module := by show scope.kind ≠ .module; rw [hk]; decide
  refine hbody _ _ L' oL h₁ _ _ _ (Around.frames_deeper rfl) rfl hkl rfl (Nat.le_refl _) (Nat.le_refl _) rfl hoL F' (news_sub N' fun p hp => mem_mid p hp) (fun p hp q hq => ?_) ⟨hk₀, hf₀, hoL.1, Fs⟩ (fun p hp => l0 p (List.mem_append_left _ hp)) ?_
  · refine mcons hq ?_ fun hq => ?_
    · exact hLm p (List.mem_append_left _ hp)
    · exact hoff p hp q hq
  intro h2 tk2 e dx frs1 SU Fs2 F3 N3 l2 l3 Fl
  refine pass_on (L' := L') rfl hf₀ hk₀ hoL hab hLm hoff rfl hkl SU Fs2 F3 N3 l2 l3 Fl ?_
  intro h3 frs' SU2 Fs' F4 N4 l4 l5 Fl2
  exact hE h3 _ e dx frs' SU2 Fs' F4 N4 l4 l5 Fl2
end

section
variable {w : World} {G : Heap} {L : Addr} {m : Str → Option Value} {p : Program} {loose : List Str} {mean : ExcName → Option Value} {mg mb : Str → Option Value}
  {E : Value → Shared → Prop} {s : Shared} {A : Around}
end
def P_lawtold (w : World) (G : Heap) (L : Addr) (m : Str → Option Value) (p : Program) (loose : List Str) (mean : ExcName → Option Value) (mg mb : Str → Option Value) (E : Value → Shared → Prop) (s : Shared) (A : Around) (env₀ : Env) (feed cells aw awd afi aop afl tw pl sz bu : Addr) (c turn size : Int) (tc tt ts : Tok) (vs : List Value) (ns : List Int) (nF nC : Nat) (ofl opl oo otw osz obu : Obj) (ps : Array Value) (kvf kvp kvt : List (Str × Value)) (kvo kvs kvb : List (Int × Value)) (fl : List (Str × Fld)) (rest stt : List (Addr × Obj)) (Q : Value → Shared → Prop) : Prop := ∀ (hA : A.frames = some [env₀]) (hf₀ : env₀.frame = some L) (hk₀ : env₀.scope.kind ≠ .module) (hh : A.handled = none) (hdp : A.depth ≤ 500) (hu : A.units ≤ 500) (F : Fr G L s.heap m) (T : Top p loose mean mg mb G) (X : (hd.heap_1 w.params).In G) (C : CodeHd G 164 162) (N : News G L s.heap ((feed, listOf #[.ref cells, .int turn tt] nF) :: (cells, listOf vs.toArray nC) :: (afl, ofl) :: (pl, opl) :: (162, tabObj ps) :: rest)) (hnd : @List.Nodup Nat [feed, cells, afl, pl, 162]) (hoff : ∀ p ∈ rest, ¬ @Membership.mem Nat (List Nat) _ [feed, afl, pl, 162] p.1) (hstt : ∀ p ∈ stt, p ∈ rest) (hi : IntsAre vs ns) (hvl : vs.length ≤ 100) (h0 : 0 ≤ turn) (h1 : turn ≤ 9000) (W : WorldAt rest aw awd afi aop afl) (m3 : (aop, oo) ∈ rest) (d3 : oo.IsDictOf (PySem.intKind PySem.Challenge.rw_pq0169_01.row.prog w) kvo) (lo3 : (aop == sysModules) = false) (lo5 : (afl == sysModules) = false) (lo6 : (pl == sysModules) = false) (mt : (tw, otw) ∈ rest) (dt : otw.IsDictOf (PySem.strKind PySem.Challenge.rw_pq0169_01.row.prog w) kvt) (vt1 : valueAt kvt (Str.ofString "places") = some (.ref pl)) (vt2 : valueAt kvt (Str.ofString "sizes") = some (.ref sz)) (vt3 : valueAt kvt (Str.ofString "buffers") = some (.ref bu)) (ms : (sz, osz) ∈ rest) (ds : osz.IsDictOf (PySem.intKind PySem.Challenge.rw_pq0169_01.row.prog w) kvs) (vs1 : valueAt kvs c = some (.int size ts)) (mb' : (bu, obu) ∈ rest) (db : obu.IsDictOf (PySem.intKind PySem.Challenge.rw_pq0169_01.row.prog w) kvb) (lo7 : (bu == sysModules) = false) (d5 : ofl.IsDictOf (PySem.strKind PySem.Challenge.rw_pq0169_01.row.prog w) kvf) (f5 : FieldsAt stt kvf fl) (d6 : opl.IsDictOf (PySem.strKind PySem.Challenge.rw_pq0169_01.row.prog w) kvp) (f6 : PlacesAt stt kvp fl) (z5 : fl.length ≤ 5) (hTab : TabOk stt "_law_told.<locals>.<lambda>" ps) (ho : (valueAt kvo c = none ∧ valueAt kvb c = none) ∨ (∃ am om kvm nm bl r v, valueAt kvo c = some (.ref am) ∧ (am, om) ∈ rest ∧ om.IsDictOf (PySem.strKind PySem.Challenge.rw_pq0169_01.row.prog w) kvm ∧ MadeIs kvm nm size bl r ∧ valueAt kvb c = some v)) (h : ∀ h' tk turn' tt' ofl' opl' kvf' kvp' ps' ext fl', Fr G L h' m → News G L h' ((feed, listOf #[.ref cells, .int turn' tt'] nF) :: (cells, listOf vs.toArray nC) :: (afl, ofl') :: (pl, opl') :: (162, tabObj ps') :: (ext ++ rest)) →
    turn ≤ turn' → turn' ≤ turn + 10 → ofl'.IsDictOf (PySem.strKind PySem.Challenge.rw_pq0169_01.row.prog w) kvf' → FieldsAt (ext ++ stt) kvf' fl' → opl'.IsDictOf (PySem.strKind PySem.Challenge.rw_pq0169_01.row.prog w) kvp' → PlacesAt (ext ++ stt) kvp' fl' →
    TabOk (ext ++ stt) "_law_told.<locals>.<lambda>" ps' → (∀ p ∈ ext, ∀ q ∈ (feed, listOf #[.ref cells, .int turn tt] nF) :: (cells, listOf vs.toArray nC) :: (afl, ofl) :: (pl, opl) :: ((162 : Addr), tabObj ps) :: rest, @LT.lt Nat _ q.1 p.1) →
    (fl' = fl ∨ (valueAt kvo c ≠ none ∧ ∃ ds, fl' = fput c 0 fl ds ∧ (∀ x ∈ ds, PartOk x) ∧ (ds.map (·.1)).sum ≤ size)) → Q (.bool true) { s with heap := h', toks := tk }), wpAny (model PySem.Challenge.rw_pq0169_01.row.prog w) A (call (.ref 165) [.ref feed, .ref aw, .ref tw, .int c tc] []) Q E s
def U_lawtold (c : (World) × (Heap) × (Addr) × (Str → Option Value) × (Program) × (List Str) × (ExcName → Option Value) × (Str → Option Value) × (Str → Option Value) × (Value → Shared → Prop) × (Shared) × (Around) × (Env) × (Addr) × (Addr) × (Addr) × (Addr) × (Addr) × (Addr) × (Addr) × (Addr) × (Addr) × (Addr) × (Addr) × (Int) × (Int) × (Int) × (Tok) × (Tok) × (Tok) × (List Value) × (List Int) × (Nat) × (Nat) × (Obj) × (Obj) × (Obj) × (Obj) × (Obj) × (Obj) × (Array Value) × (List (Str × Value)) × (List (Str × Value)) × (List (Str × Value)) × (List (Int × Value)) × (List (Int × Value)) × (List (Int × Value)) × (List (Str × Fld)) × (List (Addr × Obj)) × (List (Addr × Obj)) × (Value → Shared → Prop)) : Prop := P_lawtold c.1 c.2.1 c.2.2.1 c.2.2.2.1 c.2.2.2.2.1 c.2.2.2.2.2.1 c.2.2.2.2.2.2.1 c.2.2.2.2.2.2.2.1 c.2.2.2.2.2.2.2.2.1 c.2.2.2.2.2.2.2.2.2.1 c.2.2.2.2.2.2.2.2.2.2.1 c.2.2.2.2.2.2.2.2.2.2.2.1 c.2.2.2.2.2.2.2.2.2.2.2.2.1 c.2.2.2.2.2.2.2.2.2.2.2.2.2.1 c.2.2.2.2.2.2.2.2.2.2.2.2.2.2.1 c.2.2.2.2.2.2.2.2.2.2.2.2.2.2.2.1 c.2.2.2.2.2.2.2.2.2.2.2.2.2.2.2.2.1 c.2.2.2.2.2.2.2.2.2.2.2.2.2.2.2.2.2.1 c.2.2.2.2.2.2.2.2.2.2.2.2.2.2.2.2.2.2.1 c.2.2.2.2.2.2.2.2.2.2.2.2.2.2.2.2.2.2.2.1 c.2.2.2.2.2.2.2.2.2.2.2.2.2.2.2.2.2.2.2.2.1 c.2.2.2.2.2.2.2.2.2.2.2.2.2.2.2.2.2.2.2.2.2.1 c.2.2.2.2.2.2.2.2.2.2.2.2.2.2.2.2.2.2.2.2.2.2.1 c.2.2.2.2.2.2.2.2.2.2.2.2.2.2.2.2.2.2.2.2.2.2.2.1 c.2.2.2.2.2.2.2.2.2.2.2.2.2.2.2.2.2.2.2.2.2.2.2.2.1 c.2.2.2.2.2.2.2.2.2.2.2.2.2.2.2.2.2.2.2.2.2.2.2.2.2.1 c.2.2.2.2.2.2.2.2.2.2.2.2.2.2.2.2.2.2.2.2.2.2.2.2.2.2.1 c.2.2.2.2.2.2.2.2.2.2.2.2.2.2.2.2.2.2.2.2.2.2.2.2.2.2.2.1 c.2.2.2.2.2.2.2.2.2.2.2.2.2.2.2.2.2.2.2.2.2.2.2.2.2.2.2.2.1 c.2.2.2.2.2.2.2.2.2.2.2.2.2.2.2.2.2.2.2.2.2.2.2.2.2.2.2.2.2.1 c.2.2.2.2.2.2.2.2.2.2.2.2.2.2.2.2.2.2.2.2.2.2.2.2.2.2.2.2.2.2.1 c.2.2.2.2.2.2.2.2.2.2.2.2.2.2.2.2.2.2.2.2.2.2.2.2.2.2.2.2.2.2.2.1 c.2.2.2.2.2.2.2.2.2.2.2.2.2.2.2.2.2.2.2.2.2.2.2.2.2.2.2.2.2.2.2.2.1 c.2.2.2.2.2.2.2.2.2.2.2.2.2.2.2.2.2.2.2.2.2.2.2.2.2.2.2.2.2.2.2.2.2.1 c.2.2.2.2.2.2.2.2.2.2.2.2.2.2.2.2.2.2.2.2.2.2.2.2.2.2.2.2.2.2.2.2.2.2.1 c.2.2.2.2.2.2.2.2.2.2.2.2.2.2.2.2.2.2.2.2.2.2.2.2.2.2.2.2.2.2.2.2.2.2.2.1 c.2.2.2.2.2.2.2.2.2.2.2.2.2.2.2.2.2.2.2.2.2.2.2.2.2.2.2.2.2.2.2.2.2.2.2.2.1 c.2.2.2.2.2.2.2.2.2.2.2.2.2.2.2.2.2.2.2.2.2.2.2.2.2.2.2.2.2.2.2.2.2.2.2.2.2.1 c.2.2.2.2.2.2.2.2.2.2.2.2.2.2.2.2.2.2.2.2.2.2.2.2.2.2.2.2.2.2.2.2.2.2.2.2.2.2.1 c.2.2.2.2.2.2.2.2.2.2.2.2.2.2.2.2.2.2.2.2.2.2.2.2.2.2.2.2.2.2.2.2.2.2.2.2.2.2.2.1 c.2.2.2.2.2.2.2.2.2.2.2.2.2.2.2.2.2.2.2.2.2.2.2.2.2.2.2.2.2.2.2.2.2.2.2.2.2.2.2.2.1 c.2.2.2.2.2.2.2.2.2.2.2.2.2.2.2.2.2.2.2.2.2.2.2.2.2.2.2.2.2.2.2.2.2.2.2.2.2.2.2.2.2.1 c.2.2.2.2.2.2.2.2.2.2.2.2.2.2.2.2.2.2.2.2.2.2.2.2.2.2.2.2.2.2.2.2.2.2.2.2.2.2.2.2.2.2.1 c.2.2.2.2.2.2.2.2.2.2.2.2.2.2.2.2.2.2.2.2.2.2.2.2.2.2.2.2.2.2.2.2.2.2.2.2.2.2.2.2.2.2.2.1 c.2.2.2.2.2.2.2.2.2.2.2.2.2.2.2.2.2.2.2.2.2.2.2.2.2.2.2.2.2.2.2.2.2.2.2.2.2.2.2.2.2.2.2.2.1 c.2.2.2.2.2.2.2.2.2.2.2.2.2.2.2.2.2.2.2.2.2.2.2.2.2.2.2.2.2.2.2.2.2.2.2.2.2.2.2.2.2.2.2.2.2.1 c.2.2.2.2.2.2.2.2.2.2.2.2.2.2.2.2.2.2.2.2.2.2.2.2.2.2.2.2.2.2.2.2.2.2.2.2.2.2.2.2.2.2.2.2.2.2.1 c.2.2.2.2.2.2.2.2.2.2.2.2.2.2.2.2.2.2.2.2.2.2.2.2.2.2.2.2.2.2.2.2.2.2.2.2.2.2.2.2.2.2.2.2.2.2.2.1 c.2.2.2.2.2.2.2.2.2.2.2.2.2.2.2.2.2.2.2.2.2.2.2.2.2.2.2.2.2.2.2.2.2.2.2.2.2.2.2.2.2.2.2.2.2.2.2.2.1 c.2.2.2.2.2.2.2.2.2.2.2.2.2.2.2.2.2.2.2.2.2.2.2.2.2.2.2.2.2.2.2.2.2.2.2.2.2.2.2.2.2.2.2.2.2.2.2.2.2.1 c.2.2.2.2.2.2.2.2.2.2.2.2.2.2.2.2.2.2.2.2.2.2.2.2.2.2.2.2.2.2.2.2.2.2.2.2.2.2.2.2.2.2.2.2.2.2.2.2.2.2
/- the letters at which it would fail, if there are such -/
noncomputable def K_lawtold : (World) × (Heap) × (Addr) × (Str → Option Value) × (Program) × (List Str) × (ExcName → Option Value) × (Str → Option Value) × (Str → Option Value) × (Value → Shared → Prop) × (Shared) × (Around) × (Env) × (Addr) × (Addr) × (Addr) × (Addr) × (Addr) × (Addr) × (Addr) × (Addr) × (Addr) × (Addr) × (Addr) × (Int) × (Int) × (Int) × (Tok) × (Tok) × (Tok) × (List Value) × (List Int) × (Nat) × (Nat) × (Obj) × (Obj) × (Obj) × (Obj) × (Obj) × (Obj) × (Array Value) × (List (Str × Value)) × (List (Str × Value)) × (List (Str × Value)) × (List (Int × Value)) × (List (Int × Value)) × (List (Int × Value)) × (List (Str × Fld)) × (List (Addr × Obj)) × (List (Addr × Obj)) × (Value → Shared → Prop) := @Classical.epsilon _ (neP ⟨aWorld 0⟩ (neP ⟨default⟩ (neP ⟨default⟩ (neP ⟨default⟩ (neP ⟨default⟩ (neP ⟨default⟩ (neP ⟨default⟩ (neP ⟨default⟩ (neP ⟨default⟩ (neP ⟨default⟩ (neP neS (neP ⟨{}⟩ (neP ⟨default⟩ (neP ⟨default⟩ (neP ⟨default⟩ (neP ⟨default⟩ (neP ⟨default⟩ (neP ⟨default⟩ (neP ⟨default⟩ (neP ⟨default⟩ (neP ⟨default⟩ (neP ⟨default⟩ (neP ⟨default⟩ (neP ⟨default⟩ (neP ⟨default⟩ (neP ⟨default⟩ (neP ⟨default⟩ (neP ⟨default⟩ (neP ⟨default⟩ (neP ⟨default⟩ (neP ⟨default⟩ (neP ⟨default⟩ (neP ⟨default⟩ (neP ⟨default⟩ (neP ⟨default⟩ (neP ⟨default⟩ (neP ⟨default⟩ (neP ⟨default⟩ (neP ⟨default⟩ (neP ⟨default⟩ (neP ⟨default⟩ (neP ⟨default⟩ (neP ⟨default⟩ (neP ⟨default⟩ (neP ⟨default⟩ (neP ⟨default⟩ (neP ⟨default⟩ (neP ⟨default⟩ (neP ⟨default⟩ (neP ⟨default⟩ ⟨default⟩)))))))))))))))))))))))))))))))))))))))))))))))))) fun c => ¬ U_lawtold c
namespace E_lawtold
noncomputable def w : World := K_lawtold.1
noncomputable def G : Heap := K_lawtold.2.1
noncomputable def L : Addr := K_lawtold.2.2.1
noncomputable def m : Str → Option Value := K_lawtold.2.2.2.1
noncomputable def p : Program := K_lawtold.2.2.2.2.1
noncomputable def loose : List Str := K_lawtold.2.2.2.2.2.1
noncomputable def mean : ExcName → Option Value := K_lawtold.2.2.2.2.2.2.1
noncomputable def mg : Str → Option Value := K_lawtold.2.2.2.2.2.2.2.1
noncomputable def mb : Str → Option Value := K_lawtold.2.2.2.2.2.2.2.2.1
noncomputable def E : Value → Shared → Prop := K_lawtold.2.2.2.2.2.2.2.2.2.1
noncomputable def s : Shared := K_lawtold.2.2.2.2.2.2.2.2.2.2.1
noncomputable def A : Around := K_lawtold.2.2.2.2.2.2.2.2.2.2.2.1
noncomputable def env₀ : Env := K_lawtold.2.2.2.2.2.2.2.2.2.2.2.2.1
noncomputable def feed : Addr := K_lawtold.2.2.2.2.2.2.2.2.2.2.2.2.2.1
noncomputable def cells : Addr := K_lawtold.2.2.2.2.2.2.2.2.2.2.2.2.2.2.1
noncomputable def aw : Addr := K_lawtold.2.2.2.2.2.2.2.2.2.2.2.2.2.2.2.1
noncomputable def awd : Addr := K_lawtold.2.2.2.2.2.2.2.2.2.2.2.2.2.2.2.2.1
noncomputable def afi : Addr := K_lawtold.2.2.2.2.2.2.2.2.2.2.2.2.2.2.2.2.2.1
noncomputable def aop : Addr := K_lawtold.2.2.2.2.2.2.2.2.2.2.2.2.2.2.2.2.2.2.1
noncomputable def afl : Addr := K_lawtold.2.2.2.2.2.2.2.2.2.2.2.2.2.2.2.2.2.2.2.1
noncomputable def tw : Addr := K_lawtold.2.2.2.2.2.2.2.2.2.2.2.2.2.2.2.2.2.2.2.2.1
noncomputable def pl : Addr := K_lawtold.2.2.2.2.2.2.2.2.2.2.2.2.2.2.2.2.2.2.2.2.2.1
noncomputable def sz : Addr := K_lawtold.2.2.2.2.2.2.2.2.2.2.2.2.2.2.2.2.2.2.2.2.2.2.1
noncomputable def bu : Addr := K_lawtold.2.2.2.2.2.2.2.2.2.2.2.2.2.2.2.2.2.2.2.2.2.2.2.1
noncomputable def c : Int := K_lawtold.2.2.2.2.2.2.2.2.2.2.2.2.2.2.2.2.2.2.2.2.2.2.2.2.1
noncomputable def turn : Int := K_lawtold.2.2.2.2.2.2.2.2.2.2.2.2.2.2.2.2.2.2.2.2.2.2.2.2.2.1
noncomputable def size : Int := K_lawtold.2.2.2.2.2.2.2.2.2.2.2.2.2.2.2.2.2.2.2.2.2.2.2.2.2.2.1
noncomputable def tc : Tok := K_lawtold.2.2.2.2.2.2.2.2.2.2.2.2.2.2.2.2.2.2.2.2.2.2.2.2.2.2.2.1
noncomputable def tt : Tok := K_lawtold.2.2.2.2.2.2.2.2.2.2.2.2.2.2.2.2.2.2.2.2.2.2.2.2.2.2.2.2.1
noncomputable def ts : Tok := K_lawtold.2.2.2.2.2.2.2.2.2.2.2.2.2.2.2.2.2.2.2.2.2.2.2.2.2.2.2.2.2.1
noncomputable def vs : List Value := K_lawtold.2.2.2.2.2.2.2.2.2.2.2.2.2.2.2.2.2.2.2.2.2.2.2.2.2.2.2.2.2.2.1
noncomputable def ns : List Int := K_lawtold.2.2.2.2.2.2.2.2.2.2.2.2.2.2.2.2.2.2.2.2.2.2.2.2.2.2.2.2.2.2.2.1
noncomputable def nF : Nat := K_lawtold.2.2.2.2.2.2.2.2.2.2.2.2.2.2.2.2.2.2.2.2.2.2.2.2.2.2.2.2.2.2.2.2.1
noncomputable def nC : Nat := K_lawtold.2.2.2.2.2.2.2.2.2.2.2.2.2.2.2.2.2.2.2.2.2.2.2.2.2.2.2.2.2.2.2.2.2.1
noncomputable def ofl : Obj := K_lawtold.2.2.2.2.2.2.2.2.2.2.2.2.2.2.2.2.2.2.2.2.2.2.2.2.2.2.2.2.2.2.2.2.2.2.1
noncomputable def opl : Obj := K_lawtold.2.2.2.2.2.2.2.2.2.2.2.2.2.2.2.2.2.2.2.2.2.2.2.2.2.2.2.2.2.2.2.2.2.2.2.1
noncomputable def oo : Obj := K_lawtold.2.2.2.2.2.2.2.2.2.2.2.2.2.2.2.2.2.2.2.2.2.2.2.2.2.2.2.2.2.2.2.2.2.2.2.2.1
noncomputable def otw : Obj := K_lawtold.2.2.2.2.2.2.2.2.2.2.2.2.2.2.2.2.2.2.2.2.2.2.2.2.2.2.2.2.2.2.2.2.2.2.2.2.2.1
noncomputable def osz : Obj := K_lawtold.2.2.2.2.2.2.2.2.2.2.2.2.2.2.2.2.2.2.2.2.2.2.2.2.2.2.2.2.2.2.2.2.2.2.2.2.2.2.1
noncomputable def obu : Obj := K_lawtold.2.2.2.2.2.2.2.2.2.2.2.2.2.2.2.2.2.2.2.2.2.2.2.2.2.2.2.2.2.2.2.2.2.2.2.2.2.2.2.1
noncomputable def ps : Array Value := K_lawtold.2.2.2.2.2.2.2.2.2.2.2.2.2.2.2.2.2.2.2.2.2.2.2.2.2.2.2.2.2.2.2.2.2.2.2.2.2.2.2.2.1
noncomputable def kvf : List (Str × Value) := K_lawtold.2.2.2.2.2.2.2.2.2.2.2.2.2.2.2.2.2.2.2.2.2.2.2.2.2.2.2.2.2.2.2.2.2.2.2.2.2.2.2.2.2.1
noncomputable def kvp : List (Str × Value) := K_lawtold.2.2.2.2.2.2.2.2.2.2.2.2.2.2.2.2.2.2.2.2.2.2.2.2.2.2.2.2.2.2.2.2.2.2.2.2.2.2.2.2.2.2.1
noncomputable def kvt : List (Str × Value) := K_lawtold.2.2.2.2.2.2.2.2.2.2.2.2.2.2.2.2.2.2.2.2.2.2.2.2.2.2.2.2.2.2.2.2.2.2.2.2.2.2.2.2.2.2.2.1
noncomputable def kvo : List (Int × Value) := K_lawtold.2.2.2.2.2.2.2.2.2.2.2.2.2.2.2.2.2.2.2.2.2.2.2.2.2.2.2.2.2.2.2.2.2.2.2.2.2.2.2.2.2.2.2.2.1
noncomputable def kvs : List (Int × Value) := K_lawtold.2.2.2.2.2.2.2.2.2.2.2.2.2.2.2.2.2.2.2.2.2.2.2.2.2.2.2.2.2.2.2.2.2.2.2.2.2.2.2.2.2.2.2.2.2.1
noncomputable def kvb : List (Int × Value) := K_lawtold.2.2.2.2.2.2.2.2.2.2.2.2.2.2.2.2.2.2.2.2.2.2.2.2.2.2.2.2.2.2.2.2.2.2.2.2.2.2.2.2.2.2.2.2.2.2.1
noncomputable def fl : List (Str × Fld) := K_lawtold.2.2.2.2.2.2.2.2.2.2.2.2.2.2.2.2.2.2.2.2.2.2.2.2.2.2.2.2.2.2.2.2.2.2.2.2.2.2.2.2.2.2.2.2.2.2.2.1
noncomputable def rest : List (Addr × Obj) := K_lawtold.2.2.2.2.2.2.2.2.2.2.2.2.2.2.2.2.2.2.2.2.2.2.2.2.2.2.2.2.2.2.2.2.2.2.2.2.2.2.2.2.2.2.2.2.2.2.2.2.1
noncomputable def stt : List (Addr × Obj) := K_lawtold.2.2.2.2.2.2.2.2.2.2.2.2.2.2.2.2.2.2.2.2.2.2.2.2.2.2.2.2.2.2.2.2.2.2.2.2.2.2.2.2.2.2.2.2.2.2.2.2.2.1
noncomputable def Q : Value → Shared → Prop := K_lawtold.2.2.2.2.2.2.2.2.2.2.2.2.2.2.2.2.2.2.2.2.2.2.2.2.2.2.2.2.2.2.2.2.2.2.2.2.2.2.2.2.2.2.2.2.2.2.2.2.2.2
theorem go : P_lawtold w G L m p loose mean mg mb E s A env₀ feed cells aw awd afi aop afl tw pl sz bu c turn size tc tt ts vs ns nF nC ofl opl oo otw osz obu ps kvf kvp kvt kvo kvs kvb fl rest stt Q := by
  intro hA hf₀ hk₀ hh hdp hu F T X C N hnd hoff hstt hi hvl h0 h1 W m3 d3 lo3 lo5 lo6 mt dt vt1 vt2 vt3 ms ds vs1 mb' db lo7 d5 f5 d6 f6 z5 hTab ho h
  refine wpAny_weakF (A' := { handled := none, depth := 500, frames := some [env₀], units := 500 }) ?_ hh hdp hu hA.symm rfl
  refine ex2_5 (W.ex) ?_; intro esw nw w1 w2 w3 w4 w5
  revert X
  k_fill
  intro X
  refine wpAny_call ?_
  have hab := F.above
  simp only [List.nodup_cons, List.mem_cons, List.not_mem_nil, or_false, not_or, not_false_eq_true, List.nodup_nil, and_true] at hnd
  refine ex0_4 hnd ?_; intro N_1 N_2 N_3 n10
  try clear hnd
  refine ex0_4 N_1 ?_; intro n1 n2 n3 n4
  try clear N_1
  refine ex0_3 N_2 ?_; intro n5 n6 n7
  try clear N_2
  refine ex0_2 N_3 ?_; intro n8 n9
  try clear N_3
  simp only [List.mem_cons, List.not_mem_nil, or_false, not_or] at hoff
  have off1 : ∀ p ∈ rest, p.1 ≠ feed := fun p hp => (hoff p hp).1
  have off2 : ∀ p ∈ rest, p.1 ≠ afl := fun p hp => (hoff p hp).2.1
  have off3 : ∀ p ∈ rest, p.1 ≠ pl := fun p hp => (hoff p hp).2.2.1
  have off4 : ∀ p ∈ rest, p.1 ≠ 162 := fun p hp => (hoff p hp).2.2.2
  clear hoff
  have hL1 : @Ne Nat feed L := (N _ (.head _)).2.1
  have hL2 : @Ne Nat cells L := (N _ (.tail _ (.head _))).2.1
  have hL3 : @Ne Nat afl L := (N _ (.tail _ (.tail _ (.head _)))).2.1
  have hL4 : @Ne Nat pl L := (N _ (.tail _ (.tail _ (.tail _ (.head _))))).2.1
  have hL5 : @Ne Nat 162 L := (N _ (.tail _ (.tail _ (.tail _ (.tail _ (.head _)))))).2.1
  have hLr : ∀ p ∈ rest, p.1 ≠ L := fun p hp => (N p (.tail _ (.tail _ (.tail _ (.tail _ (.tail _ hp)))))).2.1
  refine' enterC (binds := [(Str.ofString "feed", .ref feed), (Str.ofString "world", .ref aw), (Str.ofString "twin", .ref tw), (Str.ofString "channel", .int c tc)]) F X N (Top.nolimit T) ?k6 ?k7 ?k8 ?k9 ?kB ?kD ?_ ?c2 ?c3 ?c4
  case k8 => exact Nat.lt_of_le_of_lt (Nat.le_refl 500) (by decide)
  (((case k6 => k_is); (case k7 => k_is); (case k9 => first | exact BindsTo.of_eq rfl | exact binds_K (by k_in) rfl (by k_is) rfl rfl rfl); (case kB => (intro n'; ((repeat (first | exact List.forall_mem_nil _ | refine List.forall_mem_cons.mpr ⟨by first | exact .inl rfl | exact .inr ⟨rfl, rfl⟩, ?_⟩))))); (case kD => decide +kernel); (case c2 => exact rfl); (case c3 => exact rfl); (case c4 => exact rfl)))
  intro L' h₁ tk₁ oL cells' hoL F' N' Y l0
  clear F N
  refine ex3_4 (CellsAre.three Y) ?_; intro oc3 oc2 oc1 hE q3 q2 q1
  subst hE
  clear Y
  have q1 : oc1.data = .cell (some (.ref aw)) := q1
  have q2 : oc2.data = .cell (some (.int c tc)) := q2
  have q3 : oc3.data = .cell none := q3
  have lL : @LT.lt Nat _ L L' := l0 _ (.head _)
  have lF : @LT.lt Nat _ feed L' := l0 _ (.tail _ (.head _))
  have lC : @LT.lt Nat _ cells L' := l0 _ (.tail _ (.tail _ (.head _)))
  have lf : @LT.lt Nat _ afl L' := l0 _ (.tail _ (.tail _ (.tail _ (.head _))))
  have lp : @LT.lt Nat _ pl L' := l0 _ (.tail _ (.tail _ (.tail _ (.tail _ (.head _)))))
  have lt : @LT.lt Nat _ 162 L' := l0 _ (.tail _ (.tail _ (.tail _ (.tail _ (.tail _ (.head _))))))
  have lr : ∀ p ∈ rest, @LT.lt Nat _ p.1 L' := fun p hp => l0 _ (.tail _ (.tail _ (.tail _ (.tail _ (.tail _ (.tail _ hp))))))
  have lr1 : ∀ p ∈ rest, p.1 ≠ L' + 1 := fun p hp => Nat.ne_of_lt (Nat.lt_succ_of_lt (lr p hp))
  have lr2 : ∀ p ∈ rest, p.1 ≠ L' + 1 + 1 := fun p hp => Nat.ne_of_lt (Nat.lt_succ_of_lt (Nat.lt_succ_of_lt (lr p hp)))
  have lr3 : ∀ p ∈ rest, p.1 ≠ L' + 1 + 1 + 1 := fun p hp => Nat.ne_of_lt (Nat.lt_succ_of_lt (Nat.lt_succ_of_lt (Nat.lt_succ_of_lt (lr p hp))))
  have l9 : ∀ p ∈ (feed, listOf #[.ref cells, .int turn tt] nF) :: (cells, listOf vs.toArray nC) :: (afl, ofl) :: (pl, opl) :: ((162 : Addr), tabObj ps) :: rest, @LT.lt Nat _ p.1 L' := fun p hp => l0 p (.tail _ hp)
  clear l0
  simp only [List.cons_append, List.nil_append] at N'
  dsimp only
  k_steps
  with_reducible rename News _ _ _ _ => N1
  with_reducible rename _ ∧ _ ∧ _ ∧ _ ∧ _ ∧ _ ∧ _ ∧ _ ∧ _ ∧ AllLt _ _ => l1
  rename_i lP hA1 hA2 oc3' fF dP
  refine ex1_1 (⟨_, rfl⟩ : ∃ b, b = (L'+1+1+1, oc3') :: (L'+1+1, oc2) :: (L'+1, oc1) :: (L, oL) :: (afl, ofl) :: (pl, opl) :: ((162 : Addr), tabObj ps) :: rest) ?_; intro base hbase
  have N2 := news_sub N1 (nl' := (feed, listOf #[.ref cells, .int turn tt] nF) :: (cells, listOf vs.toArray nC) :: (lP, listOf #[] 0) :: base) (by rw [hbase]; ((repeat (first | exact List.forall_mem_nil _ | refine List.forall_mem_cons.mpr ⟨by k_mem, ?_⟩ | (intro p' hp'; k_mem)))))
  have lPF : @Ne Nat lP feed := Nat.ne_of_gt l1.2.2.2.2.1
  have lPC : @LT.lt Nat _ cells lP := l1.2.2.2.2.2.1
  have bF : ∀ p ∈ base, p.1 ≠ feed := by rw [hbase]; k_all
  have bP : ∀ p ∈ base, @LT.lt Nat _ p.1 lP := by
    rw [hbase]
    refine ex0_10 l1 ?_; intro x1 x2 x3 x4 x5 x6 x7 x8 x9 x0
    try clear l1
    have := PySem.W.tb_ltOf x0
    intro p hp
    simp only [List.mem_cons] at hp
    rcases hp with rfl | rfl | rfl | rfl | rfl | rfl | rfl | hp
    all_goals first | exact this _ hp | assumption
  clear N1 l1
  ((refine' next_any rfl ?a_105 ?b_105 ?F_105 ?T_105 ?X_105 ?N_105 ?nd1_105 ?nd2_105 (by assumption) (by assumption) ?h0_105 ?h1_105 (by first | decide | (simp only [List.size_toArray]; first | assumption | omega)) (by first | decide | (simp only [List.size_toArray]; first | assumption | omega)) ?_; (case a_105 => (exact Nat.le_of_ble_eq_true rfl)); (case b_105 => (exact Nat.le_of_ble_eq_true rfl)); (case F_105 => k_asm); (case T_105 => k_asm); (case X_105 => k_asm); (case N_105 => k_asm); (case nd1_105 => first | assumption | k_ne); (case nd2_105 => first | assumption | k_all); (case h0_105 => first | assumption | omega); (case h1_105 => first | assumption | omega)))
  intro h2 tk2 r t2 t2' hr0 hr1 F2 N2
  (repeat ((fail_if_success (with_reducible show wpAny _ _ (call (Value.type "range") _) _ _ _)); first | (k_unfold; (try dsimp only)) | walk1 | (dsimp only; walk1) | (leave1; try dsimp only)))
  refine ex0_2 (range_facts (a := 0) (b := 1 + r) (Int.le_refl 0) (r1_0 hr0 hr1).1 (r1_0 hr0 hr1).2) ?_; intro hS hZ
  refine range1_rows F2 N2 ?_
  intro h3 tk3 t3 u3 v3 hR F3 N3 hk3
  dsimp only
  refine iter_rangeUnr (n := (1 + r - 0).toNat) (by rfl) hR hS hZ F3 N3 (fun I hI => ?_)
  have bI : ∀ p ∈ base, p.1 ≠ I := fun p hp => Nat.ne_of_lt (hI p (.tail _ (.tail _ (.tail _ hp))))
  have fI : @LT.lt Nat _ feed I := hI _ (.head _)
  have cI : @LT.lt Nat _ cells I := hI _ (.tail _ (.head _))
  have pI : @LT.lt Nat _ lP I := hI _ (.tail _ (.tail _ (.head _)))
  refine range_ind (J := fun i m' news => ∃ turn' tt' vsP psP ext nP, (∃ v1 : Option Value, m' = fun y => if y = Str.ofString "turn" then v1 else if y = Str.ofString "twin" then some (.ref tw) else if y = Str.ofString "feed" then some (.ref feed) else none) ∧
      news = (feed, listOf #[.ref cells, .int turn' tt'] nF) :: (cells, listOf vs.toArray nC) :: (lP, listOf vsP.toArray nP) :: (ext ++ base) ∧ psP.length = i ∧ PartsIn ext vsP psP ∧ (∀ x ∈ psP, PartOk x) ∧ turn' = turn + 1 + 2 * i ∧ ∀ p ∈ ext, @LT.lt Nat _ I p.1)
      ?step ?done _ 0 _ _ (Nat.zero_add _) ?init
  case init =>
    refine in6_7 (turn + 1) t2' ([]) ([]) ([]) 0 ⟨none, ?_⟩ rfl rfl trivial (by simp) (by simp) (by simp)
    funext y
    by_cases e1 : y = Str.ofString "turn"
    · subst e1; rfl
    · simp only [if_neg e1]
      rfl
  case done =>
    intro m' news h9 tk9 N_4 F6 N6
    refine ex6_7 N_4 ?_; intro turn' tt' vsP psP ext nP N_5 E_6 a1 a2 a3 a4 a5
    try clear N_4
    refine ex1_1 N_5 ?_; intro v1 E_7
    try clear N_5
    subst E_7
    subst E_6
    have hPlen := a2.length
    change Fr G L' _ _ at F6
    change News G L' _ _ at N6
    have hn3 : psP.length ≤ 3 := by rw [a1]; exact tn3 hr0 hr1
    have ht1 : turn ≤ turn' := told_ge a4
    have ht2 : turn' ≤ turn + 10 := told_le a4 (tn3 hr0 hr1)
    subst hbase
    have l3 : @LT.lt Nat _ L' lP := Nat.lt_trans (Nat.lt_succ_of_lt (Nat.lt_succ_of_lt (Nat.lt_succ_self _))) (bP (L'+1+1+1, oc3') (.head _))
    have e1 : ∀ p ∈ ext, p.1 ≠ feed := fun p hp => Nat.ne_of_gt (Nat.lt_trans fI (a5 p hp))
    have e2 : ∀ p ∈ ext, @LT.lt Nat _ lP p.1 := fun p hp => Nat.lt_trans pI (a5 p hp)
    have e3 : ∀ p ∈ ext, @LT.lt Nat _ L' p.1 := fun p hp => Nat.lt_trans l3 (e2 p hp)
    have hvl2 : vsP.length ≤ 3 := Nat.le_trans (Nat.le_of_eq hPlen) hn3
    have wsub : ∀ p ∈ rest, p ∈ ext ++ rest := fun p hp => List.mem_append_right _ hp
    refine ex1_1 (⟨_, rfl⟩ : ∃ b, b = ext ++ rest) ?_; intro st hst
    rw [← hst] at wsub
    refine ex1_1 (⟨_, rfl⟩ : ∃ b, b = ext ++ stt) ?_; intro st2 hst2
    have wsub2 : ∀ p ∈ stt, p ∈ st2 := by rw [hst2]; exact fun p hp => List.mem_append_right _ hp
    have s2s : ∀ p ∈ st2, p ∈ st := by rw [hst2, hst]; exact fun p hp => List.mem_append.mpr ((List.mem_append.mp hp).imp id (hstt p))
    have W2 := W.sub wsub
    have s1 : ∀ p ∈ st, p.1 ≠ feed := by rw [hst]; exact fun p hp => (List.mem_append.mp hp).elim (e1 p) (off1 p)
    have s2 : ∀ p ∈ st, p.1 ≠ afl := by rw [hst]; exact fun p hp => (List.mem_append.mp hp).elim (fun hp => Nat.ne_of_gt (Nat.lt_trans lf (e3 p hp))) (off2 p)
    have s3 : ∀ p ∈ st, p.1 ≠ pl := by rw [hst]; exact fun p hp => (List.mem_append.mp hp).elim (fun hp => Nat.ne_of_gt (Nat.lt_trans lp (e3 p hp))) (off3 p)
    have s4 : ∀ p ∈ st, p.1 ≠ 162 := by rw [hst]; exact fun p hp => (List.mem_append.mp hp).elim (fun hp => Nat.ne_of_gt (Nat.lt_trans lt (e3 p hp))) (off4 p)
    have s5 : ∀ p ∈ st, p.1 ≠ L := by rw [hst]; exact fun p hp => (List.mem_append.mp hp).elim (fun hp => Nat.ne_of_gt (Nat.lt_trans lL (e3 p hp))) (hLr p)
    have s6 : ∀ p ∈ st, p.1 ≠ lP := by rw [hst]; exact fun p hp => (List.mem_append.mp hp).elim (fun hp => Nat.ne_of_gt (e2 p hp)) (fun hp => Nat.ne_of_lt (Nat.lt_trans (lr p hp) l3))
    have a2' : PartsIn st vsP psP := a2.sub (by rw [hst]; exact fun p hp => List.mem_append_left _ hp)
    have m3' := wsub _ m3
    have mt' := wsub _ mt
    have ms' := wsub _ ms
    have mb2 := wsub _ mb'
    have N7 := news_sub N6 (nl' := (lP, listOf vsP.toArray nP) :: (L'+1+1+1, oc3') :: (L'+1+1, oc2) :: (L'+1, oc1) :: (L, oL) :: (feed, listOf #[.ref cells, .int turn' tt'] nF) :: (cells, listOf vs.toArray nC) :: (afl, ofl) :: (pl, opl) :: (162, tabObj ps) :: st) (by
      rw [hst]
      k_offL)
    clear N6 bF bP bI F2 N2 F3 N3 hR hk3
    dsimp only
    rcases ho with ho | ho
    · refine ex0_2 ho ?_; intro v3 vb
      try clear ho
      have vb' : (valueAt kvb c).isSome = false := by rw [vb]; rfl
      (repeat ((fail_if_success (with_reducible show wpAny _ _ (exec (Stmt.For _ _ _ _ _) _) _ _ _)); first | (k_unfold; (try dsimp only)) | walk1 | (dsimp only; walk1) | (leave1; try dsimp only)))
      with_reducible rename Fr _ _ _ _ => F7
      refine' For_turns F7 ?_
      (repeat ((fail_if_success (with_reducible show wpAny _ _ (pyIter _) _ _ _)); first | (k_unfold; (try dsimp only)) | walk1 | (dsimp only; walk1) | (leave1; try dsimp only)))
      with_reducible rename News _ _ _ _ => N8
      with_reducible rename Fr _ _ _ _ => F8
      refine iter_listTurns (vs := []) (by rfl) F8 N8 (.head _) rfl rfl (fun I2 hI2 => ItemsRest.zero ?_)
      clear N8 F8
      intro h9 tk9 FA NA
      (repeat ((fail_if_success (with_reducible show wpAny _ _ (eval (Expr.Lambda _ _ _ _) _) _ _ _)); first | (k_unfold; (try dsimp only)) | walk1 | (dsimp only; walk1) | (leave1; try dsimp only)))
      with_reducible rename Fr _ _ _ _ => FA
      refine ex1_1 (⟨_, rfl⟩ : ∃ b, b = (lP, listOf vsP.toArray nP) :: (L'+1+1+1, oc3') :: (L'+1+1, oc2) :: (L'+1, oc1) :: (feed, listOf #[.ref cells, .int turn' tt'] nF) :: (cells, listOf vs.toArray nC) :: (afl, ofl) :: (pl, opl) :: st) ?_; intro R0 hR0
      have NB := news_sub NA (nl' := (162, tabObj ps) :: (R0 ++ [(L, oL)])) (by
        rw [hR0]
        k_offL)
      have stR : ∀ p ∈ st, p ∈ R0 := by rw [hR0]; exact fun p hp => .tail _ (.tail _ (.tail _ (.tail _ (.tail _ (.tail _ (.tail _ (.tail _ hp)))))))
      refine lam_make FA NB (by
        have : ∀ p ∈ R0, p.1 ≠ 162 := by rw [hR0]; k_all
        exact fun p hp => (List.mem_append.mp hp).elim (this p) fun hp => by rw [List.mem_singleton.mp hp]; exact Ne.symm hL5) T C rfl (hTab.sub wsub2) (fun p hp => List.mem_append_left _ (stR p (s2s p hp))) rfl rfl rfl ?_
      intro f olam c' oc vs' t' ctv ps' ext2 h' tk' hol FB NC hcm hd hv hTab2 x1 x2 x3
      clear NA NB
      k_steps
      refine ex1_1 (⟨_, rfl⟩ : ∃ b, b = (f, olam) :: (162, tabObj ps') :: (ext2 ++ R0)) ?_; intro main hmain
      have ND := news_sub NC (nl' := main ++ [(L, oL)]) (by
        rw [hmain]
        k_offL)
      have mR : ∀ p ∈ R0, p ∈ main := by rw [hmain]; exact fun p hp => .tail _ (.tail _ (List.mem_append_right _ hp))
      have mS := fun p hp => mR p (stR p hp)
      have mf : (f, olam) ∈ main := by rw [hmain]; exact .head _
      have mc : (c', oc) ∈ main := by
        rw [hmain]
        rcases List.mem_append.mp hcm with h | h
        · exact .tail _ (.tail _ (List.mem_append_left _ h))
        · exact .tail _ (.tail _ (List.mem_append_right _ (stR _ (s2s _ h))))
      have mp1 : (lP, listOf vsP.toArray nP) ∈ main := mR _ (by rw [hR0]; exact .head _)
      have mk3 : (L'+1+1+1, oc3') ∈ main := mR _ (by rw [hR0]; exact .tail _ (.head _))
      have mk2 : (L'+1+1, oc2) ∈ main := mR _ (by rw [hR0]; exact .tail _ (.tail _ (.head _)))
      have mk1 : (L'+1, oc1) ∈ main := mR _ (by rw [hR0]; exact .tail _ (.tail _ (.tail _ (.head _))))
      have hoffm : ∀ p ∈ main, ∀ q ∈ [(L, oL)], p.1 ≠ q.1 := by
        intro p hp q hq
        rw [List.mem_singleton.mp hq]
        rw [hmain] at hp
        refine mcons hp ?_ fun hp => ?_
        · exact Nat.ne_of_gt (x3 (L, oL) (.tail _ (List.mem_append_right _ (.head _))))
        refine mcons hp ?_ fun hp => ?_
        · exact hL5
        rcases List.mem_append.mp hp with hp | hp
        · exact Nat.ne_of_gt (x1 p hp (L, oL) (.tail _ (List.mem_append_right _ (.head _))))
        · rw [hR0] at hp
          have : ∀ p ∈ R0, p.1 ≠ L := by rw [hR0]; k_all
          exact this p (by rw [hR0]; exact hp)
      have d3' : oc3'.data = .cell (some (.ref lP)) := dP
      refine code_some (frs := [(L, oL)]) (code := Str.ofString "BN") (Around.frames_deeper rfl) rfl (show ScopeKind.function ≠ ScopeKind.module by decide) ⟨hk₀, hf₀, hoL.1, trivial⟩ hoffm rfl (by (exact Nat.le_of_ble_eq_true rfl)) (by (exact Nat.le_of_ble_eq_true rfl)) FB T X ND (oc := .type "function") (List.mem_append_left _ (hol ▸ mf)) ?_ ?_
      · intro A2 env2 L2 oL2 s2 m2 Q2 E2 hA2 hf2 hk2 fi2 hh2 hd2 hu2 F2 N2 hoff2 Fs2 cont
        refine lam_raise (code := Str.ofString "BN") hA2 hf2 hk2 Fs2 hoff2 hh2 hd2 hu2 F2 T N2 mf hol mc hd hv rfl rfl rfl rfl (by decide) ?_ cont
        intro A4 env4 L4 oL4 h4 tk4 Q4 E4 hA4 hf4 hk4 hh4 hd4 hu4 henv fi4 F4 N4 hoff4 Fs4 hl4 cont4
        subst henv
        have mk3' := List.mem_append_left ((L2, oL4) :: (L', oL2) :: [(L, oL)]) mk3
        have mk2' := List.mem_append_left ((L2, oL4) :: (L', oL2) :: [(L, oL)]) mk2
        have mk1' := List.mem_append_left ((L2, oL4) :: (L', oL2) :: [(L, oL)]) mk1
        k_steps
        refine setf_bn hA4 hf4 hk4 Fs4 hoff4 hh4 (Nat.le_trans hd4 (by (exact Nat.le_of_ble_eq_true rfl))) (Nat.le_trans hu4 (by (exact Nat.le_of_ble_eq_true rfl))) F4 T X N4 (W2.sub fun p hp => List.mem_append_left _ (mS p hp)) (List.mem_append_left _ (mS _ m3')) d3 lo3 v3 ?_
        intro h5 tk5 e5 dx5 frs5 SU5 Fs5 F5 N5 l5 l6 Fl5
        exact cont4 h5 _ e5 dx5 frs5 SU5 Fs5 F5 N5 l5 l6 Fl5
      · intro h5 tk5 t5 frs5 SU5 Fs5 F5 N5
        cases frs5 with
        | nil => exact False.elim SU5
        | cons q frs6 =>
        cases frs6 with
        | cons q' r' => exact False.elim SU5.2.2
        | nil =>
        obtain ⟨y1, ⟨sl, y2⟩, -⟩ := SU5
        obtain ⟨qa, qo⟩ := q
        try clear q
        dsimp only at y1 y2
        have y1 := y1.symm
        subst y1
        subst y2
        have mq : (L, { oL with slots := sl }) ∈ main ++ [(L, { oL with slots := sl })] := List.mem_append_right _ (.head _)
        k_steps
        have hsub : ∀ p ∈ stt, p ∈ (ext2 ++ ext) ++ stt := fun p hp => List.mem_append_right _ hp
        refine h _ _ turn' tt' ofl opl kvf kvp ps' (ext2 ++ ext) fl (back_fr F5 N5 mq (hoL.slots sl) hab) (back_news N5 fun p hp => ?_) ht1 ht2 d5 (f5.sub hsub) d6 (f6.sub hsub) (by rw [List.append_assoc, ← hst2]; exact hTab2) (fun p hp q hq => ?_) (.inl rfl)
        · have hpm : p ∈ main := by
            rw [hmain, hR0, hst]
            revert p hp
            k_offL
          exact ⟨List.mem_append_left _ hpm, hoffm p hpm _ (List.mem_singleton.mpr rfl)⟩
        · refine Nat.lt_trans (l9 q hq) ?_
          rcases List.mem_append.mp hp with hp | hp
          · exact Nat.lt_trans l3 (x1 p hp (lP, listOf vsP.toArray nP) (.tail _ (List.mem_append_left _ (by rw [hR0]; exact .head _))))
          · exact e3 p hp
    · obtain ⟨am, om, kvm, nm, bl, r9, vb, v3, m4, d4, M, vb1⟩ := ho
      try clear ho
      have vb' : (valueAt kvb c).isSome = true := by rw [vb1]; rfl
      have m4' := wsub _ m4
      (repeat ((fail_if_success (with_reducible show wpAny _ _ (eval (Expr.ListComp _ _ _ _) _) _ _ _)); first | (k_unfold; (try dsimp only)) | walk1 | (dsimp only; walk1) | (leave1; try dsimp only)))
      refine comp_firsts (led := (lP, listOf vsP.toArray nP) :: (L'+1+1+1, oc3') :: (L'+1+1, oc2) :: (L'+1, oc1) :: (L, oL) :: (feed, listOf #[.ref cells, .int turn' tt'] nF) :: (cells, listOf vs.toArray nC) :: (afl, ofl) :: (pl, opl) :: (162, tabObj ps) :: st) (by k_asm) (by k_asm) (.head _) (Nat.le_trans hvl2 (by (exact Nat.le_of_ble_eq_true rfl))) (a2'.sub (fun p hp => .tail _ (.tail _ (.tail _ (.tail _ (.tail _ (.tail _ (.tail _ (.tail _ (.tail _ (.tail _ hp))))))))))) (by rfl) (by rfl) (by decide) (by rfl) (by decide) (by rfl) (by rfl) (by decide) (by decide) ?_
      walk1
      refine ⟨rfl, by k_asm, by k_asm, ?_⟩
      intro D8 h8 tk8 ys F8 N8 o8 i8
      by_cases hsum : (psP.map (·.1)).sum ≤ size
      · (repeat ((fail_if_success (with_reducible show wpAny _ _ (exec (Stmt.For _ _ _ _ _) _) _ _ _)); first | (k_unfold; (try dsimp only)) | walk1 | (dsimp only; walk1) | (leave1; try dsimp only)))
        with_reducible rename Fr _ _ _ _ => F7
        refine' For_turns F7 ?_
        (repeat ((fail_if_success (with_reducible show wpAny _ _ (pyIter _) _ _ _)); first | (k_unfold; (try dsimp only)) | walk1 | (dsimp only; walk1) | (leave1; try dsimp only)))
        with_reducible rename News _ _ _ _ => N7
        with_reducible rename Fr _ _ _ _ => F7
        refine ex1_1 (⟨_, rfl⟩ : ∃ b, b = (lP, listOf vsP.toArray nP) :: (L'+1+1+1, oc3') :: (L'+1+1, oc2) :: (L'+1, oc1) :: (L, oL) :: (feed, listOf #[.ref cells, .int turn' tt'] nF) :: (cells, listOf vs.toArray nC) :: (afl, ofl) :: (162, tabObj ps) :: st) ?_; intro base hbase
        have NB := news_sub N7 (nl' := (pl, opl) :: base) (by rw [hbase]; ((repeat (first | exact List.forall_mem_nil _ | refine List.forall_mem_cons.mpr ⟨by k_mem, ?_⟩ | (intro p' hp'; k_mem)))))
        have bS : ∀ p ∈ st, p ∈ base := by rw [hbase]; exact fun p hp => .tail _ (.tail _ (.tail _ (.tail _ (.tail _ (.tail _ (.tail _ (.tail _ (.tail _ hp))))))))
        have bP : (lP, listOf vsP.toArray nP) ∈ base := by rw [hbase]; exact .head _
        have bK : (L'+1+1, oc2) ∈ base := by rw [hbase]; exact .tail _ (.tail _ (.head _))
        have bL : ∀ p ∈ base, p.1 ≠ pl := by rw [hbase]; k_all
        have bT := bS _ mt'
        clear N7
        refine iter_listTurns (vs := vsP) (by rfl) F7 NB (lo := listOf vsP.toArray nP) (.tail _ bP) rfl rfl (fun I2 hI2 => ?_)
        have pI2 : @LT.lt Nat _ pl I2 := hI2 _ (.head _)
        have bI2 : ∀ p ∈ base, @LT.lt Nat _ p.1 I2 := fun p hp => hI2 p (.tail _ hp)
        refine items_ind (α := Int × Str) (J := fun as us m' news => ∃ at' t' kvp' fl' opl' ext', (∃ v2 v3 : Option Value, m' = fun y => if y = Str.ofString "many" then v2 else if y = Str.ofString "name" then v3 else if y = Str.ofString "spot" then some (.int at' t') else if y = Str.ofString "due" then some .none else if y = Str.ofString "turn" then v1 else if y = Str.ofString "twin" then some (.ref tw) else if y = Str.ofString "feed" then some (.ref feed) else none) ∧
            news = (pl, opl') :: (ext' ++ base) ∧ opl'.IsDictOf (PySem.strKind PySem.Challenge.rw_pq0169_01.row.prog w) kvp' ∧ PlacesAt (ext' ++ st2) kvp' fl' ∧ PartsIn st us as ∧ fput c at' fl' as = fput c 0 fl psP ∧ (∀ x ∈ as, PartOk x) ∧ fl'.length + as.length ≤ 8 ∧ 0 ≤ at' ∧ at' + 3 * (as.length : Int) ≤ 9 ∧ ∀ p ∈ ext', @LT.lt Nat _ I2 p.1)
            ?hlen ?hsrc ?step2 ?done2 vsP psP _ _ ?init2
        case hlen => rintro as us m' news ⟨_, _, _, _, _, _, _, _, _, _, P', _⟩; exact P'.length.symm
        case hsrc =>
          intro as us m' news N_8
          refine ex6_3 N_8 ?_; intro _ _ _ _ _ _ _ E_9 _
          try clear N_8
          subst E_9
          exact .tail _ (List.mem_append_right _ bP)
        case init2 =>
          exact in6_11 0 _ kvp fl opl ([]) ⟨none, none, m_none2 rfl rfl⟩ rfl d6 (f6.sub wsub2) a2' rfl a3 (Nat.add_le_add z5 hn3) (Int.le_refl 0) (three9 hn3) (by simp)
        case done2 =>
          intro m' news h9 tk9 N_10 F6 N6
          refine ex6_11 N_10 ?_; intro at' t' kvp' fl' opl' ext' N_11 E_12 a6 a7 a8 a9 a10 a11 a12 a13 a14
          try clear N_10
          refine ex2_1 N_11 ?_; intro vv2 vv3 E_13
          try clear N_11
          subst E_13
          subst E_12
          change Fr G L' _ _ at F6
          change News G L' _ _ at N6
          have a9' : fl' = fput c 0 fl psP := a9
          subst hbase
          have lPI : @LT.lt Nat _ lP I2 := bI2 (lP, listOf vsP.toArray nP) (.head _)
          have e4 : ∀ p ∈ ext', @LT.lt Nat _ L' p.1 := fun p hp => Nat.lt_trans (Nat.lt_trans l3 lPI) (a14 p hp)
          refine ex1_1 (⟨_, rfl⟩ : ∃ b, b = (lP, listOf vsP.toArray nP) :: (L'+1+1+1, oc3') :: (L'+1+1, oc2) :: (L'+1, oc1) :: (feed, listOf #[.ref cells, .int turn' tt'] nF) :: (cells, listOf vs.toArray nC) :: (pl, opl') :: (ext' ++ st)) ?_; intro X0 hX0
          have NB := news_sub N6 (nl' := (162, tabObj ps) :: (afl, ofl) :: (X0 ++ [(L, oL)])) (by
            rw [hX0]
            k_offL)
          have stX : ∀ p ∈ st, p ∈ X0 := by rw [hX0]; exact fun p hp => .tail _ (.tail _ (.tail _ (.tail _ (.tail _ (.tail _ (.tail _ (List.mem_append_right _ hp)))))))
          have e162 : ∀ p ∈ ext' ++ st, p.1 ≠ 162 := fun p hp => (List.mem_append.mp hp).elim (fun hp => Nat.ne_of_gt (Nat.lt_trans lt (e4 p hp))) (s4 p)
          have eafl : ∀ p ∈ ext' ++ st, p.1 ≠ afl := fun p hp => (List.mem_append.mp hp).elim (fun hp => Nat.ne_of_gt (Nat.lt_trans lf (e4 p hp))) (s2 p)
          have eL : ∀ p ∈ ext' ++ st, p.1 ≠ L := fun p hp => (List.mem_append.mp hp).elim (fun hp => Nat.ne_of_gt (Nat.lt_trans lL (e4 p hp))) (s5 p)
          have x162 : ∀ p ∈ X0, p.1 ≠ 162 := by rw [hX0]; k_all
          have xafl : ∀ p ∈ X0, p.1 ≠ afl := by rw [hX0]; k_all
          have xL : ∀ p ∈ X0, p.1 ≠ L := by rw [hX0]; k_all
          (repeat ((fail_if_success (with_reducible show wpAny _ _ (eval (Expr.Lambda _ _ _ _) _) _ _ _)); first | (k_unfold; (try dsimp only)) | walk1 | (dsimp only; walk1) | (leave1; try dsimp only)))
          with_reducible rename Fr _ _ _ _ => FA
          refine lam_make FA NB (by
            intro p hp
            refine mcons hp ?_ fun hp => ?_
            · exact n9
            · exact (List.mem_append.mp hp).elim (x162 p) fun hp => by rw [List.mem_singleton.mp hp]; exact Ne.symm hL5) T C rfl (hTab.sub wsub2) (fun p hp => .tail _ (List.mem_append_left _ (stX p (s2s p hp)))) rfl rfl rfl ?_
          intro f olam c' oc vs' t' ctv ps' ext2 h' tk' hol FB NC hcm hd hv hTab2 x1 x2 x3
          clear N6 NB
          k_steps
          refine ex1_1 (⟨_, rfl⟩ : ∃ b, b = (f, olam) :: (162, tabObj ps') :: (ext2 ++ (X0 ++ [(L, oL)]))) ?_; intro Xl hXl
          have ND := news_sub NC (nl' := (afl, ofl) :: Xl) (by
            rw [hXl]
            k_offL)
          have mX : ∀ p ∈ X0, p ∈ Xl := by rw [hXl]; exact fun p hp => .tail _ (.tail _ (List.mem_append_right _ (List.mem_append_left _ hp)))
          have mS := fun p hp => mX p (stX p hp)
          have mf : (f, olam) ∈ Xl := by rw [hXl]; exact .head _
          have mc : (c', oc) ∈ Xl := by
            rcases List.mem_append.mp hcm with h | h
            · rw [hXl]; exact .tail _ (.tail _ (List.mem_append_left _ h))
            · exact mS _ (s2s _ h)
          have mp1 : (lP, listOf vsP.toArray nP) ∈ Xl := mX _ (by rw [hX0]; exact .head _)
          have mk3 : (L'+1+1+1, oc3') ∈ Xl := mX _ (by rw [hX0]; exact .tail _ (.head _))
          have mk2 : (L'+1+1, oc2) ∈ Xl := mX _ (by rw [hX0]; exact .tail _ (.tail _ (.head _)))
          have mk1 : (L'+1, oc1) ∈ Xl := mX _ (by rw [hX0]; exact .tail _ (.tail _ (.tail _ (.head _))))
          have mL : (L, oL) ∈ Xl := by rw [hXl]; exact .tail _ (.tail _ (List.mem_append_right _ (List.mem_append_right _ (.head _))))
          have d3' : oc3'.data = .cell (some (.ref lP)) := dP
          have offX : ∀ p ∈ Xl, p.1 ≠ afl := by
            rw [hXl]
            intro p hp
            refine mcons hp ?_ fun hp => ?_
            · exact Nat.ne_of_gt (x3 (afl, ofl) (.tail _ (.head _)))
            refine mcons hp ?_ fun hp => ?_
            · exact Ne.symm n9
            rcases List.mem_append.mp hp with hp | hp
            · exact Nat.ne_of_gt (x1 p hp (afl, ofl) (.tail _ (.head _)))
            · exact (List.mem_append.mp hp).elim (xafl p) fun hp => by rw [List.mem_singleton.mp hp]; exact Ne.symm hL3
          clear NC
          refine code_none (led := (afl, ofl) :: Xl) (P := fun led' => ∃ ofl' kvf' ext3, led' = (afl, ofl') :: (ext3 ++ Xl) ∧ ofl'.IsDictOf (PySem.strKind PySem.Challenge.rw_pq0169_01.row.prog w) kvf' ∧ FieldsAt (ext3 ++ st2) kvf' (fput c 0 fl psP) ∧ ∀ p ∈ ext3, ∀ q ∈ (afl, ofl) :: Xl, @LT.lt Nat _ q.1 p.1) rfl (by (exact Nat.le_of_ble_eq_true rfl)) (by (exact Nat.le_of_ble_eq_true rfl)) FB T X ND (oc := .type "function") (.tail _ (hol ▸ mf)) ?_ ?_
          · intro A2 L2 oL2 s2 m2 Q2 E2 fi2 hh2 hd2 hu2 F2 N2 hoff2 cont
            refine lam_ok (P := fun led' => ∃ ofl' kvf' ext3, led' = (L', oL2) :: (afl, ofl') :: (ext3 ++ Xl) ∧ ofl'.IsDictOf (PySem.strKind PySem.Challenge.rw_pq0169_01.row.prog w) kvf' ∧ FieldsAt (ext3 ++ st2) kvf' (fput c 0 fl psP) ∧ ∀ p ∈ ext3, ∀ q ∈ (L', oL2) :: (afl, ofl) :: Xl, @LT.lt Nat _ q.1 p.1) hh2 hd2 hu2 F2 T N2 (.tail _ (.tail _ mf)) hol (.tail _ (.tail _ mc)) hd hv rfl rfl rfl rfl (by decide) ?_ ?_
            · intro L4 oL4 h4 tk4 Q4 E4 fi4 F4 N4 l4 l4' cont4
              have mk3' : (L'+1+1+1, oc3') ∈ (L2, oL4) :: (L', oL2) :: (afl, ofl) :: Xl := .tail _ (.tail _ (.tail _ mk3))
              have mk2' : (L'+1+1, oc2) ∈ (L2, oL4) :: (L', oL2) :: (afl, ofl) :: Xl := .tail _ (.tail _ (.tail _ mk2))
              have mk1' : (L'+1, oc1) ∈ (L2, oL4) :: (L', oL2) :: (afl, ofl) :: Xl := .tail _ (.tail _ (.tail _ mk1))
              have hL2 : @Ne Nat L2 afl := Ne.symm (N2 _ (.tail _ (.head _))).2.1
              have hL2' : @Ne Nat L' afl := Ne.symm (hoff2 _ (.head _))
              k_steps
              refine setf_ok rfl (by (exact Nat.le_of_ble_eq_true rfl)) (by (exact Nat.le_of_ble_eq_true rfl)) F4 T X (news_sub N4 (nl' := (afl, ofl) :: (L2, oL4) :: (L', oL2) :: Xl) (by ((repeat (first | exact List.forall_mem_nil _ | refine List.forall_mem_cons.mpr ⟨by k_mem, ?_⟩ | (intro p' hp'; k_mem)))))) (by k_all) (W2.sub fun p hp => .tail _ (.tail _ (mS p hp))) (.tail _ (.tail _ (mS _ m3'))) d3 lo3 v3 (.tail _ (.tail _ (mS _ m4'))) d4 M d5 (f5.sub wsub2) (by omega) (.tail _ (.tail _ mp1)) (a2'.sub fun p hp => .tail _ (.tail _ (mS p hp))) (fun x hx => (a3 x hx).1) hsum (by omega) ?_
              intro h5 tk5 ofl' kvf' ext3 F5 N5 hd5 hf5 hx5
              refine cont4 h5 _ ((L', oL2) :: (afl, ofl') :: (ext3 ++ Xl)) _ F5 (news_sub N5 ?_) ?_ ⟨ofl', kvf', ext3, rfl, hd5, hf5, ?_⟩
              · k_offL
              · intro p hp
                refine mcons hp ?_ fun hp => ?_
                · exact (N2 _ (.head _)).2.1
                refine mcons hp ?_ fun hp => ?_
                · exact Ne.symm hL2
                rcases List.mem_append.mp hp with hp | hp
                · exact Nat.ne_of_gt (hx5 p hp (L2, oL4) (.tail _ (.head _)))
                · exact (N2 p (.tail _ (.tail _ hp))).2.1
              · intro p hp q hq
                refine mcons hq ?_ fun hq => ?_
                · exact hx5 p hp (L', oL2) (.tail _ (.tail _ (.head _)))
                refine mcons hq ?_ fun hq => ?_
                · exact hx5 p hp (afl, ofl) (.head _)
                · exact hx5 p hp q (.tail _ (.tail _ (.tail _ hq)))
            · intro h5 tk5 led' v5 F5 N5 N_14
              refine ex3_4 N_14 ?_; intro ofl' kvf' ext3 E_15 hd5 hf5 hx5
              try clear N_14
              subst E_15
              refine cont h5 tk5 ((afl, ofl') :: (ext3 ++ Xl)) v5 F5 N5 ?_ ⟨ofl', kvf', ext3, rfl, hd5, hf5, fun p hp q hq => hx5 p hp q (.tail _ hq)⟩
              intro p hp
              refine mcons hp ?_ fun hp => ?_
              · exact hoff2 (afl, ofl) (.head _)
              rcases List.mem_append.mp hp with hp | hp
              · exact Nat.ne_of_gt (hx5 p hp (L', oL2) (.head _))
              · exact hoff2 p (.tail _ hp)
          · intro h5 tk5 led' F5 N5 N_16
            refine ex3_4 N_16 ?_; intro ofl' kvf' ext3 E_17 hd5 hf5 hx5
            try clear N_16
            subst E_17
            k_steps
            have hsub : ∀ p ∈ ext' ++ st2, p ∈ (ext3 ++ (ext2 ++ (ext' ++ ext))) ++ stt := by
              rw [hst2]
              k_offL
            refine h _ _ turn' tt' ofl' opl' kvf' kvp' ps' (ext3 ++ (ext2 ++ (ext' ++ ext))) fl' (back_fr F5 N5 (.tail _ (List.mem_append_right _ mL)) hoL hab) (back_news N5 fun p hp => ?_) ht1 ht2 hd5 (a9' ▸ FieldsAt.sub ?_ hf5) a6 (a7.sub hsub) (hTab2.sub ?_) (fun p hp q hq => ?_) (.inr ⟨by rw [v3]; simp, psP, a9', a3, hsum⟩)
            · simp only [List.mem_cons, List.mem_append] at hp
              rcases hp with h | h | h | h | h | (h | h | h | h) | h
              · subst h; exact ⟨.tail _ (List.mem_append_right _ (mX _ (by rw [hX0]; k_clsL))), hL1⟩
              · subst h; exact ⟨.tail _ (List.mem_append_right _ (mX _ (by rw [hX0]; k_clsL))), hL2⟩
              · subst h; exact ⟨.head _, hL3⟩
              · subst h; exact ⟨.tail _ (List.mem_append_right _ (mX _ (by rw [hX0]; k_clsL))), hL4⟩
              · subst h; exact ⟨.tail _ (List.mem_append_right _ (by rw [hXl]; k_clsL)), hL5⟩
              · exact ⟨.tail _ (List.mem_append_left _ h), Nat.ne_of_gt (hx5 p h (L, oL) (.tail _ mL))⟩
              · exact ⟨.tail _ (List.mem_append_right _ (by rw [hXl]; k_clsL)), Nat.ne_of_gt (x1 p h (L, oL) (.tail _ (.tail _ (List.mem_append_right _ (.head _)))))⟩
              · have hx : p ∈ X0 := by rw [hX0]; k_clsL
                exact ⟨.tail _ (List.mem_append_right _ (mX _ hx)), xL p hx⟩
              · have hx : p ∈ X0 := by rw [hX0, hst]; k_clsL
                exact ⟨.tail _ (List.mem_append_right _ (mX _ hx)), xL p hx⟩
              · have hx : p ∈ X0 := by rw [hX0, hst]; k_clsL
                exact ⟨.tail _ (List.mem_append_right _ (mX _ hx)), xL p hx⟩
            · rw [hst2]
              k_offL
            · rw [hst2]
              k_offL
            · refine Nat.lt_trans (l9 q hq) ?_
              simp only [List.mem_append] at hp
              rcases hp with h | h | h | h
              · exact Nat.lt_trans l3 (hx5 p h _ (.tail _ mp1))
              · exact Nat.lt_trans l3 (x1 p h (lP, listOf vsP.toArray nP) (.tail _ (.tail _ (List.mem_append_left _ (by rw [hX0]; exact .head _)))))
              · exact e4 p h
              · exact e3 p h
        case step2 =>
          intro a as v us m' news h9 tk9 oI N_18 F6 N6
          refine ex6_11 N_18 ?_; intro at' t' kvp' fl' opl' ext' N_19 E_20 a6 a7 a8 a9 a10 a11 a12 a13 a14
          try clear N_18
          refine ex2_1 N_19 ?_; intro vv2 vv3 E_21
          try clear N_19
          subst E_21
          subst E_20
          change Fr G L' _ _ at F6
          change News G L' _ _ at N6
          revert a8
          intro O_22
          refine ex0_2 O_22 ?_; intro N_23 a8
          try clear O_22
          refine ex4_2 N_23 ?_; intro T9 k9 t9 u9 E_24 hm9
          try clear N_23
          subst E_24
          refine ex0_3 (a10 _ (.head _)) ?_; intro am0 am1 am2
          refine ex1_1 (⟨_, rfl⟩ : ∃ b, b = ext' ++ base) ?_; intro tl htl
          have tb : ∀ p ∈ base, p ∈ tl := by rw [htl]; exact fun p hp => List.mem_append_right _ hp
          have tP : ∀ p ∈ tl, p.1 ≠ pl := by rw [htl]; exact fun p hp => (List.mem_append.mp hp).elim (fun hp => Nat.ne_of_gt (Nat.lt_trans pI2 (a14 p hp))) (bL p)
          have tI : ∀ p ∈ tl, p.1 ≠ I2 := by rw [htl]; exact fun p hp => (List.mem_append.mp hp).elim (fun hp => Nat.ne_of_gt (a14 p hp)) (fun hp => Nat.ne_of_lt (bI2 p hp))
          rw [← htl] at N6
          have bT9 := tb _ bT
          have bK9 := tb _ bK
          have hm9' := tb _ (bS _ hm9)
          have z6 : kvp'.length ≤ 8 := by rw [a7.length]; exact Nat.le_trans (Nat.le_add_right _ _) a11
          simp only [List.length_cons] at a13
          (repeat ((fail_if_success (with_reducible show wpAny _ _ (execs (_ :: _) _) _ _ _)); first | (k_unfold; (try dsimp only)) | walk1 | (dsimp only; walk1) | (leave1; try dsimp only)))
          refine wp_hide ?_
          intro Q_ hQ_
          (repeat ((fail_if_success (with_reducible show wpAny _ _ (call (Value.type "range") _) _ _ _)); first | (k_unfold; (try dsimp only)) | walk1 | (dsimp only; walk1) | (leave1; try dsimp only)))
          refine ex0_2 (range_facts (a := at') (b := at' + a.1) a12 (le_addr am0) (s1000 a13 am1)) ?_; intro hS2 hZ2
          have hz3 : (at' + a.1 - at').toNat ≤ 3 := sub3_n am1
          with_reducible rename News _ _ _ _ => N7
          with_reducible rename Fr _ _ _ _ => F7
          refine range2_rows F7 N7 ?_
          intro h3 tk3 t3 u3 v3' hR2 F3 N3 hk3
          k_steps
          rename_i D1 us1 c1 hh1 tkk1 hI1 lD1 D2 hh2 lD2 hh3 o2 hd2 hh4 Fx Nx
          have ld1 : ∀ p ∈ tl, @LT.lt Nat _ p.1 D1 := fun p hp => PySem.W.tb_ltOf lD1.2.2 p hp
          refine hQ_ _ _ ?_
          refine in4_5 hh4 _ _ ((pl, o2) :: (D2, tupOf #[.int c tc, .ref D1]) :: (D1, listOf us1.toArray c1) :: tl) rfl Fx (news_sub Nx (by ((repeat (first | exact List.forall_mem_nil _ | refine List.forall_mem_cons.mpr ⟨by k_mem, ?_⟩ | (intro p' hp'; k_mem)))))) ?_ ?_
          · intro p hp
            refine mcons hp ?_ fun hp => ?_
            · exact Nat.ne_of_lt pI2
            refine mcons hp ?_ fun hp => ?_
            · exact Nat.ne_of_gt lD2.2.1
            refine mcons hp ?_ fun hp => ?_
            · exact Nat.ne_of_gt lD1.1
            · exact tI p hp
          · refine in6_11 (at' + a.1) tk (stored kvp' a.2 (.ref D2)) (putN fl' a.2 (c, at', a.1)) o2 ((D2, tupOf #[.int c tc, .ref D1]) :: (D1, listOf us1.toArray c1) :: ext') ⟨some (.int a.1 t9), some (.str a.2 u9), ?_⟩ (by rw [htl]; rfl) hd2 ?_ a8 a9 ((fun x hx => a10 x (.tail _ hx))) ?_ (ge_add a12 am0) (s9 a13 am1) ?_
            · funext y
              by_cases e1 : y = Str.ofString "many"
              · subst e1; rfl
              by_cases e2 : y = Str.ofString "name"
              · subst e2; rfl
              by_cases e3 : y = Str.ofString "spot"
              · subst e3; rfl
              simp only [if_neg e1, if_neg e2, if_neg e3]
            · refine Rel.put ⟨D2, 0, tc, D1, c1, us1, rfl, .head _, .tail _ (.head _), ?_⟩ (PlacesAt.sub (fun p hp => .tail _ (.tail _ hp)) a7)
              have e : at' + a.1 - at' = a.1 := add_sub_l
              rw [e] at hI1
              exact hI1
            · have := putN_len fl' a.2 (c, at', a.1)
              exact put8 this a11
            · intro p hp
              refine mcons hp ?_ fun hp => ?_
              · exact lD2.2.1
              refine mcons hp ?_ fun hp => ?_
              · exact lD1.1
              · exact a14 p hp
      · have hsum : size < (psP.map (·.1)).sum := Int.lt_of_not_ge hsum
        (repeat ((fail_if_success (with_reducible show wpAny _ _ (exec (Stmt.For _ _ _ _ _) _) _ _ _)); first | (k_unfold; (try dsimp only)) | walk1 | (dsimp only; walk1) | (leave1; try dsimp only)))
        with_reducible rename Fr _ _ _ _ => F7
        refine' For_turns F7 ?_
        (repeat ((fail_if_success (with_reducible show wpAny _ _ (pyIter _) _ _ _)); first | (k_unfold; (try dsimp only)) | walk1 | (dsimp only; walk1) | (leave1; try dsimp only)))
        with_reducible rename News _ _ _ _ => N8
        with_reducible rename Fr _ _ _ _ => F8
        refine iter_listTurns (vs := []) (by rfl) F8 N8 (.head _) rfl rfl (fun I2 hI2 => ItemsRest.zero ?_)
        clear N8 F8
        intro h9 tk9 FA NA
        (repeat ((fail_if_success (with_reducible show wpAny _ _ (eval (Expr.Lambda _ _ _ _) _) _ _ _)); first | (k_unfold; (try dsimp only)) | walk1 | (dsimp only; walk1) | (leave1; try dsimp only)))
        with_reducible rename Fr _ _ _ _ => FA
        refine ex1_1 (⟨_, rfl⟩ : ∃ b, b = (lP, listOf vsP.toArray nP) :: (L'+1+1+1, oc3') :: (L'+1+1, oc2) :: (L'+1, oc1) :: (feed, listOf #[.ref cells, .int turn' tt'] nF) :: (cells, listOf vs.toArray nC) :: (afl, ofl) :: (pl, opl) :: st) ?_; intro R0 hR0
        have NB := news_sub NA (nl' := (162, tabObj ps) :: (R0 ++ [(L, oL)])) (by
          rw [hR0]
          k_offL)
        have stR : ∀ p ∈ st, p ∈ R0 := by rw [hR0]; exact fun p hp => .tail _ (.tail _ (.tail _ (.tail _ (.tail _ (.tail _ (.tail _ (.tail _ hp)))))))
        refine lam_make FA NB (by
          have : ∀ p ∈ R0, p.1 ≠ 162 := by rw [hR0]; k_all
          exact fun p hp => (List.mem_append.mp hp).elim (this p) fun hp => by rw [List.mem_singleton.mp hp]; exact Ne.symm hL5) T C rfl (hTab.sub wsub2) (fun p hp => List.mem_append_left _ (stR p (s2s p hp))) rfl rfl rfl ?_
        intro f olam c' oc vs' t' ctv ps' ext2 h' tk' hol FB NC hcm hd hv hTab2 x1 x2 x3
        clear NA NB
        k_steps
        refine ex1_1 (⟨_, rfl⟩ : ∃ b, b = (f, olam) :: (162, tabObj ps') :: (ext2 ++ R0)) ?_; intro main hmain
        have ND := news_sub NC (nl' := main ++ [(L, oL)]) (by
          rw [hmain]
          k_offL)
        have mR : ∀ p ∈ R0, p ∈ main := by rw [hmain]; exact fun p hp => .tail _ (.tail _ (List.mem_append_right _ hp))
        have mS := fun p hp => mR p (stR p hp)
        have mf : (f, olam) ∈ main := by rw [hmain]; exact .head _
        have mc : (c', oc) ∈ main := by
          rw [hmain]
          rcases List.mem_append.mp hcm with h | h
          · exact .tail _ (.tail _ (List.mem_append_left _ h))
          · exact .tail _ (.tail _ (List.mem_append_right _ (stR _ (s2s _ h))))
        have mp1 : (lP, listOf vsP.toArray nP) ∈ main := mR _ (by rw [hR0]; exact .head _)
        have mk3 : (L'+1+1+1, oc3') ∈ main := mR _ (by rw [hR0]; exact .tail _ (.head _))
        have mk2 : (L'+1+1, oc2) ∈ main := mR _ (by rw [hR0]; exact .tail _ (.tail _ (.head _)))
        have mk1 : (L'+1, oc1) ∈ main := mR _ (by rw [hR0]; exact .tail _ (.tail _ (.tail _ (.head _))))
        have hoffm : ∀ p ∈ main, ∀ q ∈ [(L, oL)], p.1 ≠ q.1 := by
          intro p hp q hq
          rw [List.mem_singleton.mp hq]
          rw [hmain] at hp
          refine mcons hp ?_ fun hp => ?_
          · exact Nat.ne_of_gt (x3 (L, oL) (.tail _ (List.mem_append_right _ (.head _))))
          refine mcons hp ?_ fun hp => ?_
          · exact hL5
          rcases List.mem_append.mp hp with hp | hp
          · exact Nat.ne_of_gt (x1 p hp (L, oL) (.tail _ (List.mem_append_right _ (.head _))))
          · rw [hR0] at hp
            have : ∀ p ∈ R0, p.1 ≠ L := by rw [hR0]; k_all
            exact this p (by rw [hR0]; exact hp)
        have d3' : oc3'.data = .cell (some (.ref lP)) := dP
        refine code_some (frs := [(L, oL)]) (code := Str.ofString "FO") (Around.frames_deeper rfl) rfl (show ScopeKind.function ≠ ScopeKind.module by decide) ⟨hk₀, hf₀, hoL.1, trivial⟩ hoffm rfl (by (exact Nat.le_of_ble_eq_true rfl)) (by (exact Nat.le_of_ble_eq_true rfl)) FB T X ND (oc := .type "function") (List.mem_append_left _ (hol ▸ mf)) ?_ ?_
        · intro A2 env2 L2 oL2 s2 m2 Q2 E2 hA2 hf2 hk2 fi2 hh2 hd2 hu2 F2 N2 hoff2 Fs2 cont
          refine lam_raise (code := Str.ofString "FO") hA2 hf2 hk2 Fs2 hoff2 hh2 hd2 hu2 F2 T N2 mf hol mc hd hv rfl rfl rfl rfl (by decide) ?_ cont
          intro A4 env4 L4 oL4 h4 tk4 Q4 E4 hA4 hf4 hk4 hh4 hd4 hu4 henv fi4 F4 N4 hoff4 Fs4 hl4 cont4
          subst henv
          have mk3' := List.mem_append_left ((L2, oL4) :: (L', oL2) :: [(L, oL)]) mk3
          have mk2' := List.mem_append_left ((L2, oL4) :: (L', oL2) :: [(L, oL)]) mk2
          have mk1' := List.mem_append_left ((L2, oL4) :: (L', oL2) :: [(L, oL)]) mk1
          k_steps
          refine setf_fo hA4 hf4 hk4 Fs4 hoff4 hh4 (Nat.le_trans hd4 (by (exact Nat.le_of_ble_eq_true rfl))) (Nat.le_trans hu4 (by (exact Nat.le_of_ble_eq_true rfl))) F4 T X N4 (W2.sub fun p hp => List.mem_append_left _ (mS p hp)) (List.mem_append_left _ (mS _ m3')) d3 lo3 v3 (List.mem_append_left _ (mS _ (wsub _ m4))) d4 M (List.mem_append_left _ mp1) (a2'.sub fun p hp => List.mem_append_left _ (mS p hp)) (fun x hx => (a3 x hx).1) hsum (by omega) ?_
          intro h5 tk5 e5 dx5 frs5 SU5 Fs5 F5 N5 l5 l6 Fl5
          exact cont4 h5 _ e5 dx5 frs5 SU5 Fs5 F5 N5 l5 l6 Fl5
        · intro h5 tk5 t5 frs5 SU5 Fs5 F5 N5
          cases frs5 with
          | nil => exact False.elim SU5
          | cons q frs6 =>
          cases frs6 with
          | cons q' r' => exact False.elim SU5.2.2
          | nil =>
          obtain ⟨y1, ⟨sl, y2⟩, -⟩ := SU5
          obtain ⟨qa, qo⟩ := q
          try clear q
          dsimp only at y1 y2
          have y1 := y1.symm
          subst y1
          subst y2
          have mq : (L, { oL with slots := sl }) ∈ main ++ [(L, { oL with slots := sl })] := List.mem_append_right _ (.head _)
          k_steps
          have hsub : ∀ p ∈ stt, p ∈ (ext2 ++ ext) ++ stt := fun p hp => List.mem_append_right _ hp
          refine h _ _ turn' tt' ofl opl kvf kvp ps' (ext2 ++ ext) fl (back_fr F5 N5 mq (hoL.slots sl) hab) (back_news N5 fun p hp => ?_) ht1 ht2 d5 (f5.sub hsub) d6 (f6.sub hsub) (by rw [List.append_assoc, ← hst2]; exact hTab2) (fun p hp q hq => ?_) (.inl rfl)
          · have hpm : p ∈ main := by
              rw [hmain, hR0, hst]
              revert p hp
              k_offL
            exact ⟨List.mem_append_left _ hpm, hoffm p hpm _ (List.mem_singleton.mpr rfl)⟩
          · refine Nat.lt_trans (l9 q hq) ?_
            rcases List.mem_append.mp hp with hp | hp
            · exact Nat.lt_trans l3 (x1 p hp (lP, listOf vsP.toArray nP) (.tail _ (List.mem_append_left _ (by rw [hR0]; exact .head _))))
            · exact e3 p hp
  case step =>
    intro i m' news t9 h9 tk9 oI hi9 N_25 F6 N6
    refine ex6_7 N_25 ?_; intro turn' tt' vsP psP ext nP N_26 E_27 a1 a2 a3 a4 a5
    try clear N_25
    refine ex1_1 N_26 ?_; intro v1 E_28
    try clear N_26
    subst E_28
    subst E_27
    have hPlen := a2.length
    change Fr G L' _ _ at F6
    change News G L' _ _ at N6
    refine ex1_1 (⟨_, rfl⟩ : ∃ b, b = ext ++ base) ?_; intro tl htl
    rw [← htl] at N6
    have tF : ∀ p ∈ tl, p.1 ≠ feed := by
      rw [htl]; intro p hp
      exact (List.mem_append.mp hp).elim (fun hp => Nat.ne_of_gt (Nat.lt_trans fI (a5 p hp))) (bF p)
    have tP : ∀ p ∈ tl, p.1 ≠ lP := by
      rw [htl]; intro p hp
      exact (List.mem_append.mp hp).elim (fun hp => Nat.ne_of_gt (Nat.lt_trans pI (a5 p hp))) (fun hp => Nat.ne_of_lt (bP p hp))
    have c3m : (L'+1+1+1, oc3') ∈ tl := by rw [htl, hbase]; exact List.mem_append_right _ (.head _)
    have N6 := news_sub N6 (nl' := (feed, listOf #[.ref cells, .int turn' tt'] nF) :: (cells, listOf vs.toArray nC) :: (I, oI) :: (lP, listOf vsP.toArray nP) :: tl) (by ((repeat (first | exact List.forall_mem_nil _ | refine List.forall_mem_cons.mpr ⟨by k_mem, ?_⟩ | (intro p' hp'; k_mem)))))
    have hi3 : i ≤ 3 := Nat.le_trans (Nat.le_of_lt hi9) (tn3 hr0 hr1)
    have ht0 : 0 ≤ turn' := told_0 a4 h0
    refine ex0_2 (told_1 a4 hi3 h1) ?_; intro ht1 ht2
    have ht3 := ge_succ ht0
    have hv3 : vsP.length ≤ 3 := by rw [hPlen, a1]; exact hi3
    refine wp_hide ?_
    intro Q_ hQ_
    k_steps
    ((refine' next_any rfl ?a_136 ?b_136 ?F_136 ?T_136 ?X_136 ?N_136 ?nd1_136 ?nd2_136 (by assumption) (by assumption) ?h0_136 ?h1_136 (by first | decide | (simp only [List.size_toArray]; first | assumption | omega)) (by first | decide | (simp only [List.size_toArray]; first | assumption | omega)) ?_; (case a_136 => (exact Nat.le_of_ble_eq_true rfl)); (case b_136 => (exact Nat.le_of_ble_eq_true rfl)); (case F_136 => k_asm); (case T_136 => k_asm); (case X_136 => k_asm); (case N_136 => k_asm); (case nd1_136 => first | assumption | k_ne); (case nd2_136 => first | assumption | k_all); (case h0_136 => first | assumption | omega); (case h1_136 => first | assumption | omega)))
    intro h4 tk4 r4 t4 t4' hr40 hr41 F4 N4
    k_steps
    ((refine' next_any rfl ?a_137 ?b_137 ?F_137 ?T_137 ?X_137 ?N_137 ?nd1_137 ?nd2_137 (by assumption) (by assumption) ?h0_137 ?h1_137 (by first | decide | (simp only [List.size_toArray]; first | assumption | omega)) (by first | decide | (simp only [List.size_toArray]; first | assumption | omega)) ?_; (case a_137 => (exact Nat.le_of_ble_eq_true rfl)); (case b_137 => (exact Nat.le_of_ble_eq_true rfl)); (case F_137 => k_asm); (case T_137 => k_asm); (case X_137 => k_asm); (case N_137 => k_asm); (case nd1_137 => first | assumption | k_ne); (case nd2_137 => first | assumption | k_all); (case h0_137 => first | assumption | omega); (case h1_137 => first | assumption | omega)))
    intro h5 tk5 r5 t5 t5' hr50 hr51 F5 N5
    k_steps
    rename_i tN kN aN D9 hx Fx Nx l9 h10 F10 N10
    clear Fx Nx
    refine hQ_ _ _ ?_
    have hD9 : ∀ p ∈ tl, @LT.lt Nat _ p.1 D9 := fun p hp => PySem.W.tb_ltOf l9.2.2.2.2 p hp
    refine in4_5 h10 _ _ ((feed, listOf #[.ref cells, .int (turn' + 1 + 1) t5'] nF) :: (cells, listOf vs.toArray nC) :: (lP, listOf (vsP.toArray.push (Value.ref D9)) (nP + 1)) :: (D9, tupOf #[.int r4 t4, .str (Txt.item (Str.ofString "PQRST") r5 ++ Str.ofString "$") tN]) :: tl) rfl F10 (news_sub N10 (by ((repeat (first | exact List.forall_mem_nil _ | refine List.forall_mem_cons.mpr ⟨by k_mem, ?_⟩ | (intro p' hp'; k_mem)))))) ?_ ?_
    · intro p hp
      refine mcons hp ?_ fun hp => ?_
      · exact Nat.ne_of_lt fI
      refine mcons hp ?_ fun hp => ?_
      · exact Nat.ne_of_lt cI
      refine mcons hp ?_ fun hp => ?_
      · exact Nat.ne_of_lt pI
      refine mcons hp ?_ fun hp => ?_
      · exact Nat.ne_of_gt l9.2.2.1
      · rw [htl] at hp
        exact (List.mem_append.mp hp).elim (fun hp => Nat.ne_of_gt (a5 p hp)) (bI p)
    · refine in6_7 (turn' + 1 + 1) t5' (vsP ++ [.ref D9]) (psP ++ [(r4, nameN r5.toNat)]) ((D9, tupOf #[.int r4 t4, .str (Txt.item (Str.ofString "PQRST") r5 ++ Str.ofString "$") tN]) :: ext) (nP + 1) ⟨some (.int (0 + (i : Int)) t9), ?_⟩ ?_ (by simp [a1]) ?_ ?_ (told_next a4) ?_
      · funext y
        by_cases e1 : y = Str.ofString "turn"
        · simp only [if_pos e1]
        · simp only [if_neg e1]
      · rw [htl]; simp
      · rw [← pqrst r5 hr50 hr51]
        exact PartsIn.snoc (a2.sub fun p hp => .tail _ hp) (.head _)
      · intro x hx
        rcases List.mem_append.mp hx with hx | hx
        · exact a3 x hx
        · rw [List.mem_singleton.mp hx]
          exact ⟨hr40, Int.le_of_lt_add_one hr41, r5.toNat, tn_lt hr50 hr51 rfl, rfl⟩
      · intro p hp
        refine mcons hp ?_ fun hp => ?_
        · exact l9.2.2.1
        · exact a5 p hp
end E_lawtold
theorem lawtold {w : World} {G : Heap} {L : Addr} {m : Str → Option Value} {p : Program} {loose : List Str} {mean : ExcName → Option Value} {mg mb : Str → Option Value} {E : Value → Shared → Prop} {s : Shared} {A : Around} {env₀ : Env} {feed cells aw awd afi aop afl tw pl sz bu : Addr} {c turn size : Int} {tc tt ts : Tok} {vs : List Value} {ns : List Int} {nF nC : Nat} {ofl opl oo otw osz obu : Obj} {ps : Array Value} {kvf kvp kvt : List (Str × Value)} {kvo kvs kvb : List (Int × Value)} {fl : List (Str × Fld)} {rest stt : List (Addr × Obj)} {Q : Value → Shared → Prop} : P_lawtold w G L m p loose mean mg mb E s A env₀ feed cells aw awd afi aop afl tw pl sz bu c turn size tc tt ts vs ns nF nC ofl opl oo otw osz obu ps kvf kvp kvt kvo kvs kvb fl rest stt Q := eps_all (Ψ := U_lawtold) E_lawtold.go (w, G, L, m, p, loose, mean, mg, mb, E, s, A, env₀, feed, cells, aw, awd, afi, aop, afl, tw, pl, sz, bu, c, turn, size, tc, tt, ts, vs, ns, nF, nC, ofl, opl, oo, otw, osz, obu, ps, kvf, kvp, kvt, kvo, kvs, kvb, fl, rest, stt, Q)
section
variable {w : World} {G : Heap} {L : Addr} {m : Str → Option Value} {p : Program} {loose : List Str} {mean : ExcName → Option Value} {mg mb : Str → Option Value}
  {E : Value → Shared → Prop} {s : Shared} {A : Around}
end

section
variable {prog : Program} {w : World} {A : Around} {E : Value → Shared → Prop} {s : Shared} {G : Heap} {L D : Addr} {m : Str → Option Value} {rest news : List (Addr × Obj)} {vs : List Value} {n : Nat} {k : Int} {t : Tok} {v : Value}
/- xs[k] = v -/
theorem list_set {Q : Unit → Shared → Prop} (F : Fr G L s.heap m) (N : News G L s.heap ((D, listOf vs.toArray n) :: rest)) (off : ∀ p ∈ rest, p.1 ≠ D) (h0 : 0 ≤ k) (h1 : k < vs.length) (hfit : k < 2 ^ 63)
    (h : ∀ h', Fr G L h' m → News G L h' ((D, listOf (vs.set k.toNat v).toArray n) :: rest) → Q () { s with heap := h' }) :
    wpAny (model prog w) A (setItem (.ref D) (.int k t) v) Q E s := by
  have z := N (D, listOf vs.toArray n) (.head _)
  refine ki_setAt z.1 h0 hfit (by simpa using h1) (h _ (F.change (Heap.SameBut.update ..) z.2.1 z.2.2) ?_)
  refine ki_turn (pre := []) _ N (fun p hp => nomatch hp) off ?_ ?_
  · show vs.toArray.setIfInBounds k.toNat v = (vs.set k.toNat v).toArray
    apply Array.toList_inj.mp
    simp
  · simp
/- xs[k] -/
theorem list_at {value slice : PySem.Expr} {Q : Value → Shared → Prop} {x : Value} (N : News G L s.heap news) (hm : (D, listOf vs.toArray n) ∈ news) (h0 : 0 ≤ k) (hfit : k < 2 ^ 63) (hx : vs[k.toNat]? = some x) (h : Q x s)
    (hs : subscripted slice false (.ref D) (.int k t) = operate [.ref D, .int k t] (getItem (.ref D) (.int k t)) := by with_unfolding_all rfl) :
    wpAny (model prog w) A (subscriptTail value slice (.ref D) (.int k t)) Q E s := by
  have hl := PySem.IsL.isList (n := n) (N _ hm).1
  exact tail_any hl.typeIs slot_list_getitem.lookup (wpAny_getItem_list hl h0 hfit (by simpa using hx) h) hs
end
section
variable {prog : Program} {w : World} {A : Around} {E : Value → Shared → Prop} {s : Shared} {env : Env} {G : Heap} {elts : List PySem.Expr} {kk : Nat} {pos : Pos} {body : List Stmt} {Q : Flow → Shared → Prop}
/- where one turn over an enumerate ends -/
def LoopEnd2 (G : Heap) (L : Addr) (s : Shared) (I J' : Addr) (o1 o2 : Obj) (J : (Str → Option Value) → List (Addr × Obj) → Prop) (s₃ : Shared) : Prop :=
  ∃ h' tk' m' news', s₃ = { s with heap := h', toks := tk' } ∧ Fr G L h' m' ∧ News G L h' ((I, o1) :: (J', o2) :: news') ∧ (∀ p ∈ news', p.1 ≠ I ∧ p.1 ≠ J') ∧ J m' news'
/- a for over enumerate of a list, with a statement J -/
theorem enum_ind {src : Addr} {lo : Obj} {I : Addr} (J : Nat → List Value → (Str → Option Value) → List (Addr × Obj) → Prop)
    (hsrc : ∀ i vs m news, J i vs m news → (src, lo) ∈ news)
    (step : ∀ i v vs m news h tk T t o1 o2, J i (v :: vs) m news → IsTup h T #[.int (i : Int) t, v] → Fr G env.locals h m → News G env.locals h ((I + 1, o1) :: (I, o2) :: news) →
      wpAny (model prog w) A (assign (.Tuple elts kk pos) env (.ref T)) (fun _ s₂ => wpAny (model prog w) A (execs body env) (fun f s₃ => match f with
        | .ret v => Q (.ret v) s₃
        | .brk => Q .next s₃
        | _ => LoopEnd2 G env.locals { s with heap := h, toks := tk } (I + 1) I o1 o2 (J (i + 1) vs) s₃) E s₂) E { s with heap := h, toks := tk })
    (done : ∀ i m news h tk, J i [] m news → Fr G env.locals h m → News G env.locals h news → Q .next { s with heap := h, toks := tk }) :
    ∀ vs i m news, J i vs m news → ItemsRest prog w A E G env (.Tuple elts kk pos) body Q s [(I + 1, "enumerate"), (I, "list_iterator")] [(src, lo)] (enumItems i vs) m news := by
  intro vs
  induction vs with
  | nil =>
    intro i m news hJ
    exact ItemsRest.zero fun h tk F N => done i m news h tk hJ F N
  | cons v vs ih =>
    intro i m news hJ
    refine ItemsRest.pair fun T t h tk hT F => AllObj.cons fun o1 _ => AllObj.cons fun o2 _ => AllObj.nil fun N => ?_
    refine wpAny_mono (step i v vs m news h tk T t o1 o2 hJ hT F N) (fun _ s₂ h₂ => wpAny_mono h₂ (fun f s₃ h₃ => ?_) fun _ _ e => e) fun _ _ e => e
    have fin : LoopEnd2 G env.locals { s with heap := h, toks := tk } (I + 1) I o1 o2 (J (i + 1) vs) s₃ →
        UnrEndW G env.locals { s with heap := h, toks := tk } [(I + 1, o1), (I, o2)] (fun m' n' => SubL [(src, lo)] n' ∧ ItemsRest prog w A E G env (.Tuple elts kk pos) body Q s [(I + 1, "enumerate"), (I, "list_iterator")] [(src, lo)] (enumItems (i + 1) vs) m' n') s₃ := by
      intro N_1
      refine ex4_5 N_1 ?_; intro h' tk' m' news' E_2 F' N' off J'
      try clear N_1
      subst E_2
      refine in4_6 h' tk' m' news' rfl F' N' (fun p hp q hq => ?_) (And.intro (hsrc _ _ _ _ J') trivial) (ih (i + 1) m' news' J')
      refine mcons hq ?_ fun hq => ?_
      · exact (off p hp).1
      · rw [List.mem_singleton.mp hq]; exact (off p hp).2
    cases f with
    | ret v => exact h₃
    | brk => exact h₃
    | next => exact fin h₃
    | cont => exact fin h₃
end
/- signs, each a text of one -/
abbrev SignsAre (vs : List Value) (l : List Nat) : Prop := StrsAre vs (l.map fun c => TS [c])
/- the sign that comes to the j-th place -/
def sgn (tl : List Nat) (many : Nat) (r : Bool) (j : Nat) : Nat :=
  let kept := tl.take many
  let begin_ := if r then many - kept.length else 0
  if begin_ ≤ j ∧ j < begin_ + kept.length then kept.getD (j - begin_) 0 else 32
theorem putL2_sgn (tl : List Nat) (many : Nat) (r : Bool) : putL2 tl many r = (List.range many).map (sgn tl many r) := by
  have hk : (tl.take many).length ≤ many := List.length_take_le _ _
  unfold putL2
  generalize hkk : tl.take many = kept at hk
  have hs : ∀ j, sgn tl many r j = if (if r then many - kept.length else 0) ≤ j ∧ j < (if r then many - kept.length else 0) + kept.length then kept.getD (j - (if r then many - kept.length else 0)) 0 else 32 := by
    intro j; unfold sgn; rw [hkk]
  cases r with
  | true =>
    simp only [if_true] at hs ⊢
    apply List.ext_getElem
    · simp; omega
    · intro j h1 h2
      have hj : j < many := by simpa using h2
      simp only [List.getElem_map, List.getElem_range]
      rw [hs]
      by_cases hb : j < many - kept.length
      · rw [List.getElem_append_left (by simpa using hb), if_neg (by omega)]
        simp
      · rw [List.getElem_append_right (by simpa using hb), if_pos (by omega)]
        simp only [List.length_replicate]
        rw [List.getD_eq_getElem?_getD, List.getElem?_eq_getElem (by omega)]
        rfl
  | false =>
    simp only [Bool.false_eq_true, if_false, Nat.sub_zero, Nat.zero_le, true_and, Nat.zero_add] at hs ⊢
    apply List.ext_getElem
    · simp; omega
    · intro j h1 h2
      have hj : j < many := by simpa using h2
      simp only [List.getElem_map, List.getElem_range]
      rw [hs]
      by_cases hb : j < kept.length
      · rw [List.getElem_append_left hb, if_pos hb]
        rw [List.getD_eq_getElem?_getD, List.getElem?_eq_getElem hb]
        rfl
      · rw [List.getElem_append_right (by omega), if_neg hb]
        simp
section
variable {M : Model} {A : Around} {E : Value → Shared → Prop} {s : Shared} {env : Env} {e : PySem.Expr} {Q : Value → Shared → Prop}
/- an expression whose ways meet, the heap left alone -/
theorem eval_join (P : Value → Prop) (h1 : wpAny M A (eval e env) (Mid fun v s' => P v ∧ ∃ tk, s' = { s with toks := tk }) E s) (h2 : ∀ v tk, P v → Q v { s with toks := tk }) : wpAny M A (eval e env) Q E s :=
  wpAny_mono h1 (fun v s' ⟨hp, tk, e'⟩ => by subst e'; exact h2 v tk hp) fun _ _ e => e
end


theorem strs_set {x : Str} {u : Tok} : ∀ {vs : List Value} {ks : List Str}, StrsAre vs ks → ∀ j : Nat, StrsAre (vs.set j (.str x u)) (ks.set j x)
  | _, _, .nil, _ => .nil
  | _, _, .cons _ _ r, 0 => .cons _ _ r
  | _, _, .cons _ _ r, j + 1 => .cons _ _ (strs_set r j)
theorem seg_set {α : Type} {bl : List α} {a i : Nat} {f : Nat → α} (h : a + i < bl.length) :
    (bl.take a ++ (List.range i).map f ++ bl.drop (a + i)).set (a + i) (f i) = bl.take a ++ (List.range (i + 1)).map f ++ bl.drop (a + (i + 1)) := by
  have hl : (bl.take a ++ (List.range i).map f).length = a + i := by simp; omega
  rw [List.set_append_right _ _ (by omega), hl, Nat.sub_self, List.drop_eq_getElem_cons h, List.set_cons_zero, List.range_succ, List.map_append, List.append_assoc, List.append_assoc, List.append_assoc]
  rfl
theorem signs_set {vs : List Value} {bl : List Nat} {a i : Nat} {f : Nat → Nat} {u : Tok} (S : SignsAre vs (bl.take a ++ (List.range i).map f ++ bl.drop (a + i))) (h : a + i < bl.length) :
    SignsAre (vs.set (a + i) (.str (TS [f i]) u)) (bl.take a ++ (List.range (i + 1)).map f ++ bl.drop (a + (i + 1))) := by
  rw [← seg_set h]
  unfold SignsAre
  rw [List.map_set]
  exact strs_set S _
theorem item_ts {l : List Nat} {i b : Nat} (h1 : b ≤ i) (h2 : i - b < l.length) : Txt.item (TS l) ((i : Int) - (b : Int)) = TS [l.getD (i - b) 0] := by
  have e : (i : Int) - (b : Int) = ((i - b : Nat) : Int) := by omega
  rw [e, item_meets ⟨by omega, by rw [ts_len]; omega⟩]
  apply Str.ext'
  show #[(l.toArray).getD (i - b) 0] = #[l.getD (i - b) 0]
  simp

theorem code_lt {tl bl : List Nat} {many a b : Nat} {r : Bool} (ht : ∀ c ∈ tl, c < 128) (hb : ∀ c ∈ bl, c < 128) : ∀ c ∈ bl.take a ++ putL2 tl many r ++ bl.drop b, c < 128 := by
  have hk : ∀ c ∈ List.replicate (many - (tl.take many).length) 32, c < 128 := fun c hc => by rw [List.eq_of_mem_replicate hc]; decide
  have hp : ∀ c ∈ putL2 tl many r, c < 128 := by
    unfold putL2
    intro c hc
    split at hc
    · exact (List.mem_append.mp hc).elim (hk c) fun h => ht c (List.mem_of_mem_take h)
    · exact (List.mem_append.mp hc).elim (fun h => ht c (List.mem_of_mem_take h)) (hk c)
  intro c hc
  rcases List.mem_append.mp hc with hc | hc
  · exact (List.mem_append.mp hc).elim (fun h => hb c (List.mem_of_mem_take h)) (hp c)
  · exact hb c (List.mem_of_mem_drop hc)
/- the channel of a field: what set_placed turns, and the rest -/
structure SetCh (w : World) (rest rest' stt : List (Addr × Obj)) (aw awd afi aop afl tw bu : Addr) (oo ofl otw obu : Obj) (kvo kvb : List (Int × Value)) (kvf kvp : List (Str × Value)) (fl : List (Str × Fld)) (ps : Array Value) (c at_ many : Int)
    (am blA : Addr) (om : Obj) (kvm : List (Str × Value)) (nm : Str) (size : Int) (bl : List Nat) (r : Int) (vsb : List Value) (nb : Nat) : Prop where
  sub : ∀ p ∈ (am, om) :: (blA, listOf vsb.toArray nb) :: rest', p ∈ rest
  ne : @Ne Nat am blA
  off1 : ∀ p ∈ rest', p.1 ≠ am
  off2 : ∀ p ∈ rest', p.1 ≠ blA
  W : WorldAt rest' aw awd afi aop afl
  m3 : (aop, oo) ∈ rest'
  m4 : (afl, ofl) ∈ rest'
  m5 : (tw, otw) ∈ rest'
  m6 : (bu, obu) ∈ rest'
  f5 : FieldsAt rest' kvf fl
  f6 : PlacesAt rest' kvp fl
  stS : ∀ p ∈ stt, p ∈ rest'
  tab : TabOk stt "_law_set.<locals>.<lambda>" ps
  vo : valueAt kvo c = some (.ref am)
  dm : om.IsDictOf (PySem.strKind PySem.Challenge.rw_pq0169_01.row.prog w) kvm
  made : MadeIs kvm nm size bl r
  vb : valueAt kvb c = some (.ref blA)
  signs : SignsAre vsb bl
  h0 : 0 ≤ at_
  h1 : 0 ≤ many
  h2 : many ≤ 3
  h3 : at_ + many ≤ bl.length
  h4 : bl.length ≤ 10
section
variable {w : World} {G : Heap} {L : Addr} {m : Str → Option Value} {p : Program} {loose : List Str} {mean : ExcName → Option Value} {mg mb : Str → Option Value}
  {E : Value → Shared → Prop} {s : Shared} {A : Around}
end
def P_lawset (w : World) (G : Heap) (L : Addr) (m : Str → Option Value) (p : Program) (loose : List Str) (mean : ExcName → Option Value) (mg mb : Str → Option Value) (E : Value → Shared → Prop) (s : Shared) (A : Around) (feed cells aw awd afi aop afl tw pl bu : Addr) (turn : Int) (tt : Tok) (vs : List Value) (ns : List Int) (nF nC : Nat) (ofl opl oo otw obu : Obj) (ps : Array Value) (kvf kvp kvt : List (Str × Value)) (kvo kvb : List (Int × Value)) (rest stt : List (Addr × Obj)) (Q : Value → Shared → Prop) : Prop := ∀ {fl : List (Str × Fld)} (hh : A.handled = none) (hdp : A.depth ≤ 500) (hu : A.units ≤ 500) (F : Fr G L s.heap m) (T : Top p loose mean mg mb G) (X : (hd.heap_1 w.params).In G) (C : CodeHd G 171 167) (N : News G L s.heap ((feed, listOf #[.ref cells, .int turn tt] nF) :: (cells, listOf vs.toArray nC) :: (167, tabObj ps) :: rest)) (n1 : @Ne Nat cells feed) (n2 : @Ne Nat feed 167) (n3 : @Ne Nat cells 167) (off1 : ∀ p ∈ rest, p.1 ≠ feed) (off2 : ∀ p ∈ rest, p.1 ≠ 167) (off3 : ∀ p ∈ rest, p.1 ≠ cells) (hi : IntsAre vs ns) (hvl : vs.length ≤ 100) (h0 : 0 ≤ turn) (h1 : turn ≤ 9000) (d3 : oo.IsDictOf (PySem.intKind PySem.Challenge.rw_pq0169_01.row.prog w) kvo) (lo5 : (afl == sysModules) = false) (lo6 : (pl == sysModules) = false) (mt : (tw, otw) ∈ rest) (dt : otw.IsDictOf (PySem.strKind PySem.Challenge.rw_pq0169_01.row.prog w) kvt) (vt1 : valueAt kvt (Str.ofString "places") = some (.ref pl)) (vt3 : valueAt kvt (Str.ofString "buffers") = some (.ref bu)) (db : obu.IsDictOf (PySem.intKind PySem.Challenge.rw_pq0169_01.row.prog w) kvb) (d5 : ofl.IsDictOf (PySem.strKind PySem.Challenge.rw_pq0169_01.row.prog w) kvf) (f5 : FieldsAt rest kvf fl) (mpl : (pl, opl) ∈ rest) (d6 : opl.IsDictOf (PySem.strKind PySem.Challenge.rw_pq0169_01.row.prog w) kvp) (f6 : PlacesAt rest kvp fl) (z5 : fl.length ≤ 5) (z6 : fl ≠ []) (pk : ∀ n c at_ many, look fl n = some (c, at_, many) → ∃ am om kvm nm size bl r blA vsb nb rest', SetCh w rest rest' stt aw awd afi aop afl tw bu oo ofl otw obu kvo kvb kvf kvp fl ps c at_ many am blA om kvm nm size bl r vsb nb ∧
    (∀ h' tk turn' tt' om' kvm' vsb' ps' ext bl', Fr G L h' m → News G L h' ((feed, listOf #[.ref cells, .int turn' tt'] nF) :: (cells, listOf vs.toArray nC) :: (167, tabObj ps') :: (am, om') :: (blA, listOf vsb'.toArray nb) :: (ext ++ rest')) →
      turn ≤ turn' → turn' ≤ turn + 10 → om'.IsDictOf (PySem.strKind PySem.Challenge.rw_pq0169_01.row.prog w) kvm' → MadeIs kvm' nm size bl' r → bl'.length = bl.length → ((∀ c ∈ bl, c < 128) → ∀ c ∈ bl', c < 128) → SignsAre vsb' bl' → TabOk (ext ++ stt) "_law_set.<locals>.<lambda>" ps' →
      (∀ p ∈ ext, ∀ q ∈ (feed, listOf #[.ref cells, .int turn tt] nF) :: (cells, listOf vs.toArray nC) :: ((167 : Addr), tabObj ps) :: rest, @LT.lt Nat _ q.1 p.1) → Q (.bool true) { s with heap := h', toks := tk })), wpAny (model PySem.Challenge.rw_pq0169_01.row.prog w) A (call (.ref 172) [.ref feed, .ref aw, .ref tw] []) Q E s
def U_lawset (c : (World) × (Heap) × (Addr) × (Str → Option Value) × (Program) × (List Str) × (ExcName → Option Value) × (Str → Option Value) × (Str → Option Value) × (Value → Shared → Prop) × (Shared) × (Around) × (Addr) × (Addr) × (Addr) × (Addr) × (Addr) × (Addr) × (Addr) × (Addr) × (Addr) × (Addr) × (Int) × (Tok) × (List Value) × (List Int) × (Nat) × (Nat) × (Obj) × (Obj) × (Obj) × (Obj) × (Obj) × (Array Value) × (List (Str × Value)) × (List (Str × Value)) × (List (Str × Value)) × (List (Int × Value)) × (List (Int × Value)) × (List (Addr × Obj)) × (List (Addr × Obj)) × (Value → Shared → Prop)) : Prop := P_lawset c.1 c.2.1 c.2.2.1 c.2.2.2.1 c.2.2.2.2.1 c.2.2.2.2.2.1 c.2.2.2.2.2.2.1 c.2.2.2.2.2.2.2.1 c.2.2.2.2.2.2.2.2.1 c.2.2.2.2.2.2.2.2.2.1 c.2.2.2.2.2.2.2.2.2.2.1 c.2.2.2.2.2.2.2.2.2.2.2.1 c.2.2.2.2.2.2.2.2.2.2.2.2.1 c.2.2.2.2.2.2.2.2.2.2.2.2.2.1 c.2.2.2.2.2.2.2.2.2.2.2.2.2.2.1 c.2.2.2.2.2.2.2.2.2.2.2.2.2.2.2.1 c.2.2.2.2.2.2.2.2.2.2.2.2.2.2.2.2.1 c.2.2.2.2.2.2.2.2.2.2.2.2.2.2.2.2.2.1 c.2.2.2.2.2.2.2.2.2.2.2.2.2.2.2.2.2.2.1 c.2.2.2.2.2.2.2.2.2.2.2.2.2.2.2.2.2.2.2.1 c.2.2.2.2.2.2.2.2.2.2.2.2.2.2.2.2.2.2.2.2.1 c.2.2.2.2.2.2.2.2.2.2.2.2.2.2.2.2.2.2.2.2.2.1 c.2.2.2.2.2.2.2.2.2.2.2.2.2.2.2.2.2.2.2.2.2.2.1 c.2.2.2.2.2.2.2.2.2.2.2.2.2.2.2.2.2.2.2.2.2.2.2.1 c.2.2.2.2.2.2.2.2.2.2.2.2.2.2.2.2.2.2.2.2.2.2.2.2.1 c.2.2.2.2.2.2.2.2.2.2.2.2.2.2.2.2.2.2.2.2.2.2.2.2.2.1 c.2.2.2.2.2.2.2.2.2.2.2.2.2.2.2.2.2.2.2.2.2.2.2.2.2.2.1 c.2.2.2.2.2.2.2.2.2.2.2.2.2.2.2.2.2.2.2.2.2.2.2.2.2.2.2.1 c.2.2.2.2.2.2.2.2.2.2.2.2.2.2.2.2.2.2.2.2.2.2.2.2.2.2.2.2.1 c.2.2.2.2.2.2.2.2.2.2.2.2.2.2.2.2.2.2.2.2.2.2.2.2.2.2.2.2.2.1 c.2.2.2.2.2.2.2.2.2.2.2.2.2.2.2.2.2.2.2.2.2.2.2.2.2.2.2.2.2.2.1 c.2.2.2.2.2.2.2.2.2.2.2.2.2.2.2.2.2.2.2.2.2.2.2.2.2.2.2.2.2.2.2.1 c.2.2.2.2.2.2.2.2.2.2.2.2.2.2.2.2.2.2.2.2.2.2.2.2.2.2.2.2.2.2.2.2.1 c.2.2.2.2.2.2.2.2.2.2.2.2.2.2.2.2.2.2.2.2.2.2.2.2.2.2.2.2.2.2.2.2.2.1 c.2.2.2.2.2.2.2.2.2.2.2.2.2.2.2.2.2.2.2.2.2.2.2.2.2.2.2.2.2.2.2.2.2.2.1 c.2.2.2.2.2.2.2.2.2.2.2.2.2.2.2.2.2.2.2.2.2.2.2.2.2.2.2.2.2.2.2.2.2.2.2.1 c.2.2.2.2.2.2.2.2.2.2.2.2.2.2.2.2.2.2.2.2.2.2.2.2.2.2.2.2.2.2.2.2.2.2.2.2.1 c.2.2.2.2.2.2.2.2.2.2.2.2.2.2.2.2.2.2.2.2.2.2.2.2.2.2.2.2.2.2.2.2.2.2.2.2.2.1 c.2.2.2.2.2.2.2.2.2.2.2.2.2.2.2.2.2.2.2.2.2.2.2.2.2.2.2.2.2.2.2.2.2.2.2.2.2.2.1 c.2.2.2.2.2.2.2.2.2.2.2.2.2.2.2.2.2.2.2.2.2.2.2.2.2.2.2.2.2.2.2.2.2.2.2.2.2.2.2.1 c.2.2.2.2.2.2.2.2.2.2.2.2.2.2.2.2.2.2.2.2.2.2.2.2.2.2.2.2.2.2.2.2.2.2.2.2.2.2.2.2.1 c.2.2.2.2.2.2.2.2.2.2.2.2.2.2.2.2.2.2.2.2.2.2.2.2.2.2.2.2.2.2.2.2.2.2.2.2.2.2.2.2.2
/- the letters at which it would fail, if there are such -/
noncomputable def K_lawset : (World) × (Heap) × (Addr) × (Str → Option Value) × (Program) × (List Str) × (ExcName → Option Value) × (Str → Option Value) × (Str → Option Value) × (Value → Shared → Prop) × (Shared) × (Around) × (Addr) × (Addr) × (Addr) × (Addr) × (Addr) × (Addr) × (Addr) × (Addr) × (Addr) × (Addr) × (Int) × (Tok) × (List Value) × (List Int) × (Nat) × (Nat) × (Obj) × (Obj) × (Obj) × (Obj) × (Obj) × (Array Value) × (List (Str × Value)) × (List (Str × Value)) × (List (Str × Value)) × (List (Int × Value)) × (List (Int × Value)) × (List (Addr × Obj)) × (List (Addr × Obj)) × (Value → Shared → Prop) := @Classical.epsilon _ (neP ⟨aWorld 0⟩ (neP ⟨default⟩ (neP ⟨default⟩ (neP ⟨default⟩ (neP ⟨default⟩ (neP ⟨default⟩ (neP ⟨default⟩ (neP ⟨default⟩ (neP ⟨default⟩ (neP ⟨default⟩ (neP neS (neP ⟨{}⟩ (neP ⟨default⟩ (neP ⟨default⟩ (neP ⟨default⟩ (neP ⟨default⟩ (neP ⟨default⟩ (neP ⟨default⟩ (neP ⟨default⟩ (neP ⟨default⟩ (neP ⟨default⟩ (neP ⟨default⟩ (neP ⟨default⟩ (neP ⟨default⟩ (neP ⟨default⟩ (neP ⟨default⟩ (neP ⟨default⟩ (neP ⟨default⟩ (neP ⟨default⟩ (neP ⟨default⟩ (neP ⟨default⟩ (neP ⟨default⟩ (neP ⟨default⟩ (neP ⟨default⟩ (neP ⟨default⟩ (neP ⟨default⟩ (neP ⟨default⟩ (neP ⟨default⟩ (neP ⟨default⟩ (neP ⟨default⟩ (neP ⟨default⟩ ⟨default⟩))))))))))))))))))))))))))))))))))))))))) fun c => ¬ U_lawset c
namespace E_lawset
noncomputable def w : World := K_lawset.1
noncomputable def G : Heap := K_lawset.2.1
noncomputable def L : Addr := K_lawset.2.2.1
noncomputable def m : Str → Option Value := K_lawset.2.2.2.1
noncomputable def p : Program := K_lawset.2.2.2.2.1
noncomputable def loose : List Str := K_lawset.2.2.2.2.2.1
noncomputable def mean : ExcName → Option Value := K_lawset.2.2.2.2.2.2.1
noncomputable def mg : Str → Option Value := K_lawset.2.2.2.2.2.2.2.1
noncomputable def mb : Str → Option Value := K_lawset.2.2.2.2.2.2.2.2.1
noncomputable def E : Value → Shared → Prop := K_lawset.2.2.2.2.2.2.2.2.2.1
noncomputable def s : Shared := K_lawset.2.2.2.2.2.2.2.2.2.2.1
noncomputable def A : Around := K_lawset.2.2.2.2.2.2.2.2.2.2.2.1
noncomputable def feed : Addr := K_lawset.2.2.2.2.2.2.2.2.2.2.2.2.1
noncomputable def cells : Addr := K_lawset.2.2.2.2.2.2.2.2.2.2.2.2.2.1
noncomputable def aw : Addr := K_lawset.2.2.2.2.2.2.2.2.2.2.2.2.2.2.1
noncomputable def awd : Addr := K_lawset.2.2.2.2.2.2.2.2.2.2.2.2.2.2.2.1
noncomputable def afi : Addr := K_lawset.2.2.2.2.2.2.2.2.2.2.2.2.2.2.2.2.1
noncomputable def aop : Addr := K_lawset.2.2.2.2.2.2.2.2.2.2.2.2.2.2.2.2.2.1
noncomputable def afl : Addr := K_lawset.2.2.2.2.2.2.2.2.2.2.2.2.2.2.2.2.2.2.1
noncomputable def tw : Addr := K_lawset.2.2.2.2.2.2.2.2.2.2.2.2.2.2.2.2.2.2.2.1
noncomputable def pl : Addr := K_lawset.2.2.2.2.2.2.2.2.2.2.2.2.2.2.2.2.2.2.2.2.1
noncomputable def bu : Addr := K_lawset.2.2.2.2.2.2.2.2.2.2.2.2.2.2.2.2.2.2.2.2.2.1
noncomputable def turn : Int := K_lawset.2.2.2.2.2.2.2.2.2.2.2.2.2.2.2.2.2.2.2.2.2.2.1
noncomputable def tt : Tok := K_lawset.2.2.2.2.2.2.2.2.2.2.2.2.2.2.2.2.2.2.2.2.2.2.2.1
noncomputable def vs : List Value := K_lawset.2.2.2.2.2.2.2.2.2.2.2.2.2.2.2.2.2.2.2.2.2.2.2.2.1
noncomputable def ns : List Int := K_lawset.2.2.2.2.2.2.2.2.2.2.2.2.2.2.2.2.2.2.2.2.2.2.2.2.2.1
noncomputable def nF : Nat := K_lawset.2.2.2.2.2.2.2.2.2.2.2.2.2.2.2.2.2.2.2.2.2.2.2.2.2.2.1
noncomputable def nC : Nat := K_lawset.2.2.2.2.2.2.2.2.2.2.2.2.2.2.2.2.2.2.2.2.2.2.2.2.2.2.2.1
noncomputable def ofl : Obj := K_lawset.2.2.2.2.2.2.2.2.2.2.2.2.2.2.2.2.2.2.2.2.2.2.2.2.2.2.2.2.1
noncomputable def opl : Obj := K_lawset.2.2.2.2.2.2.2.2.2.2.2.2.2.2.2.2.2.2.2.2.2.2.2.2.2.2.2.2.2.1
noncomputable def oo : Obj := K_lawset.2.2.2.2.2.2.2.2.2.2.2.2.2.2.2.2.2.2.2.2.2.2.2.2.2.2.2.2.2.2.1
noncomputable def otw : Obj := K_lawset.2.2.2.2.2.2.2.2.2.2.2.2.2.2.2.2.2.2.2.2.2.2.2.2.2.2.2.2.2.2.2.1
noncomputable def obu : Obj := K_lawset.2.2.2.2.2.2.2.2.2.2.2.2.2.2.2.2.2.2.2.2.2.2.2.2.2.2.2.2.2.2.2.2.1
noncomputable def ps : Array Value := K_lawset.2.2.2.2.2.2.2.2.2.2.2.2.2.2.2.2.2.2.2.2.2.2.2.2.2.2.2.2.2.2.2.2.2.1
noncomputable def kvf : List (Str × Value) := K_lawset.2.2.2.2.2.2.2.2.2.2.2.2.2.2.2.2.2.2.2.2.2.2.2.2.2.2.2.2.2.2.2.2.2.2.1
noncomputable def kvp : List (Str × Value) := K_lawset.2.2.2.2.2.2.2.2.2.2.2.2.2.2.2.2.2.2.2.2.2.2.2.2.2.2.2.2.2.2.2.2.2.2.2.1
noncomputable def kvt : List (Str × Value) := K_lawset.2.2.2.2.2.2.2.2.2.2.2.2.2.2.2.2.2.2.2.2.2.2.2.2.2.2.2.2.2.2.2.2.2.2.2.2.1
noncomputable def kvo : List (Int × Value) := K_lawset.2.2.2.2.2.2.2.2.2.2.2.2.2.2.2.2.2.2.2.2.2.2.2.2.2.2.2.2.2.2.2.2.2.2.2.2.2.1
noncomputable def kvb : List (Int × Value) := K_lawset.2.2.2.2.2.2.2.2.2.2.2.2.2.2.2.2.2.2.2.2.2.2.2.2.2.2.2.2.2.2.2.2.2.2.2.2.2.2.1
noncomputable def rest : List (Addr × Obj) := K_lawset.2.2.2.2.2.2.2.2.2.2.2.2.2.2.2.2.2.2.2.2.2.2.2.2.2.2.2.2.2.2.2.2.2.2.2.2.2.2.2.1
noncomputable def stt : List (Addr × Obj) := K_lawset.2.2.2.2.2.2.2.2.2.2.2.2.2.2.2.2.2.2.2.2.2.2.2.2.2.2.2.2.2.2.2.2.2.2.2.2.2.2.2.2.1
noncomputable def Q : Value → Shared → Prop := K_lawset.2.2.2.2.2.2.2.2.2.2.2.2.2.2.2.2.2.2.2.2.2.2.2.2.2.2.2.2.2.2.2.2.2.2.2.2.2.2.2.2.2
theorem go : P_lawset w G L m p loose mean mg mb E s A feed cells aw awd afi aop afl tw pl bu turn tt vs ns nF nC ofl opl oo otw obu ps kvf kvp kvt kvo kvb rest stt Q := by
  intro fl hh hdp hu F T X C N n1 n2 n3 off1 off2 off3 hi hvl h0 h1 d3 lo5 lo6 mt dt vt1 vt3 db d5 f5 mpl d6 f6 z5 z6 pk
  refine wpAny_weak (A' := A5) ?_ hh hdp hu rfl rfl
  revert X
  k_fill
  intro X
  refine wpAny_call ?_
  have hab := F.above
  have hL1 : @Ne Nat feed L := (N _ (.head _)).2.1
  have hL2 : @Ne Nat cells L := (N _ (.tail _ (.head _))).2.1
  have hL3 : @Ne Nat 167 L := (N _ (.tail _ (.tail _ (.head _)))).2.1
  have hLr : ∀ p ∈ rest, p.1 ≠ L := fun p hp => (N p (.tail _ (.tail _ (.tail _ hp)))).2.1
  refine' enterC (binds := [(Str.ofString "feed", .ref feed), (Str.ofString "world", .ref aw), (Str.ofString "twin", .ref tw)]) F X N (Top.nolimit T) ?k6 ?k7 ?k8 ?k9 ?kB ?kD ?_ ?c2 ?c3 ?c4
  case k8 => exact Nat.lt_of_le_of_lt (Nat.le_refl 500) (by decide)
  (((case k6 => k_is); (case k7 => k_is); (case k9 => first | exact BindsTo.of_eq rfl | exact binds_K (by k_in) rfl (by k_is) rfl rfl rfl); (case kB => (intro n'; ((repeat (first | exact List.forall_mem_nil _ | refine List.forall_mem_cons.mpr ⟨by first | exact .inl rfl | exact .inr ⟨rfl, rfl⟩, ?_⟩))))); (case kD => decide +kernel); (case c2 => exact rfl); (case c3 => exact rfl); (case c4 => exact rfl)))
  intro L' h₁ tk₁ oL cells' hoL F' N' Y l0
  clear F N
  refine ex4_5 (CellsAre.four Y) ?_; intro oc4 oc3 oc2 oc1 hE q4 q3 q2 q1
  subst hE
  clear Y
  have q1 : oc1.data = .cell (some (.ref aw)) := q1
  have q2 : oc2.data = .cell none := q2
  have q3 : oc3.data = .cell none := q3
  have q4 : oc4.data = .cell none := q4
  have lL : @LT.lt Nat _ L L' := l0 _ (.head _)
  have lF : @LT.lt Nat _ feed L' := l0 _ (.tail _ (.head _))
  have lC : @LT.lt Nat _ cells L' := l0 _ (.tail _ (.tail _ (.head _)))
  have lt : @LT.lt Nat _ 167 L' := l0 _ (.tail _ (.tail _ (.tail _ (.head _))))
  have lr : ∀ p ∈ rest, @LT.lt Nat _ p.1 L' := fun p hp => l0 _ (.tail _ (.tail _ (.tail _ (.tail _ hp))))
  have lr1 : ∀ p ∈ rest, p.1 ≠ L' + 1 := fun p hp => Nat.ne_of_lt (Nat.lt_succ_of_lt (lr p hp))
  have lr2 : ∀ p ∈ rest, p.1 ≠ L' + 1 + 1 := fun p hp => Nat.ne_of_lt (Nat.lt_succ_of_lt (Nat.lt_succ_of_lt (lr p hp)))
  have lr3 : ∀ p ∈ rest, p.1 ≠ L' + 1 + 1 + 1 := fun p hp => Nat.ne_of_lt (Nat.lt_succ_of_lt (Nat.lt_succ_of_lt (Nat.lt_succ_of_lt (lr p hp))))
  have lr4 : ∀ p ∈ rest, p.1 ≠ L' + 1 + 1 + 1 + 1 := fun p hp => Nat.ne_of_lt (Nat.lt_succ_of_lt (Nat.lt_succ_of_lt (Nat.lt_succ_of_lt (Nat.lt_succ_of_lt (lr p hp)))))
  have l9 : ∀ p ∈ (feed, listOf #[.ref cells, .int turn tt] nF) :: (cells, listOf vs.toArray nC) :: ((167 : Addr), tabObj ps) :: rest, @LT.lt Nat _ p.1 L' := fun p hp => l0 p (.tail _ hp)
  clear l0
  simp only [List.cons_append, List.nil_append] at N'
  dsimp only
  have N1 := news_sub N' (nl' := (feed, listOf #[.ref cells, .int turn tt] nF) :: (cells, listOf vs.toArray nC) :: (L'+1+1+1+1, oc4) :: (L'+1+1+1, oc3) :: (L'+1+1, oc2) :: (L'+1, oc1) :: (L, oL) :: (167, tabObj ps) :: rest) (by ((repeat (first | exact List.forall_mem_nil _ | refine List.forall_mem_cons.mpr ⟨by k_mem, ?_⟩ | (intro p' hp'; k_mem)))))
  clear N'
  k_steps
  have hpz : kvp.length = fl.length := f6.length
  refine sorted_keys (by rfl) (by k_asm) N1 (.tail _ (.tail _ (.tail _ (.tail _ (.tail _ (.tail _ (.tail _ (.tail _ mpl)))))))) d6 lo6 (by rw [hpz]; exact Nat.lt_of_le_of_lt z5 (by decide)) ?_
  intro B h2 tk2 us ks nB F2 N2 hB hS hP
  have lB1 : @LT.lt Nat _ L' B := Nat.lt_trans (Nat.lt_succ_self _) (hB (L'+1, oc1) (by k_clsL))
  have lB2 : @LT.lt Nat _ (L'+1+1+1+1) B := hB (L'+1+1+1+1, oc4) (by k_clsL)
  have lBr : ∀ p ∈ rest, p.1 ≠ B := fun p hp => Nat.ne_of_lt (Nat.lt_trans (lr p hp) lB1)
  have hkl : ks.length = fl.length := by rw [hP.length_eq, List.length_map, hpz]
  have hul : us.length = fl.length := by rw [hS.length, hkl]
  have hpos : 0 < fl.length := by cases fl with | nil => exact absurd rfl z6 | cons a b => simp
  have hu0 : (0 : Int) < (us.length : Int) := by rw [hul]; exact Int.ofNat_lt.mpr hpos
  have hu1 : (us.length : Int) ≤ 100 := by rw [hul]; exact Int.ofNat_le.mpr (Nat.le_trans z5 (by decide))
  have hu2 : us.length ≤ 16777216 := by rw [hul]; exact Nat.le_trans z5 (by decide)
  have N3 := news_sub N2 (nl' := (feed, listOf #[.ref cells, .int turn tt] nF) :: (cells, listOf vs.toArray nC) :: (B, listOf us.toArray nB) :: (L'+1+1+1+1, oc4) :: (L'+1+1+1, oc3) :: (L'+1+1, oc2) :: (L'+1, oc1) :: (L, oL) :: (167, tabObj ps) :: rest) (by ((repeat (first | exact List.forall_mem_nil _ | refine List.forall_mem_cons.mpr ⟨by k_mem, ?_⟩ | (intro p' hp'; k_mem)))))
  clear N1 N2
  k_steps
  ((refine' next_any rfl ?a_142 ?b_142 ?F_142 ?T_142 ?X_142 ?N_142 ?nd1_142 ?nd2_142 (by assumption) (by assumption) ?h0_142 ?h1_142 (by first | decide | (simp only [List.size_toArray]; first | assumption | omega)) (by first | decide | (simp only [List.size_toArray]; first | assumption | omega)) ?_; (case a_142 => (exact Nat.le_of_ble_eq_true rfl)); (case b_142 => (exact Nat.le_of_ble_eq_true rfl)); (case F_142 => k_asm); (case T_142 => k_asm); (case X_142 => k_asm); (case N_142 => k_asm); (case nd1_142 => first | assumption | k_ne); (case nd2_142 => first | assumption | k_all); (case h0_142 => first | assumption | omega); (case h1_142 => first | assumption | omega)))
  intro h3 tk3 r3 t3 t3' hr30 hr31 F3 N4

  rw [List.size_toArray] at hr31
  have hr3 : r3.toNat < ks.length := tn_lt hr30 hr31 (hul.trans hkl.symm)
  refine ex1_1 (hS.get r3.toNat (ks[r3.toNat]) (by rw [List.getElem?_eq_getElem hr3])) ?_; intro tn hn
  generalize hnm : ks[r3.toNat] = nm at hn
  have hnk : nm ∈ fl.map (·.1) := by
    rw [← f6.keys]
    exact hP.mem_iff.mp (hnm ▸ List.getElem_mem hr3)
  dsimp only
  refine list_at N4 (.tail _ (.tail _ (.head _))) hr30 (lt63 hr31 hul (Nat.le_trans z5 (Nat.le_of_ble_eq_true rfl))) hn ?_
  k_steps
  with_reducible rename News _ _ _ _ => N5
  rename_i lit h9 f9 l8
  refine ex0_10 l8 ?_; intro x1 x2 x3 x4 x5 x6 x7 x8 x9 x0
  try clear l8
  have x10 := PySem.W.tb_ltOf x0
  have N6 := news_sub N5 (nl' := (feed, listOf #[.ref cells, .int (turn + 1) t3'] nF) :: (cells, listOf vs.toArray nC) :: (lit, listOf [Value.str (Str.ofString "x") tk3, Value.str (Str.ofString "yz") (tk3 + 1), Value.str (Str.ofString "") (tk3 + 1 + 1), Value.str (Str.ofString "longer") (tk3 + 1 + 1 + 1)].toArray 0) :: (L'+1+1+1+1, oc4) :: (L'+1+1+1, oc3) :: (L'+1+1, oc2) :: (L'+1, oc1) :: (L, oL) :: (167, tabObj ps) :: rest) (by ((repeat (first | exact List.forall_mem_nil _ | refine List.forall_mem_cons.mpr ⟨by k_mem, ?_⟩ | (intro p' hp'; k_mem)))))
  clear N5
  ((refine' next_any rfl ?a_144 ?b_144 ?F_144 ?T_144 ?X_144 ?N_144 ?nd1_144 ?nd2_144 (by assumption) (by assumption) ?h0_144 ?h1_144 (by first | decide | (simp only [List.size_toArray]; first | assumption | omega)) (by first | decide | (simp only [List.size_toArray]; first | assumption | omega)) ?_; (case a_144 => (exact Nat.le_of_ble_eq_true rfl)); (case b_144 => (exact Nat.le_of_ble_eq_true rfl)); (case F_144 => k_asm); (case T_144 => k_asm); (case X_144 => k_asm); (case N_144 => k_asm); (case nd1_144 => first | assumption | k_ne); (case nd2_144 => first | assumption | k_all); (case h0_144 => first | assumption | omega); (case h1_144 => first | assumption | omega)))
  intro h4 tk4 r4 t4 t4' hr40 hr41 F4 N7
  clear N6
  have H_1 : ∃ tl tx, [Value.str (Str.ofString "x") tk3, Value.str (Str.ofString "yz") (tk3 + 1), Value.str (Str.ofString "") (tk3 + 1 + 1), Value.str (Str.ofString "longer") (tk3 + 1 + 1 + 1)][r4.toNat]? = some (.str (TS tl) tx) ∧ tl.length ≤ 6 ∧ ∀ c ∈ tl, c < 128 := by
    have : r4 = 0 ∨ r4 = 1 ∨ r4 = 2 ∨ r4 = 3 := four_of hr40 hr41
    rcases this with rfl | rfl | rfl | rfl
    · exact ⟨[120], _, rfl, by decide⟩
    · exact ⟨[121, 122], _, rfl, by decide⟩
    · exact ⟨[], _, rfl, by decide⟩
    · exact ⟨[108, 111, 110, 103, 101, 114], _, rfl, by decide⟩
  refine ex2_3 H_1 ?_; intro tl ttl htl hll hlc
  try clear H_1
  dsimp only
  refine list_at N7 (.tail _ (.tail _ (.head _))) hr40 (i_lt63 hr41 (by decide)) htl ?_
  have N8 := news_sub N7 (nl' := (feed, listOf #[.ref cells, .int (turn + 1 + 1) t4'] nF) :: (cells, listOf vs.toArray nC) :: (L'+1+1+1+1, oc4) :: (L'+1+1+1, oc3) :: (L'+1+1, oc2) :: (L'+1, oc1) :: (L, oL) :: (167, tabObj ps) :: rest) (by ((repeat (first | exact List.forall_mem_nil _ | refine List.forall_mem_cons.mpr ⟨by k_mem, ?_⟩ | (intro p' hp'; k_mem)))))
  clear N7
  k_steps
  ((refine' next_any rfl ?a_146 ?b_146 ?F_146 ?T_146 ?X_146 ?N_146 ?nd1_146 ?nd2_146 (by assumption) (by assumption) ?h0_146 ?h1_146 (by first | decide | (simp only [List.size_toArray]; first | assumption | omega)) (by first | decide | (simp only [List.size_toArray]; first | assumption | omega)) ?_; (case a_146 => (exact Nat.le_of_ble_eq_true rfl)); (case b_146 => (exact Nat.le_of_ble_eq_true rfl)); (case F_146 => k_asm); (case T_146 => k_asm); (case X_146 => k_asm); (case N_146 => k_asm); (case nd1_146 => first | assumption | k_ne); (case nd2_146 => first | assumption | k_all); (case h0_146 => first | assumption | omega); (case h1_146 => first | assumption | omega)))
  intro h5 tk5 r5 t5 t5' hr50 hr51 F5 N9
  have N10 := news_sub N9 (nl' := (L'+1+1+1+1, oc4) :: (L'+1+1+1, oc3) :: (L'+1+1, oc2) :: (L'+1, oc1) :: (L, oL) :: (feed, listOf #[.ref cells, .int (turn + 1 + 1 + 1) t5'] nF) :: (cells, listOf vs.toArray nC) :: (167, tabObj ps) :: rest) (by ((repeat (first | exact List.forall_mem_nil _ | refine List.forall_mem_cons.mpr ⟨by k_mem, ?_⟩ | (intro p' hp'; k_mem)))))
  clear N9
  have H_2 : ∃ x, look fl nm = some x := by
    obtain ⟨y, hy1, hy2⟩ := List.mem_map.mp hnk
    rw [← hy2]; exact look_some hy1
  refine ex1_1 H_2 ?_; intro N_3 g2
  try clear H_2
  obtain ⟨c, at_, many⟩ := N_3
  try clear N_3
  refine ex11_2 (pk nm c at_ many g2) ?_; intro am om kvm nmc size bl rr blA vsb nb rest' SC hQ
  refine at_place SC.f6 g2 ?_
  intro T9 k9 t9 q9 n9 ws g1 gT' gq' gw
  have gT := SC.sub _ (.tail _ (.tail _ gT'))
  have gq := SC.sub _ (.tail _ (.tail _ gq'))
  have SC1 := SC.h1
  have SC2 := SC.h2
  dsimp only at gT gw
  have hwl : ws.length = many.toNat := by rw [gw.length, rangeKs_length]
  have htL : (TS tl).length ≤ 6 := by rw [ts_len]; exact hll
  (repeat ((fail_if_success (with_reducible show wpAny _ _ (eval (Expr.IfExp _ _ _ _) _) _ _ _)); first | (k_unfold; (try dsimp only)) | walk1 | (dsimp only; walk1) | (leave1; try dsimp only)))
  have hwl' : ws.toArray.size = many.toNat := by rw [List.size_toArray]; exact hwl
  have hkeq : Txt.slice (TS tl) none (some (ws.toArray.size : Int)) = TS (tl.take many.toNat) := by rw [slice_to tl (by omega), hwl']; rfl
  refine eval_join (fun v => ∃ t, v = .int (((if (r5 == 1) = true then many.toNat - (tl.take many.toNat).length else 0 : Nat) : Int)) t) ?_ ?_
  · cases hrb : (r5 == 1)
    · k_steps
      exact ⟨⟨_, rfl⟩, ⟨_, rfl⟩⟩
    · k_steps
      have hle : (tl.take many.toNat).length ≤ many.toNat := List.length_take_le _ _
      have he : (many.toNat : Int) - ((tl.take many.toNat).length : Int) = ((many.toNat - (tl.take many.toNat).length : Nat) : Int) := (Int.ofNat_sub hle).symm
      refine ⟨⟨?t1, ?h1⟩, ⟨?k1, ?h2⟩⟩
      case h2 => exact rfl
      case h1 =>
        rw [hkeq, ts_len, hwl', he, if_pos trivial]
  intro _ tk6 N_4
  refine ex1_1 N_4 ?_; intro t6 E_5
  try clear N_4
  subst E_5
  (repeat ((fail_if_success (with_reducible show wpAny _ _ (exec (Stmt.For _ _ _ _ _) _) _ _ _)); first | (k_unfold; (try dsimp only)) | walk1 | (dsimp only; walk1) | (leave1; try dsimp only)))
  rename_i oN dN h7 oT dT h6 oR dR tk0 h55 h44 h33 tA tkA h22 tKept kK aK h11 h00 FF NN
  rw [hkeq] at FF
  refine ex1_1 (⟨_, rfl⟩ : ∃ b, b = (r5 == 1)) ?_; intro rb hrb
  rw [← hrb] at FF dR
  refine ex1_1 (⟨_, rfl⟩ : ∃ b, b = (L'+1+1+1+1, oT) :: (L'+1+1+1, oN) :: (L'+1+1, oR) :: (L'+1, oc1) :: (L, oL) :: (feed, listOf #[.ref cells, .int (turn + 1 + 1 + 1) t5'] nF) :: (cells, listOf vs.toArray nC) :: (167, tabObj ps) :: (am, om) :: rest') ?_; intro base hbase
  have sb := SC.sub
  have mam := sb _ (.head _)
  have mbl := sb _ (.tail _ (.head _))
  have msub : ∀ p ∈ rest', p ∈ rest := fun p hp => sb p (.tail _ (.tail _ hp))
  have NB := news_sub NN (nl' := (blA, listOf vsb.toArray nb) :: base) (by
    rw [hbase]
    intro p hp
    simp only [List.mem_cons] at hp ⊢
    rcases hp with h | h | h | h | h | h | h | h | h | h | h
    · rw [h]; simp [mbl]
    any_goals (simp [h]; done)
    · rw [h]; simp [mam]
    · simp [msub p h])
  have bB : ∀ p ∈ base, p.1 ≠ blA := by
    rw [hbase]
    have a1 : @Ne Nat blA feed := off1 _ mbl
    have a2 : @Ne Nat blA 167 := off2 _ mbl
    have a3 : @Ne Nat blA cells := off3 _ mbl
    have a4 : @Ne Nat blA L := hLr _ mbl
    have a5 : @Ne Nat am blA := SC.ne
    have a6 := SC.off2
    have a7 : @LT.lt Nat _ blA L' := lr _ mbl
    k_all
  have bR : ∀ p ∈ rest', p ∈ base := by rw [hbase]; k_offL
  clear NN
  with_reducible rename Fr _ _ _ _ => F7
  refine' For_turns F7 ?_
  (repeat ((fail_if_success (with_reducible show wpAny _ _ (call (Value.type "enumerate") _) _ _ _)); first | (k_unfold; (try dsimp only)) | walk1 | (dsimp only; walk1) | (leave1; try dsimp only)))
  have qR : (q9, listOf ws.toArray n9) ∈ base := bR _ gq'
  refine ktu_enum (vs := ws) (by rfl) F7 NB (lo := listOf ws.toArray n9) (.tail _ qR) rfl rfl rfl (fun I2 hI2 => ?_)
  have bI : @LT.lt Nat _ blA I2 := hI2 _ (.head _)
  have bI2 : ∀ p ∈ base, @LT.lt Nat _ p.1 I2 := fun p hp => hI2 p (.tail _ hp)
  have bt : (tw, otw) ∈ base := bR _ SC.m5
  have bb : (bu, obu) ∈ base := bR _ SC.m6
  have hvb := SC.vb
  have hat0 := SC.h0
  have hat3 := SC.h3
  have hat4 := SC.h4
  refine enum_ind (J := fun i us m' news => ∃ vsb', (∃ v1 v2 : Option Value, m' = fun y => if y = Str.ofString "at" then v1 else if y = Str.ofString "place" then v2 else if y = Str.ofString "begin" then some (.int (((if rb = true then many.toNat - (tl.take many.toNat).length else 0 : Nat) : Int)) t6) else if y = Str.ofString "kept" then some (.str (TS (tl.take many.toNat)) tKept) else if y = Str.ofString "places" then some (.ref q9) else if y = Str.ofString "channel" then some (.int c t9) else if y = Str.ofString "names" then some (.ref B) else if y = Str.ofString "twin" then some (.ref tw) else if y = Str.ofString "feed" then some (.ref feed) else none) ∧
      news = (blA, listOf vsb'.toArray nb) :: base ∧ us = ws.drop i ∧ i + us.length = many.toNat ∧ SignsAre vsb' (bl.take at_.toNat ++ (List.range i).map (sgn tl many.toNat rb) ++ bl.drop (at_.toNat + i)))
      ?hsrc ?step ?done ws 0 _ _ ?init
  case hsrc =>
    intro i us m' news N_6
    refine ex1_3 N_6 ?_; intro _ _ E_7 _
    try clear N_6
    subst E_7
    exact .tail _ qR
  case init =>
    refine in1_5 vsb ⟨none, none, m_none2 rfl rfl⟩ rfl rfl ((Nat.zero_add _).trans hwl) ?_
    simpa using SC.signs
  case done =>
    intro i m' news h9 tk9 N_8 F6 N6
    refine ex1_5 N_8 ?_; intro vsb' N_9 E_10 a1 a2 a3
    try clear N_8
    refine ex2_1 N_9 ?_; intro v1 v2 E_11
    try clear N_9
    subst E_11
    subst E_10
    change Fr G L' _ _ at F6
    change News G L' _ _ at N6
    have hi9 : i = many.toNat := by simpa using a2
    subst hi9
    rw [← putL2_sgn, show at_.toNat + many.toNat = (at_ + many).toNat from (Int.toNat_add hat0 SC1).symm] at a3
    subst hbase
    have a1 : @Ne Nat blA feed := off1 _ mbl
    have a2 : @Ne Nat blA 167 := off2 _ mbl
    have a4 : @Ne Nat blA L := hLr _ mbl
    have a6 : @Ne Nat am feed := off1 _ mam
    have a7 : @Ne Nat am 167 := off2 _ mam
    have a8 : @Ne Nat am cells := off3 _ mam
    have a9 : @Ne Nat am L := hLr _ mam
    have a10 : @LT.lt Nat _ am L' := lr _ mam
    have a11 : @Ne Nat am blA := SC.ne
    have r1 : ∀ p ∈ rest', p.1 ≠ 167 := fun p hp => off2 p (msub p hp)
    have r2 := SC.off1
    have r3 : ∀ p ∈ rest', p.1 ≠ L := fun p hp => hLr p (msub p hp)
    refine ex1_1 (⟨_, rfl⟩ : ∃ b, b = (blA, listOf vsb'.toArray nb) :: (L'+1+1+1+1, oT) :: (L'+1+1+1, oN) :: (L'+1+1, oR) :: (L'+1, oc1) :: (L, oL) :: (feed, listOf #[.ref cells, .int (turn + 1 + 1 + 1) t5'] nF) :: (cells, listOf vs.toArray nC) :: rest') ?_; intro X0 hX0
    have NB := news_sub N6 (nl' := (167, tabObj ps) :: (am, om) :: X0) (by rw [hX0]; ((repeat (first | exact List.forall_mem_nil _ | refine List.forall_mem_cons.mpr ⟨by k_mem, ?_⟩ | (intro p' hp'; k_mem)))))
    have stX : ∀ p ∈ rest', p ∈ X0 := by rw [hX0]; k_offL
    have xt : ∀ p ∈ X0, p.1 ≠ 167 := by rw [hX0]; k_all
    have xa : ∀ p ∈ X0, p.1 ≠ am := by rw [hX0]; k_all
    have mkL : (L, oL) ∈ X0 := by rw [hX0]; k_clsL
    (repeat ((fail_if_success (with_reducible show wpAny _ _ (eval (Expr.Lambda _ _ _ _) _) _ _ _)); first | (k_unfold; (try dsimp only)) | walk1 | (dsimp only; walk1) | (leave1; try dsimp only)))
    with_reducible rename Fr _ _ _ _ => FA
    refine lam_make FA NB (List.forall_mem_cons.mpr ⟨a7, xt⟩) T C rfl SC.tab (fun p hp => .tail _ (stX p (SC.stS p hp))) rfl rfl rfl ?_
    intro f olam c' oc vs' t' ctv ps' ext2 h' tk' hol FB NC hcm hd hv hTab2 x1 x2 x3
    clear N6 NB
    k_steps
    refine ex1_1 (⟨_, rfl⟩ : ∃ b, b = (f, olam) :: (167, tabObj ps') :: (ext2 ++ X0)) ?_; intro Xl hXl
    have ND := news_sub NC (nl' := (am, om) :: Xl) (by
      rw [hXl]
      k_offL)
    have mX : ∀ p ∈ X0, p ∈ Xl := by rw [hXl]; exact fun p hp => .tail _ (.tail _ (List.mem_append_right _ hp))
    have mS := fun p hp => mX p (stX p hp)
    have mf : (f, olam) ∈ Xl := by rw [hXl]; exact .head _
    have mc : (c', oc) ∈ Xl := by
      rcases List.mem_append.mp hcm with h | h
      · rw [hXl]; exact .tail _ (.tail _ (List.mem_append_left _ h))
      · exact mS _ (SC.stS _ h)
    have mk4 : (L'+1+1+1+1, oT) ∈ Xl := mX _ (by rw [hX0]; k_clsL)
    have mk3 : (L'+1+1+1, oN) ∈ Xl := mX _ (by rw [hX0]; k_clsL)
    have mk2 : (L'+1+1, oR) ∈ Xl := mX _ (by rw [hX0]; k_clsL)
    have mk1 : (L'+1, oc1) ∈ Xl := mX _ (by rw [hX0]; k_clsL)
    have mL : (L, oL) ∈ Xl := mX _ mkL
    have mk0 : (L'+1, oc1) ∈ X0 := by rw [hX0]; k_clsL
    have mPt : ((167 : Addr), tabObj ps') ∈ Xl := by rw [hXl]; exact .tail _ (.head _)
    have mPe : ∀ p ∈ ext2, p ∈ Xl := by rw [hXl]; exact fun p hp => .tail _ (.tail _ (List.mem_append_left _ hp))
    have offX : ∀ p ∈ Xl, p.1 ≠ am := by
      rw [hXl]
      intro p hp
      refine mcons hp ?_ fun hp => ?_
      · exact Nat.ne_of_gt (x3 (am, om) (.tail _ (.head _)))
      refine mcons hp ?_ fun hp => ?_
      · exact Ne.symm a7
      rcases List.mem_append.mp hp with hp | hp
      · exact Nat.ne_of_gt (x1 p hp (am, om) (.tail _ (.head _)))
      · exact xa p hp
    clear NC
    refine ex1_1 (SC.made.buf) ?_; intro tbuf hbuf
    have hlen := SC.made.len
    refine at_field SC.f5 g2 ?_
    intro TF kF tF1 tF2 tF3 w1 mF
    dsimp only at mF
    refine ex1_1 (⟨_, rfl⟩ : ∃ b, b = bl.take at_.toNat ++ putL2 tl many.toNat rb ++ bl.drop (at_ + many).toNat) ?_; intro bl' hbl'
    refine code_none (led := (am, om) :: Xl) (P := fun led' => ∃ om' kvm', led' = (am, om') :: Xl ∧ om'.IsDictOf (PySem.strKind PySem.Challenge.rw_pq0169_01.row.prog w) kvm' ∧ MadeIs kvm' nmc size bl' rr) rfl (by (exact Nat.le_of_ble_eq_true rfl)) (by (exact Nat.le_of_ble_eq_true rfl)) FB T X ND (oc := .type "function") (.tail _ (hol ▸ mf)) ?_ ?_
    · intro A2 L2 oL2 s2 m2 Q2 E2 fi2 hh2 hd2 hu2 F2 N2 hoff2 cont
      refine lam_ok (P := fun led' => ∃ om' kvm', led' = (L', oL2) :: (am, om') :: Xl ∧ om'.IsDictOf (PySem.strKind PySem.Challenge.rw_pq0169_01.row.prog w) kvm' ∧ MadeIs kvm' nmc size bl' rr) hh2 hd2 hu2 F2 T N2 (.tail _ (.tail _ mf)) hol (.tail _ (.tail _ mc)) hd hv rfl rfl rfl rfl (by decide) ?_ ?_
      · intro L4 oL4 h4 tk4 Q4 E4 fi4 F4 N4 l4 l4' cont4
        have mk4' : (L'+1+1+1+1, oT) ∈ (L2, oL4) :: (L', oL2) :: (am, om) :: Xl := .tail _ (.tail _ (.tail _ mk4))
        have mk3' : (L'+1+1+1, oN) ∈ (L2, oL4) :: (L', oL2) :: (am, om) :: Xl := .tail _ (.tail _ (.tail _ mk3))
        have mk2' : (L'+1+1, oR) ∈ (L2, oL4) :: (L', oL2) :: (am, om) :: Xl := .tail _ (.tail _ (.tail _ mk2))
        have mk1' : (L'+1, oc1) ∈ (L2, oL4) :: (L', oL2) :: (am, om) :: Xl := .tail _ (.tail _ (.tail _ mk1))
        have hL2 : @Ne Nat L2 am := Ne.symm (N2 _ (.tail _ (.head _))).2.1
        have hL2' : @Ne Nat L' am := Ne.symm (hoff2 _ (.head _))
        k_steps
        refine setp_ok rfl (by (exact Nat.le_of_ble_eq_true rfl)) (by (exact Nat.le_of_ble_eq_true rfl)) F4 T X (news_sub N4 (nl' := (am, om) :: (L2, oL4) :: (L', oL2) :: Xl) (by ((repeat (first | exact List.forall_mem_nil _ | refine List.forall_mem_cons.mpr ⟨by k_mem, ?_⟩ | (intro p' hp'; k_mem)))))) (by k_all) (SC.W.sub fun p hp => .tail _ (.tail _ (mS p hp))) (.tail _ (.tail _ (mS _ SC.m4))) d5 lo5 w1 (.tail _ (.tail _ (mS _ mF))) (.tail _ (.tail _ (mS _ SC.m3))) d3 SC.vo SC.dm hbuf (by omega) SC1 (by omega) (by omega) (by omega) ?_
        intro h5 tk5 om' t5 F5 N5 hd5
        refine cont4 h5 _ ((L', oL2) :: (am, om') :: Xl) _ F5 (news_sub N5 (by ((repeat (first | exact List.forall_mem_nil _ | refine List.forall_mem_cons.mpr ⟨by k_mem, ?_⟩ | (intro p' hp'; k_mem)))))) ?_ ⟨om', _, rfl, hd5, SC.made.put_buf (by rw [setT_ts hat0 SC1 hat3, hbl'])⟩
        intro p hp
        refine mcons hp ?_ fun hp => ?_
        · exact (N2 _ (.head _)).2.1
        refine mcons hp ?_ fun hp => ?_
        · exact Ne.symm hL2
        · exact (N2 p (.tail _ (.tail _ hp))).2.1
      · intro h5 tk5 led' v5 F5 N5 N_12
        refine ex2_3 N_12 ?_; intro om' kvm' E_13 hd5 hm5
        try clear N_12
        subst E_13
        refine cont h5 tk5 ((am, om') :: Xl) v5 F5 N5 ?_ ⟨om', kvm', rfl, hd5, hm5⟩
        intro p hp
        refine mcons hp ?_ fun hp => ?_
        · exact hoff2 (am, om) (.head _)
        · exact hoff2 p (.tail _ hp)
    · intro h5 tk5 led' F5 N5 N_14
      refine ex2_3 N_14 ?_; intro om' kvm' E_15 hd5 hm5
      try clear N_14
      subst E_15
      k_steps
      refine hQ _ _ (turn + 1 + 1 + 1) t5' om' kvm' vsb' ps' ext2 bl' (back_fr F5 N5 (.tail _ mL) hoL hab) (back_news N5 fun p hp => ?_) up3 up3' hd5 hm5 ?_ (by rw [hbl']; exact code_lt hlc) (by rw [hbl']; exact a3) hTab2 (fun p hp q hq => ?_)
      · simp only [List.mem_cons, List.mem_append] at hp
        rcases hp with h | h | h | h | h | h | h
        · subst h; exact ⟨.tail _ (mX _ (by rw [hX0]; k_clsL)), hL1⟩
        · subst h; exact ⟨.tail _ (mX _ (by rw [hX0]; k_clsL)), hL2⟩
        · subst h; exact ⟨.tail _ mPt, hL3⟩
        · subst h; exact ⟨.head _, a9⟩
        · subst h; exact ⟨.tail _ (mX _ (by rw [hX0]; k_clsL)), a4⟩
        · exact ⟨.tail _ (mPe p h), Nat.ne_of_gt (x1 p h (L, oL) (.tail _ (.tail _ mkL)))⟩
        · exact ⟨.tail _ (mS _ h), r3 p h⟩
      · rw [hbl']
        simp only [List.length_append, List.length_take, List.length_drop, putL2_len]
        exact len_mid hat0 SC1 hat3
      · refine Nat.lt_trans (l9 q hq) (Nat.lt_trans (Nat.lt_succ_self _) (x1 p hp (L'+1, oc1) (.tail _ (.tail _ mk0))))
  case step =>
    intro i v us m' news h9 tk9 T2 tT o1 o2 N_16 hT2 F6 N6
    refine ex1_5 N_16 ?_; intro vsb' N_17 E_18 a1 a2 a3
    try clear N_16
    refine ex2_1 N_17 ?_; intro v1 v2 E_19
    try clear N_17
    subst E_19
    subst E_18
    change Fr G L' _ _ at F6
    change News G L' _ _ at N6
    simp only [List.length_cons] at a2
    have hwi : ws[i]? = some v := by
      have : (ws.drop i)[0]? = some v := by rw [← a1]; rfl
      simpa using this
    refine ex1_1 (gw.get i (at_ + (i : Int)) (by unfold rangeKs; rw [List.getElem?_map, List.getElem?_range (lt_sum a2)]; rfl)) ?_; intro tv hv
    rw [hwi] at hv
    cases hv
    have hle : (tl.take many.toNat).length ≤ many.toNat := List.length_take_le _ _
    refine ex1_1 (⟨_, rfl⟩ : ∃ b, b = (if rb = true then many.toNat - (tl.take many.toNat).length else 0 : Nat)) ?_; intro bg hbg
    have hsg : sgn tl many.toNat rb i = if bg ≤ i ∧ i < bg + (tl.take many.toNat).length then (tl.take many.toNat).getD (i - bg) 0 else 32 := by rw [hbg]; rfl
    have hkl : (TS (tl.take many.toNat)).length = (tl.take many.toNat).length := ts_len _
    have hkl6 : (TS (tl.take many.toNat)).length ≤ 6 := by rw [hkl]; exact Nat.le_trans (List.length_take_le' _ _) hll
    have hbgm : bg ≤ 3 := by
      rw [hbg]; split
      · exact sub_le3 SC2
      · decide
    rw [← hbg] at F6
    have hbk : Kept (bg = (if rb = true then many.toNat - (tl.take many.toNat).length else 0 : Nat)) := hbg
    clear hbg
    (repeat ((fail_if_success (with_reducible show wpAny _ _ (execs (_ :: _) _) _ _ _)); first | (k_unfold; (try dsimp only)) | walk1 | (dsimp only; walk1) | (leave1; try dsimp only)))
    refine wp_hide ?_
    intro Q_ hQ_
    (repeat ((fail_if_success (with_reducible show wpAny _ _ (eval (Expr.IfExp _ _ _ _) _) _ _ _)); first | (k_unfold; (try dsimp only)) | walk1 | (dsimp only; walk1) | (leave1; try dsimp only)))
    refine eval_join (fun v => ∃ t, v = .str (TS [sgn tl many.toNat rb i]) t) ?_ ?_
    · by_cases hc1 : bg ≤ i
      · have hc1i : (bg : Int) ≤ (i : Int) := Int.ofNat_le.mpr hc1
        by_cases hc2 : i < bg + (tl.take many.toNat).length
        · have hc2i : (i : Int) < (bg : Int) + ((TS (tl.take many.toNat)).length : Int) := by rw [hkl, ← Int.natCast_add]; exact Int.ofNat_lt.mpr hc2
          rw [if_pos ⟨hc1, hc2⟩] at hsg
          k_steps
          exact ⟨⟨_, congrArg (fun z => Value.str z _) ((item_ts hc1 (sub_lt' hc1 hc2)).trans (by rw [hsg]))⟩, ⟨_, rfl⟩⟩
        · have hc2i : ¬ ((i : Int) < (bg : Int) + ((TS (tl.take many.toNat)).length : Int)) := by rw [hkl, ← Int.natCast_add]; exact fun q => hc2 (Int.ofNat_lt.mp q)
          rw [if_neg (fun q => hc2 q.2)] at hsg
          k_steps
          exact ⟨⟨_, congrArg (fun z => Value.str z _) (blank_ts.trans (by rw [hsg]))⟩, ⟨_, rfl⟩⟩
      · have hc1i : ¬ ((bg : Int) ≤ (i : Int)) := fun q => hc1 (Int.ofNat_le.mp q)
        rw [if_neg (fun q => hc1 q.1)] at hsg
        k_steps
        exact ⟨⟨_, congrArg (fun z => Value.str z _) (blank_ts.trans (by rw [hsg]))⟩, ⟨_, rfl⟩⟩
    intro _ tk7 N_20
    refine ex1_1 N_20 ?_; intro t7 E_21
    try clear N_20
    subst E_21
    k_steps
    rename_i FQ NQ
    have hvl2 : vsb'.length = bl.length := by
      rw [a3.length]
      simp
      exact len_mid' hat0 hat3 a2
    have NR := news_sub NQ (nl' := (blA, listOf vsb'.toArray nb) :: (I2 + 1, o1) :: (I2, o2) :: base) (by ((repeat (first | exact List.forall_mem_nil _ | refine List.forall_mem_cons.mpr ⟨by k_mem, ?_⟩ | (intro p' hp'; k_mem)))))
    clear NQ
    have bI' : @Ne Nat I2 blA := Nat.ne_of_gt bI
    have bI'' : @Ne Nat (I2 + 1) blA := Nat.ne_of_gt (Nat.lt_succ_of_lt bI)
    refine list_set FQ NR (by k_all) (at_ge hat0) (at_lt hat3 a2 hvl2) (at_lt63 hat3 a2 hat4) ?_
    intro h10 F10 N10
    k_steps
    have hk2 : (at_ + (i : Int)).toNat = at_.toNat + i := tn_addn hat0
    rw [hk2] at N10
    refine hQ_ _ _ ?_
    refine in4_5 h10 _ _ ((blA, listOf (vsb'.set (at_.toNat + i) (.str (TS [sgn tl many.toNat rb i]) t7)).toArray nb) :: base) rfl F10 (news_sub N10 (by ((repeat (first | exact List.forall_mem_nil _ | refine List.forall_mem_cons.mpr ⟨by k_mem, ?_⟩ | (intro p' hp'; k_mem)))))) ?_ ?_
    · intro p hp
      refine mcons hp ?_ fun hp => ?_
      · exact ⟨Nat.ne_of_lt (Nat.lt_succ_of_lt bI), Nat.ne_of_lt bI⟩
      · exact ⟨Nat.ne_of_lt (Nat.lt_succ_of_lt (bI2 p hp)), Nat.ne_of_lt (bI2 p hp)⟩
    · refine in1_5 _ ⟨some (.int (i : Int) tT), some (.int (at_ + (i : Int)) tv), ?_⟩ rfl ?_ (eq_sum a2) (signs_set a3 (at_ltn hat0 hat3 a2))
      · funext y
        by_cases e1 : y = Str.ofString "at"
        · subst e1; rfl
        by_cases e2 : y = Str.ofString "place"
        · subst e2; rfl
        simp only [if_neg e1, if_neg e2]
        rw [show bg = (if rb = true then many.toNat - (tl.take many.toNat).length else 0 : Nat) from hbk]
      · have : (ws.drop i).tail = ws.drop (i + 1) := by simp
        rw [← this, ← a1]; rfl
end E_lawset
theorem lawset {w : World} {G : Heap} {L : Addr} {m : Str → Option Value} {p : Program} {loose : List Str} {mean : ExcName → Option Value} {mg mb : Str → Option Value} {E : Value → Shared → Prop} {s : Shared} {A : Around} {feed cells aw awd afi aop afl tw pl bu : Addr} {turn : Int} {tt : Tok} {vs : List Value} {ns : List Int} {nF nC : Nat} {ofl opl oo otw obu : Obj} {ps : Array Value} {kvf kvp kvt : List (Str × Value)} {kvo kvb : List (Int × Value)} {rest stt : List (Addr × Obj)} {Q : Value → Shared → Prop} : P_lawset w G L m p loose mean mg mb E s A feed cells aw awd afi aop afl tw pl bu turn tt vs ns nF nC ofl opl oo otw obu ps kvf kvp kvt kvo kvb rest stt Q := eps_all (Ψ := U_lawset) E_lawset.go (w, G, L, m, p, loose, mean, mg, mb, E, s, A, feed, cells, aw, awd, afi, aop, afl, tw, pl, bu, turn, tt, vs, ns, nF, nC, ofl, opl, oo, otw, obu, ps, kvf, kvp, kvt, kvo, kvb, rest, stt, Q)
section
variable {w : World} {G : Heap} {L : Addr} {m : Str → Option Value} {p : Program} {loose : List Str} {mean : ExcName → Option Value} {mg mb : Str → Option Value}
  {E : Value → Shared → Prop} {s : Shared} {A : Around}
end

section
variable {w : World} {G : Heap} {L : Addr} {m : Str → Option Value} {p : Program} {loose : List Str} {mean : ExcName → Option Value} {mg mb : Str → Option Value}
  {E : Value → Shared → Prop} {s : Shared} {A : Around}
/- _law_moved over a channel that is not open -/
theorem moved_bn {env₀ : Env} {feed cells aw awd afi aop afl tw bu : Addr} {c turn : Int} {ip : Bool} {tt tc : Tok} {vs : List Value} {ns : List Int} {nF nC : Nat} {oo otw obu : Obj} {ps : Array Value}
    {kvt : List (Str × Value)} {kvo kvb : List (Int × Value)} {rest stt : List (Addr × Obj)} {Q : Value → Shared → Prop}
  (hA : A.frames = some [env₀]) (hf₀ : env₀.frame = some L) (hk₀ : env₀.scope.kind ≠ .module)
  (hh : A.handled = none) (hdp : A.depth ≤ 500) (hu : A.units ≤ 500)
  (F : Fr G L s.heap m) (T : Top p loose mean mg mb G) (X : (hd.heap_1 w.params).In G) (C : CodeHd G 178 174)
  (N : News G L s.heap ((feed, listOf #[.ref cells, .int turn tt] nF) :: (cells, listOf vs.toArray nC) :: (174, tabObj ps) :: rest))
  (n1 : @Ne Nat cells feed) (n2 : @Ne Nat feed 174) (n3 : @Ne Nat cells 174) (off1 : ∀ p ∈ rest, p.1 ≠ feed) (off2 : ∀ p ∈ rest, p.1 ≠ 174)
  (hstt : ∀ p ∈ stt, p ∈ rest) (hi : IntsAre vs ns) (hvl : vs.length ≤ 100) (h0 : 0 ≤ turn) (h1 : turn ≤ 9000)
  (W : WorldAt rest aw awd afi aop afl) (m3 : (aop, oo) ∈ rest) (d3 : oo.IsDictOf (PySem.intKind PySem.Challenge.rw_pq0169_01.row.prog w) kvo) (lo3 : (aop == sysModules) = false) (v3 : valueAt kvo c = none)
  (mt : (tw, otw) ∈ rest) (dt : otw.IsDictOf (PySem.strKind PySem.Challenge.rw_pq0169_01.row.prog w) kvt) (vt3 : valueAt kvt (Str.ofString "buffers") = some (.ref bu))
  (mb' : (bu, obu) ∈ rest) (db : obu.IsDictOf (PySem.intKind PySem.Challenge.rw_pq0169_01.row.prog w) kvb) (lo7 : (bu == sysModules) = false) (vb : valueAt kvb c = none)
  (hTab : TabOk stt "_law_moved.<locals>.<lambda>" ps)
  (h : ∀ h' tk turn' tt' ps' ext, Fr G L h' m → News G L h' ((feed, listOf #[.ref cells, .int turn' tt'] nF) :: (cells, listOf vs.toArray nC) :: (174, tabObj ps') :: (ext ++ rest)) →
    turn ≤ turn' → turn' ≤ turn + 10 → TabOk (ext ++ stt) "_law_moved.<locals>.<lambda>" ps' →
    (∀ p ∈ ext, ∀ q ∈ (feed, listOf #[.ref cells, .int turn tt] nF) :: (cells, listOf vs.toArray nC) :: ((174 : Addr), tabObj ps) :: rest, @LT.lt Nat _ q.1 p.1) → Q (.bool true) { s with heap := h', toks := tk }) :
  wpAny (model PySem.Challenge.rw_pq0169_01.row.prog w) A (call (.ref 179) [.ref feed, .ref aw, .ref tw, .int c tc, .bool ip] []) Q E s := by
  refine wpAny_weakF (A' := { handled := none, depth := 500, frames := some [env₀], units := 500 }) ?_ hh hdp hu hA.symm rfl
  revert X
  k_fill
  intro X
  refine wpAny_call ?_
  have hab := F.above
  have hL1 : @Ne Nat feed L := (N _ (.head _)).2.1
  have hL2 : @Ne Nat cells L := (N _ (.tail _ (.head _))).2.1
  have hL3 : @Ne Nat 174 L := (N _ (.tail _ (.tail _ (.head _)))).2.1
  have hLr : ∀ p ∈ rest, p.1 ≠ L := fun p hp => (N p (.tail _ (.tail _ (.tail _ hp)))).2.1
  refine' enterC (binds := [(Str.ofString "feed", .ref feed), (Str.ofString "world", .ref aw), (Str.ofString "twin", .ref tw), (Str.ofString "channel", .int c tc), (Str.ofString "is_put", .bool ip)]) F X N (Top.nolimit T) ?k6 ?k7 ?k8 ?k9 ?kB ?kD ?_ ?c2 ?c3 ?c4
  case k8 => exact Nat.lt_of_le_of_lt (Nat.le_refl 500) (by decide)
  (((case k6 => k_is); (case k7 => k_is); (case k9 => first | exact BindsTo.of_eq rfl | exact binds_K (by k_in) rfl (by k_is) rfl rfl rfl); (case kB => (intro n'; ((repeat (first | exact List.forall_mem_nil _ | refine List.forall_mem_cons.mpr ⟨by first | exact .inl rfl | exact .inr ⟨rfl, rfl⟩, ?_⟩))))); (case kD => decide +kernel); (case c2 => exact rfl); (case c3 => exact rfl); (case c4 => exact rfl)))
  intro L' h₁ tk₁ oL cells' hoL F' N' Y l0
  clear F N
  refine ex4_5 (CellsAre.four Y) ?_; intro oc4 oc3 oc2 oc1 hE q4 q3 q2 q1
  subst hE
  clear Y
  have q1 : oc1.data = .cell (some (.ref aw)) := q1
  have q2 : oc2.data = .cell (some (.int c tc)) := q2
  have q3 : oc3.data = .cell (some (.bool ip)) := q3
  have q4 : oc4.data = .cell none := q4
  have lL : @LT.lt Nat _ L L' := l0 _ (.head _)
  have lF : @LT.lt Nat _ feed L' := l0 _ (.tail _ (.head _))
  have lC : @LT.lt Nat _ cells L' := l0 _ (.tail _ (.tail _ (.head _)))
  have lt : @LT.lt Nat _ 174 L' := l0 _ (.tail _ (.tail _ (.tail _ (.head _))))
  have lr : ∀ p ∈ rest, @LT.lt Nat _ p.1 L' := fun p hp => l0 _ (.tail _ (.tail _ (.tail _ (.tail _ hp))))
  have lr1 : ∀ p ∈ rest, p.1 ≠ L' + 1 := fun p hp => Nat.ne_of_lt (Nat.lt_succ_of_lt (lr p hp))
  have lr2 : ∀ p ∈ rest, p.1 ≠ L' + 1 + 1 := fun p hp => Nat.ne_of_lt (Nat.lt_succ_of_lt (Nat.lt_succ_of_lt (lr p hp)))
  have lr3 : ∀ p ∈ rest, p.1 ≠ L' + 1 + 1 + 1 := fun p hp => Nat.ne_of_lt (Nat.lt_succ_of_lt (Nat.lt_succ_of_lt (Nat.lt_succ_of_lt (lr p hp))))
  have lr4 : ∀ p ∈ rest, p.1 ≠ L' + 1 + 1 + 1 + 1 := fun p hp => Nat.ne_of_lt (Nat.lt_succ_of_lt (Nat.lt_succ_of_lt (Nat.lt_succ_of_lt (Nat.lt_succ_of_lt (lr p hp)))))
  have l9 : ∀ p ∈ (feed, listOf #[.ref cells, .int turn tt] nF) :: (cells, listOf vs.toArray nC) :: ((174 : Addr), tabObj ps) :: rest, @LT.lt Nat _ p.1 L' := fun p hp => l0 p (.tail _ hp)
  clear l0
  simp only [List.cons_append, List.nil_append] at N'
  dsimp only
  have N1 := news_sub N' (nl' := (feed, listOf #[.ref cells, .int turn tt] nF) :: (cells, listOf vs.toArray nC) :: (L'+1+1+1+1, oc4) :: (L'+1+1+1, oc3) :: (L'+1+1, oc2) :: (L'+1, oc1) :: (L, oL) :: (174, tabObj ps) :: rest) (by ((repeat (first | exact List.forall_mem_nil _ | refine List.forall_mem_cons.mpr ⟨by k_mem, ?_⟩ | (intro p' hp'; k_mem)))))
  clear N'
  k_steps
  ((refine' next_any rfl ?a_165 ?b_165 ?F_165 ?T_165 ?X_165 ?N_165 ?nd1_165 ?nd2_165 (by assumption) (by assumption) ?h0_165 ?h1_165 (by first | decide | (simp only [List.size_toArray]; first | assumption | omega)) (by first | decide | (simp only [List.size_toArray]; first | assumption | omega)) ?_; (case a_165 => (exact Nat.le_of_ble_eq_true rfl)); (case b_165 => (exact Nat.le_of_ble_eq_true rfl)); (case F_165 => k_asm); (case T_165 => k_asm); (case X_165 => k_asm); (case N_165 => k_asm); (case nd1_165 => first | assumption | k_ne); (case nd2_165 => first | assumption | k_all); (case h0_165 => first | assumption | omega); (case h1_165 => first | assumption | omega)))
  intro h2 tk2 r2 t2 t2' hr20 hr21 F2 N2
  have N3 := news_sub N2 (nl' := (L'+1+1+1+1, oc4) :: (L'+1+1+1, oc3) :: (L'+1+1, oc2) :: (L'+1, oc1) :: (L, oL) :: (feed, listOf #[.ref cells, .int (turn + 1) t2'] nF) :: (cells, listOf vs.toArray nC) :: (174, tabObj ps) :: rest) (by ((repeat (first | exact List.forall_mem_nil _ | refine List.forall_mem_cons.mpr ⟨by k_mem, ?_⟩ | (intro p' hp'; k_mem)))))
  clear N2
  have vb' : (valueAt kvb c).isSome = false := by rw [vb]; rfl
  (repeat ((fail_if_success (with_reducible show wpAny _ _ (eval (Expr.Lambda _ _ _ _) _) _ _ _)); first | (k_unfold; (try dsimp only)) | walk1 | (dsimp only; walk1) | (leave1; try dsimp only)))
  rename_i hN oN FN NN dN tkN
  refine ex1_1 (⟨_, rfl⟩ : ∃ b, b = (L'+1+1+1+1, oN) :: (L'+1+1+1, oc3) :: (L'+1+1, oc2) :: (L'+1, oc1) :: (feed, listOf #[.ref cells, .int (turn + 1) t2'] nF) :: (cells, listOf vs.toArray nC) :: rest) ?_; intro R0 hR0
  have NB := news_sub NN (nl' := (174, tabObj ps) :: (R0 ++ [(L, oL)])) (by
    rw [hR0]
    k_offL)
  have stR : ∀ p ∈ rest, p ∈ R0 := by rw [hR0]; exact fun p hp => .tail _ (.tail _ (.tail _ (.tail _ (.tail _ (.tail _ hp)))))
  have xt : ∀ p ∈ R0, p.1 ≠ 174 := by rw [hR0]; k_all
  have xL : ∀ p ∈ R0, p.1 ≠ L := by rw [hR0]; k_all
  refine lam_make FN NB (fun p hp => (List.mem_append.mp hp).elim (xt p) fun hp => by rw [List.mem_singleton.mp hp]; exact Ne.symm hL3) T C rfl hTab (fun p hp => List.mem_append_left _ (stR p (hstt p hp))) rfl rfl rfl ?_
  intro f olam c' oc vs' t' ctv ps' ext2 h' tk' hol FB NC hcm hd hv hTab2 x1 x2 x3
  clear NN NB
  k_steps
  refine ex1_1 (⟨_, rfl⟩ : ∃ b, b = (f, olam) :: (174, tabObj ps') :: (ext2 ++ R0)) ?_; intro main hmain
  have ND := news_sub NC (nl' := main ++ [(L, oL)]) (by
    rw [hmain]
    k_offL)
  have mR : ∀ p ∈ R0, p ∈ main := by rw [hmain]; exact fun p hp => .tail _ (.tail _ (List.mem_append_right _ hp))
  have mS := fun p hp => mR p (stR p hp)
  have mf : (f, olam) ∈ main := by rw [hmain]; exact .head _
  have mc : (c', oc) ∈ main := by
    rw [hmain]
    rcases List.mem_append.mp hcm with h | h
    · exact .tail _ (.tail _ (List.mem_append_left _ h))
    · exact .tail _ (.tail _ (List.mem_append_right _ (stR _ (hstt _ h))))
  have mk4 : (L'+1+1+1+1, oN) ∈ main := mR _ (by rw [hR0]; exact .head _)
  have mk3 : (L'+1+1+1, oc3) ∈ main := mR _ (by rw [hR0]; exact .tail _ (.head _))
  have mk2 : (L'+1+1, oc2) ∈ main := mR _ (by rw [hR0]; exact .tail _ (.tail _ (.head _)))
  have mk0 : (L'+1, oc1) ∈ R0 := by rw [hR0]; exact .tail _ (.tail _ (.tail _ (.head _)))
  have mk1 : (L'+1, oc1) ∈ main := mR _ mk0
  have hoffm : ∀ p ∈ main, ∀ q ∈ [(L, oL)], p.1 ≠ q.1 := by
    intro p hp q hq
    rw [List.mem_singleton.mp hq]
    rw [hmain] at hp
    refine mcons hp ?_ fun hp => ?_
    · exact Nat.ne_of_gt (x3 (L, oL) (.tail _ (List.mem_append_right _ (.head _))))
    refine mcons hp ?_ fun hp => ?_
    · exact hL3
    rcases List.mem_append.mp hp with hp | hp
    · exact Nat.ne_of_gt (x1 p hp (L, oL) (.tail _ (List.mem_append_right _ (.head _))))
    · exact xL p hp
  have dN' : oN.data = .cell (some (.int (1 + r2) _)) := dN
  refine code_some (frs := [(L, oL)]) (code := Str.ofString "BN") (Around.frames_deeper rfl) rfl (show ScopeKind.function ≠ ScopeKind.module by decide) ⟨hk₀, hf₀, hoL.1, trivial⟩ hoffm rfl (by (exact Nat.le_of_ble_eq_true rfl)) (by (exact Nat.le_of_ble_eq_true rfl)) FB T X ND (oc := .type "function") (List.mem_append_left _ (hol ▸ mf)) ?_ ?_
  · intro A2 env2 L2 oL2 s2 m2 Q2 E2 hA2 hf2 hk2 fi2 hh2 hd2 hu2 F2 N2 hoff2 Fs2 cont
    refine lam_raise (code := Str.ofString "BN") hA2 hf2 hk2 Fs2 hoff2 hh2 hd2 hu2 F2 T N2 mf hol mc hd hv rfl rfl rfl rfl (by decide) ?_ cont
    intro A4 env4 L4 oL4 h4 tk4 Q4 E4 hA4 hf4 hk4 hh4 hd4 hu4 henv fi4 F4 N4 hoff4 Fs4 hl4 cont4
    subst henv
    have mk4' := List.mem_append_left ((L2, oL4) :: (L', oL2) :: [(L, oL)]) mk4
    have mk3' := List.mem_append_left ((L2, oL4) :: (L', oL2) :: [(L, oL)]) mk3
    have mk2' := List.mem_append_left ((L2, oL4) :: (L', oL2) :: [(L, oL)]) mk2
    have mk1' := List.mem_append_left ((L2, oL4) :: (L', oL2) :: [(L, oL)]) mk1
    have W4 := W.sub fun p hp => List.mem_append_left ((L2, oL4) :: (L', oL2) :: [(L, oL)]) (mS p hp)
    have M4 := List.mem_append_left ((L2, oL4) :: (L', oL2) :: [(L, oL)]) (mS _ m3)
    cases ip
    · k_steps
      refine get_bn hA4 hf4 hk4 Fs4 hoff4 hh4 (Nat.le_trans hd4 (by (exact Nat.le_of_ble_eq_true rfl))) (Nat.le_trans hu4 (by (exact Nat.le_of_ble_eq_true rfl))) F4 T X N4 W4 M4 d3 lo3 v3 ?_
      intro h5 tk5 e5 dx5 frs5 SU5 Fs5 F5 N5 l5 l6 Fl5
      exact cont4 h5 _ e5 dx5 frs5 SU5 Fs5 F5 N5 l5 l6 Fl5
    · k_steps
      refine put_bn hA4 hf4 hk4 Fs4 hoff4 hh4 (Nat.le_trans hd4 (by (exact Nat.le_of_ble_eq_true rfl))) (Nat.le_trans hu4 (by (exact Nat.le_of_ble_eq_true rfl))) F4 T X N4 W4 M4 d3 lo3 v3 ?_
      intro h5 tk5 e5 dx5 frs5 SU5 Fs5 F5 N5 l5 l6 Fl5
      exact cont4 h5 _ e5 dx5 frs5 SU5 Fs5 F5 N5 l5 l6 Fl5
  · intro h5 tk5 t5 frs5 SU5 Fs5 F5 N5
    cases frs5 with
    | nil => exact False.elim SU5
    | cons q frs6 =>
    cases frs6 with
    | cons q' r' => exact False.elim SU5.2.2
    | nil =>
    obtain ⟨y1, ⟨sl, y2⟩, -⟩ := SU5
    obtain ⟨qa, qo⟩ := q
    try clear q
    dsimp only at y1 y2
    have y1 := y1.symm
    subst y1
    subst y2
    have mq : (L, { oL with slots := sl }) ∈ main ++ [(L, { oL with slots := sl })] := List.mem_append_right _ (.head _)
    k_steps
    refine h _ _ (turn + 1) t2' ps' ext2 (back_fr F5 N5 mq (hoL.slots sl) hab) (back_news N5 fun p hp => ?_) (by omega) (by omega) hTab2 (fun p hp q hq => ?_)
    · have hpm : p ∈ main := by
        rw [hmain, hR0]
        revert p hp
        k_offL
      exact ⟨List.mem_append_left _ hpm, hoffm p hpm _ (List.mem_singleton.mpr rfl)⟩
    · exact Nat.lt_trans (l9 q hq) (Nat.lt_trans (Nat.lt_succ_self _) (x1 p hp (L'+1, oc1) (.tail _ (List.mem_append_left _ mk0))))
end

/- a list of record lists of the ledger -/
def RecsIn (led : List (Addr × Obj)) : List Value → List (List Nat) → Prop
  | [], [] => True
  | v :: vs, r :: rs => (∃ R n us, v = .ref R ∧ (R, listOf us.toArray n) ∈ led ∧ SignsAre us r) ∧ RecsIn led vs rs
  | _, _ => False
theorem RecsIn.sub {led led' : List (Addr × Obj)} (h : ∀ p ∈ led, p ∈ led') : ∀ {vs : List Value} {rs : List (List Nat)}, RecsIn led vs rs → RecsIn led' vs rs
  | [], [], _ => trivial
  | _ :: _, _ :: _, ⟨⟨R, n, us, e, m, S⟩, r⟩ => ⟨⟨R, n, us, e, h _ m, S⟩, RecsIn.sub h r⟩
  | [], _ :: _, x => x.elim
  | _ :: _, [], x => x.elim
theorem RecsIn.length {led : List (Addr × Obj)} : ∀ {vs : List Value} {rs : List (List Nat)}, RecsIn led vs rs → vs.length = rs.length
  | [], [], _ => rfl
  | _ :: _, _ :: _, ⟨_, r⟩ => congrArg (· + 1) r.length
  | [], _ :: _, x => x.elim
  | _ :: _, [], x => x.elim
theorem RecsIn.snoc {led : List (Addr × Obj)} {R : Addr} {n : Nat} {us : List Value} {r : List Nat} (hm : (R, listOf us.toArray n) ∈ led) (S : SignsAre us r) : ∀ {vs : List Value} {rs : List (List Nat)}, RecsIn led vs rs → RecsIn led (vs ++ [.ref R]) (rs ++ [r])
  | [], [], _ => ⟨⟨R, n, us, rfl, hm, S⟩, trivial⟩
  | _ :: _, _ :: _, ⟨a, x⟩ => ⟨a, RecsIn.snoc hm S x⟩
  | [], _ :: _, x => x.elim
  | _ :: _, [], x => x.elim
theorem RecsIn.set {led : List (Addr × Obj)} {R : Addr} {n : Nat} {us : List Value} {r : List Nat} (hm : (R, listOf us.toArray n) ∈ led) (S : SignsAre us r) : ∀ {vs : List Value} {rs : List (List Nat)}, RecsIn led vs rs → ∀ j : Nat, RecsIn led (vs.set j (.ref R)) (rs.set j r)
  | [], [], _, _ => trivial
  | _ :: _, _ :: _, ⟨_, x⟩, 0 => ⟨⟨R, n, us, rfl, hm, S⟩, x⟩
  | _ :: _, _ :: _, ⟨a, x⟩, j + 1 => ⟨a, RecsIn.set hm S x j⟩
  | [], _ :: _, x, _ => x.elim
  | _ :: _, [], x, _ => x.elim
theorem RecsIn.at {led : List (Addr × Obj)} : ∀ {vs : List Value} {rs : List (List Nat)}, RecsIn led vs rs → ∀ {i : Nat} {r : List Nat}, rs[i]? = some r → ∃ R n us, vs[i]? = some (.ref R) ∧ (R, listOf us.toArray n) ∈ led ∧ SignsAre us r
  | [], [], _, i, r, e => by simp at e
  | w :: vs, p :: ps, ⟨⟨R, n, us, e', m, S⟩, x⟩, 0, r, e => by
    have : p = r := by simpa using e
    subst this e'
    exact in3_3 R n us rfl m S
  | w :: vs, p :: ps, ⟨_, x⟩, i + 1, r, e => by
    refine ex3_3 (RecsIn.at x (i := i) (r := r) (by simpa using e)) ?_; intro R n us a b c
    exact in3_3 R n us (by simpa using a) b c
  | [], _ :: _, x, _, _, _ => x.elim
  | _ :: _, [], x, _, _, _ => x.elim
def padN (rs : List (List Nat)) (n size : Nat) : List (List Nat) := rs ++ List.replicate (n - rs.length) (List.replicate size 0)
def putRec (rs : List (List Nat)) (n size : Nat) (b : List Nat) : List (List Nat) := (padN rs n size).set (n - 1) b
theorem flat_len {size : Nat} : ∀ {rs : List (List Nat)}, (∀ r ∈ rs, r.length = size) → rs.flatten.length = rs.length * size
  | [], _ => by simp
  | r :: rs, h => by
    rw [List.flatten_cons, List.length_append, h r (.head _), flat_len fun x hx => h x (.tail _ hx), List.length_cons, Nat.succ_mul]; omega
theorem flat_take {size : Nat} : ∀ {rs : List (List Nat)}, (∀ r ∈ rs, r.length = size) → ∀ k, rs.flatten.take (k * size) = (rs.take k).flatten
  | [], _, k => by simp
  | r :: rs, h, 0 => by simp
  | r :: rs, h, k + 1 => by
    have e : r.length = size := h r (.head _)
    rw [List.flatten_cons, List.take_succ_cons, List.flatten_cons, ← flat_take (fun x hx => h x (.tail _ hx)) k, Nat.succ_mul, Nat.add_comm, ← e, List.take_append, List.take_of_length_le (Nat.le_add_right _ _)]
    simp
theorem flat_drop {size : Nat} : ∀ {rs : List (List Nat)}, (∀ r ∈ rs, r.length = size) → ∀ k, rs.flatten.drop (k * size) = (rs.drop k).flatten
  | [], _, k => by simp
  | r :: rs, h, 0 => by simp
  | r :: rs, h, k + 1 => by
    have e : r.length = size := h r (.head _)
    rw [List.flatten_cons, List.drop_succ_cons, ← flat_drop (fun x hx => h x (.tail _ hx)) k, Nat.succ_mul, Nat.add_comm, ← e, List.drop_append]
    simp
theorem flat_zeros (k size : Nat) : (List.replicate k (List.replicate size 0)).flatten = List.replicate (k * size) 0 := by
  induction k with
  | zero => simp
  | succ k ih => rw [List.replicate_succ, List.flatten_cons, ih, Nat.succ_mul, Nat.add_comm, List.replicate_append_replicate]
theorem put_cat {rs : List (List Nat)} {n size : Nat} {b : List Nat} (h : ∀ r ∈ rs, r.length = size) (hb : b.length = size) (hn : 1 ≤ n) : putFile rs.flatten b ((n - 1) * size) size = (putRec rs n size b).flatten := by
  have H_1 : ∃ k, n = k + 1 := ⟨n - 1, by omega⟩
  refine ex1_1 H_1 ?_; intro k E_2
  try clear H_1
  subst E_2
  unfold putFile putRec padN
  rw [flat_len h, Nat.add_sub_cancel]
  have e : k * size + size = (k + 1) * size := by rw [Nat.succ_mul]
  by_cases hk : k < rs.length
  · have h0 : k * size - rs.length * size = 0 := Nat.sub_eq_zero_of_le (Nat.mul_le_mul_right _ (Nat.le_of_lt hk))
    have h1 : k + 1 - rs.length = 0 := Nat.sub_eq_zero_of_le hk
    rw [h0, h1, List.replicate_zero, List.replicate_zero, List.append_nil, List.append_nil, e, flat_take h, flat_drop h, List.set_eq_take_append_cons_drop, if_pos hk]
    simp
  · have hz : rs.flatten ++ List.replicate (k * size - rs.length * size) 0 = (rs ++ List.replicate (k - rs.length) (List.replicate size 0)).flatten := by
      rw [List.flatten_append, flat_zeros, Nat.sub_mul]
    have ha : ∀ r ∈ rs ++ List.replicate (k - rs.length) (List.replicate size 0), r.length = size := by
      intro r hr
      rcases List.mem_append.mp hr with hr | hr
      · exact h r hr
      · rw [List.eq_of_mem_replicate hr]; simp
    have hl : (rs ++ List.replicate (k - rs.length) (List.replicate size 0)).length = k := by rw [List.length_append, List.length_replicate]; exact Nat.add_sub_of_le (Nat.le_of_not_lt hk)
    rw [hz, e, flat_take ha, flat_drop ha, List.take_of_length_le (Nat.le_of_eq hl), List.drop_eq_nil_of_le (Nat.le_succ_of_le (Nat.le_of_eq hl))]
    have h2 : rs ++ List.replicate (k + 1 - rs.length) (List.replicate size 0) = (rs ++ List.replicate (k - rs.length) (List.replicate size 0)) ++ [List.replicate size 0] := by
      rw [show k + 1 - rs.length = (k - rs.length) + 1 from Nat.succ_sub (Nat.le_of_not_lt hk), List.replicate_succ', List.append_assoc]
    rw [h2, List.set_append_right _ _ (Nat.le_of_eq hl), hl, Nat.sub_self]
    simp
theorem get_cat {rs : List (List Nat)} {k size : Nat} {r : List Nat} (h : ∀ r ∈ rs, r.length = size) (hr : rs[k]? = some r) : (((rs.flatten.drop (k * size)).take size) ++ List.replicate size 0).take size = r := by
  have hk : k < rs.length := (List.getElem?_eq_some_iff.mp hr).1
  have hl : r.length = size := h r (List.mem_of_getElem? hr)
  have he : rs[k] = r := (List.getElem?_eq_some_iff.mp hr).2
  rw [flat_drop h, List.drop_eq_getElem_cons hk, List.flatten_cons, he]
  rw [← hl, List.take_append_of_le_length (by simp), List.take_append_of_le_length (by simp)]
  simp
theorem putRec_len {rs : List (List Nat)} {n size : Nat} {b : List Nat} (h : ∀ r ∈ rs, r.length = size) (hb : b.length = size) : ∀ r ∈ putRec rs n size b, r.length = size := by
  intro r hr
  rcases List.mem_or_eq_of_mem_set hr with hr | rfl
  · rcases List.mem_append.mp hr with hr | hr
    · exact h r hr
    · rw [List.eq_of_mem_replicate hr]; simp
  · exact hb
theorem putRec_length {rs : List (List Nat)} {n size : Nat} {b : List Nat} : (putRec rs n size b).length = max rs.length n := by
  unfold putRec padN; simp; omega
theorem padN_snoc {rs : List (List Nat)} {n size : Nat} (h : rs.length < n) : padN (rs ++ [List.replicate size 0]) n size = padN rs n size := by
  unfold padN
  rw [List.length_append, List.length_singleton, show n - rs.length = (n - (rs.length + 1)) + 1 by omega, List.replicate_succ, List.append_assoc]
  rfl

theorem signs_zeros {t : Tok} : ∀ k : Nat, SignsAre (List.replicate k (.str (Str.ofString "\x00") t)) (List.replicate k 0)
  | 0 => .nil
  | k + 1 => .cons _ _ (signs_zeros k)
local macro_rules | `(tactic| walk_at "call type:list") => `(tactic| (k_here; (with_reducible show wpAny _ _ (call (Value.type _) [Value.ref _]) _ _ _); (refine list_copyK (by k_asm) (by k_asm) (by exact News.isList (by k_asm) (by k_mem)) ?_ (by walk_at "m size")); intro D' c' h' F' N' l1; (try k_lt l1); (try k_sweep)))



section
variable {w : World} {G : Heap} {L : Addr} {m : Str → Option Value} {p : Program} {loose : List Str} {mean : ExcName → Option Value} {mg mb : Str → Option Value}
  {E : Value → Shared → Prop} {s : Shared} {A : Around}
end
def P_moved_put (w : World) (G : Heap) (L : Addr) (m : Str → Option Value) (p : Program) (loose : List Str) (mean : ExcName → Option Value) (mg mb : Str → Option Value) (E : Value → Shared → Prop) (s : Shared) (A : Around) (feed cells aw awd afi aop afl tw bu sz rc am rl blA : Addr) (c turn rec0 : Int) (nm : Str) (bl : List Nat) (rs : List (List Nat)) (tt tc ts tf : Tok) (vs rvs vsb : List Value) (ns : List Int) (nF nC nr nb : Nat) (oo otw obu osz orc om ofi : Obj) (ps : Array Value) (kvt kvm kvfi : List (Str × Value)) (kvo kvb kvs kvr : List (Int × Value)) (rest stt : List (Addr × Obj)) (Q : Value → Shared → Prop) : Prop := ∀ {size : Int} (hh : A.handled = none) (hdp : A.depth ≤ 500) (hu : A.units ≤ 500) (F : Fr G L s.heap m) (T : Top p loose mean mg mb G) (X : (hd.heap_1 w.params).In G) (C : CodeHd G 178 174) (N : News G L s.heap ((feed, listOf #[.ref cells, .int turn tt] nF) :: (cells, listOf vs.toArray nC) :: (afi, ofi) :: (am, om) :: (rl, listOf rvs.toArray nr) :: (174, tabObj ps) :: rest)) (hnd : @List.Nodup Nat [feed, cells, afi, am, rl, 174]) (hoff : ∀ p ∈ rest, ¬ @Membership.mem Nat (List Nat) _ [feed, afi, am, rl, 174] p.1) (hstt : ∀ p ∈ stt, p ∈ rest) (hi : IntsAre vs ns) (hvl : vs.length ≤ 100) (h0 : 0 ≤ turn) (h1 : turn ≤ 9000) (W : WorldAt rest aw awd afi aop afl) (m3 : (aop, oo) ∈ rest) (d3 : oo.IsDictOf (PySem.intKind PySem.Challenge.rw_pq0169_01.row.prog w) kvo) (lo3 : (aop == sysModules) = false) (v3 : valueAt kvo c = some (.ref am)) (dm : om.IsDictOf (PySem.strKind PySem.Challenge.rw_pq0169_01.row.prog w) kvm) (M : MadeIs kvm nm size bl rec0) (d5 : ofi.IsDictOf (PySem.strKind PySem.Challenge.rw_pq0169_01.row.prog w) kvfi) (v5 : valueAt kvfi nm = some (.str (TS rs.flatten) tf)) (z5 : kvfi.length ≤ 10) (mt : (tw, otw) ∈ rest) (dt : otw.IsDictOf (PySem.strKind PySem.Challenge.rw_pq0169_01.row.prog w) kvt) (vt2 : valueAt kvt (Str.ofString "sizes") = some (.ref sz)) (vt3 : valueAt kvt (Str.ofString "buffers") = some (.ref bu)) (vt4 : valueAt kvt (Str.ofString "records") = some (.ref rc)) (ms : (sz, osz) ∈ rest) (ds : osz.IsDictOf (PySem.intKind PySem.Challenge.rw_pq0169_01.row.prog w) kvs) (vs1 : valueAt kvs c = some (.int size ts)) (mb' : (bu, obu) ∈ rest) (db : obu.IsDictOf (PySem.intKind PySem.Challenge.rw_pq0169_01.row.prog w) kvb) (lo7 : (bu == sysModules) = false) (vb : valueAt kvb c = some (.ref blA)) (mbl : (blA, listOf vsb.toArray nb) ∈ rest) (Sb : SignsAre vsb bl) (zb : bl.length = size.toNat) (mr : (rc, orc) ∈ rest) (dr : orc.IsDictOf (PySem.intKind PySem.Challenge.rw_pq0169_01.row.prog w) kvr) (vr : valueAt kvr c = some (.ref rl)) (R : RecsIn stt rvs rs) (zr : ∀ r ∈ rs, r.length = size.toNat) (zr3 : rs.length ≤ 3) (hsz : size = 4 ∨ size = 6) (hTab : TabOk stt "_law_moved.<locals>.<lambda>" ps) (h : ∀ h' tk turn' tt' om' kvm' ofi' t' rvs' nr' ps' ext n, Fr G L h' m → News G L h' ((feed, listOf #[.ref cells, .int turn' tt'] nF) :: (cells, listOf vs.toArray nC) :: (afi, ofi') :: (am, om') :: (rl, listOf rvs'.toArray nr') :: (174, tabObj ps') :: (ext ++ rest)) →
    turn ≤ turn' → turn' ≤ turn + 10 → om'.IsDictOf (PySem.strKind PySem.Challenge.rw_pq0169_01.row.prog w) kvm' → MadeIs kvm' nm size bl (n : Nat) → 1 ≤ n → n ≤ 3 →
    ofi'.IsDictOf (PySem.strKind PySem.Challenge.rw_pq0169_01.row.prog w) (stored kvfi nm (.str (TS (putRec rs n size.toNat bl).flatten) t')) → RecsIn (ext ++ stt) rvs' (putRec rs n size.toNat bl) → TabOk (ext ++ stt) "_law_moved.<locals>.<lambda>" ps' →
    (∀ p ∈ ext, ∀ q ∈ (feed, listOf #[.ref cells, .int turn tt] nF) :: (cells, listOf vs.toArray nC) :: (afi, ofi) :: (am, om) :: (rl, listOf rvs.toArray nr) :: ((174 : Addr), tabObj ps) :: rest, @LT.lt Nat _ q.1 p.1) → Q (.bool true) { s with heap := h', toks := tk }), wpAny (model PySem.Challenge.rw_pq0169_01.row.prog w) A (call (.ref 179) [.ref feed, .ref aw, .ref tw, .int c tc, .bool true] []) Q E s
def U_moved_put (c : (World) × (Heap) × (Addr) × (Str → Option Value) × (Program) × (List Str) × (ExcName → Option Value) × (Str → Option Value) × (Str → Option Value) × (Value → Shared → Prop) × (Shared) × (Around) × (Addr) × (Addr) × (Addr) × (Addr) × (Addr) × (Addr) × (Addr) × (Addr) × (Addr) × (Addr) × (Addr) × (Addr) × (Addr) × (Addr) × (Int) × (Int) × (Int) × (Str) × (List Nat) × (List (List Nat)) × (Tok) × (Tok) × (Tok) × (Tok) × (List Value) × (List Value) × (List Value) × (List Int) × (Nat) × (Nat) × (Nat) × (Nat) × (Obj) × (Obj) × (Obj) × (Obj) × (Obj) × (Obj) × (Obj) × (Array Value) × (List (Str × Value)) × (List (Str × Value)) × (List (Str × Value)) × (List (Int × Value)) × (List (Int × Value)) × (List (Int × Value)) × (List (Int × Value)) × (List (Addr × Obj)) × (List (Addr × Obj)) × (Value → Shared → Prop)) : Prop := P_moved_put c.1 c.2.1 c.2.2.1 c.2.2.2.1 c.2.2.2.2.1 c.2.2.2.2.2.1 c.2.2.2.2.2.2.1 c.2.2.2.2.2.2.2.1 c.2.2.2.2.2.2.2.2.1 c.2.2.2.2.2.2.2.2.2.1 c.2.2.2.2.2.2.2.2.2.2.1 c.2.2.2.2.2.2.2.2.2.2.2.1 c.2.2.2.2.2.2.2.2.2.2.2.2.1 c.2.2.2.2.2.2.2.2.2.2.2.2.2.1 c.2.2.2.2.2.2.2.2.2.2.2.2.2.2.1 c.2.2.2.2.2.2.2.2.2.2.2.2.2.2.2.1 c.2.2.2.2.2.2.2.2.2.2.2.2.2.2.2.2.1 c.2.2.2.2.2.2.2.2.2.2.2.2.2.2.2.2.2.1 c.2.2.2.2.2.2.2.2.2.2.2.2.2.2.2.2.2.2.1 c.2.2.2.2.2.2.2.2.2.2.2.2.2.2.2.2.2.2.2.1 c.2.2.2.2.2.2.2.2.2.2.2.2.2.2.2.2.2.2.2.2.1 c.2.2.2.2.2.2.2.2.2.2.2.2.2.2.2.2.2.2.2.2.2.1 c.2.2.2.2.2.2.2.2.2.2.2.2.2.2.2.2.2.2.2.2.2.2.1 c.2.2.2.2.2.2.2.2.2.2.2.2.2.2.2.2.2.2.2.2.2.2.2.1 c.2.2.2.2.2.2.2.2.2.2.2.2.2.2.2.2.2.2.2.2.2.2.2.2.1 c.2.2.2.2.2.2.2.2.2.2.2.2.2.2.2.2.2.2.2.2.2.2.2.2.2.1 c.2.2.2.2.2.2.2.2.2.2.2.2.2.2.2.2.2.2.2.2.2.2.2.2.2.2.1 c.2.2.2.2.2.2.2.2.2.2.2.2.2.2.2.2.2.2.2.2.2.2.2.2.2.2.2.1 c.2.2.2.2.2.2.2.2.2.2.2.2.2.2.2.2.2.2.2.2.2.2.2.2.2.2.2.2.1 c.2.2.2.2.2.2.2.2.2.2.2.2.2.2.2.2.2.2.2.2.2.2.2.2.2.2.2.2.2.1 c.2.2.2.2.2.2.2.2.2.2.2.2.2.2.2.2.2.2.2.2.2.2.2.2.2.2.2.2.2.2.1 c.2.2.2.2.2.2.2.2.2.2.2.2.2.2.2.2.2.2.2.2.2.2.2.2.2.2.2.2.2.2.2.1 c.2.2.2.2.2.2.2.2.2.2.2.2.2.2.2.2.2.2.2.2.2.2.2.2.2.2.2.2.2.2.2.2.1 c.2.2.2.2.2.2.2.2.2.2.2.2.2.2.2.2.2.2.2.2.2.2.2.2.2.2.2.2.2.2.2.2.2.1 c.2.2.2.2.2.2.2.2.2.2.2.2.2.2.2.2.2.2.2.2.2.2.2.2.2.2.2.2.2.2.2.2.2.2.1 c.2.2.2.2.2.2.2.2.2.2.2.2.2.2.2.2.2.2.2.2.2.2.2.2.2.2.2.2.2.2.2.2.2.2.2.1 c.2.2.2.2.2.2.2.2.2.2.2.2.2.2.2.2.2.2.2.2.2.2.2.2.2.2.2.2.2.2.2.2.2.2.2.2.1 c.2.2.2.2.2.2.2.2.2.2.2.2.2.2.2.2.2.2.2.2.2.2.2.2.2.2.2.2.2.2.2.2.2.2.2.2.2.1 c.2.2.2.2.2.2.2.2.2.2.2.2.2.2.2.2.2.2.2.2.2.2.2.2.2.2.2.2.2.2.2.2.2.2.2.2.2.2.1 c.2.2.2.2.2.2.2.2.2.2.2.2.2.2.2.2.2.2.2.2.2.2.2.2.2.2.2.2.2.2.2.2.2.2.2.2.2.2.2.1 c.2.2.2.2.2.2.2.2.2.2.2.2.2.2.2.2.2.2.2.2.2.2.2.2.2.2.2.2.2.2.2.2.2.2.2.2.2.2.2.2.1 c.2.2.2.2.2.2.2.2.2.2.2.2.2.2.2.2.2.2.2.2.2.2.2.2.2.2.2.2.2.2.2.2.2.2.2.2.2.2.2.2.2.1 c.2.2.2.2.2.2.2.2.2.2.2.2.2.2.2.2.2.2.2.2.2.2.2.2.2.2.2.2.2.2.2.2.2.2.2.2.2.2.2.2.2.2.1 c.2.2.2.2.2.2.2.2.2.2.2.2.2.2.2.2.2.2.2.2.2.2.2.2.2.2.2.2.2.2.2.2.2.2.2.2.2.2.2.2.2.2.2.1 c.2.2.2.2.2.2.2.2.2.2.2.2.2.2.2.2.2.2.2.2.2.2.2.2.2.2.2.2.2.2.2.2.2.2.2.2.2.2.2.2.2.2.2.2.1 c.2.2.2.2.2.2.2.2.2.2.2.2.2.2.2.2.2.2.2.2.2.2.2.2.2.2.2.2.2.2.2.2.2.2.2.2.2.2.2.2.2.2.2.2.2.1 c.2.2.2.2.2.2.2.2.2.2.2.2.2.2.2.2.2.2.2.2.2.2.2.2.2.2.2.2.2.2.2.2.2.2.2.2.2.2.2.2.2.2.2.2.2.2.1 c.2.2.2.2.2.2.2.2.2.2.2.2.2.2.2.2.2.2.2.2.2.2.2.2.2.2.2.2.2.2.2.2.2.2.2.2.2.2.2.2.2.2.2.2.2.2.2.1 c.2.2.2.2.2.2.2.2.2.2.2.2.2.2.2.2.2.2.2.2.2.2.2.2.2.2.2.2.2.2.2.2.2.2.2.2.2.2.2.2.2.2.2.2.2.2.2.2.1 c.2.2.2.2.2.2.2.2.2.2.2.2.2.2.2.2.2.2.2.2.2.2.2.2.2.2.2.2.2.2.2.2.2.2.2.2.2.2.2.2.2.2.2.2.2.2.2.2.2.1 c.2.2.2.2.2.2.2.2.2.2.2.2.2.2.2.2.2.2.2.2.2.2.2.2.2.2.2.2.2.2.2.2.2.2.2.2.2.2.2.2.2.2.2.2.2.2.2.2.2.2.1 c.2.2.2.2.2.2.2.2.2.2.2.2.2.2.2.2.2.2.2.2.2.2.2.2.2.2.2.2.2.2.2.2.2.2.2.2.2.2.2.2.2.2.2.2.2.2.2.2.2.2.2.1 c.2.2.2.2.2.2.2.2.2.2.2.2.2.2.2.2.2.2.2.2.2.2.2.2.2.2.2.2.2.2.2.2.2.2.2.2.2.2.2.2.2.2.2.2.2.2.2.2.2.2.2.2.1 c.2.2.2.2.2.2.2.2.2.2.2.2.2.2.2.2.2.2.2.2.2.2.2.2.2.2.2.2.2.2.2.2.2.2.2.2.2.2.2.2.2.2.2.2.2.2.2.2.2.2.2.2.2.1 c.2.2.2.2.2.2.2.2.2.2.2.2.2.2.2.2.2.2.2.2.2.2.2.2.2.2.2.2.2.2.2.2.2.2.2.2.2.2.2.2.2.2.2.2.2.2.2.2.2.2.2.2.2.2.1 c.2.2.2.2.2.2.2.2.2.2.2.2.2.2.2.2.2.2.2.2.2.2.2.2.2.2.2.2.2.2.2.2.2.2.2.2.2.2.2.2.2.2.2.2.2.2.2.2.2.2.2.2.2.2.2.1 c.2.2.2.2.2.2.2.2.2.2.2.2.2.2.2.2.2.2.2.2.2.2.2.2.2.2.2.2.2.2.2.2.2.2.2.2.2.2.2.2.2.2.2.2.2.2.2.2.2.2.2.2.2.2.2.2.1 c.2.2.2.2.2.2.2.2.2.2.2.2.2.2.2.2.2.2.2.2.2.2.2.2.2.2.2.2.2.2.2.2.2.2.2.2.2.2.2.2.2.2.2.2.2.2.2.2.2.2.2.2.2.2.2.2.2.1 c.2.2.2.2.2.2.2.2.2.2.2.2.2.2.2.2.2.2.2.2.2.2.2.2.2.2.2.2.2.2.2.2.2.2.2.2.2.2.2.2.2.2.2.2.2.2.2.2.2.2.2.2.2.2.2.2.2.2.1 c.2.2.2.2.2.2.2.2.2.2.2.2.2.2.2.2.2.2.2.2.2.2.2.2.2.2.2.2.2.2.2.2.2.2.2.2.2.2.2.2.2.2.2.2.2.2.2.2.2.2.2.2.2.2.2.2.2.2.2.1 c.2.2.2.2.2.2.2.2.2.2.2.2.2.2.2.2.2.2.2.2.2.2.2.2.2.2.2.2.2.2.2.2.2.2.2.2.2.2.2.2.2.2.2.2.2.2.2.2.2.2.2.2.2.2.2.2.2.2.2.2.1 c.2.2.2.2.2.2.2.2.2.2.2.2.2.2.2.2.2.2.2.2.2.2.2.2.2.2.2.2.2.2.2.2.2.2.2.2.2.2.2.2.2.2.2.2.2.2.2.2.2.2.2.2.2.2.2.2.2.2.2.2.2
/- the letters at which it would fail, if there are such -/
noncomputable def K_moved_put : (World) × (Heap) × (Addr) × (Str → Option Value) × (Program) × (List Str) × (ExcName → Option Value) × (Str → Option Value) × (Str → Option Value) × (Value → Shared → Prop) × (Shared) × (Around) × (Addr) × (Addr) × (Addr) × (Addr) × (Addr) × (Addr) × (Addr) × (Addr) × (Addr) × (Addr) × (Addr) × (Addr) × (Addr) × (Addr) × (Int) × (Int) × (Int) × (Str) × (List Nat) × (List (List Nat)) × (Tok) × (Tok) × (Tok) × (Tok) × (List Value) × (List Value) × (List Value) × (List Int) × (Nat) × (Nat) × (Nat) × (Nat) × (Obj) × (Obj) × (Obj) × (Obj) × (Obj) × (Obj) × (Obj) × (Array Value) × (List (Str × Value)) × (List (Str × Value)) × (List (Str × Value)) × (List (Int × Value)) × (List (Int × Value)) × (List (Int × Value)) × (List (Int × Value)) × (List (Addr × Obj)) × (List (Addr × Obj)) × (Value → Shared → Prop) := @Classical.epsilon _ (neP ⟨aWorld 0⟩ (neP ⟨default⟩ (neP ⟨default⟩ (neP ⟨default⟩ (neP ⟨default⟩ (neP ⟨default⟩ (neP ⟨default⟩ (neP ⟨default⟩ (neP ⟨default⟩ (neP ⟨default⟩ (neP neS (neP ⟨{}⟩ (neP ⟨default⟩ (neP ⟨default⟩ (neP ⟨default⟩ (neP ⟨default⟩ (neP ⟨default⟩ (neP ⟨default⟩ (neP ⟨default⟩ (neP ⟨default⟩ (neP ⟨default⟩ (neP ⟨default⟩ (neP ⟨default⟩ (neP ⟨default⟩ (neP ⟨default⟩ (neP ⟨default⟩ (neP ⟨default⟩ (neP ⟨default⟩ (neP ⟨default⟩ (neP ⟨default⟩ (neP ⟨default⟩ (neP ⟨default⟩ (neP ⟨default⟩ (neP ⟨default⟩ (neP ⟨default⟩ (neP ⟨default⟩ (neP ⟨default⟩ (neP ⟨default⟩ (neP ⟨default⟩ (neP ⟨default⟩ (neP ⟨default⟩ (neP ⟨default⟩ (neP ⟨default⟩ (neP ⟨default⟩ (neP ⟨default⟩ (neP ⟨default⟩ (neP ⟨default⟩ (neP ⟨default⟩ (neP ⟨default⟩ (neP ⟨default⟩ (neP ⟨default⟩ (neP ⟨default⟩ (neP ⟨default⟩ (neP ⟨default⟩ (neP ⟨default⟩ (neP ⟨default⟩ (neP ⟨default⟩ (neP ⟨default⟩ (neP ⟨default⟩ (neP ⟨default⟩ (neP ⟨default⟩ ⟨default⟩))))))))))))))))))))))))))))))))))))))))))))))))))))))))))))) fun c => ¬ U_moved_put c
namespace E_moved_put
noncomputable def w : World := K_moved_put.1
noncomputable def G : Heap := K_moved_put.2.1
noncomputable def L : Addr := K_moved_put.2.2.1
noncomputable def m : Str → Option Value := K_moved_put.2.2.2.1
noncomputable def p : Program := K_moved_put.2.2.2.2.1
noncomputable def loose : List Str := K_moved_put.2.2.2.2.2.1
noncomputable def mean : ExcName → Option Value := K_moved_put.2.2.2.2.2.2.1
noncomputable def mg : Str → Option Value := K_moved_put.2.2.2.2.2.2.2.1
noncomputable def mb : Str → Option Value := K_moved_put.2.2.2.2.2.2.2.2.1
noncomputable def E : Value → Shared → Prop := K_moved_put.2.2.2.2.2.2.2.2.2.1
noncomputable def s : Shared := K_moved_put.2.2.2.2.2.2.2.2.2.2.1
noncomputable def A : Around := K_moved_put.2.2.2.2.2.2.2.2.2.2.2.1
noncomputable def feed : Addr := K_moved_put.2.2.2.2.2.2.2.2.2.2.2.2.1
noncomputable def cells : Addr := K_moved_put.2.2.2.2.2.2.2.2.2.2.2.2.2.1
noncomputable def aw : Addr := K_moved_put.2.2.2.2.2.2.2.2.2.2.2.2.2.2.1
noncomputable def awd : Addr := K_moved_put.2.2.2.2.2.2.2.2.2.2.2.2.2.2.2.1
noncomputable def afi : Addr := K_moved_put.2.2.2.2.2.2.2.2.2.2.2.2.2.2.2.2.1
noncomputable def aop : Addr := K_moved_put.2.2.2.2.2.2.2.2.2.2.2.2.2.2.2.2.2.1
noncomputable def afl : Addr := K_moved_put.2.2.2.2.2.2.2.2.2.2.2.2.2.2.2.2.2.2.1
noncomputable def tw : Addr := K_moved_put.2.2.2.2.2.2.2.2.2.2.2.2.2.2.2.2.2.2.2.1
noncomputable def bu : Addr := K_moved_put.2.2.2.2.2.2.2.2.2.2.2.2.2.2.2.2.2.2.2.2.1
noncomputable def sz : Addr := K_moved_put.2.2.2.2.2.2.2.2.2.2.2.2.2.2.2.2.2.2.2.2.2.1
noncomputable def rc : Addr := K_moved_put.2.2.2.2.2.2.2.2.2.2.2.2.2.2.2.2.2.2.2.2.2.2.1
noncomputable def am : Addr := K_moved_put.2.2.2.2.2.2.2.2.2.2.2.2.2.2.2.2.2.2.2.2.2.2.2.1
noncomputable def rl : Addr := K_moved_put.2.2.2.2.2.2.2.2.2.2.2.2.2.2.2.2.2.2.2.2.2.2.2.2.1
noncomputable def blA : Addr := K_moved_put.2.2.2.2.2.2.2.2.2.2.2.2.2.2.2.2.2.2.2.2.2.2.2.2.2.1
noncomputable def c : Int := K_moved_put.2.2.2.2.2.2.2.2.2.2.2.2.2.2.2.2.2.2.2.2.2.2.2.2.2.2.1
noncomputable def turn : Int := K_moved_put.2.2.2.2.2.2.2.2.2.2.2.2.2.2.2.2.2.2.2.2.2.2.2.2.2.2.2.1
noncomputable def rec0 : Int := K_moved_put.2.2.2.2.2.2.2.2.2.2.2.2.2.2.2.2.2.2.2.2.2.2.2.2.2.2.2.2.1
noncomputable def nm : Str := K_moved_put.2.2.2.2.2.2.2.2.2.2.2.2.2.2.2.2.2.2.2.2.2.2.2.2.2.2.2.2.2.1
noncomputable def bl : List Nat := K_moved_put.2.2.2.2.2.2.2.2.2.2.2.2.2.2.2.2.2.2.2.2.2.2.2.2.2.2.2.2.2.2.1
noncomputable def rs : List (List Nat) := K_moved_put.2.2.2.2.2.2.2.2.2.2.2.2.2.2.2.2.2.2.2.2.2.2.2.2.2.2.2.2.2.2.2.1
noncomputable def tt : Tok := K_moved_put.2.2.2.2.2.2.2.2.2.2.2.2.2.2.2.2.2.2.2.2.2.2.2.2.2.2.2.2.2.2.2.2.1
noncomputable def tc : Tok := K_moved_put.2.2.2.2.2.2.2.2.2.2.2.2.2.2.2.2.2.2.2.2.2.2.2.2.2.2.2.2.2.2.2.2.2.1
noncomputable def ts : Tok := K_moved_put.2.2.2.2.2.2.2.2.2.2.2.2.2.2.2.2.2.2.2.2.2.2.2.2.2.2.2.2.2.2.2.2.2.2.1
noncomputable def tf : Tok := K_moved_put.2.2.2.2.2.2.2.2.2.2.2.2.2.2.2.2.2.2.2.2.2.2.2.2.2.2.2.2.2.2.2.2.2.2.2.1
noncomputable def vs : List Value := K_moved_put.2.2.2.2.2.2.2.2.2.2.2.2.2.2.2.2.2.2.2.2.2.2.2.2.2.2.2.2.2.2.2.2.2.2.2.2.1
noncomputable def rvs : List Value := K_moved_put.2.2.2.2.2.2.2.2.2.2.2.2.2.2.2.2.2.2.2.2.2.2.2.2.2.2.2.2.2.2.2.2.2.2.2.2.2.1
noncomputable def vsb : List Value := K_moved_put.2.2.2.2.2.2.2.2.2.2.2.2.2.2.2.2.2.2.2.2.2.2.2.2.2.2.2.2.2.2.2.2.2.2.2.2.2.2.1
noncomputable def ns : List Int := K_moved_put.2.2.2.2.2.2.2.2.2.2.2.2.2.2.2.2.2.2.2.2.2.2.2.2.2.2.2.2.2.2.2.2.2.2.2.2.2.2.2.1
noncomputable def nF : Nat := K_moved_put.2.2.2.2.2.2.2.2.2.2.2.2.2.2.2.2.2.2.2.2.2.2.2.2.2.2.2.2.2.2.2.2.2.2.2.2.2.2.2.2.1
noncomputable def nC : Nat := K_moved_put.2.2.2.2.2.2.2.2.2.2.2.2.2.2.2.2.2.2.2.2.2.2.2.2.2.2.2.2.2.2.2.2.2.2.2.2.2.2.2.2.2.1
noncomputable def nr : Nat := K_moved_put.2.2.2.2.2.2.2.2.2.2.2.2.2.2.2.2.2.2.2.2.2.2.2.2.2.2.2.2.2.2.2.2.2.2.2.2.2.2.2.2.2.2.1
noncomputable def nb : Nat := K_moved_put.2.2.2.2.2.2.2.2.2.2.2.2.2.2.2.2.2.2.2.2.2.2.2.2.2.2.2.2.2.2.2.2.2.2.2.2.2.2.2.2.2.2.2.1
noncomputable def oo : Obj := K_moved_put.2.2.2.2.2.2.2.2.2.2.2.2.2.2.2.2.2.2.2.2.2.2.2.2.2.2.2.2.2.2.2.2.2.2.2.2.2.2.2.2.2.2.2.2.1
noncomputable def otw : Obj := K_moved_put.2.2.2.2.2.2.2.2.2.2.2.2.2.2.2.2.2.2.2.2.2.2.2.2.2.2.2.2.2.2.2.2.2.2.2.2.2.2.2.2.2.2.2.2.2.1
noncomputable def obu : Obj := K_moved_put.2.2.2.2.2.2.2.2.2.2.2.2.2.2.2.2.2.2.2.2.2.2.2.2.2.2.2.2.2.2.2.2.2.2.2.2.2.2.2.2.2.2.2.2.2.2.1
noncomputable def osz : Obj := K_moved_put.2.2.2.2.2.2.2.2.2.2.2.2.2.2.2.2.2.2.2.2.2.2.2.2.2.2.2.2.2.2.2.2.2.2.2.2.2.2.2.2.2.2.2.2.2.2.2.1
noncomputable def orc : Obj := K_moved_put.2.2.2.2.2.2.2.2.2.2.2.2.2.2.2.2.2.2.2.2.2.2.2.2.2.2.2.2.2.2.2.2.2.2.2.2.2.2.2.2.2.2.2.2.2.2.2.2.1
noncomputable def om : Obj := K_moved_put.2.2.2.2.2.2.2.2.2.2.2.2.2.2.2.2.2.2.2.2.2.2.2.2.2.2.2.2.2.2.2.2.2.2.2.2.2.2.2.2.2.2.2.2.2.2.2.2.2.1
noncomputable def ofi : Obj := K_moved_put.2.2.2.2.2.2.2.2.2.2.2.2.2.2.2.2.2.2.2.2.2.2.2.2.2.2.2.2.2.2.2.2.2.2.2.2.2.2.2.2.2.2.2.2.2.2.2.2.2.2.1
noncomputable def ps : Array Value := K_moved_put.2.2.2.2.2.2.2.2.2.2.2.2.2.2.2.2.2.2.2.2.2.2.2.2.2.2.2.2.2.2.2.2.2.2.2.2.2.2.2.2.2.2.2.2.2.2.2.2.2.2.2.1
noncomputable def kvt : List (Str × Value) := K_moved_put.2.2.2.2.2.2.2.2.2.2.2.2.2.2.2.2.2.2.2.2.2.2.2.2.2.2.2.2.2.2.2.2.2.2.2.2.2.2.2.2.2.2.2.2.2.2.2.2.2.2.2.2.1
noncomputable def kvm : List (Str × Value) := K_moved_put.2.2.2.2.2.2.2.2.2.2.2.2.2.2.2.2.2.2.2.2.2.2.2.2.2.2.2.2.2.2.2.2.2.2.2.2.2.2.2.2.2.2.2.2.2.2.2.2.2.2.2.2.2.1
noncomputable def kvfi : List (Str × Value) := K_moved_put.2.2.2.2.2.2.2.2.2.2.2.2.2.2.2.2.2.2.2.2.2.2.2.2.2.2.2.2.2.2.2.2.2.2.2.2.2.2.2.2.2.2.2.2.2.2.2.2.2.2.2.2.2.2.1
noncomputable def kvo : List (Int × Value) := K_moved_put.2.2.2.2.2.2.2.2.2.2.2.2.2.2.2.2.2.2.2.2.2.2.2.2.2.2.2.2.2.2.2.2.2.2.2.2.2.2.2.2.2.2.2.2.2.2.2.2.2.2.2.2.2.2.2.1
noncomputable def kvb : List (Int × Value) := K_moved_put.2.2.2.2.2.2.2.2.2.2.2.2.2.2.2.2.2.2.2.2.2.2.2.2.2.2.2.2.2.2.2.2.2.2.2.2.2.2.2.2.2.2.2.2.2.2.2.2.2.2.2.2.2.2.2.2.1
noncomputable def kvs : List (Int × Value) := K_moved_put.2.2.2.2.2.2.2.2.2.2.2.2.2.2.2.2.2.2.2.2.2.2.2.2.2.2.2.2.2.2.2.2.2.2.2.2.2.2.2.2.2.2.2.2.2.2.2.2.2.2.2.2.2.2.2.2.2.1
noncomputable def kvr : List (Int × Value) := K_moved_put.2.2.2.2.2.2.2.2.2.2.2.2.2.2.2.2.2.2.2.2.2.2.2.2.2.2.2.2.2.2.2.2.2.2.2.2.2.2.2.2.2.2.2.2.2.2.2.2.2.2.2.2.2.2.2.2.2.2.1
noncomputable def rest : List (Addr × Obj) := K_moved_put.2.2.2.2.2.2.2.2.2.2.2.2.2.2.2.2.2.2.2.2.2.2.2.2.2.2.2.2.2.2.2.2.2.2.2.2.2.2.2.2.2.2.2.2.2.2.2.2.2.2.2.2.2.2.2.2.2.2.2.1
noncomputable def stt : List (Addr × Obj) := K_moved_put.2.2.2.2.2.2.2.2.2.2.2.2.2.2.2.2.2.2.2.2.2.2.2.2.2.2.2.2.2.2.2.2.2.2.2.2.2.2.2.2.2.2.2.2.2.2.2.2.2.2.2.2.2.2.2.2.2.2.2.2.1
noncomputable def Q : Value → Shared → Prop := K_moved_put.2.2.2.2.2.2.2.2.2.2.2.2.2.2.2.2.2.2.2.2.2.2.2.2.2.2.2.2.2.2.2.2.2.2.2.2.2.2.2.2.2.2.2.2.2.2.2.2.2.2.2.2.2.2.2.2.2.2.2.2.2
theorem go : P_moved_put w G L m p loose mean mg mb E s A feed cells aw awd afi aop afl tw bu sz rc am rl blA c turn rec0 nm bl rs tt tc ts tf vs rvs vsb ns nF nC nr nb oo otw obu osz orc om ofi ps kvt kvm kvfi kvo kvb kvs kvr rest stt Q := by
  intro size hh hdp hu F T X C N hnd hoff hstt hi hvl h0 h1 W m3 d3 lo3 v3 dm M d5 v5 z5 mt dt vt2 vt3 vt4 ms ds vs1 mb' db lo7 vb mbl Sb zb mr dr vr R zr zr3 hsz hTab h
  refine wpAny_weak (A' := A5) ?_ hh hdp hu rfl rfl
  revert X
  k_fill
  intro X
  refine wpAny_call ?_
  have hab := F.above
  have hs4 : 4 ≤ size := by rcases hsz with rfl | rfl <;> decide
  have hs6 : size ≤ 6 := by rcases hsz with rfl | rfl <;> decide
  clear hsz
  have zz5 : size.toNat ≤ 6 := (sz_nat hs4 hs6).1
  have hvb : vsb.length ≤ 6 := by rw [Sb.length, List.length_map, zb]; exact zz5
  have hbl6 : bl.length ≤ 6 := Nat.le_trans (Nat.le_of_eq zb) zz5
  refine ex0_4 (sz_facts hs4 hs6) ?_; intro zz1 zz2 zz6 zz7
  have zz4 : 1 * size.toNat ≤ 256 := by rw [Nat.one_mul]; exact Nat.le_trans zz5 (by decide)
  have zz8 : bl.length ≤ 100 := Nat.le_trans hbl6 (by decide)
  have hfl : rs.flatten.length ≤ 100 := by
    rw [flat_len zr]
    exact Nat.le_trans (Nat.mul_le_mul zr3 zz5) (by decide)
  have hbeg : ∀ num : Nat, 1 ≤ num → (((num : Int) - 1) * size).toNat = (num - 1) * size.toNat := by
    intro num hnum
    rw [beg_nat zz6 num hnum, Int.toNat_natCast]
  simp only [List.nodup_cons, List.mem_cons, List.not_mem_nil, or_false, not_or, not_false_eq_true, List.nodup_nil, and_true] at hnd
  refine ex0_5 hnd ?_; intro N_1 N_2 N_3 N_4 n15
  try clear hnd
  refine ex0_5 N_1 ?_; intro n1 n2 n3 n4 n5
  try clear N_1
  refine ex0_4 N_2 ?_; intro n6 n7 n8 n9
  try clear N_2
  refine ex0_3 N_3 ?_; intro n10 n11 n12
  try clear N_3
  refine ex0_2 N_4 ?_; intro n13 n14
  try clear N_4
  simp only [List.mem_cons, List.not_mem_nil, or_false, not_or] at hoff
  have off1 : ∀ p ∈ rest, p.1 ≠ feed := fun p hp => (hoff p hp).1
  have off2 : ∀ p ∈ rest, p.1 ≠ afi := fun p hp => (hoff p hp).2.1
  have off3 : ∀ p ∈ rest, p.1 ≠ am := fun p hp => (hoff p hp).2.2.1
  have off4 : ∀ p ∈ rest, p.1 ≠ rl := fun p hp => (hoff p hp).2.2.2.1
  have off5 : ∀ p ∈ rest, p.1 ≠ 174 := fun p hp => (hoff p hp).2.2.2.2
  clear hoff
  have hL1 : @Ne Nat feed L := (N _ (.head _)).2.1
  have hL2 : @Ne Nat cells L := (N _ (.tail _ (.head _))).2.1
  have hL3 : @Ne Nat afi L := (N _ (.tail _ (.tail _ (.head _)))).2.1
  have hL4 : @Ne Nat am L := (N _ (.tail _ (.tail _ (.tail _ (.head _))))).2.1
  have hL5 : @Ne Nat rl L := (N _ (.tail _ (.tail _ (.tail _ (.tail _ (.head _)))))).2.1
  have hL6 : @Ne Nat 174 L := (N _ (.tail _ (.tail _ (.tail _ (.tail _ (.tail _ (.head _))))))).2.1
  have hLr : ∀ p ∈ rest, p.1 ≠ L := fun p hp => (N p (.tail _ (.tail _ (.tail _ (.tail _ (.tail _ (.tail _ hp))))))).2.1
  refine' enterC (binds := [(Str.ofString "feed", .ref feed), (Str.ofString "world", .ref aw), (Str.ofString "twin", .ref tw), (Str.ofString "channel", .int c tc), (Str.ofString "is_put", .bool true)]) F X N (Top.nolimit T) ?k6 ?k7 ?k8 ?k9 ?kB ?kD ?_ ?c2 ?c3 ?c4
  case k8 => exact Nat.lt_of_le_of_lt (Nat.le_refl 500) (by decide)
  (((case k6 => k_is); (case k7 => k_is); (case k9 => first | exact BindsTo.of_eq rfl | exact binds_K (by k_in) rfl (by k_is) rfl rfl rfl); (case kB => (intro n'; ((repeat (first | exact List.forall_mem_nil _ | refine List.forall_mem_cons.mpr ⟨by first | exact .inl rfl | exact .inr ⟨rfl, rfl⟩, ?_⟩))))); (case kD => decide +kernel); (case c2 => exact rfl); (case c3 => exact rfl); (case c4 => exact rfl)))
  intro L' h₁ tk₁ oL cells' hoL F' N' Y l0
  clear F N
  refine ex4_5 (CellsAre.four Y) ?_; intro oc4 oc3 oc2 oc1 hE q4 q3 q2 q1
  subst hE
  clear Y
  have q1 : oc1.data = .cell (some (.ref aw)) := q1
  have q2 : oc2.data = .cell (some (.int c tc)) := q2
  have q3 : oc3.data = .cell (some (.bool true)) := q3
  have q4 : oc4.data = .cell none := q4
  have lL : @LT.lt Nat _ L L' := l0 _ (.head _)
  have lF : @LT.lt Nat _ feed L' := l0 _ (.tail _ (.head _))
  have lC : @LT.lt Nat _ cells L' := l0 _ (.tail _ (.tail _ (.head _)))
  have lf : @LT.lt Nat _ afi L' := l0 _ (.tail _ (.tail _ (.tail _ (.head _))))
  have la : @LT.lt Nat _ am L' := l0 _ (.tail _ (.tail _ (.tail _ (.tail _ (.head _)))))
  have ll : @LT.lt Nat _ rl L' := l0 _ (.tail _ (.tail _ (.tail _ (.tail _ (.tail _ (.head _))))))
  have lt : @LT.lt Nat _ 174 L' := l0 _ (.tail _ (.tail _ (.tail _ (.tail _ (.tail _ (.tail _ (.head _)))))))
  have lr : ∀ p ∈ rest, @LT.lt Nat _ p.1 L' := fun p hp => l0 _ (.tail _ (.tail _ (.tail _ (.tail _ (.tail _ (.tail _ (.tail _ hp)))))))
  have lr1 : ∀ p ∈ rest, p.1 ≠ L' + 1 := fun p hp => Nat.ne_of_lt (Nat.lt_succ_of_lt (lr p hp))
  have lr2 : ∀ p ∈ rest, p.1 ≠ L' + 1 + 1 := fun p hp => Nat.ne_of_lt (Nat.lt_succ_of_lt (Nat.lt_succ_of_lt (lr p hp)))
  have lr3 : ∀ p ∈ rest, p.1 ≠ L' + 1 + 1 + 1 := fun p hp => Nat.ne_of_lt (Nat.lt_succ_of_lt (Nat.lt_succ_of_lt (Nat.lt_succ_of_lt (lr p hp))))
  have lr4 : ∀ p ∈ rest, p.1 ≠ L' + 1 + 1 + 1 + 1 := fun p hp => Nat.ne_of_lt (Nat.lt_succ_of_lt (Nat.lt_succ_of_lt (Nat.lt_succ_of_lt (Nat.lt_succ_of_lt (lr p hp)))))
  have l9 : ∀ p ∈ (feed, listOf #[.ref cells, .int turn tt] nF) :: (cells, listOf vs.toArray nC) :: (afi, ofi) :: (am, om) :: (rl, listOf rvs.toArray nr) :: ((174 : Addr), tabObj ps) :: rest, @LT.lt Nat _ p.1 L' := fun p hp => l0 p (.tail _ hp)
  clear l0
  simp only [List.cons_append, List.nil_append] at N'
  dsimp only
  have N1 := news_sub N' (nl' := (feed, listOf #[.ref cells, .int turn tt] nF) :: (cells, listOf vs.toArray nC) :: (L'+1+1+1+1, oc4) :: (L'+1+1+1, oc3) :: (L'+1+1, oc2) :: (L'+1, oc1) :: (L, oL) :: (afi, ofi) :: (am, om) :: (rl, listOf rvs.toArray nr) :: (174, tabObj ps) :: rest) (by ((repeat (first | exact List.forall_mem_nil _ | refine List.forall_mem_cons.mpr ⟨by k_mem, ?_⟩ | (intro p' hp'; k_mem)))))
  clear N'
  k_steps
  ((refine' next_any rfl ?a_176 ?b_176 ?F_176 ?T_176 ?X_176 ?N_176 ?nd1_176 ?nd2_176 (by assumption) (by assumption) ?h0_176 ?h1_176 (by first | decide | (simp only [List.size_toArray]; first | assumption | omega)) (by first | decide | (simp only [List.size_toArray]; first | assumption | omega)) ?_; (case a_176 => (exact Nat.le_of_ble_eq_true rfl)); (case b_176 => (exact Nat.le_of_ble_eq_true rfl)); (case F_176 => k_asm); (case T_176 => k_asm); (case X_176 => k_asm); (case N_176 => k_asm); (case nd1_176 => first | assumption | k_ne); (case nd2_176 => first | assumption | k_all); (case h0_176 => first | assumption | omega); (case h1_176 => first | assumption | omega)))
  intro h2 tk2 r2 t2 t2' hr20 hr21 F2 N2
  have N3 := news_sub N2 (nl' := (L'+1+1+1+1, oc4) :: (L'+1+1+1, oc3) :: (L'+1+1, oc2) :: (L'+1, oc1) :: (L, oL) :: (feed, listOf #[.ref cells, .int (turn + 1) t2'] nF) :: (cells, listOf vs.toArray nC) :: (afi, ofi) :: (am, om) :: (rl, listOf rvs.toArray nr) :: (174, tabObj ps) :: rest) (by ((repeat (first | exact List.forall_mem_nil _ | refine List.forall_mem_cons.mpr ⟨by k_mem, ?_⟩ | (intro p' hp'; k_mem)))))
  clear N2
  have vb' : (valueAt kvb c).isSome = true := by rw [vb]; rfl
  (repeat ((fail_if_success (with_reducible show wpAny _ _ (exec (Stmt.While _ _ _ _) _) _ _ _)); first | (k_unfold; (try dsimp only)) | walk1 | (dsimp only; walk1) | (leave1; try dsimp only)))
  rename_i hN oN dN tk8 tk9 D9 hD lD ha hb hc FF NN
  refine ex1_1 (⟨_, rfl⟩ : ∃ b, b = (L'+1+1+1+1, oN) :: (L'+1+1+1, oc3) :: (L'+1+1, oc2) :: (L'+1, oc1) :: (L, oL) :: (feed, listOf #[.ref cells, .int (turn + 1) t2'] nF) :: (cells, listOf vs.toArray nC) :: (afi, ofi) :: (am, om) :: ((174 : Addr), tabObj ps) :: rest) ?_; intro base hbase
  have NB := news_sub NN (nl' := (rl, listOf rvs.toArray nr) :: base) (by rw [hbase]; ((repeat (first | exact List.forall_mem_nil _ | refine List.forall_mem_cons.mpr ⟨by k_mem, ?_⟩ | (intro p' hp'; k_mem)))))
  have bR : ∀ p ∈ rest, p ∈ base := by rw [hbase]; k_offL
  have bK : (L'+1+1+1+1, oN) ∈ base := by rw [hbase]; exact .head _
  have bK3 : (L'+1+1, oc2) ∈ base := by rw [hbase]; exact .tail _ (.tail _ (.head _))
  have br : ∀ p ∈ base, p.1 ≠ rl := by rw [hbase]; k_all
  refine ex1_1 (ex_nat (r1_0 hr20 hr21).1 : ∃ n : Nat, (1 + r2 : Int) = (n : Int)) ?_; intro num hnum
  refine ex0_4 (num_facts hr20 hr21 hnum) ?_; intro hn1 hn3 hq0 hq63
  have bt := bR _ mt
  have bb := bR _ mb'
  have bl0 := bR _ mbl
  clear NN

  refine While_inv (J := fun n m' news => ∃ rvs' rs' nr' ext, m' = (fun y => if y = Str.ofString "size" then some (.int size ts) else if y = Str.ofString "records" then some (.ref rl) else if y = Str.ofString "twin" then some (.ref tw) else if y = Str.ofString "feed" then some (.ref feed) else none) ∧
      news = (rl, listOf rvs'.toArray nr') :: (ext ++ base) ∧ RecsIn (ext ++ stt) rvs' rs' ∧ padN rs' num size.toNat = padN rs num size.toNat ∧ rs'.length ≤ 3 ∧ n = num - rs'.length ∧ ∀ p ∈ ext, ∀ q ∈ (rl, listOf rvs.toArray nr) :: base, @LT.lt Nat _ q.1 p.1) (n₀ := num - rs.length) FF NB ⟨rvs, rs, nr, [], rfl, rfl, R, rfl, zr3, rfl, by simp⟩ ?_
  intro n m' news h9 tk9 F6 N6 N_5
  refine ex4_7 N_5 ?_; intro rvs' rs' nr' ext E_6 E_7 a1 a2 a3 a4 a5
  try clear N_5
  subst E_6
  subst E_7
  have hrl := a1.length
  have e1 : ∀ p ∈ ext, p.1 ≠ rl := fun p hp => Nat.ne_of_gt (a5 p hp _ (.head _))
  by_cases hlt : rs'.length < num
  · refine ex1_1 (⟨_, rfl⟩ : ∃ b, b = ext ++ base) ?_; intro tl htl
    rw [← htl] at N6
    have tK : (L'+1+1+1+1, oN) ∈ tl := by rw [htl]; exact List.mem_append_right _ bK
    have tr : ∀ p ∈ tl, p.1 ≠ rl := by rw [htl]; exact fun p hp => (List.mem_append.mp hp).elim (e1 p) (br p)
    (repeat ((fail_if_success (with_reducible show wpAny _ _ (binaryOp Operator.Mult (Value.ref _) _) _ _ _)); first | (k_unfold; (try dsimp only)) | walk1 | (dsimp only; walk1) | (leave1; try dsimp only)))
    rename_i tz tkz lz hz fz NZ lz2
    have zz3 : [Value.str (Str.ofString "\x00") (tkz + 1)].length * size.toNat ≤ 256 := zz4
    refine KMa.mul fz NZ (vs := [.str (Str.ofString "\x00") (tkz + 1)]) (x := size) (NZ.isList (.head _)) zz1 zz2 zz3 (ws := List.replicate size.toNat (.str (Str.ofString "\x00") (tkz + 1))) (by simp) ?_
    intro D h10 F10 N10 lD10
    have N11 := news_sub N10 (nl' := (D, listOf (List.replicate size.toNat (.str (Str.ofString "\x00") (tkz + 1))).toArray 0) :: (rl, listOf rvs'.toArray nr') :: tl) (by ((repeat (first | exact List.forall_mem_nil _ | refine List.forall_mem_cons.mpr ⟨by k_mem, ?_⟩ | (intro p' hp'; k_mem)))))
    have lD1 : @LT.lt Nat _ rl D := lD10 _ (.tail _ (.head _))
    have lD2 : ∀ p ∈ tl, @LT.lt Nat _ p.1 D := fun p hp => lD10 p (.tail _ (.tail _ hp))
    clear N10 NZ
    k_steps
    rename_i h12 F12 N12
    have hS : SignsAre (List.replicate size.toNat (.str (Str.ofString "\x00") (tkz + 1))) (List.replicate size.toNat 0) := signs_zeros _
    have eD : ∀ q ∈ (rl, listOf rvs.toArray nr) :: base, @LT.lt Nat _ q.1 D := fun q hq => by
      refine mcons hq ?_ fun hq => ?_
      · exact lD1
      · exact lD2 q (by rw [htl]; exact List.mem_append_right _ hq)
    refine WhileStep.intro F12 (news_sub N12 (nl' := (rl, listOf (rvs' ++ [Value.ref D]).toArray (nr' + 1)) :: (((D, listOf (List.replicate size.toNat (.str (Str.ofString "\x00") (tkz + 1))).toArray 0) :: ext) ++ base)) ?_) (n' := num - (rs'.length + 1)) (wh_dec a4 hlt) ⟨rvs' ++ [Value.ref D], rs' ++ [List.replicate size.toNat 0], nr' + 1, (D, listOf (List.replicate size.toNat (.str (Str.ofString "\x00") (tkz + 1))).toArray 0) :: ext, rfl, rfl, ?_, ?_, ?_, ?_, ?_⟩
    · intro p hp
      rw [htl]
      have e : (rvs' ++ [Value.ref D]).toArray = rvs'.toArray.push (Value.ref D) := by simp
      rw [e] at hp
      simp only [List.mem_cons, List.mem_append, List.cons_append] at hp ⊢
      rcases hp with h | h | h | h <;> simp [h]
    · exact RecsIn.snoc (.head _) hS (a1.sub fun p hp => .tail _ hp)
    · rw [padN_snoc hlt]; exact a2
    · rw [List.length_append]; exact Nat.le_trans hlt hn3
    · simp
    · intro p hp q hq
      refine mcons hp ?_ fun hp => ?_
      · exact eD q hq
      · exact a5 p hp q hq
  · refine ex1_1 (⟨_, rfl⟩ : ∃ b, b = ext ++ base) ?_; intro tl htl
    rw [← htl] at N6
    have tK : (L'+1+1+1+1, oN) ∈ tl := by rw [htl]; exact List.mem_append_right _ bK
    have tK3 : (L'+1+1, oc2) ∈ tl := by rw [htl]; exact List.mem_append_right _ bK3
    have tT : (tw, otw) ∈ tl := by rw [htl]; exact List.mem_append_right _ bt
    have tB : (bu, obu) ∈ tl := by rw [htl]; exact List.mem_append_right _ bb
    have tV : (blA, listOf vsb.toArray nb) ∈ tl := by rw [htl]; exact List.mem_append_right _ bl0
    have tr : ∀ p ∈ tl, p.1 ≠ rl := by rw [htl]; exact fun p hp => (List.mem_append.mp hp).elim (e1 p) (br p)
    (repeat ((fail_if_success (with_reducible show wpAny _ _ (setItem (Value.ref _) _ _) _ _ _)); first | (k_unfold; (try dsimp only)) | walk1 | (dsimp only; walk1) | (leave1; try dsimp only)))
    rename_i tz tkz DD cD hD2 FD ND lD2
    have NR := news_sub ND (nl' := (rl, listOf rvs'.toArray nr') :: (DD, listOf vsb.toArray cD) :: tl) (by ((repeat (first | exact List.forall_mem_nil _ | refine List.forall_mem_cons.mpr ⟨by k_mem, ?_⟩ | (intro p' hp'; k_mem)))))
    have lDD : ∀ p ∈ tl, @LT.lt Nat _ p.1 DD := fun p hp => PySem.W.tb_ltOf lD2.2 p hp
    have lDr : @LT.lt Nat _ rl DD := lD2.1
    have ht2 := tr
    have hk : (1 + r2 - 1 : Int).toNat = num - 1 := by rw [hnum]; exact Int.toNat_sub num 1
    have hkl : (1 + r2 - 1 : Int) < rvs'.length := num_lt hnum hlt hn1 hrl
    refine list_set FD NR (List.forall_mem_cons.mpr ⟨Nat.ne_of_gt lDr, tr⟩) hq0 hkl hq63 ?_
    intro h12 F12 N12
    rw [hk] at N12
    refine ex1_1 (⟨_, rfl⟩ : ∃ b, b = rvs'.set (num - 1) (.ref DD)) ?_; intro rvs2 hrvs2
    rw [← hrvs2] at N12
    have hrec : RecsIn ((DD, listOf vsb.toArray cD) :: (ext ++ stt)) rvs2 (putRec rs num size.toNat bl) := by
      have e1 : putRec rs num size.toNat bl = rs'.set (num - 1) bl := by
        unfold putRec
        rw [← a2]
        unfold padN
        rw [show num - rs'.length = 0 from Nat.sub_eq_zero_of_le (Nat.le_of_not_lt hlt)]
        simp
      rw [e1, hrvs2]
      exact RecsIn.set (.head _) Sb (a1.sub fun p hp => .tail _ hp) _
    clear ND NR
    have eB : ∀ p ∈ ext, @LT.lt Nat _ (L'+1) p.1 := fun p hp => a5 p hp (L'+1, oc1) (.tail _ (by rw [hbase]; exact .tail _ (.tail _ (.tail _ (.head _)))))
    have eL : ∀ p ∈ ext, @LT.lt Nat _ L' p.1 := fun p hp => Nat.lt_trans (Nat.lt_succ_self _) (eB p hp)
    have dL : @LT.lt Nat _ L' DD := Nat.lt_trans (Nat.lt_succ_self _) (lDD (L'+1, oc1) (by rw [htl, hbase]; simp))
    refine ex1_1 (⟨_, rfl⟩ : ∃ b, b = (DD, listOf vsb.toArray cD) :: ext) ?_; intro ext1 hext1
    have xe : ∀ p ∈ ext1, @LT.lt Nat _ L' p.1 := by
      rw [hext1]
      exact List.forall_mem_cons.mpr ⟨dL, eL⟩
    have hrec1 : RecsIn (ext1 ++ stt) rvs2 (putRec rs num size.toNat bl) := by rw [hext1]; exact hrec
    have N13 := news_sub N12 (nl' := (rl, listOf rvs2.toArray nr') :: (ext1 ++ base)) (by
      rw [hext1, htl]
      k_offL)
    clear N12
    subst hbase
    have g1 : ∀ p ∈ ext1 ++ rest, p.1 ≠ 174 := fun p hp => (List.mem_append.mp hp).elim (fun hp => Nat.ne_of_gt (Nat.lt_trans lt (xe p hp))) (off5 p)
    have g2 : ∀ p ∈ ext1 ++ rest, p.1 ≠ am := fun p hp => (List.mem_append.mp hp).elim (fun hp => Nat.ne_of_gt (Nat.lt_trans la (xe p hp))) (off3 p)
    have g3 : ∀ p ∈ ext1 ++ rest, p.1 ≠ afi := fun p hp => (List.mem_append.mp hp).elim (fun hp => Nat.ne_of_gt (Nat.lt_trans lf (xe p hp))) (off2 p)
    have g4 : ∀ p ∈ ext1 ++ rest, p.1 ≠ L := fun p hp => (List.mem_append.mp hp).elim (fun hp => Nat.ne_of_gt (Nat.lt_trans lL (xe p hp))) (hLr p)
    refine ex1_1 (⟨_, rfl⟩ : ∃ b, b = (rl, listOf rvs2.toArray nr') :: (L'+1+1+1+1, oN) :: (L'+1+1+1, oc3) :: (L'+1+1, oc2) :: (L'+1, oc1) :: (L, oL) :: (feed, listOf #[.ref cells, .int (turn + 1) t2'] nF) :: (cells, listOf vs.toArray nC) :: (ext1 ++ rest)) ?_; intro X0 hX0
    have NB := news_sub N13 (nl' := (174, tabObj ps) :: (am, om) :: (afi, ofi) :: X0) (by
      rw [hX0]
      k_offL)
    have stX : ∀ p ∈ ext1 ++ rest, p ∈ X0 := by rw [hX0]; exact fun p hp => .tail _ (.tail _ (.tail _ (.tail _ (.tail _ (.tail _ (.tail _ (.tail _ hp)))))))
    have stR : ∀ p ∈ rest, p ∈ X0 := fun p hp => stX p (List.mem_append_right _ hp)
    have xt : ∀ p ∈ X0, p.1 ≠ 174 := by rw [hX0]; k_all
    have xa : ∀ p ∈ X0, p.1 ≠ am := by rw [hX0]; k_all
    have xf : ∀ p ∈ X0, p.1 ≠ afi := by rw [hX0]; k_all
    have mkL : (L, oL) ∈ X0 := by rw [hX0]; k_clsL
    have mk0 : (L'+1, oc1) ∈ X0 := by rw [hX0]; k_clsL
    k_steps
    (repeat ((fail_if_success (with_reducible show wpAny _ _ (eval (Expr.Lambda _ _ _ _) _) _ _ _)); first | (k_unfold; (try dsimp only)) | walk1 | (dsimp only; walk1) | (leave1; try dsimp only)))
    with_reducible rename Fr _ _ _ _ => FA
    refine lam_make FA NB (List.forall_mem_cons.mpr ⟨n14, List.forall_mem_cons.mpr ⟨n12, xt⟩⟩) T C rfl hTab (fun p hp => .tail _ (.tail _ (stR p (hstt p hp)))) rfl rfl rfl ?_
    intro f olam c' oc vs' t' ctv ps' ext2 h' tk' hol FB NC hcm hd hv hTab2 x1 x2 x3
    clear NB N13
    k_steps
    refine ex1_1 (⟨_, rfl⟩ : ∃ b, b = (f, olam) :: (174, tabObj ps') :: (ext2 ++ X0)) ?_; intro Xl hXl
    have ND := news_sub NC (nl' := (am, om) :: (afi, ofi) :: Xl) (by
      rw [hXl]
      k_offL)
    have mX : ∀ p ∈ X0, p ∈ Xl := by rw [hXl]; exact fun p hp => .tail _ (.tail _ (List.mem_append_right _ hp))
    have mS := fun p hp => mX p (stR p hp)
    have mf : (f, olam) ∈ Xl := by rw [hXl]; exact .head _
    have mc : (c', oc) ∈ Xl := by
      rcases List.mem_append.mp hcm with h | h
      · rw [hXl]; exact .tail _ (.tail _ (List.mem_append_left _ h))
      · exact mS _ (hstt _ h)
    have mk4 : (L'+1+1+1+1, oN) ∈ Xl := mX _ (by rw [hX0]; k_clsL)
    have mk2 : (L'+1+1, oc2) ∈ Xl := mX _ (by rw [hX0]; k_clsL)
    have mk1 : (L'+1, oc1) ∈ Xl := mX _ mk0
    have mL : (L, oL) ∈ Xl := mX _ mkL
    have mPt : ((174 : Addr), tabObj ps') ∈ Xl := by rw [hXl]; exact .tail _ (.head _)
    have mPe : ∀ p ∈ ext2, p ∈ Xl := by rw [hXl]; exact fun p hp => .tail _ (.tail _ (List.mem_append_left _ hp))
    have offX : ∀ p ∈ Xl, p.1 ≠ am := by
      rw [hXl]
      intro p hp
      refine mcons hp ?_ fun hp => ?_
      · exact Nat.ne_of_gt (x3 (am, om) (.tail _ (.head _)))
      refine mcons hp ?_ fun hp => ?_
      · exact Ne.symm n14
      rcases List.mem_append.mp hp with hp | hp
      · exact Nat.ne_of_gt (x1 p hp (am, om) (.tail _ (.head _)))
      · exact xa p hp
    have offF : ∀ p ∈ Xl, p.1 ≠ afi := by
      rw [hXl]
      intro p hp
      refine mcons hp ?_ fun hp => ?_
      · exact Nat.ne_of_gt (x3 (afi, ofi) (.tail _ (.tail _ (.head _))))
      refine mcons hp ?_ fun hp => ?_
      · exact Ne.symm n12
      rcases List.mem_append.mp hp with hp | hp
      · exact Nat.ne_of_gt (x1 p hp (afi, ofi) (.tail _ (.tail _ (.head _))))
      · exact xf p hp
    clear NC
    have dN' : oN.data = .cell (some (.int (1 + r2) _)) := dN
    refine code_none (led := (am, om) :: (afi, ofi) :: Xl) (P := fun led' => ∃ om' ofi' kvm' t', led' = (am, om') :: (afi, ofi') :: Xl ∧ om'.IsDictOf (PySem.strKind PySem.Challenge.rw_pq0169_01.row.prog w) kvm' ∧ MadeIs kvm' nm size bl (num : Nat) ∧ ofi'.IsDictOf (PySem.strKind PySem.Challenge.rw_pq0169_01.row.prog w) (stored kvfi nm (.str (TS (putRec rs num size.toNat bl).flatten) t'))) rfl (by (exact Nat.le_of_ble_eq_true rfl)) (by (exact Nat.le_of_ble_eq_true rfl)) FB T X ND (oc := .type "function") (.tail _ (.tail _ (hol ▸ mf))) ?_ ?_
    · intro A2 L2 oL2 s2 m2 Q2 E2 fi2 hh2 hd2 hu2 F2 N2 hoff2 cont
      refine lam_ok (P := fun led' => ∃ om' ofi' kvm' t', led' = (L', oL2) :: (am, om') :: (afi, ofi') :: Xl ∧ om'.IsDictOf (PySem.strKind PySem.Challenge.rw_pq0169_01.row.prog w) kvm' ∧ MadeIs kvm' nm size bl (num : Nat) ∧ ofi'.IsDictOf (PySem.strKind PySem.Challenge.rw_pq0169_01.row.prog w) (stored kvfi nm (.str (TS (putRec rs num size.toNat bl).flatten) t'))) hh2 hd2 hu2 F2 T N2 (.tail _ (.tail _ (.tail _ mf))) hol (.tail _ (.tail _ (.tail _ mc))) hd hv rfl rfl rfl rfl (by decide) ?_ ?_
      · intro L4 oL4 h4 tk4 Q4 E4 fi4 F4 N4 l4 l4' cont4
        have mk4' : (L'+1+1+1+1, oN) ∈ (L2, oL4) :: (L', oL2) :: (am, om) :: (afi, ofi) :: Xl := .tail _ (.tail _ (.tail _ (.tail _ mk4)))
        have mk2' : (L'+1+1, oc2) ∈ (L2, oL4) :: (L', oL2) :: (am, om) :: (afi, ofi) :: Xl := .tail _ (.tail _ (.tail _ (.tail _ mk2)))
        have mk1' : (L'+1, oc1) ∈ (L2, oL4) :: (L', oL2) :: (am, om) :: (afi, ofi) :: Xl := .tail _ (.tail _ (.tail _ (.tail _ mk1)))
        have hLa : @Ne Nat L2 am := Ne.symm (N2 _ (.tail _ (.head _))).2.1
        have hLa' : @Ne Nat L' am := Ne.symm (hoff2 _ (.head _))
        have hLf : @Ne Nat L2 afi := Ne.symm (N2 _ (.tail _ (.tail _ (.head _)))).2.1
        have hLf' : @Ne Nat L' afi := Ne.symm (hoff2 _ (.tail _ (.head _)))
        k_steps
        refine put_ok rfl (by (exact Nat.le_of_ble_eq_true rfl)) (by (exact Nat.le_of_ble_eq_true rfl)) F4 T X (news_sub N4 (nl' := (am, om) :: (afi, ofi) :: (L2, oL4) :: (L', oL2) :: Xl) (by ((repeat (first | exact List.forall_mem_nil _ | refine List.forall_mem_cons.mpr ⟨by k_mem, ?_⟩ | (intro p' hp'; k_mem)))))) (Ne.symm n10) (List.forall_mem_cons.mpr ⟨hLa, List.forall_mem_cons.mpr ⟨hLa', offX⟩⟩) (List.forall_mem_cons.mpr ⟨hLf, List.forall_mem_cons.mpr ⟨hLf', offF⟩⟩) (W.sub fun p hp => .tail _ (.tail _ (mS p hp))) (.tail _ (.tail _ (mS _ m3))) d3 lo3 v3 dm M d5 v5 z5 (by rw [hnum]; exact Int.ofNat_le.mpr hn1) (by rw [hnum]; exact Int.ofNat_le.mpr hn3) zz6 zz7 hfl zz8 ?_
        intro h5 tk5 om' ofi' kvm' t5 F5 N5 hd5 hm5 hf5
        refine cont4 h5 _ ((L', oL2) :: (am, om') :: (afi, ofi') :: Xl) _ F5 (news_sub N5 (by ((repeat (first | exact List.forall_mem_nil _ | refine List.forall_mem_cons.mpr ⟨by k_mem, ?_⟩ | (intro p' hp'; k_mem)))))) ?_ ⟨om', ofi', kvm', t5, rfl, hd5, ?_, ?_⟩
        · intro p hp
          refine mcons hp ?_ fun hp => ?_
          · exact (N2 _ (.head _)).2.1
          refine mcons hp ?_ fun hp => ?_
          · exact Ne.symm hLa
          refine mcons hp ?_ fun hp => ?_
          · exact Ne.symm hLf
          · exact (N2 p (.tail _ (.tail _ (.tail _ hp)))).2.1
        · rw [← hnum]; exact hm5
        · rw [hnum, hbeg num hn1, put_cat zr zb hn1] at hf5
          exact hf5
      · intro h5 tk5 led' v5' F5 N5 N_8
        refine ex4_4 N_8 ?_; intro om' ofi' kvm' t5 E_9 hd5 hm5 hf5
        try clear N_8
        subst E_9
        refine cont h5 tk5 ((am, om') :: (afi, ofi') :: Xl) v5' F5 N5 ?_ ⟨om', ofi', kvm', t5, rfl, hd5, hm5, hf5⟩
        intro p hp
        refine mcons hp ?_ fun hp => ?_
        · exact hoff2 (am, om) (.head _)
        refine mcons hp ?_ fun hp => ?_
        · exact hoff2 (afi, ofi) (.tail _ (.head _))
        · exact hoff2 p (.tail _ (.tail _ hp))
    · intro h5 tk5 led' F5 N5 N_10
      refine ex4_4 N_10 ?_; intro om' ofi' kvm' t5 E_11 hd5 hm5 hf5
      try clear N_10
      subst E_11
      k_steps
      refine h _ _ (turn + 1) t2' om' kvm' ofi' t5 rvs2 nr' ps' (ext2 ++ ext1) num (back_fr F5 N5 (.tail _ (.tail _ mL)) hoL hab) (back_news N5 fun p hp => ?_) le1 le1' hd5 hm5 hn1 hn3 hf5 (hrec1.sub fun p hp => ?_) (hTab2.sub fun p hp => ?_) (fun p hp q hq => ?_)
      · simp only [List.mem_cons, List.mem_append] at hp
        rcases hp with h | h | h | h | h | h | (h | h) | h
        · subst h; exact ⟨.tail _ (.tail _ (mX _ (by rw [hX0]; k_clsL))), hL1⟩
        · subst h; exact ⟨.tail _ (.tail _ (mX _ (by rw [hX0]; k_clsL))), hL2⟩
        · subst h; exact ⟨.tail _ (.head _), hL3⟩
        · subst h; exact ⟨.head _, hL4⟩
        · subst h; exact ⟨.tail _ (.tail _ (mX _ (by rw [hX0]; k_clsL))), hL5⟩
        · subst h; exact ⟨.tail _ (.tail _ mPt), hL6⟩
        · exact ⟨.tail _ (.tail _ (mPe p h)), Nat.ne_of_gt (x1 p h (L, oL) (.tail _ (.tail _ (.tail _ mkL))))⟩
        · exact ⟨.tail _ (.tail _ (mX _ (stX p (List.mem_append_left _ h)))), g4 p (List.mem_append_left _ h)⟩
        · exact ⟨.tail _ (.tail _ (mS _ h)), hLr p h⟩
      · simp only [List.mem_append] at hp ⊢
        rcases hp with h | h <;> simp [h]
      · simp only [List.mem_append] at hp ⊢
        rcases hp with h | h <;> simp [h]
      · refine Nat.lt_trans (l9 q hq) ?_
        rcases List.mem_append.mp hp with hp | hp
        · exact Nat.lt_trans (Nat.lt_succ_self _) (x1 p hp (L'+1, oc1) (.tail _ (.tail _ (.tail _ mk0))))
        · exact xe p hp
end E_moved_put
/- _law_moved, a PUT -/
theorem moved_put {w : World} {G : Heap} {L : Addr} {m : Str → Option Value} {p : Program} {loose : List Str} {mean : ExcName → Option Value} {mg mb : Str → Option Value} {E : Value → Shared → Prop} {s : Shared} {A : Around} {feed cells aw awd afi aop afl tw bu sz rc am rl blA : Addr} {c turn rec0 : Int} {nm : Str} {bl : List Nat} {rs : List (List Nat)} {tt tc ts tf : Tok} {vs rvs vsb : List Value} {ns : List Int} {nF nC nr nb : Nat} {oo otw obu osz orc om ofi : Obj} {ps : Array Value} {kvt kvm kvfi : List (Str × Value)} {kvo kvb kvs kvr : List (Int × Value)} {rest stt : List (Addr × Obj)} {Q : Value → Shared → Prop} : P_moved_put w G L m p loose mean mg mb E s A feed cells aw awd afi aop afl tw bu sz rc am rl blA c turn rec0 nm bl rs tt tc ts tf vs rvs vsb ns nF nC nr nb oo otw obu osz orc om ofi ps kvt kvm kvfi kvo kvb kvs kvr rest stt Q := eps_all (Ψ := U_moved_put) E_moved_put.go (w, G, L, m, p, loose, mean, mg, mb, E, s, A, feed, cells, aw, awd, afi, aop, afl, tw, bu, sz, rc, am, rl, blA, c, turn, rec0, nm, bl, rs, tt, tc, ts, tf, vs, rvs, vsb, ns, nF, nC, nr, nb, oo, otw, obu, osz, orc, om, ofi, ps, kvt, kvm, kvfi, kvo, kvb, kvs, kvr, rest, stt, Q)
section
variable {w : World} {G : Heap} {L : Addr} {m : Str → Option Value} {p : Program} {loose : List Str} {mean : ExcName → Option Value} {mg mb : Str → Option Value}
  {E : Value → Shared → Prop} {s : Shared} {A : Around}
end

section
variable {w : World} {G : Heap} {L : Addr} {m : Str → Option Value} {p : Program} {loose : List Str} {mean : ExcName → Option Value} {mg mb : Str → Option Value}
  {E : Value → Shared → Prop} {s : Shared} {A : Around}
end
def P_moved_get (w : World) (G : Heap) (L : Addr) (m : Str → Option Value) (p : Program) (loose : List Str) (mean : ExcName → Option Value) (mg mb : Str → Option Value) (E : Value → Shared → Prop) (s : Shared) (A : Around) (env₀ : Env) (feed cells aw awd afi aop afl tw bu sz rc am rl : Addr) (vbl : Value) (c turn rec0 : Int) (nm : Str) (bl : List Nat) (rs : List (List Nat)) (tt tc ts tf : Tok) (vs rvs : List Value) (ns : List Int) (nF nC nr : Nat) (oo otw obu osz orc om ofi : Obj) (ps : Array Value) (kvt kvm kvfi : List (Str × Value)) (kvo kvb kvs kvr : List (Int × Value)) (rest stt : List (Addr × Obj)) (Q : Value → Shared → Prop) : Prop := ∀ {size : Int} (hA : A.frames = some [env₀]) (hf₀ : env₀.frame = some L) (hk₀ : env₀.scope.kind ≠ .module) (hh : A.handled = none) (hdp : A.depth ≤ 500) (hu : A.units ≤ 500) (F : Fr G L s.heap m) (T : Top p loose mean mg mb G) (X : (hd.heap_1 w.params).In G) (C : CodeHd G 178 174) (N : News G L s.heap ((feed, listOf #[.ref cells, .int turn tt] nF) :: (cells, listOf vs.toArray nC) :: (am, om) :: (bu, obu) :: (174, tabObj ps) :: rest)) (hnd : @List.Nodup Nat [feed, cells, am, bu, 174]) (hoff : ∀ p ∈ rest, ¬ @Membership.mem Nat (List Nat) _ [feed, am, bu, 174] p.1) (hstt : ∀ p ∈ stt, p ∈ rest) (hi : IntsAre vs ns) (hvl : vs.length ≤ 100) (h0 : 0 ≤ turn) (h1 : turn ≤ 9000) (W : WorldAt rest aw awd afi aop afl) (m3 : (aop, oo) ∈ rest) (d3 : oo.IsDictOf (PySem.intKind PySem.Challenge.rw_pq0169_01.row.prog w) kvo) (lo3 : (aop == sysModules) = false) (v3 : valueAt kvo c = some (.ref am)) (dm : om.IsDictOf (PySem.strKind PySem.Challenge.rw_pq0169_01.row.prog w) kvm) (M : MadeIs kvm nm size bl rec0) (m5 : (afi, ofi) ∈ rest) (d5 : ofi.IsDictOf (PySem.strKind PySem.Challenge.rw_pq0169_01.row.prog w) kvfi) (v5 : valueAt kvfi nm = some (.str (TS rs.flatten) tf)) (mt : (tw, otw) ∈ rest) (dt : otw.IsDictOf (PySem.strKind PySem.Challenge.rw_pq0169_01.row.prog w) kvt) (vt2 : valueAt kvt (Str.ofString "sizes") = some (.ref sz)) (vt3 : valueAt kvt (Str.ofString "buffers") = some (.ref bu)) (vt4 : valueAt kvt (Str.ofString "records") = some (.ref rc)) (ms : (sz, osz) ∈ rest) (ds : osz.IsDictOf (PySem.intKind PySem.Challenge.rw_pq0169_01.row.prog w) kvs) (vs1 : valueAt kvs c = some (.int size ts)) (db : obu.IsDictOf (PySem.intKind PySem.Challenge.rw_pq0169_01.row.prog w) kvb) (lo7 : (bu == sysModules) = false) (vb : valueAt kvb c = some vbl) (zb : kvb.length ≤ 10) (mr : (rc, orc) ∈ rest) (dr : orc.IsDictOf (PySem.intKind PySem.Challenge.rw_pq0169_01.row.prog w) kvr) (vr : valueAt kvr c = some (.ref rl)) (mrl : (rl, listOf rvs.toArray nr) ∈ rest) (R : RecsIn rest rvs rs) (zr : ∀ r ∈ rs, r.length = size.toNat) (zr3 : rs.length ≤ 3) (hsz : size = 4 ∨ size = 6) (hTab : TabOk stt "_law_moved.<locals>.<lambda>" ps) (hOk : ∀ h' tk turn' tt' om' kvm' obu' ps' ext n r BL vsb' nb', Fr G L h' m → News G L h' ((feed, listOf #[.ref cells, .int turn' tt'] nF) :: (cells, listOf vs.toArray nC) :: (am, om') :: (bu, obu') :: (174, tabObj ps') :: (BL, listOf vsb'.toArray nb') :: (ext ++ rest)) →
    turn ≤ turn' → turn' ≤ turn + 10 → om'.IsDictOf (PySem.strKind PySem.Challenge.rw_pq0169_01.row.prog w) kvm' → MadeIs kvm' nm size r (n : Nat) → rs[n - 1]? = some r →
    obu'.IsDictOf (PySem.intKind PySem.Challenge.rw_pq0169_01.row.prog w) (stored kvb c (.ref BL)) → SignsAre vsb' r → TabOk (ext ++ stt) "_law_moved.<locals>.<lambda>" ps' →
    (∀ p ∈ (BL, listOf vsb'.toArray nb') :: ext, ∀ q ∈ (feed, listOf #[.ref cells, .int turn tt] nF) :: (cells, listOf vs.toArray nC) :: (am, om) :: (bu, obu) :: ((174 : Addr), tabObj ps) :: rest, @LT.lt Nat _ q.1 p.1) → (∀ p ∈ ext, @LT.lt Nat _ BL p.1) → Q (.bool true) { s with heap := h', toks := tk }) (hEF : ∀ h' tk turn' tt' ps' ext, Fr G L h' m → News G L h' ((feed, listOf #[.ref cells, .int turn' tt'] nF) :: (cells, listOf vs.toArray nC) :: (am, om) :: (bu, obu) :: (174, tabObj ps') :: (ext ++ rest)) →
    turn ≤ turn' → turn' ≤ turn + 10 → TabOk (ext ++ stt) "_law_moved.<locals>.<lambda>" ps' →
    (∀ p ∈ ext, ∀ q ∈ (feed, listOf #[.ref cells, .int turn tt] nF) :: (cells, listOf vs.toArray nC) :: (am, om) :: (bu, obu) :: ((174 : Addr), tabObj ps) :: rest, @LT.lt Nat _ q.1 p.1) → Q (.bool true) { s with heap := h', toks := tk }), wpAny (model PySem.Challenge.rw_pq0169_01.row.prog w) A (call (.ref 179) [.ref feed, .ref aw, .ref tw, .int c tc, .bool false] []) Q E s
def U_moved_get (c : (World) × (Heap) × (Addr) × (Str → Option Value) × (Program) × (List Str) × (ExcName → Option Value) × (Str → Option Value) × (Str → Option Value) × (Value → Shared → Prop) × (Shared) × (Around) × (Env) × (Addr) × (Addr) × (Addr) × (Addr) × (Addr) × (Addr) × (Addr) × (Addr) × (Addr) × (Addr) × (Addr) × (Addr) × (Addr) × (Value) × (Int) × (Int) × (Int) × (Str) × (List Nat) × (List (List Nat)) × (Tok) × (Tok) × (Tok) × (Tok) × (List Value) × (List Value) × (List Int) × (Nat) × (Nat) × (Nat) × (Obj) × (Obj) × (Obj) × (Obj) × (Obj) × (Obj) × (Obj) × (Array Value) × (List (Str × Value)) × (List (Str × Value)) × (List (Str × Value)) × (List (Int × Value)) × (List (Int × Value)) × (List (Int × Value)) × (List (Int × Value)) × (List (Addr × Obj)) × (List (Addr × Obj)) × (Value → Shared → Prop)) : Prop := P_moved_get c.1 c.2.1 c.2.2.1 c.2.2.2.1 c.2.2.2.2.1 c.2.2.2.2.2.1 c.2.2.2.2.2.2.1 c.2.2.2.2.2.2.2.1 c.2.2.2.2.2.2.2.2.1 c.2.2.2.2.2.2.2.2.2.1 c.2.2.2.2.2.2.2.2.2.2.1 c.2.2.2.2.2.2.2.2.2.2.2.1 c.2.2.2.2.2.2.2.2.2.2.2.2.1 c.2.2.2.2.2.2.2.2.2.2.2.2.2.1 c.2.2.2.2.2.2.2.2.2.2.2.2.2.2.1 c.2.2.2.2.2.2.2.2.2.2.2.2.2.2.2.1 c.2.2.2.2.2.2.2.2.2.2.2.2.2.2.2.2.1 c.2.2.2.2.2.2.2.2.2.2.2.2.2.2.2.2.2.1 c.2.2.2.2.2.2.2.2.2.2.2.2.2.2.2.2.2.2.1 c.2.2.2.2.2.2.2.2.2.2.2.2.2.2.2.2.2.2.2.1 c.2.2.2.2.2.2.2.2.2.2.2.2.2.2.2.2.2.2.2.2.1 c.2.2.2.2.2.2.2.2.2.2.2.2.2.2.2.2.2.2.2.2.2.1 c.2.2.2.2.2.2.2.2.2.2.2.2.2.2.2.2.2.2.2.2.2.2.1 c.2.2.2.2.2.2.2.2.2.2.2.2.2.2.2.2.2.2.2.2.2.2.2.1 c.2.2.2.2.2.2.2.2.2.2.2.2.2.2.2.2.2.2.2.2.2.2.2.2.1 c.2.2.2.2.2.2.2.2.2.2.2.2.2.2.2.2.2.2.2.2.2.2.2.2.2.1 c.2.2.2.2.2.2.2.2.2.2.2.2.2.2.2.2.2.2.2.2.2.2.2.2.2.2.1 c.2.2.2.2.2.2.2.2.2.2.2.2.2.2.2.2.2.2.2.2.2.2.2.2.2.2.2.1 c.2.2.2.2.2.2.2.2.2.2.2.2.2.2.2.2.2.2.2.2.2.2.2.2.2.2.2.2.1 c.2.2.2.2.2.2.2.2.2.2.2.2.2.2.2.2.2.2.2.2.2.2.2.2.2.2.2.2.2.1 c.2.2.2.2.2.2.2.2.2.2.2.2.2.2.2.2.2.2.2.2.2.2.2.2.2.2.2.2.2.2.1 c.2.2.2.2.2.2.2.2.2.2.2.2.2.2.2.2.2.2.2.2.2.2.2.2.2.2.2.2.2.2.2.1 c.2.2.2.2.2.2.2.2.2.2.2.2.2.2.2.2.2.2.2.2.2.2.2.2.2.2.2.2.2.2.2.2.1 c.2.2.2.2.2.2.2.2.2.2.2.2.2.2.2.2.2.2.2.2.2.2.2.2.2.2.2.2.2.2.2.2.2.1 c.2.2.2.2.2.2.2.2.2.2.2.2.2.2.2.2.2.2.2.2.2.2.2.2.2.2.2.2.2.2.2.2.2.2.1 c.2.2.2.2.2.2.2.2.2.2.2.2.2.2.2.2.2.2.2.2.2.2.2.2.2.2.2.2.2.2.2.2.2.2.2.1 c.2.2.2.2.2.2.2.2.2.2.2.2.2.2.2.2.2.2.2.2.2.2.2.2.2.2.2.2.2.2.2.2.2.2.2.2.1 c.2.2.2.2.2.2.2.2.2.2.2.2.2.2.2.2.2.2.2.2.2.2.2.2.2.2.2.2.2.2.2.2.2.2.2.2.2.1 c.2.2.2.2.2.2.2.2.2.2.2.2.2.2.2.2.2.2.2.2.2.2.2.2.2.2.2.2.2.2.2.2.2.2.2.2.2.2.1 c.2.2.2.2.2.2.2.2.2.2.2.2.2.2.2.2.2.2.2.2.2.2.2.2.2.2.2.2.2.2.2.2.2.2.2.2.2.2.2.1 c.2.2.2.2.2.2.2.2.2.2.2.2.2.2.2.2.2.2.2.2.2.2.2.2.2.2.2.2.2.2.2.2.2.2.2.2.2.2.2.2.1 c.2.2.2.2.2.2.2.2.2.2.2.2.2.2.2.2.2.2.2.2.2.2.2.2.2.2.2.2.2.2.2.2.2.2.2.2.2.2.2.2.2.1 c.2.2.2.2.2.2.2.2.2.2.2.2.2.2.2.2.2.2.2.2.2.2.2.2.2.2.2.2.2.2.2.2.2.2.2.2.2.2.2.2.2.2.1 c.2.2.2.2.2.2.2.2.2.2.2.2.2.2.2.2.2.2.2.2.2.2.2.2.2.2.2.2.2.2.2.2.2.2.2.2.2.2.2.2.2.2.2.1 c.2.2.2.2.2.2.2.2.2.2.2.2.2.2.2.2.2.2.2.2.2.2.2.2.2.2.2.2.2.2.2.2.2.2.2.2.2.2.2.2.2.2.2.2.1 c.2.2.2.2.2.2.2.2.2.2.2.2.2.2.2.2.2.2.2.2.2.2.2.2.2.2.2.2.2.2.2.2.2.2.2.2.2.2.2.2.2.2.2.2.2.1 c.2.2.2.2.2.2.2.2.2.2.2.2.2.2.2.2.2.2.2.2.2.2.2.2.2.2.2.2.2.2.2.2.2.2.2.2.2.2.2.2.2.2.2.2.2.2.1 c.2.2.2.2.2.2.2.2.2.2.2.2.2.2.2.2.2.2.2.2.2.2.2.2.2.2.2.2.2.2.2.2.2.2.2.2.2.2.2.2.2.2.2.2.2.2.2.1 c.2.2.2.2.2.2.2.2.2.2.2.2.2.2.2.2.2.2.2.2.2.2.2.2.2.2.2.2.2.2.2.2.2.2.2.2.2.2.2.2.2.2.2.2.2.2.2.2.1 c.2.2.2.2.2.2.2.2.2.2.2.2.2.2.2.2.2.2.2.2.2.2.2.2.2.2.2.2.2.2.2.2.2.2.2.2.2.2.2.2.2.2.2.2.2.2.2.2.2.1 c.2.2.2.2.2.2.2.2.2.2.2.2.2.2.2.2.2.2.2.2.2.2.2.2.2.2.2.2.2.2.2.2.2.2.2.2.2.2.2.2.2.2.2.2.2.2.2.2.2.2.1 c.2.2.2.2.2.2.2.2.2.2.2.2.2.2.2.2.2.2.2.2.2.2.2.2.2.2.2.2.2.2.2.2.2.2.2.2.2.2.2.2.2.2.2.2.2.2.2.2.2.2.2.1 c.2.2.2.2.2.2.2.2.2.2.2.2.2.2.2.2.2.2.2.2.2.2.2.2.2.2.2.2.2.2.2.2.2.2.2.2.2.2.2.2.2.2.2.2.2.2.2.2.2.2.2.2.1 c.2.2.2.2.2.2.2.2.2.2.2.2.2.2.2.2.2.2.2.2.2.2.2.2.2.2.2.2.2.2.2.2.2.2.2.2.2.2.2.2.2.2.2.2.2.2.2.2.2.2.2.2.2.1 c.2.2.2.2.2.2.2.2.2.2.2.2.2.2.2.2.2.2.2.2.2.2.2.2.2.2.2.2.2.2.2.2.2.2.2.2.2.2.2.2.2.2.2.2.2.2.2.2.2.2.2.2.2.2.1 c.2.2.2.2.2.2.2.2.2.2.2.2.2.2.2.2.2.2.2.2.2.2.2.2.2.2.2.2.2.2.2.2.2.2.2.2.2.2.2.2.2.2.2.2.2.2.2.2.2.2.2.2.2.2.2.1 c.2.2.2.2.2.2.2.2.2.2.2.2.2.2.2.2.2.2.2.2.2.2.2.2.2.2.2.2.2.2.2.2.2.2.2.2.2.2.2.2.2.2.2.2.2.2.2.2.2.2.2.2.2.2.2.2.1 c.2.2.2.2.2.2.2.2.2.2.2.2.2.2.2.2.2.2.2.2.2.2.2.2.2.2.2.2.2.2.2.2.2.2.2.2.2.2.2.2.2.2.2.2.2.2.2.2.2.2.2.2.2.2.2.2.2.1 c.2.2.2.2.2.2.2.2.2.2.2.2.2.2.2.2.2.2.2.2.2.2.2.2.2.2.2.2.2.2.2.2.2.2.2.2.2.2.2.2.2.2.2.2.2.2.2.2.2.2.2.2.2.2.2.2.2.2.1 c.2.2.2.2.2.2.2.2.2.2.2.2.2.2.2.2.2.2.2.2.2.2.2.2.2.2.2.2.2.2.2.2.2.2.2.2.2.2.2.2.2.2.2.2.2.2.2.2.2.2.2.2.2.2.2.2.2.2.2.1 c.2.2.2.2.2.2.2.2.2.2.2.2.2.2.2.2.2.2.2.2.2.2.2.2.2.2.2.2.2.2.2.2.2.2.2.2.2.2.2.2.2.2.2.2.2.2.2.2.2.2.2.2.2.2.2.2.2.2.2.2
/- the letters at which it would fail, if there are such -/
noncomputable def K_moved_get : (World) × (Heap) × (Addr) × (Str → Option Value) × (Program) × (List Str) × (ExcName → Option Value) × (Str → Option Value) × (Str → Option Value) × (Value → Shared → Prop) × (Shared) × (Around) × (Env) × (Addr) × (Addr) × (Addr) × (Addr) × (Addr) × (Addr) × (Addr) × (Addr) × (Addr) × (Addr) × (Addr) × (Addr) × (Addr) × (Value) × (Int) × (Int) × (Int) × (Str) × (List Nat) × (List (List Nat)) × (Tok) × (Tok) × (Tok) × (Tok) × (List Value) × (List Value) × (List Int) × (Nat) × (Nat) × (Nat) × (Obj) × (Obj) × (Obj) × (Obj) × (Obj) × (Obj) × (Obj) × (Array Value) × (List (Str × Value)) × (List (Str × Value)) × (List (Str × Value)) × (List (Int × Value)) × (List (Int × Value)) × (List (Int × Value)) × (List (Int × Value)) × (List (Addr × Obj)) × (List (Addr × Obj)) × (Value → Shared → Prop) := @Classical.epsilon _ (neP ⟨aWorld 0⟩ (neP ⟨default⟩ (neP ⟨default⟩ (neP ⟨default⟩ (neP ⟨default⟩ (neP ⟨default⟩ (neP ⟨default⟩ (neP ⟨default⟩ (neP ⟨default⟩ (neP ⟨default⟩ (neP neS (neP ⟨{}⟩ (neP ⟨default⟩ (neP ⟨default⟩ (neP ⟨default⟩ (neP ⟨default⟩ (neP ⟨default⟩ (neP ⟨default⟩ (neP ⟨default⟩ (neP ⟨default⟩ (neP ⟨default⟩ (neP ⟨default⟩ (neP ⟨default⟩ (neP ⟨default⟩ (neP ⟨default⟩ (neP ⟨default⟩ (neP ⟨default⟩ (neP ⟨default⟩ (neP ⟨default⟩ (neP ⟨default⟩ (neP ⟨default⟩ (neP ⟨default⟩ (neP ⟨default⟩ (neP ⟨default⟩ (neP ⟨default⟩ (neP ⟨default⟩ (neP ⟨default⟩ (neP ⟨default⟩ (neP ⟨default⟩ (neP ⟨default⟩ (neP ⟨default⟩ (neP ⟨default⟩ (neP ⟨default⟩ (neP ⟨default⟩ (neP ⟨default⟩ (neP ⟨default⟩ (neP ⟨default⟩ (neP ⟨default⟩ (neP ⟨default⟩ (neP ⟨default⟩ (neP ⟨default⟩ (neP ⟨default⟩ (neP ⟨default⟩ (neP ⟨default⟩ (neP ⟨default⟩ (neP ⟨default⟩ (neP ⟨default⟩ (neP ⟨default⟩ (neP ⟨default⟩ (neP ⟨default⟩ ⟨default⟩)))))))))))))))))))))))))))))))))))))))))))))))))))))))))))) fun c => ¬ U_moved_get c
namespace E_moved_get
noncomputable def w : World := K_moved_get.1
noncomputable def G : Heap := K_moved_get.2.1
noncomputable def L : Addr := K_moved_get.2.2.1
noncomputable def m : Str → Option Value := K_moved_get.2.2.2.1
noncomputable def p : Program := K_moved_get.2.2.2.2.1
noncomputable def loose : List Str := K_moved_get.2.2.2.2.2.1
noncomputable def mean : ExcName → Option Value := K_moved_get.2.2.2.2.2.2.1
noncomputable def mg : Str → Option Value := K_moved_get.2.2.2.2.2.2.2.1
noncomputable def mb : Str → Option Value := K_moved_get.2.2.2.2.2.2.2.2.1
noncomputable def E : Value → Shared → Prop := K_moved_get.2.2.2.2.2.2.2.2.2.1
noncomputable def s : Shared := K_moved_get.2.2.2.2.2.2.2.2.2.2.1
noncomputable def A : Around := K_moved_get.2.2.2.2.2.2.2.2.2.2.2.1
noncomputable def env₀ : Env := K_moved_get.2.2.2.2.2.2.2.2.2.2.2.2.1
noncomputable def feed : Addr := K_moved_get.2.2.2.2.2.2.2.2.2.2.2.2.2.1
noncomputable def cells : Addr := K_moved_get.2.2.2.2.2.2.2.2.2.2.2.2.2.2.1
noncomputable def aw : Addr := K_moved_get.2.2.2.2.2.2.2.2.2.2.2.2.2.2.2.1
noncomputable def awd : Addr := K_moved_get.2.2.2.2.2.2.2.2.2.2.2.2.2.2.2.2.1
noncomputable def afi : Addr := K_moved_get.2.2.2.2.2.2.2.2.2.2.2.2.2.2.2.2.2.1
noncomputable def aop : Addr := K_moved_get.2.2.2.2.2.2.2.2.2.2.2.2.2.2.2.2.2.2.1
noncomputable def afl : Addr := K_moved_get.2.2.2.2.2.2.2.2.2.2.2.2.2.2.2.2.2.2.2.1
noncomputable def tw : Addr := K_moved_get.2.2.2.2.2.2.2.2.2.2.2.2.2.2.2.2.2.2.2.2.1
noncomputable def bu : Addr := K_moved_get.2.2.2.2.2.2.2.2.2.2.2.2.2.2.2.2.2.2.2.2.2.1
noncomputable def sz : Addr := K_moved_get.2.2.2.2.2.2.2.2.2.2.2.2.2.2.2.2.2.2.2.2.2.2.1
noncomputable def rc : Addr := K_moved_get.2.2.2.2.2.2.2.2.2.2.2.2.2.2.2.2.2.2.2.2.2.2.2.1
noncomputable def am : Addr := K_moved_get.2.2.2.2.2.2.2.2.2.2.2.2.2.2.2.2.2.2.2.2.2.2.2.2.1
noncomputable def rl : Addr := K_moved_get.2.2.2.2.2.2.2.2.2.2.2.2.2.2.2.2.2.2.2.2.2.2.2.2.2.1
noncomputable def vbl : Value := K_moved_get.2.2.2.2.2.2.2.2.2.2.2.2.2.2.2.2.2.2.2.2.2.2.2.2.2.2.1
noncomputable def c : Int := K_moved_get.2.2.2.2.2.2.2.2.2.2.2.2.2.2.2.2.2.2.2.2.2.2.2.2.2.2.2.1
noncomputable def turn : Int := K_moved_get.2.2.2.2.2.2.2.2.2.2.2.2.2.2.2.2.2.2.2.2.2.2.2.2.2.2.2.2.1
noncomputable def rec0 : Int := K_moved_get.2.2.2.2.2.2.2.2.2.2.2.2.2.2.2.2.2.2.2.2.2.2.2.2.2.2.2.2.2.1
noncomputable def nm : Str := K_moved_get.2.2.2.2.2.2.2.2.2.2.2.2.2.2.2.2.2.2.2.2.2.2.2.2.2.2.2.2.2.2.1
noncomputable def bl : List Nat := K_moved_get.2.2.2.2.2.2.2.2.2.2.2.2.2.2.2.2.2.2.2.2.2.2.2.2.2.2.2.2.2.2.2.1
noncomputable def rs : List (List Nat) := K_moved_get.2.2.2.2.2.2.2.2.2.2.2.2.2.2.2.2.2.2.2.2.2.2.2.2.2.2.2.2.2.2.2.2.1
noncomputable def tt : Tok := K_moved_get.2.2.2.2.2.2.2.2.2.2.2.2.2.2.2.2.2.2.2.2.2.2.2.2.2.2.2.2.2.2.2.2.2.1
noncomputable def tc : Tok := K_moved_get.2.2.2.2.2.2.2.2.2.2.2.2.2.2.2.2.2.2.2.2.2.2.2.2.2.2.2.2.2.2.2.2.2.2.1
noncomputable def ts : Tok := K_moved_get.2.2.2.2.2.2.2.2.2.2.2.2.2.2.2.2.2.2.2.2.2.2.2.2.2.2.2.2.2.2.2.2.2.2.2.1
noncomputable def tf : Tok := K_moved_get.2.2.2.2.2.2.2.2.2.2.2.2.2.2.2.2.2.2.2.2.2.2.2.2.2.2.2.2.2.2.2.2.2.2.2.2.1
noncomputable def vs : List Value := K_moved_get.2.2.2.2.2.2.2.2.2.2.2.2.2.2.2.2.2.2.2.2.2.2.2.2.2.2.2.2.2.2.2.2.2.2.2.2.2.1
noncomputable def rvs : List Value := K_moved_get.2.2.2.2.2.2.2.2.2.2.2.2.2.2.2.2.2.2.2.2.2.2.2.2.2.2.2.2.2.2.2.2.2.2.2.2.2.2.1
noncomputable def ns : List Int := K_moved_get.2.2.2.2.2.2.2.2.2.2.2.2.2.2.2.2.2.2.2.2.2.2.2.2.2.2.2.2.2.2.2.2.2.2.2.2.2.2.2.1
noncomputable def nF : Nat := K_moved_get.2.2.2.2.2.2.2.2.2.2.2.2.2.2.2.2.2.2.2.2.2.2.2.2.2.2.2.2.2.2.2.2.2.2.2.2.2.2.2.2.1
noncomputable def nC : Nat := K_moved_get.2.2.2.2.2.2.2.2.2.2.2.2.2.2.2.2.2.2.2.2.2.2.2.2.2.2.2.2.2.2.2.2.2.2.2.2.2.2.2.2.2.1
noncomputable def nr : Nat := K_moved_get.2.2.2.2.2.2.2.2.2.2.2.2.2.2.2.2.2.2.2.2.2.2.2.2.2.2.2.2.2.2.2.2.2.2.2.2.2.2.2.2.2.2.1
noncomputable def oo : Obj := K_moved_get.2.2.2.2.2.2.2.2.2.2.2.2.2.2.2.2.2.2.2.2.2.2.2.2.2.2.2.2.2.2.2.2.2.2.2.2.2.2.2.2.2.2.2.1
noncomputable def otw : Obj := K_moved_get.2.2.2.2.2.2.2.2.2.2.2.2.2.2.2.2.2.2.2.2.2.2.2.2.2.2.2.2.2.2.2.2.2.2.2.2.2.2.2.2.2.2.2.2.1
noncomputable def obu : Obj := K_moved_get.2.2.2.2.2.2.2.2.2.2.2.2.2.2.2.2.2.2.2.2.2.2.2.2.2.2.2.2.2.2.2.2.2.2.2.2.2.2.2.2.2.2.2.2.2.1
noncomputable def osz : Obj := K_moved_get.2.2.2.2.2.2.2.2.2.2.2.2.2.2.2.2.2.2.2.2.2.2.2.2.2.2.2.2.2.2.2.2.2.2.2.2.2.2.2.2.2.2.2.2.2.2.1
noncomputable def orc : Obj := K_moved_get.2.2.2.2.2.2.2.2.2.2.2.2.2.2.2.2.2.2.2.2.2.2.2.2.2.2.2.2.2.2.2.2.2.2.2.2.2.2.2.2.2.2.2.2.2.2.2.1
noncomputable def om : Obj := K_moved_get.2.2.2.2.2.2.2.2.2.2.2.2.2.2.2.2.2.2.2.2.2.2.2.2.2.2.2.2.2.2.2.2.2.2.2.2.2.2.2.2.2.2.2.2.2.2.2.2.1
noncomputable def ofi : Obj := K_moved_get.2.2.2.2.2.2.2.2.2.2.2.2.2.2.2.2.2.2.2.2.2.2.2.2.2.2.2.2.2.2.2.2.2.2.2.2.2.2.2.2.2.2.2.2.2.2.2.2.2.1
noncomputable def ps : Array Value := K_moved_get.2.2.2.2.2.2.2.2.2.2.2.2.2.2.2.2.2.2.2.2.2.2.2.2.2.2.2.2.2.2.2.2.2.2.2.2.2.2.2.2.2.2.2.2.2.2.2.2.2.2.1
noncomputable def kvt : List (Str × Value) := K_moved_get.2.2.2.2.2.2.2.2.2.2.2.2.2.2.2.2.2.2.2.2.2.2.2.2.2.2.2.2.2.2.2.2.2.2.2.2.2.2.2.2.2.2.2.2.2.2.2.2.2.2.2.1
noncomputable def kvm : List (Str × Value) := K_moved_get.2.2.2.2.2.2.2.2.2.2.2.2.2.2.2.2.2.2.2.2.2.2.2.2.2.2.2.2.2.2.2.2.2.2.2.2.2.2.2.2.2.2.2.2.2.2.2.2.2.2.2.2.1
noncomputable def kvfi : List (Str × Value) := K_moved_get.2.2.2.2.2.2.2.2.2.2.2.2.2.2.2.2.2.2.2.2.2.2.2.2.2.2.2.2.2.2.2.2.2.2.2.2.2.2.2.2.2.2.2.2.2.2.2.2.2.2.2.2.2.1
noncomputable def kvo : List (Int × Value) := K_moved_get.2.2.2.2.2.2.2.2.2.2.2.2.2.2.2.2.2.2.2.2.2.2.2.2.2.2.2.2.2.2.2.2.2.2.2.2.2.2.2.2.2.2.2.2.2.2.2.2.2.2.2.2.2.2.1
noncomputable def kvb : List (Int × Value) := K_moved_get.2.2.2.2.2.2.2.2.2.2.2.2.2.2.2.2.2.2.2.2.2.2.2.2.2.2.2.2.2.2.2.2.2.2.2.2.2.2.2.2.2.2.2.2.2.2.2.2.2.2.2.2.2.2.2.1
noncomputable def kvs : List (Int × Value) := K_moved_get.2.2.2.2.2.2.2.2.2.2.2.2.2.2.2.2.2.2.2.2.2.2.2.2.2.2.2.2.2.2.2.2.2.2.2.2.2.2.2.2.2.2.2.2.2.2.2.2.2.2.2.2.2.2.2.2.1
noncomputable def kvr : List (Int × Value) := K_moved_get.2.2.2.2.2.2.2.2.2.2.2.2.2.2.2.2.2.2.2.2.2.2.2.2.2.2.2.2.2.2.2.2.2.2.2.2.2.2.2.2.2.2.2.2.2.2.2.2.2.2.2.2.2.2.2.2.2.1
noncomputable def rest : List (Addr × Obj) := K_moved_get.2.2.2.2.2.2.2.2.2.2.2.2.2.2.2.2.2.2.2.2.2.2.2.2.2.2.2.2.2.2.2.2.2.2.2.2.2.2.2.2.2.2.2.2.2.2.2.2.2.2.2.2.2.2.2.2.2.2.1
noncomputable def stt : List (Addr × Obj) := K_moved_get.2.2.2.2.2.2.2.2.2.2.2.2.2.2.2.2.2.2.2.2.2.2.2.2.2.2.2.2.2.2.2.2.2.2.2.2.2.2.2.2.2.2.2.2.2.2.2.2.2.2.2.2.2.2.2.2.2.2.2.1
noncomputable def Q : Value → Shared → Prop := K_moved_get.2.2.2.2.2.2.2.2.2.2.2.2.2.2.2.2.2.2.2.2.2.2.2.2.2.2.2.2.2.2.2.2.2.2.2.2.2.2.2.2.2.2.2.2.2.2.2.2.2.2.2.2.2.2.2.2.2.2.2.2
theorem go : P_moved_get w G L m p loose mean mg mb E s A env₀ feed cells aw awd afi aop afl tw bu sz rc am rl vbl c turn rec0 nm bl rs tt tc ts tf vs rvs ns nF nC nr oo otw obu osz orc om ofi ps kvt kvm kvfi kvo kvb kvs kvr rest stt Q := by
  intro size hA hf₀ hk₀ hh hdp hu F T X C N hnd hoff hstt hi hvl h0 h1 W m3 d3 lo3 v3 dm M m5 d5 v5 mt dt vt2 vt3 vt4 ms ds vs1 db lo7 vb zb mr dr vr mrl R zr zr3 hsz hTab hOk hEF
  refine wpAny_weakF (A' := { handled := none, depth := 500, frames := some [env₀], units := 500 }) ?_ hh hdp hu hA.symm rfl
  revert X
  k_fill
  intro X
  refine wpAny_call ?_
  have hab := F.above
  have hs4 : 4 ≤ size := by rcases hsz with rfl | rfl <;> decide
  have hs6 : size ≤ 6 := by rcases hsz with rfl | rfl <;> decide
  clear hsz
  refine ex0_2 (sz_nat hs4 hs6) ?_; intro zz5 zzs
  obtain ⟨-, -, zz6, zz7⟩ := sz_facts hs4 hs6
  have hfl : rs.flatten.length ≤ 100 := by
    rw [flat_len zr]
    exact Nat.le_trans (Nat.mul_le_mul zr3 zz5) (by decide)
  have hbeg : ∀ num : Nat, 1 ≤ num → ((num : Int) - 1) * size = (((num - 1) * size.toNat : Nat) : Int) := by
    exact beg_nat zz6
  simp only [List.nodup_cons, List.mem_cons, List.not_mem_nil, or_false, not_or, not_false_eq_true, List.nodup_nil, and_true] at hnd
  refine ex0_4 hnd ?_; intro N_1 N_2 N_3 n10
  try clear hnd
  refine ex0_4 N_1 ?_; intro n1 n2 n3 n4
  try clear N_1
  refine ex0_3 N_2 ?_; intro n5 n6 n7
  try clear N_2
  refine ex0_2 N_3 ?_; intro n8 n9
  try clear N_3
  simp only [List.mem_cons, List.not_mem_nil, or_false, not_or] at hoff
  have off1 : ∀ p ∈ rest, p.1 ≠ feed := fun p hp => (hoff p hp).1
  have off3 : ∀ p ∈ rest, p.1 ≠ am := fun p hp => (hoff p hp).2.1
  have off4 : ∀ p ∈ rest, p.1 ≠ bu := fun p hp => (hoff p hp).2.2.1
  have off5 : ∀ p ∈ rest, p.1 ≠ 174 := fun p hp => (hoff p hp).2.2.2
  clear hoff
  have hL1 : @Ne Nat feed L := (N _ (.head _)).2.1
  have hL2 : @Ne Nat cells L := (N _ (.tail _ (.head _))).2.1
  have hL4 : @Ne Nat am L := (N _ (.tail _ (.tail _ (.head _)))).2.1
  have hL5 : @Ne Nat bu L := (N _ (.tail _ (.tail _ (.tail _ (.head _))))).2.1
  have hL6 : @Ne Nat 174 L := (N _ (.tail _ (.tail _ (.tail _ (.tail _ (.head _)))))).2.1
  have hLr : ∀ p ∈ rest, p.1 ≠ L := fun p hp => (N p (.tail _ (.tail _ (.tail _ (.tail _ (.tail _ hp)))))).2.1
  refine' enterC (binds := [(Str.ofString "feed", .ref feed), (Str.ofString "world", .ref aw), (Str.ofString "twin", .ref tw), (Str.ofString "channel", .int c tc), (Str.ofString "is_put", .bool false)]) F X N (Top.nolimit T) ?k6 ?k7 ?k8 ?k9 ?kB ?kD ?_ ?c2 ?c3 ?c4
  case k8 => exact Nat.lt_of_le_of_lt (Nat.le_refl 500) (by decide)
  (((case k6 => k_is); (case k7 => k_is); (case k9 => first | exact BindsTo.of_eq rfl | exact binds_K (by k_in) rfl (by k_is) rfl rfl rfl); (case kB => (intro n'; ((repeat (first | exact List.forall_mem_nil _ | refine List.forall_mem_cons.mpr ⟨by first | exact .inl rfl | exact .inr ⟨rfl, rfl⟩, ?_⟩))))); (case kD => decide +kernel); (case c2 => exact rfl); (case c3 => exact rfl); (case c4 => exact rfl)))
  intro L' h₁ tk₁ oL cells' hoL F' N' Y l0
  clear F N
  refine ex4_5 (CellsAre.four Y) ?_; intro oc4 oc3 oc2 oc1 hE q4 q3 q2 q1
  subst hE
  clear Y
  have q1 : oc1.data = .cell (some (.ref aw)) := q1
  have q2 : oc2.data = .cell (some (.int c tc)) := q2
  have q3 : oc3.data = .cell (some (.bool false)) := q3
  have q4 : oc4.data = .cell none := q4
  have lL : @LT.lt Nat _ L L' := l0 _ (.head _)
  have lF : @LT.lt Nat _ feed L' := l0 _ (.tail _ (.head _))
  have lC : @LT.lt Nat _ cells L' := l0 _ (.tail _ (.tail _ (.head _)))
  have la : @LT.lt Nat _ am L' := l0 _ (.tail _ (.tail _ (.tail _ (.head _))))
  have ll : @LT.lt Nat _ bu L' := l0 _ (.tail _ (.tail _ (.tail _ (.tail _ (.head _)))))
  have lt : @LT.lt Nat _ 174 L' := l0 _ (.tail _ (.tail _ (.tail _ (.tail _ (.tail _ (.head _))))))
  have lr : ∀ p ∈ rest, @LT.lt Nat _ p.1 L' := fun p hp => l0 _ (.tail _ (.tail _ (.tail _ (.tail _ (.tail _ (.tail _ hp))))))
  have lr1 : ∀ p ∈ rest, p.1 ≠ L' + 1 := fun p hp => Nat.ne_of_lt (Nat.lt_succ_of_lt (lr p hp))
  have lr2 : ∀ p ∈ rest, p.1 ≠ L' + 1 + 1 := fun p hp => Nat.ne_of_lt (Nat.lt_succ_of_lt (Nat.lt_succ_of_lt (lr p hp)))
  have lr3 : ∀ p ∈ rest, p.1 ≠ L' + 1 + 1 + 1 := fun p hp => Nat.ne_of_lt (Nat.lt_succ_of_lt (Nat.lt_succ_of_lt (Nat.lt_succ_of_lt (lr p hp))))
  have lr4 : ∀ p ∈ rest, p.1 ≠ L' + 1 + 1 + 1 + 1 := fun p hp => Nat.ne_of_lt (Nat.lt_succ_of_lt (Nat.lt_succ_of_lt (Nat.lt_succ_of_lt (Nat.lt_succ_of_lt (lr p hp)))))
  have l9 : ∀ p ∈ (feed, listOf #[.ref cells, .int turn tt] nF) :: (cells, listOf vs.toArray nC) :: (am, om) :: (bu, obu) :: ((174 : Addr), tabObj ps) :: rest, @LT.lt Nat _ p.1 L' := fun p hp => l0 p (.tail _ hp)
  clear l0
  simp only [List.cons_append, List.nil_append] at N'
  dsimp only
  have N1 := news_sub N' (nl' := (feed, listOf #[.ref cells, .int turn tt] nF) :: (cells, listOf vs.toArray nC) :: (L'+1+1+1+1, oc4) :: (L'+1+1+1, oc3) :: (L'+1+1, oc2) :: (L'+1, oc1) :: (L, oL) :: (am, om) :: (bu, obu) :: (174, tabObj ps) :: rest) (by ((repeat (first | exact List.forall_mem_nil _ | refine List.forall_mem_cons.mpr ⟨by k_mem, ?_⟩ | (intro p' hp'; k_mem)))))
  clear N'
  k_steps
  ((refine' next_any rfl ?a_193 ?b_193 ?F_193 ?T_193 ?X_193 ?N_193 ?nd1_193 ?nd2_193 (by assumption) (by assumption) ?h0_193 ?h1_193 (by first | decide | (simp only [List.size_toArray]; first | assumption | omega)) (by first | decide | (simp only [List.size_toArray]; first | assumption | omega)) ?_; (case a_193 => (exact Nat.le_of_ble_eq_true rfl)); (case b_193 => (exact Nat.le_of_ble_eq_true rfl)); (case F_193 => k_asm); (case T_193 => k_asm); (case X_193 => k_asm); (case N_193 => k_asm); (case nd1_193 => first | assumption | k_ne); (case nd2_193 => first | assumption | k_all); (case h0_193 => first | assumption | omega); (case h1_193 => first | assumption | omega)))
  intro h2 tk2 r2 t2 t2' hr20 hr21 F2 N2
  have N3 := news_sub N2 (nl' := (L'+1+1+1+1, oc4) :: (L'+1+1+1, oc3) :: (L'+1+1, oc2) :: (L'+1, oc1) :: (L, oL) :: (feed, listOf #[.ref cells, .int (turn + 1) t2'] nF) :: (cells, listOf vs.toArray nC) :: (am, om) :: (bu, obu) :: (174, tabObj ps) :: rest) (by ((repeat (first | exact List.forall_mem_nil _ | refine List.forall_mem_cons.mpr ⟨by k_mem, ?_⟩ | (intro p' hp'; k_mem)))))
  clear N2
  have vb' : (valueAt kvb c).isSome = true := by rw [vb]; rfl
  refine ex1_1 (ex_nat (r1_0 hr20 hr21).1 : ∃ n : Nat, (1 + r2 : Int) = (n : Int)) ?_; intro num hnum
  refine ex0_4 (num_facts hr20 hr21 hnum) ?_; intro hn1 hn3 hk0 hk6
  have hrl := R.length
  by_cases hle : num ≤ rs.length
  · have hk1 : num - 1 < rs.length := Nat.lt_of_lt_of_le (Nat.sub_lt hn1 Nat.one_pos) hle
    refine ex1_1 (⟨_, List.getElem?_eq_getElem hk1⟩ : ∃ r, rs[num - 1]? = some r) ?_; intro r hr
    refine ex3_3 (R.at hr) ?_; intro RA nR us g1 g2 g3
    have hrlen : r.length = size.toNat := zr r (List.mem_of_getElem? hr)
    have hus : us.length ≤ 6 := by rw [g3.length, List.length_map, hrlen]; exact zz5
    have hk : (1 + r2 - 1 : Int).toNat = num - 1 := by rw [hnum]; exact Int.toNat_sub num 1
    have hq6 : (1 + r2 - 1) * size < (rs.flatten.length : Int) := by
      rw [hnum, hbeg num hn1, flat_len zr]
      exact Int.ofNat_lt.mpr (Nat.mul_lt_mul_of_pos_right hk1 zzs)
    have g1' : rvs[(1 + r2 - 1 : Int).toNat]? = some (.ref RA) := by rw [hk]; exact g1
    repeat ((fail_if_success (first | with_reducible show wpAny _ _ (eval (Expr.Lambda _ _ _ _) _) _ _ _ | with_reducible show wpAny _ _ (subscriptTail _ (Expr.BinOp _ _ _ _) (Value.ref _) _) _ _ _)); first | (k_unfold; (try dsimp only)) | walk1 | (dsimp only; walk1) | (leave1; try dsimp only))
    rename_i hN oN dN tk8 tk9 D9 hD lD ha hb hc FF NN tz tkz
    refine list_at NN (.tail _ (.tail _ (.tail _ (.tail _ (.tail _ (.tail _ (.tail _ (.tail _ (.tail _ (.tail _ (.tail _ mrl))))))))))) hk0 hk6 g1' ?_
    have NN2 := news_sub NN (nl' := (L'+1+1+1+1, oN) :: (L'+1+1+1, oc3) :: (L'+1+1, oc2) :: (L'+1, oc1) :: (L, oL) :: (feed, listOf #[.ref cells, .int (turn + 1) t2'] nF) :: (cells, listOf vs.toArray nC) :: (am, om) :: (bu, obu) :: (174, tabObj ps) :: rest) (by ((repeat (first | exact List.forall_mem_nil _ | refine List.forall_mem_cons.mpr ⟨by k_mem, ?_⟩ | (intro p' hp'; k_mem)))))
    clear NN
    (repeat ((fail_if_success (with_reducible show wpAny _ _ (eval (Expr.Lambda _ _ _ _) _) _ _ _)); first | (k_unfold; (try dsimp only)) | walk1 | (dsimp only; walk1) | (leave1; try dsimp only)))
    rename_i DD cD hD2 F9 N9 lD2 h10 ob2 FA NA hd9
    refine ex0_11 lD2 ?_; intro x01 x02 x03 x04 x05 x06 x07 x08 x09 x010 x011
    try clear lD2
    have lDL : @LT.lt Nat _ L' DD := Nat.lt_trans (Nat.lt_succ_self _) x04
    clear N9
    refine ex1_1 (⟨_, rfl⟩ : ∃ b, b = (bu, ob2) :: (L'+1+1+1+1, oN) :: (L'+1+1+1, oc3) :: (L'+1+1, oc2) :: (L'+1, oc1) :: (L, oL) :: (feed, listOf #[.ref cells, .int (turn + 1) t2'] nF) :: (cells, listOf vs.toArray nC) :: (DD, listOf us.toArray cD) :: rest) ?_; intro X0 hX0
    have NB := news_sub NA (nl' := (174, tabObj ps) :: (am, om) :: X0) (by rw [hX0]; ((repeat (first | exact List.forall_mem_nil _ | refine List.forall_mem_cons.mpr ⟨by k_mem, ?_⟩ | (intro p' hp'; k_mem)))))
    have stR : ∀ p ∈ rest, p ∈ X0 := by rw [hX0]; exact fun p hp => .tail _ (.tail _ (.tail _ (.tail _ (.tail _ (.tail _ (.tail _ (.tail _ (.tail _ hp))))))))
    have xt : ∀ p ∈ X0, p.1 ≠ 174 := by rw [hX0]; k_all
    have xa : ∀ p ∈ X0, p.1 ≠ am := by rw [hX0]; k_all
    have mkL : (L, oL) ∈ X0 := by rw [hX0]; k_clsL
    have mk0 : (L'+1, oc1) ∈ X0 := by rw [hX0]; k_clsL
    have mkD : (DD, listOf us.toArray cD) ∈ X0 := by rw [hX0]; k_clsL
    refine lam_make FA NB (List.forall_mem_cons.mpr ⟨n9, xt⟩) T C rfl hTab (fun p hp => .tail _ (stR p (hstt p hp))) rfl rfl rfl ?_
    intro f olam c' oc vs' t' ctv ps' ext2 h' tk' hol FB NC hcm hd hv hTab2 x1 x2 x3
    clear NB NA
    k_steps
    refine ex1_1 (⟨_, rfl⟩ : ∃ b, b = (f, olam) :: (174, tabObj ps') :: (ext2 ++ X0)) ?_; intro Xl hXl
    have ND := news_sub NC (nl' := (am, om) :: Xl) (by
      rw [hXl]
      k_offL)
    have mX : ∀ p ∈ X0, p ∈ Xl := by rw [hXl]; exact fun p hp => .tail _ (.tail _ (List.mem_append_right _ hp))
    have mS := fun p hp => mX p (stR p hp)
    have mf : (f, olam) ∈ Xl := by rw [hXl]; exact .head _
    have mc : (c', oc) ∈ Xl := by
      rcases List.mem_append.mp hcm with h | h
      · rw [hXl]; exact .tail _ (.tail _ (List.mem_append_left _ h))
      · exact mS _ (hstt _ h)
    have mk4 : (L'+1+1+1+1, oN) ∈ Xl := mX _ (by rw [hX0]; k_clsL)
    have mk2 : (L'+1+1, oc2) ∈ Xl := mX _ (by rw [hX0]; k_clsL)
    have mk1 : (L'+1, oc1) ∈ Xl := mX _ mk0
    have mL : (L, oL) ∈ Xl := mX _ mkL
    have mrl' : (rl, listOf rvs.toArray nr) ∈ Xl := mS _ mrl
    have mPt : ((174 : Addr), tabObj ps') ∈ Xl := by rw [hXl]; exact .tail _ (.head _)
    have mPe : ∀ p ∈ ext2, p ∈ Xl := by rw [hXl]; exact fun p hp => .tail _ (.tail _ (List.mem_append_left _ hp))
    have offX : ∀ p ∈ Xl, p.1 ≠ am := by
      rw [hXl]
      intro p hp
      refine mcons hp ?_ fun hp => ?_
      · exact Nat.ne_of_gt (x3 (am, om) (.tail _ (.head _)))
      refine mcons hp ?_ fun hp => ?_
      · exact Ne.symm n9
      rcases List.mem_append.mp hp with hp | hp
      · exact Nat.ne_of_gt (x1 p hp (am, om) (.tail _ (.head _)))
      · exact xa p hp
    clear NC
    have dN' : oN.data = .cell (some (.int (1 + r2) _)) := dN
    refine code_none (led := (am, om) :: Xl) (P := fun led' => ∃ om' kvm', led' = (am, om') :: Xl ∧ om'.IsDictOf (PySem.strKind PySem.Challenge.rw_pq0169_01.row.prog w) kvm' ∧ MadeIs kvm' nm size r (num : Nat)) rfl (by (exact Nat.le_of_ble_eq_true rfl)) (by (exact Nat.le_of_ble_eq_true rfl)) FB T X ND (oc := .type "function") (.tail _ (hol ▸ mf)) ?_ ?_
    · intro A2 L2 oL2 s2 m2 Q2 E2 fi2 hh2 hd2 hu2 F2 N2 hoff2 cont
      refine lam_ok (P := fun led' => ∃ om' kvm', led' = (L', oL2) :: (am, om') :: Xl ∧ om'.IsDictOf (PySem.strKind PySem.Challenge.rw_pq0169_01.row.prog w) kvm' ∧ MadeIs kvm' nm size r (num : Nat)) hh2 hd2 hu2 F2 T N2 (.tail _ (.tail _ mf)) hol (.tail _ (.tail _ mc)) hd hv rfl rfl rfl rfl (by decide) ?_ ?_
      · intro L4 oL4 h4 tk4 Q4 E4 fi4 F4 N4 l4 l4' cont4
        have mk4' : (L'+1+1+1+1, oN) ∈ (L2, oL4) :: (L', oL2) :: (am, om) :: Xl := .tail _ (.tail _ (.tail _ mk4))
        have mk2' : (L'+1+1, oc2) ∈ (L2, oL4) :: (L', oL2) :: (am, om) :: Xl := .tail _ (.tail _ (.tail _ mk2))
        have mk1' : (L'+1, oc1) ∈ (L2, oL4) :: (L', oL2) :: (am, om) :: Xl := .tail _ (.tail _ (.tail _ mk1))
        have hLa : @Ne Nat L2 am := Ne.symm (N2 _ (.tail _ (.head _))).2.1
        have hLa' : @Ne Nat L' am := Ne.symm (hoff2 _ (.head _))
        k_steps
        refine get_ok rfl (by (exact Nat.le_of_ble_eq_true rfl)) (by (exact Nat.le_of_ble_eq_true rfl)) F4 T X (news_sub N4 (nl' := (am, om) :: (L2, oL4) :: (L', oL2) :: Xl) (by ((repeat (first | exact List.forall_mem_nil _ | refine List.forall_mem_cons.mpr ⟨by k_mem, ?_⟩ | (intro p' hp'; k_mem)))))) (List.forall_mem_cons.mpr ⟨hLa, List.forall_mem_cons.mpr ⟨hLa', offX⟩⟩) (W.sub fun p hp => .tail _ (.tail _ (mS p hp))) (.tail _ (.tail _ (mS _ m3))) d3 lo3 v3 dm M (.tail _ (.tail _ (mS _ m5))) d5 v5 (by rw [hnum]; exact Int.ofNat_le.mpr hn1) (by rw [hnum]; exact Int.ofNat_le.mpr hn3) zz6 zz7 hfl hq6 ?_
        intro h5 tk5 om' kvm' F5 N5 hd5 hm5
        refine cont4 h5 _ ((L', oL2) :: (am, om') :: Xl) _ F5 (news_sub N5 (by ((repeat (first | exact List.forall_mem_nil _ | refine List.forall_mem_cons.mpr ⟨by k_mem, ?_⟩ | (intro p' hp'; k_mem)))))) ?_ ⟨om', kvm', rfl, hd5, ?_⟩
        · intro p hp
          refine mcons hp ?_ fun hp => ?_
          · exact (N2 _ (.head _)).2.1
          refine mcons hp ?_ fun hp => ?_
          · exact Ne.symm hLa
          · exact (N2 p (.tail _ (.tail _ hp))).2.1
        · rw [hnum, hbeg num hn1, Int.toNat_natCast, get_cat zr hr] at hm5
          exact hm5
      · intro h5 tk5 led' v5' F5 N5 N_4
        refine ex2_3 N_4 ?_; intro om' kvm' E_5 hd5 hm5
        try clear N_4
        subst E_5
        refine cont h5 tk5 ((am, om') :: Xl) v5' F5 N5 ?_ ⟨om', kvm', rfl, hd5, hm5⟩
        intro p hp
        refine mcons hp ?_ fun hp => ?_
        · exact hoff2 (am, om) (.head _)
        · exact hoff2 p (.tail _ hp)
    · intro h5 tk5 led' F5 N5 N_6
      refine ex2_3 N_6 ?_; intro om' kvm' E_7 hd5 hm5
      try clear N_6
      subst E_7
      have hcmp : decide ((1 + r2 : Int) ≤ (rvs.toArray.size : Int)) = true := decide_eq_true (by rw [hnum, List.size_toArray, hrl]; exact Int.ofNat_le.mpr hle)
      k_steps
      refine hOk _ _ (turn + 1) t2' om' kvm' ob2 ps' ext2 num r DD us cD (back_fr F5 N5 (.tail _ mL) hoL hab) (back_news N5 fun p hp => ?_) le1 le1' hd5 hm5 hr hd9 g3 hTab2 (fun p hp q hq => ?_) (fun p hp => x1 p hp (DD, listOf us.toArray cD) (.tail _ (.tail _ mkD)))
      · simp only [List.mem_cons, List.mem_append, List.not_mem_nil, or_false] at hp
        rcases hp with h | h | h | h | h | h | h | h
        · subst h; exact ⟨.tail _ (mX _ (by rw [hX0]; k_clsL)), hL1⟩
        · subst h; exact ⟨.tail _ (mX _ (by rw [hX0]; k_clsL)), hL2⟩
        · subst h; exact ⟨.head _, hL4⟩
        · subst h; exact ⟨.tail _ (mX _ (by rw [hX0]; k_clsL)), hL5⟩
        · subst h; exact ⟨.tail _ mPt, hL6⟩
        · subst h; exact ⟨.tail _ (mX _ mkD), Nat.ne_of_gt (Nat.lt_trans lL lDL)⟩
        · exact ⟨.tail _ (mPe p h), Nat.ne_of_gt (x1 p h (L, oL) (.tail _ (.tail _ mkL)))⟩
        · exact ⟨.tail _ (mS _ h), hLr p h⟩
      · refine Nat.lt_trans (l9 q hq) ?_
        rcases List.mem_cons.mp hp with hp | hp
        · rw [hp]; exact lDL
        · exact Nat.lt_trans (Nat.lt_succ_self _) (x1 p hp (L'+1, oc1) (.tail _ (.tail _ mk0)))
  · have hq6 : (rs.flatten.length : Int) ≤ (1 + r2 - 1) * size := by
      rw [hnum, hbeg num hn1, flat_len zr]
      exact Int.ofNat_le.mpr (Nat.mul_le_mul_right _ (Nat.le_sub_one_of_lt (Nat.lt_of_not_le hle)))
    (repeat ((fail_if_success (with_reducible show wpAny _ _ (eval (Expr.Lambda _ _ _ _) _) _ _ _)); first | (k_unfold; (try dsimp only)) | walk1 | (dsimp only; walk1) | (leave1; try dsimp only)))
    rename_i hN oN dN tk8 tk9 D9 hD lD ha hb hc FF NN tz tkz
    refine ex1_1 (⟨_, rfl⟩ : ∃ b, b = (L'+1+1+1+1, oN) :: (L'+1+1+1, oc3) :: (L'+1+1, oc2) :: (L'+1, oc1) :: (feed, listOf #[.ref cells, .int (turn + 1) t2'] nF) :: (cells, listOf vs.toArray nC) :: (am, om) :: (bu, obu) :: rest) ?_; intro R0 hR0
    have NB := news_sub NN (nl' := (174, tabObj ps) :: (R0 ++ [(L, oL)])) (by
      rw [hR0]
      k_offL)
    have stR : ∀ p ∈ rest, p ∈ R0 := by rw [hR0]; exact fun p hp => .tail _ (.tail _ (.tail _ (.tail _ (.tail _ (.tail _ (.tail _ (.tail _ hp)))))))
    have xt : ∀ p ∈ R0, p.1 ≠ 174 := by rw [hR0]; k_all
    have xL : ∀ p ∈ R0, p.1 ≠ L := by rw [hR0]; k_all
    refine lam_make FF NB (fun p hp => (List.mem_append.mp hp).elim (xt p) fun hp => by rw [List.mem_singleton.mp hp]; exact Ne.symm hL6) T C rfl hTab (fun p hp => List.mem_append_left _ (stR p (hstt p hp))) rfl rfl rfl ?_
    intro f olam c' oc vs' t' ctv ps' ext2 h' tk' hol FB NC hcm hd hv hTab2 x1 x2 x3
    clear NB
    k_steps
    refine ex1_1 (⟨_, rfl⟩ : ∃ b, b = (f, olam) :: (174, tabObj ps') :: (ext2 ++ R0)) ?_; intro main hmain
    have ND := news_sub NC (nl' := main ++ [(L, oL)]) (by
      rw [hmain]
      k_offL)
    have mR : ∀ p ∈ R0, p ∈ main := by rw [hmain]; exact fun p hp => .tail _ (.tail _ (List.mem_append_right _ hp))
    have mS := fun p hp => mR p (stR p hp)
    have mf : (f, olam) ∈ main := by rw [hmain]; exact .head _
    have mc : (c', oc) ∈ main := by
      rw [hmain]
      rcases List.mem_append.mp hcm with h | h
      · exact .tail _ (.tail _ (List.mem_append_left _ h))
      · exact .tail _ (.tail _ (List.mem_append_right _ (stR _ (hstt _ h))))
    have mk4 : (L'+1+1+1+1, oN) ∈ main := mR _ (by rw [hR0]; exact .head _)
    have mk3 : (L'+1+1+1, oc3) ∈ main := mR _ (by rw [hR0]; exact .tail _ (.head _))
    have mk2 : (L'+1+1, oc2) ∈ main := mR _ (by rw [hR0]; exact .tail _ (.tail _ (.head _)))
    have mk0 : (L'+1, oc1) ∈ R0 := by rw [hR0]; exact .tail _ (.tail _ (.tail _ (.head _)))
    have mk1 : (L'+1, oc1) ∈ main := mR _ mk0
    have hoffm : ∀ p ∈ main, ∀ q ∈ [(L, oL)], p.1 ≠ q.1 := by
      intro p hp q hq
      rw [List.mem_singleton.mp hq]
      rw [hmain] at hp
      refine mcons hp ?_ fun hp => ?_
      · exact Nat.ne_of_gt (x3 (L, oL) (.tail _ (List.mem_append_right _ (.head _))))
      refine mcons hp ?_ fun hp => ?_
      · exact hL6
      rcases List.mem_append.mp hp with hp | hp
      · exact Nat.ne_of_gt (x1 p hp (L, oL) (.tail _ (List.mem_append_right _ (.head _))))
      · exact xL p hp
    have dN' : oN.data = .cell (some (.int (1 + r2) _)) := dN
    refine code_some (frs := [(L, oL)]) (code := Str.ofString "EF") (Around.frames_deeper rfl) rfl (show ScopeKind.function ≠ ScopeKind.module by decide) ⟨hk₀, hf₀, hoL.1, trivial⟩ hoffm rfl (by (exact Nat.le_of_ble_eq_true rfl)) (by (exact Nat.le_of_ble_eq_true rfl)) FB T X ND (oc := .type "function") (List.mem_append_left _ (hol ▸ mf)) ?_ ?_
    · intro A2 env2 L2 oL2 s2 m2 Q2 E2 hA2 hf2 hk2 fi2 hh2 hd2 hu2 F2 N2 hoff2 Fs2 cont
      refine lam_raise (code := Str.ofString "EF") hA2 hf2 hk2 Fs2 hoff2 hh2 hd2 hu2 F2 T N2 mf hol mc hd hv rfl rfl rfl rfl (by decide) ?_ cont
      intro A4 env4 L4 oL4 h4 tk4 Q4 E4 hA4 hf4 hk4 hh4 hd4 hu4 henv fi4 F4 N4 hoff4 Fs4 hl4 cont4
      subst henv
      have mk4' := List.mem_append_left ((L2, oL4) :: (L', oL2) :: [(L, oL)]) mk4
      have mk3' := List.mem_append_left ((L2, oL4) :: (L', oL2) :: [(L, oL)]) mk3
      have mk2' := List.mem_append_left ((L2, oL4) :: (L', oL2) :: [(L, oL)]) mk2
      have mk1' := List.mem_append_left ((L2, oL4) :: (L', oL2) :: [(L, oL)]) mk1
      have W4 := W.sub fun p hp => List.mem_append_left ((L2, oL4) :: (L', oL2) :: [(L, oL)]) (mS p hp)
      have M4 := List.mem_append_left ((L2, oL4) :: (L', oL2) :: [(L, oL)]) (mS _ m3)
      k_steps
      refine get_ef hA4 hf4 hk4 Fs4 hoff4 hh4 (Nat.le_trans hd4 (by (exact Nat.le_of_ble_eq_true rfl))) (Nat.le_trans hu4 (by (exact Nat.le_of_ble_eq_true rfl))) F4 T X N4 W4 M4 d3 lo3 v3 (List.mem_append_left _ (mR _ (by rw [hR0]; simp))) dm M (List.mem_append_left _ (mS _ m5)) d5 v5 (by rw [hnum]; exact Int.ofNat_le.mpr hn1) (by rw [hnum]; exact Int.ofNat_le.mpr hn3) zz6 zz7 hfl hq6 ?_
      intro h5 tk5 e5 dx5 frs5 SU5 Fs5 F5 N5 l5 l6 Fl5
      exact cont4 h5 _ e5 dx5 frs5 SU5 Fs5 F5 N5 l5 l6 Fl5
    · intro h5 tk5 t5 frs5 SU5 Fs5 F5 N5
      cases frs5 with
      | nil => exact False.elim SU5
      | cons q frs6 =>
      cases frs6 with
      | cons q' r' => exact False.elim SU5.2.2
      | nil =>
      obtain ⟨y1, ⟨sl, y2⟩, -⟩ := SU5
      obtain ⟨qa, qo⟩ := q
      try clear q
      dsimp only at y1 y2
      have y1 := y1.symm
      subst y1
      subst y2
      have mq : (L, { oL with slots := sl }) ∈ main ++ [(L, { oL with slots := sl })] := List.mem_append_right _ (.head _)
      have mrl' : (rl, listOf rvs.toArray nr) ∈ main ++ [(L, { oL with slots := sl })] := List.mem_append_left _ (mS _ mrl)
      have mkN : (L'+1+1+1+1, oN) ∈ main ++ [(L, { oL with slots := sl })] := List.mem_append_left _ mk4
      have hcmp : decide ((1 + r2 : Int) ≤ (rvs.toArray.size : Int)) = false := decide_eq_false (by rw [hnum, List.size_toArray, hrl]; exact fun q => hle (Int.ofNat_le.mp q))
      k_steps
      refine hEF _ _ (turn + 1) t2' ps' ext2 (back_fr F5 N5 mq (hoL.slots sl) hab) (back_news N5 fun p hp => ?_) le1 le1' hTab2 (fun p hp q hq => ?_)
      · have hpm : p ∈ main := by
          rw [hmain, hR0]
          revert p hp
          k_offL
        exact ⟨List.mem_append_left _ hpm, hoffm p hpm _ (List.mem_singleton.mpr rfl)⟩
      · exact Nat.lt_trans (l9 q hq) (Nat.lt_trans (Nat.lt_succ_self _) (x1 p hp (L'+1, oc1) (.tail _ (List.mem_append_left _ mk0))))
end E_moved_get
/- _law_moved, a GET -/
theorem moved_get {w : World} {G : Heap} {L : Addr} {m : Str → Option Value} {p : Program} {loose : List Str} {mean : ExcName → Option Value} {mg mb : Str → Option Value} {E : Value → Shared → Prop} {s : Shared} {A : Around} {env₀ : Env} {feed cells aw awd afi aop afl tw bu sz rc am rl : Addr} {vbl : Value} {c turn rec0 : Int} {nm : Str} {bl : List Nat} {rs : List (List Nat)} {tt tc ts tf : Tok} {vs rvs : List Value} {ns : List Int} {nF nC nr : Nat} {oo otw obu osz orc om ofi : Obj} {ps : Array Value} {kvt kvm kvfi : List (Str × Value)} {kvo kvb kvs kvr : List (Int × Value)} {rest stt : List (Addr × Obj)} {Q : Value → Shared → Prop} : P_moved_get w G L m p loose mean mg mb E s A env₀ feed cells aw awd afi aop afl tw bu sz rc am rl vbl c turn rec0 nm bl rs tt tc ts tf vs rvs ns nF nC nr oo otw obu osz orc om ofi ps kvt kvm kvfi kvo kvb kvs kvr rest stt Q := eps_all (Ψ := U_moved_get) E_moved_get.go (w, G, L, m, p, loose, mean, mg, mb, E, s, A, env₀, feed, cells, aw, awd, afi, aop, afl, tw, bu, sz, rc, am, rl, vbl, c, turn, rec0, nm, bl, rs, tt, tc, ts, tf, vs, rvs, ns, nF, nC, nr, oo, otw, obu, osz, orc, om, ofi, ps, kvt, kvm, kvfi, kvo, kvb, kvs, kvr, rest, stt, Q)
section
variable {w : World} {G : Heap} {L : Addr} {m : Str → Option Value} {p : Program} {loose : List Str} {mean : ExcName → Option Value} {mg mb : Str → Option Value}
  {E : Value → Shared → Prop} {s : Shared} {A : Around}
end

section
open LCg
variable {prog : Program} {w : World} {A : Around} {E : Value → Shared → Prop} {s : Shared} {G : Heap} {L : Addr} {m : Str → Option Value} {env : Env}
/- where one turn of a comprehension of texts ends -/
def ElEnd (G : Heap) (L : Addr) (m : Str → Option Value) (s : Shared) (o : Str) (led : List (Addr × Obj)) (y : Value) (s₅ : Shared) : Prop :=
  ∃ t h' tk', y = .str o t ∧ s₅ = { s with heap := h', toks := tk' } ∧ Fr G L h' m ∧ News G L h' led
theorem strsAre_snoc : ∀ {vs : List Value} {ks : List Str} {x : Str} {t : Tok}, StrsAre vs ks → StrsAre (vs ++ [.str x t]) (ks ++ [x])
  | _, _, _, _, .nil => .cons _ _ .nil
  | _, _, _, _, .cons _ _ r => .cons _ _ (strsAre_snoc r)
/- a comprehension of texts over a list of the ledger, the ledger held still -/
theorem comp_strs {elt iter : PySem.Expr} {x : Str} {px : Pos} {scope : Scope} {cl : List (Str × Addr)} {pos : Pos} {led : List (Addr × Obj)} {Q : Value → Shared → Prop} {src : Addr} {xs : List Value} {k : Nat} (outs : List Str)
    (F₀ : Fr G L s.heap m) (hm : (src, listOf xs.toArray k) ∈ led) (hsz : xs.length ≤ sizeLine) (hlen : outs.length = xs.length) (hh : A.handled = none)
    (hclos : closureFor scope env = pure cl) (hcell : ∀ y ∈ scope.names, y.2 ≠ .cell) (hkind : scope.kind = .function)
    (hnames : ∀ y ∈ scope.names, y.2 = .local → scope.names.lookup y.1 = some .local) (hx : scope.names.lookup x = some .local)
    (h : wpAny (model prog w) A (eval iter env) (Mid fun v s₁ => v = .ref src ∧ Fr G L s₁.heap m ∧ News G L s₁.heap led ∧
      (∀ (i : Nat) (v : Value) (o : Str), xs[i]? = some v → outs[i]? = some o → ∀ I oI C oC D oD m₂ h tk (E' : Value → Shared → Prop), NsObj oC m₂ → m₂ x = some v → Fr G L h m → News G L h ((I, oI) :: (C, oC) :: (D, oD) :: led) → Off3 I C D led → ((@Ne Nat I C) ∧ (@Ne Nat I D) ∧ (@Ne Nat C D)) →
        wpAny (model prog w) A (eval elt (compEnvC scope cl C env)) (ElEnd G L m s₁ o ((I, oI) :: (C, oC) :: (D, oD) :: led)) E' { s₁ with heap := h, toks := tk }) ∧
      ∀ D h tk ys, Fr G L h m → News G L h ((D, lst ys) :: led) → Off1 D led → StrsAre ys outs → Q (.ref D) { s₁ with heap := h, toks := tk }) E s)
    (hs : ∀ x, foldedSetIterable iter env x = pure x := by intro _; rfl) :
    wpAny (model prog w) A (eval (.ListComp elt [⟨.Name x px, iter, [], 0⟩] scope pos) env) Q E s := by
  refine ListComp_U F₀ hclos hcell hkind hnames hx (wpAny_mono h (fun xv s₁ h₁ => ?_) fun _ _ e => e) hs
  refine ex0_5 h₁ ?_; intro E_1 F N turn hQ
  try clear h₁
  subst E_1
  refine CompSrc.ledger hh F N hm (by simpa using hsz) fun g => ?_
  have key : ∀ r i ys, i + r = xs.length → StrsAre ys (outs.take i) → CompRest prog w A G L m env elt x scope cl { s₁ with heap := g } (SrcAt G src xs.toArray) (fun i v => xs.toArray[i]? = some v)
      (FinE G L m { s₁ with heap := g } Q) r i ys led := by
    intro r
    induction r with
    | zero =>
      intro i ys e hy
      refine CompRest.zero ?_
      intro D h tk F' N' o
      refine hQ D h tk ys F' N' o ?_
      rw [List.take_of_length_le (by omega)] at hy
      exact hy
    | succ r ih =>
      intro i ys e hy
      refine CompRest.succ fun v I oI C oC D m₂ h tk E' hv hC ha F' N' off ne => ?_
      have hi : i < outs.length := by omega
      refine wpAny_mono (turn i v (outs[i]) (by simpa using hv) (List.getElem?_eq_getElem hi) I oI C oC D (lst ys) m₂ h tk E' hC ha F' N' off ne) (fun y s₅ h₅ => ?_) fun _ _ e => e
      refine ex3_4 h₅ ?_; intro t h' tk' E_2 E_3 F5 N5
      try clear h₅
      subst E_2
      subst E_3
      refine CompEnd.intro F5 N5 led (fun _ h => h) off (.inr ⟨_, hm, rfl, _, rfl⟩) ?_
      refine ih (i + 1) _ (by omega) ?_
      rw [List.take_add_one, List.getElem?_eq_getElem hi]
      exact strsAre_snoc hy
  simpa using key xs.length 0 [] (by omega) .nil
end
section
open LCg
variable {prog : Program} {w : World} {A : Around} {E : Value → Shared → Prop} {s : Shared} {G : Heap} {L : Addr} {m : Str → Option Value} {env : Env}
/- the same over a new tuple, its list stored under a name -/
theorem comp_strsT_asg {y : Str} {py spos : Pos} {elt iter : PySem.Expr} {x : Str} {px : Pos} {scope : Scope} {cl : List (Str × Addr)} {pos : Pos} {Q : Flow → Shared → Prop} (outs : List Str)
    (_F₀ : Fr G L s.heap m) (hsz : outs.length ≤ sizeLine) (hh : A.handled = none)
    (hclos : closureFor scope env = pure cl) (hcell : ∀ y ∈ scope.names, y.2 ≠ .cell) (hkind : scope.kind = .function)
    (hnames : ∀ y ∈ scope.names, y.2 = .local → scope.names.lookup y.1 = some .local) (hx : scope.names.lookup x = some .local) (hLe : env.locals = L) (hsw : swapsWith (.ListComp elt [⟨.Name x px, iter, [], 0⟩] scope pos) (some (.Name y py)) spos.line env = pure true)
    (hy : env.kindOf y = some .local) (hp : (env.scope.kind == .class || (env.scope.kind == .module && env.locals != env.globals)) = false)
    (h : wpAny (model prog w) A (eval iter env) (Mid fun v s₁ => ∃ (src : Addr) (xs : List Value) (k : Nat) (led : List (Addr × Obj)), v = .ref src ∧ outs.length = xs.length ∧ (src, tupOf xs.toArray k) ∈ led ∧ Fr G L s₁.heap m ∧ News G L s₁.heap led ∧
      (∀ (i : Nat) (v : Value) (o : Str), xs[i]? = some v → outs[i]? = some o → ∀ I oI C oC D oD m₂ h tk (E' : Value → Shared → Prop), NsObj oC m₂ → m₂ x = some v → Fr G L h m → News G L h ((I, oI) :: (C, oC) :: (D, oD) :: led) → Off3 I C D led → ((@Ne Nat I C) ∧ (@Ne Nat I D) ∧ (@Ne Nat C D)) →
        wpAny (model prog w) A (eval elt (compEnvC scope cl C env)) (ElEnd G L m s₁ o ((I, oI) :: (C, oC) :: (D, oD) :: led)) E' { s₁ with heap := h, toks := tk }) ∧
      ∀ D h tk ys, Fr G L h (fun z => if z = y then some (.ref D) else m z) → News G L h ((D, lst ys) :: led) → Off1 D led → StrsAre ys outs → Q .next { s₁ with heap := h, toks := tk }) E s)
    (hs : ∀ x, foldedSetIterable iter env x = pure x := by intro _; rfl) :
    wpAny (model prog w) A (exec (.Assign [.Name y py] (.ListComp elt [⟨.Name x px, iter, [], 0⟩] scope pos) spos) env) Q E s := by
  subst hLe
  rw [exec_Assign_Name_used _ _ _ _ hsw]
  refine wpAny_bind (wpAny_standAt (wpAny_bind ?_))
  show wpAny _ A (do let _ ← comprehension (.ListComp elt [⟨.Name x px, iter, [], 0⟩] scope pos) scope env _ (newList []) false (eval iter env) (some (assign (.Name y py) env))) _ _ s
  refine wpAny_bind (wpAny_mono (wpAny_comprehension_free (use := some (assign (.Name y py) env)) (Q := fun _ s' => Q .next s') rfl hs hclos hkind hnames
    (wpAny_mono h (fun xv s₁ h₁ => ?_) fun _ _ e => e)) (fun _ s' hq => wpAny_pure (wpAny_pure hq)) fun _ _ e => e)
  refine ex4_7 h₁ ?_; intro src xs k led E_4 hlen hm F N turn hQ
  try clear h₁
  subst E_4
  have hl : s₁.heap.IsTuple src xs.toArray := ⟨_, (N _ hm).1, rfl, _, rfl⟩
  have hlt : src < s₁.heap.objs.size := Heap.lt_size (N _ hm).1
  refine wpAny_pyIter_tuple hl ?_
  have up : ∀ b o, s₁.heap.get? b = some o → (s₁.heap.push { cls := .type "tuple_iterator", data := .fields #[.ref src, .int 0 0] }).get? b = some o := fun b o e => Heap.get?_push_of_some _ e
  have key : ∀ g, ∀ r i ys, i + r = xs.length → StrsAre ys (outs.take i) → CompRest prog w A G env.locals m env elt x scope cl { s₁ with heap := g } (fun nw => (src, tupOf xs.toArray k) ∈ nw) (fun i v => xs.toArray[i]? = some v)
      (FinA G env.locals m { s₁ with heap := g } y Q) r i ys led := by
    intro g r
    induction r with
    | zero =>
      intro i ys e hy
      refine CompRest.zero ?_
      intro D h tk F' N' o
      refine hQ D h tk ys F' N' o ?_
      rw [List.take_of_length_le (by omega)] at hy
      exact hy
    | succ r ih =>
      intro i ys e hy
      refine CompRest.succ fun v I oI C oC D m₂ h tk E' hv hC ha F' N' off ne => ?_
      have hi : i < outs.length := by omega
      refine wpAny_mono (turn i v (outs[i]) (by simpa using hv) (List.getElem?_eq_getElem hi) I oI C oC D (lst ys) m₂ h tk E' hC ha F' N' off ne) (fun y s₅ h₅ => ?_) fun _ _ e => e
      refine ex3_4 h₅ ?_; intro t h' tk' E_5 E_6 F5 N5
      try clear h₅
      subst E_5
      subst E_6
      refine CompEnd.intro F5 N5 led (fun _ h => h) off hm ?_
      refine ih (i + 1) _ (by omega) ?_
      rw [List.take_add_one, List.getElem?_eq_getElem hi]
      exact strsAre_snoc hy
  refine block_U (Fin := FinA G env.locals m { s₁ with heap := s₁.heap.push { cls := .type "tuple_iterator", data := .fields #[.ref src, .int 0 0] } } y Q) (Walks.tuple hh s₁.heap.objs.size src (Nat.ne_of_lt hlt) xs.toArray) (by rw [List.size_toArray, ← hlen]; exact hsz) (fun i h st => by obtain ⟨o, e, _⟩ := st.1; exact ⟨o, e⟩) (fun i h h' o nw st e e' _ N' hm' => ⟨st.1.at (fun o₂ e₂ => by rw [e] at e₂; cases e₂; exact e'), ⟨_, (N' _ hm').1, rfl, _, rfl⟩⟩)
    hcell hkind hx ⟨⟨_, Heap.get?_push_size _ rfl, rfl, rfl⟩, ⟨_, up _ _ (N _ hm).1, rfl, _, rfl⟩⟩ (fun b hb => ?_) (F.keeps up) (N.grown up) (Nat.ne_of_lt F.ns.lt) (next_is_new F) (fun p hp => Nat.ne_of_lt (Heap.lt_size (N p hp).1)) hm (by simpa using key _ xs.length 0 [] (by omega) .nil) ?_
  · show b < (s₁.heap.push _).objs.size
    rw [Heap.size_push]
    refine mcons hb ?_ fun hb => ?_
    · exact Nat.lt_succ_self _
    · rw [List.mem_singleton.mp hb]; exact Nat.lt_succ_of_lt hlt
  · intro D C h tk m' ys news' F' N' o1 hn hC₀ hD₀ hCL hDL hCD offC fin
    show wpAny _ A (assign (.Name y py) env (.ref D)) _ _ _
    refine wpAny_assign_Name (wpAny_storeName_local hy F'.ns (fun h₂ hn₂ hs₂ => ?_) hp)
    have hL₀ : G.get? env.locals = none := Heap.get?_none_of_le F'.above
    have F₂ : Fr G env.locals h₂ (fun z => if z = y then some (.ref D) else m z) := ⟨hn₂, fun b o e => hs₂.extBut b o (fun q => by rw [q, hL₀] at e; cases e) (F'.keep b o e), F'.above⟩
    refine ⟨m', hn.sameBut hs₂ hCL, fun h'' hs'' => fin D h'' _ (F₂.change hs'' hCL hC₀) (fun p hp => ?_) o1⟩
    have z : h₂.get? p.1 = some p.2 := hs₂.extBut _ _ (N' p hp).2.1 (N' p hp).1
    refine ⟨hs''.extBut _ _ ?_ z, (N' p hp).2⟩
    refine mcons hp ?_ fun hp => ?_
    · exact Ne.symm hCD
    · exact offC p hp
end
theorem join_fold : ∀ (ls : List (List Nat)) (acc : List Nat), (ls.map TS).foldl (fun acc p => acc ++ (Str.ofString "").cps ++ p.cps) acc.toArray = (acc ++ ls.flatten).toArray
  | [], acc => by simp
  | l :: ls, acc => by
    rw [List.map_cons, List.foldl_cons, List.flatten_cons, ← List.append_assoc, ← join_fold ls (acc ++ l)]
    congr 1
    show acc.toArray ++ #[] ++ l.toArray = _
    simp
theorem join_flat (ls : List (List Nat)) : Txt.join (Str.ofString "") (ls.map TS) = TS ls.flatten := by
  cases ls with
  | nil => rfl
  | cons l ls =>
    show (⟨((ls.map TS)).foldl (fun acc p => acc ++ (Str.ofString "").cps ++ p.cps) l.toArray⟩ : Str) = TS (l :: ls).flatten
    rw [join_fold]
    simp
theorem flat_ones : ∀ l : List Nat, (l.map fun c => [c]).flatten = l
  | [] => rfl
  | a :: l => by rw [List.map_cons, List.flatten_cons, flat_ones l]; rfl
theorem join_signs (l : List Nat) : Txt.join (Str.ofString "") (l.map fun c => TS [c]) = TS l := by
  have := join_flat (l.map fun c => [c])
  rw [List.map_map, flat_ones] at this
  exact this


theorem ones_sum (l : List Nat) : ((l.map fun c => TS [c]).map (·.length)).sum = l.length := by
  induction l with
  | nil => rfl
  | cons a l ih => rw [List.map_cons, List.map_cons, List.sum_cons, ih, List.length_cons, Nat.add_comm]; rfl
theorem recs_sum : ∀ {rs : List (List Nat)}, (∀ r ∈ rs, r.length ≤ 6) → ((rs.map TS).map (·.length)).sum ≤ rs.length * 6
  | [], _ => by simp
  | r :: rs, h => by
    rw [List.map_cons, List.map_cons, List.sum_cons, List.length_cons, Nat.succ_mul, ts_len, Nat.add_comm]
    exact Nat.add_le_add (recs_sum fun x hx => h x (.tail _ hx)) (h r (.head _))

section
variable {prog : Program} {w : World} {A : Around} {E : Value → Shared → Prop} {s : Shared} {a b : Addr} {G : Heap} {L : Addr} {news : List (Addr × Obj)} {x y : Str} {t1 t2 u1 u2 : Tok} {n k : Nat} {Q : Value → Shared → Prop}
theorem eq_two (N : News G L s.heap news) (ma : (a, listOf #[.str x t1, .str y t2] n) ∈ news) (mb : (b, listOf #[.str x u1, .str y u2] k) ∈ news) (hx : PyData.strOk x = true) (hy : PyData.strOk y = true) (hu : A.units + 64 < cLine) (h : Q (.bool true) s) :
    wpAny (model prog w) A (compareOp .Eq (.ref a) (.ref b)) Q E s := by
  have ha := N.isList ma
  have hb := N.isList mb
  have hc1 : CarriedAll [Value.str x t1, .str y t2] [PyData.str x, .str y] := .cons (.str _ _) (.cons (.str _ _) .nil)
  have hc2 : CarriedAll [Value.str x u1, .str y u2] [PyData.str x, .str y] := .cons (.str _ _) (.cons (.str _ _) .nil)
  have hs : PySem.SeqAt.shaped (.list [PyData.str x, .str y]) = true := by
    simp [PySem.SeqAt.shaped, PyData.canLay0, PyData.canLayAll0, PyData.depth, PyData.depthAll, hx, hy]
  refine eq_dataH_same (reads_newData (ys := [Value.str x t1, .str y t2]) ha hc1) (reads_newData (ys := [Value.str x u1, .str y u2]) hb hc2) hs hs hu (PySem.SeqAt.noMix_of_shape (.list .str) rfl _ _ rfl rfl) ?_
  have e : PySem.Spec.same (.list [PyData.str x, .str y]) (.list [PyData.str x, .str y]) = true := by simp [PySem.Spec.same, PySem.Spec.sameAll]
  rw [e]; exact h
end
theorem ts_ok {l : List Nat} (h : ∀ c ∈ l, c < 128) : PyData.strOk (TS l) = true := by
  unfold PyData.strOk
  simp only [List.all_toArray, List.all_eq_true, decide_eq_true_eq]
  intro c hc
  exact Nat.lt_trans (h c hc) (by decide)

/- what a channel of a field shows, both sides -/
def ChOk (w : World) (led : List (Addr × Obj)) (kvo kvb : List (Int × Value)) (x : Fld) : Prop :=
  ∃ am om kvm nm size bl r blA vsb nb, valueAt kvo x.1 = some (.ref am) ∧ (am, om) ∈ led ∧ om.IsDictOf (PySem.strKind PySem.Challenge.rw_pq0169_01.row.prog w) kvm ∧ MadeIs kvm nm size bl r ∧
    valueAt kvb x.1 = some (.ref blA) ∧ (blA, listOf (List.toArray vsb) nb) ∈ led ∧ SignsAre vsb bl ∧ 0 ≤ x.2.1 ∧ 0 ≤ x.2.2 ∧ x.2.1 + x.2.2 ≤ bl.length ∧ bl.length ≤ 10
def names5 : List Str := [Str.ofString "P$", Str.ofString "Q$", Str.ofString "R$", Str.ofString "S$", Str.ofString "T$"]
section
variable {w : World} {G : Heap} {L : Addr} {m : Str → Option Value} {p : Program} {loose : List Str} {mean : ExcName → Option Value} {mg mb : Str → Option Value}
  {E : Value → Shared → Prop} {s : Shared} {A : Around}
end
def P_lawstands (w : World) (G : Heap) (L : Addr) (m : Str → Option Value) (p : Program) (loose : List Str) (mean : ExcName → Option Value) (mg mb : Str → Option Value) (E : Value → Shared → Prop) (s : Shared) (A : Around) (aw awd afi aop afl tw pl bu rc rl1 rl2 : Addr) (rs1 rs2 : List (List Nat)) (tf1 tf2 : Tok) (rvs1 rvs2 : List Value) (nr1 nr2 : Nat) (ofl opl oo otw obu orc ofi : Obj) (kvf kvp kvt kvfi : List (Str × Value)) (kvo kvb kvr : List (Int × Value)) (fl : List (Str × Fld)) (led : List (Addr × Obj)) (Q : Value → Shared → Prop) : Prop := ∀ (hh : A.handled = none) (hdp : A.depth ≤ 500) (hu : A.units ≤ 500) (F : Fr G L s.heap m) (T : Top p loose mean mg mb G) (X : (hd.heap_1 w.params).In G) (N : News G L s.heap led) (W : WorldAt led aw awd afi aop afl) (m3 : (aop, oo) ∈ led) (d3 : oo.IsDictOf (PySem.intKind PySem.Challenge.rw_pq0169_01.row.prog w) kvo) (m4 : (afl, ofl) ∈ led) (d5 : ofl.IsDictOf (PySem.strKind PySem.Challenge.rw_pq0169_01.row.prog w) kvf) (f5 : FieldsAt led kvf fl) (lo5 : (afl == sysModules) = false) (mt : (tw, otw) ∈ led) (dt : otw.IsDictOf (PySem.strKind PySem.Challenge.rw_pq0169_01.row.prog w) kvt) (vt1 : valueAt kvt (Str.ofString "places") = some (.ref pl)) (vt3 : valueAt kvt (Str.ofString "buffers") = some (.ref bu)) (vt4 : valueAt kvt (Str.ofString "records") = some (.ref rc)) (mpl : (pl, opl) ∈ led) (d6 : opl.IsDictOf (PySem.strKind PySem.Challenge.rw_pq0169_01.row.prog w) kvp) (f6 : PlacesAt led kvp fl) (lo6 : (pl == sysModules) = false) (mbu : (bu, obu) ∈ led) (db : obu.IsDictOf (PySem.intKind PySem.Challenge.rw_pq0169_01.row.prog w) kvb) (hch : ∀ n x, look fl n = some x → ChOk w led kvo kvb x) (mr : (rc, orc) ∈ led) (dr : orc.IsDictOf (PySem.intKind PySem.Challenge.rw_pq0169_01.row.prog w) kvr) (vr1 : valueAt kvr 1 = some (.ref rl1)) (vr2 : valueAt kvr 2 = some (.ref rl2)) (mr1 : (rl1, listOf rvs1.toArray nr1) ∈ led) (R1 : RecsIn led rvs1 rs1) (zr1 : rs1.length ≤ 3) (zq1 : ∀ r ∈ rs1, r.length ≤ 6) (zc1 : ∀ c ∈ rs1.flatten, c < 128) (mr2 : (rl2, listOf rvs2.toArray nr2) ∈ led) (R2 : RecsIn led rvs2 rs2) (zr2 : rs2.length ≤ 3) (zq2 : ∀ r ∈ rs2, r.length ≤ 6) (zc2 : ∀ c ∈ rs2.flatten, c < 128) (m5 : (afi, ofi) ∈ led) (df : ofi.IsDictOf (PySem.strKind PySem.Challenge.rw_pq0169_01.row.prog w) kvfi) (vf1 : valueAt kvfi (Str.ofString "ONE") = some (.str (TS rs1.flatten) tf1)) (vf2 : valueAt kvfi (Str.ofString "TWO") = some (.str (TS rs2.flatten) tf2)) (h : ∀ h' tk, Fr G L h' m → News G L h' led → Q (.bool true) { s with heap := h', toks := tk }), wpAny (model PySem.Challenge.rw_pq0169_01.row.prog w) A (call (.ref 184) [.ref aw, .ref tw] []) Q E s
def U_lawstands (c : (World) × (Heap) × (Addr) × (Str → Option Value) × (Program) × (List Str) × (ExcName → Option Value) × (Str → Option Value) × (Str → Option Value) × (Value → Shared → Prop) × (Shared) × (Around) × (Addr) × (Addr) × (Addr) × (Addr) × (Addr) × (Addr) × (Addr) × (Addr) × (Addr) × (Addr) × (Addr) × (List (List Nat)) × (List (List Nat)) × (Tok) × (Tok) × (List Value) × (List Value) × (Nat) × (Nat) × (Obj) × (Obj) × (Obj) × (Obj) × (Obj) × (Obj) × (Obj) × (List (Str × Value)) × (List (Str × Value)) × (List (Str × Value)) × (List (Str × Value)) × (List (Int × Value)) × (List (Int × Value)) × (List (Int × Value)) × (List (Str × Fld)) × (List (Addr × Obj)) × (Value → Shared → Prop)) : Prop := P_lawstands c.1 c.2.1 c.2.2.1 c.2.2.2.1 c.2.2.2.2.1 c.2.2.2.2.2.1 c.2.2.2.2.2.2.1 c.2.2.2.2.2.2.2.1 c.2.2.2.2.2.2.2.2.1 c.2.2.2.2.2.2.2.2.2.1 c.2.2.2.2.2.2.2.2.2.2.1 c.2.2.2.2.2.2.2.2.2.2.2.1 c.2.2.2.2.2.2.2.2.2.2.2.2.1 c.2.2.2.2.2.2.2.2.2.2.2.2.2.1 c.2.2.2.2.2.2.2.2.2.2.2.2.2.2.1 c.2.2.2.2.2.2.2.2.2.2.2.2.2.2.2.1 c.2.2.2.2.2.2.2.2.2.2.2.2.2.2.2.2.1 c.2.2.2.2.2.2.2.2.2.2.2.2.2.2.2.2.2.1 c.2.2.2.2.2.2.2.2.2.2.2.2.2.2.2.2.2.2.1 c.2.2.2.2.2.2.2.2.2.2.2.2.2.2.2.2.2.2.2.1 c.2.2.2.2.2.2.2.2.2.2.2.2.2.2.2.2.2.2.2.2.1 c.2.2.2.2.2.2.2.2.2.2.2.2.2.2.2.2.2.2.2.2.2.1 c.2.2.2.2.2.2.2.2.2.2.2.2.2.2.2.2.2.2.2.2.2.2.1 c.2.2.2.2.2.2.2.2.2.2.2.2.2.2.2.2.2.2.2.2.2.2.2.1 c.2.2.2.2.2.2.2.2.2.2.2.2.2.2.2.2.2.2.2.2.2.2.2.2.1 c.2.2.2.2.2.2.2.2.2.2.2.2.2.2.2.2.2.2.2.2.2.2.2.2.2.1 c.2.2.2.2.2.2.2.2.2.2.2.2.2.2.2.2.2.2.2.2.2.2.2.2.2.2.1 c.2.2.2.2.2.2.2.2.2.2.2.2.2.2.2.2.2.2.2.2.2.2.2.2.2.2.2.1 c.2.2.2.2.2.2.2.2.2.2.2.2.2.2.2.2.2.2.2.2.2.2.2.2.2.2.2.2.1 c.2.2.2.2.2.2.2.2.2.2.2.2.2.2.2.2.2.2.2.2.2.2.2.2.2.2.2.2.2.1 c.2.2.2.2.2.2.2.2.2.2.2.2.2.2.2.2.2.2.2.2.2.2.2.2.2.2.2.2.2.2.1 c.2.2.2.2.2.2.2.2.2.2.2.2.2.2.2.2.2.2.2.2.2.2.2.2.2.2.2.2.2.2.2.1 c.2.2.2.2.2.2.2.2.2.2.2.2.2.2.2.2.2.2.2.2.2.2.2.2.2.2.2.2.2.2.2.2.1 c.2.2.2.2.2.2.2.2.2.2.2.2.2.2.2.2.2.2.2.2.2.2.2.2.2.2.2.2.2.2.2.2.2.1 c.2.2.2.2.2.2.2.2.2.2.2.2.2.2.2.2.2.2.2.2.2.2.2.2.2.2.2.2.2.2.2.2.2.2.1 c.2.2.2.2.2.2.2.2.2.2.2.2.2.2.2.2.2.2.2.2.2.2.2.2.2.2.2.2.2.2.2.2.2.2.2.1 c.2.2.2.2.2.2.2.2.2.2.2.2.2.2.2.2.2.2.2.2.2.2.2.2.2.2.2.2.2.2.2.2.2.2.2.2.1 c.2.2.2.2.2.2.2.2.2.2.2.2.2.2.2.2.2.2.2.2.2.2.2.2.2.2.2.2.2.2.2.2.2.2.2.2.2.1 c.2.2.2.2.2.2.2.2.2.2.2.2.2.2.2.2.2.2.2.2.2.2.2.2.2.2.2.2.2.2.2.2.2.2.2.2.2.2.1 c.2.2.2.2.2.2.2.2.2.2.2.2.2.2.2.2.2.2.2.2.2.2.2.2.2.2.2.2.2.2.2.2.2.2.2.2.2.2.2.1 c.2.2.2.2.2.2.2.2.2.2.2.2.2.2.2.2.2.2.2.2.2.2.2.2.2.2.2.2.2.2.2.2.2.2.2.2.2.2.2.2.1 c.2.2.2.2.2.2.2.2.2.2.2.2.2.2.2.2.2.2.2.2.2.2.2.2.2.2.2.2.2.2.2.2.2.2.2.2.2.2.2.2.2.1 c.2.2.2.2.2.2.2.2.2.2.2.2.2.2.2.2.2.2.2.2.2.2.2.2.2.2.2.2.2.2.2.2.2.2.2.2.2.2.2.2.2.2.1 c.2.2.2.2.2.2.2.2.2.2.2.2.2.2.2.2.2.2.2.2.2.2.2.2.2.2.2.2.2.2.2.2.2.2.2.2.2.2.2.2.2.2.2.1 c.2.2.2.2.2.2.2.2.2.2.2.2.2.2.2.2.2.2.2.2.2.2.2.2.2.2.2.2.2.2.2.2.2.2.2.2.2.2.2.2.2.2.2.2.1 c.2.2.2.2.2.2.2.2.2.2.2.2.2.2.2.2.2.2.2.2.2.2.2.2.2.2.2.2.2.2.2.2.2.2.2.2.2.2.2.2.2.2.2.2.2.1 c.2.2.2.2.2.2.2.2.2.2.2.2.2.2.2.2.2.2.2.2.2.2.2.2.2.2.2.2.2.2.2.2.2.2.2.2.2.2.2.2.2.2.2.2.2.2.1 c.2.2.2.2.2.2.2.2.2.2.2.2.2.2.2.2.2.2.2.2.2.2.2.2.2.2.2.2.2.2.2.2.2.2.2.2.2.2.2.2.2.2.2.2.2.2.2
/- the letters at which it would fail, if there are such -/
noncomputable def K_lawstands : (World) × (Heap) × (Addr) × (Str → Option Value) × (Program) × (List Str) × (ExcName → Option Value) × (Str → Option Value) × (Str → Option Value) × (Value → Shared → Prop) × (Shared) × (Around) × (Addr) × (Addr) × (Addr) × (Addr) × (Addr) × (Addr) × (Addr) × (Addr) × (Addr) × (Addr) × (Addr) × (List (List Nat)) × (List (List Nat)) × (Tok) × (Tok) × (List Value) × (List Value) × (Nat) × (Nat) × (Obj) × (Obj) × (Obj) × (Obj) × (Obj) × (Obj) × (Obj) × (List (Str × Value)) × (List (Str × Value)) × (List (Str × Value)) × (List (Str × Value)) × (List (Int × Value)) × (List (Int × Value)) × (List (Int × Value)) × (List (Str × Fld)) × (List (Addr × Obj)) × (Value → Shared → Prop) := @Classical.epsilon _ (neP ⟨aWorld 0⟩ (neP ⟨default⟩ (neP ⟨default⟩ (neP ⟨default⟩ (neP ⟨default⟩ (neP ⟨default⟩ (neP ⟨default⟩ (neP ⟨default⟩ (neP ⟨default⟩ (neP ⟨default⟩ (neP neS (neP ⟨{}⟩ (neP ⟨default⟩ (neP ⟨default⟩ (neP ⟨default⟩ (neP ⟨default⟩ (neP ⟨default⟩ (neP ⟨default⟩ (neP ⟨default⟩ (neP ⟨default⟩ (neP ⟨default⟩ (neP ⟨default⟩ (neP ⟨default⟩ (neP ⟨default⟩ (neP ⟨default⟩ (neP ⟨default⟩ (neP ⟨default⟩ (neP ⟨default⟩ (neP ⟨default⟩ (neP ⟨default⟩ (neP ⟨default⟩ (neP ⟨default⟩ (neP ⟨default⟩ (neP ⟨default⟩ (neP ⟨default⟩ (neP ⟨default⟩ (neP ⟨default⟩ (neP ⟨default⟩ (neP ⟨default⟩ (neP ⟨default⟩ (neP ⟨default⟩ (neP ⟨default⟩ (neP ⟨default⟩ (neP ⟨default⟩ (neP ⟨default⟩ (neP ⟨default⟩ (neP ⟨default⟩ ⟨default⟩))))))))))))))))))))))))))))))))))))))))))))))) fun c => ¬ U_lawstands c
namespace E_lawstands
noncomputable def w : World := K_lawstands.1
noncomputable def G : Heap := K_lawstands.2.1
noncomputable def L : Addr := K_lawstands.2.2.1
noncomputable def m : Str → Option Value := K_lawstands.2.2.2.1
noncomputable def p : Program := K_lawstands.2.2.2.2.1
noncomputable def loose : List Str := K_lawstands.2.2.2.2.2.1
noncomputable def mean : ExcName → Option Value := K_lawstands.2.2.2.2.2.2.1
noncomputable def mg : Str → Option Value := K_lawstands.2.2.2.2.2.2.2.1
noncomputable def mb : Str → Option Value := K_lawstands.2.2.2.2.2.2.2.2.1
noncomputable def E : Value → Shared → Prop := K_lawstands.2.2.2.2.2.2.2.2.2.1
noncomputable def s : Shared := K_lawstands.2.2.2.2.2.2.2.2.2.2.1
noncomputable def A : Around := K_lawstands.2.2.2.2.2.2.2.2.2.2.2.1
noncomputable def aw : Addr := K_lawstands.2.2.2.2.2.2.2.2.2.2.2.2.1
noncomputable def awd : Addr := K_lawstands.2.2.2.2.2.2.2.2.2.2.2.2.2.1
noncomputable def afi : Addr := K_lawstands.2.2.2.2.2.2.2.2.2.2.2.2.2.2.1
noncomputable def aop : Addr := K_lawstands.2.2.2.2.2.2.2.2.2.2.2.2.2.2.2.1
noncomputable def afl : Addr := K_lawstands.2.2.2.2.2.2.2.2.2.2.2.2.2.2.2.2.1
noncomputable def tw : Addr := K_lawstands.2.2.2.2.2.2.2.2.2.2.2.2.2.2.2.2.2.1
noncomputable def pl : Addr := K_lawstands.2.2.2.2.2.2.2.2.2.2.2.2.2.2.2.2.2.2.1
noncomputable def bu : Addr := K_lawstands.2.2.2.2.2.2.2.2.2.2.2.2.2.2.2.2.2.2.2.1
noncomputable def rc : Addr := K_lawstands.2.2.2.2.2.2.2.2.2.2.2.2.2.2.2.2.2.2.2.2.1
noncomputable def rl1 : Addr := K_lawstands.2.2.2.2.2.2.2.2.2.2.2.2.2.2.2.2.2.2.2.2.2.1
noncomputable def rl2 : Addr := K_lawstands.2.2.2.2.2.2.2.2.2.2.2.2.2.2.2.2.2.2.2.2.2.2.1
noncomputable def rs1 : List (List Nat) := K_lawstands.2.2.2.2.2.2.2.2.2.2.2.2.2.2.2.2.2.2.2.2.2.2.2.1
noncomputable def rs2 : List (List Nat) := K_lawstands.2.2.2.2.2.2.2.2.2.2.2.2.2.2.2.2.2.2.2.2.2.2.2.2.1
noncomputable def tf1 : Tok := K_lawstands.2.2.2.2.2.2.2.2.2.2.2.2.2.2.2.2.2.2.2.2.2.2.2.2.2.1
noncomputable def tf2 : Tok := K_lawstands.2.2.2.2.2.2.2.2.2.2.2.2.2.2.2.2.2.2.2.2.2.2.2.2.2.2.1
noncomputable def rvs1 : List Value := K_lawstands.2.2.2.2.2.2.2.2.2.2.2.2.2.2.2.2.2.2.2.2.2.2.2.2.2.2.2.1
noncomputable def rvs2 : List Value := K_lawstands.2.2.2.2.2.2.2.2.2.2.2.2.2.2.2.2.2.2.2.2.2.2.2.2.2.2.2.2.1
noncomputable def nr1 : Nat := K_lawstands.2.2.2.2.2.2.2.2.2.2.2.2.2.2.2.2.2.2.2.2.2.2.2.2.2.2.2.2.2.1
noncomputable def nr2 : Nat := K_lawstands.2.2.2.2.2.2.2.2.2.2.2.2.2.2.2.2.2.2.2.2.2.2.2.2.2.2.2.2.2.2.1
noncomputable def ofl : Obj := K_lawstands.2.2.2.2.2.2.2.2.2.2.2.2.2.2.2.2.2.2.2.2.2.2.2.2.2.2.2.2.2.2.2.1
noncomputable def opl : Obj := K_lawstands.2.2.2.2.2.2.2.2.2.2.2.2.2.2.2.2.2.2.2.2.2.2.2.2.2.2.2.2.2.2.2.2.1
noncomputable def oo : Obj := K_lawstands.2.2.2.2.2.2.2.2.2.2.2.2.2.2.2.2.2.2.2.2.2.2.2.2.2.2.2.2.2.2.2.2.2.1
noncomputable def otw : Obj := K_lawstands.2.2.2.2.2.2.2.2.2.2.2.2.2.2.2.2.2.2.2.2.2.2.2.2.2.2.2.2.2.2.2.2.2.2.1
noncomputable def obu : Obj := K_lawstands.2.2.2.2.2.2.2.2.2.2.2.2.2.2.2.2.2.2.2.2.2.2.2.2.2.2.2.2.2.2.2.2.2.2.2.1
noncomputable def orc : Obj := K_lawstands.2.2.2.2.2.2.2.2.2.2.2.2.2.2.2.2.2.2.2.2.2.2.2.2.2.2.2.2.2.2.2.2.2.2.2.2.1
noncomputable def ofi : Obj := K_lawstands.2.2.2.2.2.2.2.2.2.2.2.2.2.2.2.2.2.2.2.2.2.2.2.2.2.2.2.2.2.2.2.2.2.2.2.2.2.1
noncomputable def kvf : List (Str × Value) := K_lawstands.2.2.2.2.2.2.2.2.2.2.2.2.2.2.2.2.2.2.2.2.2.2.2.2.2.2.2.2.2.2.2.2.2.2.2.2.2.2.1
noncomputable def kvp : List (Str × Value) := K_lawstands.2.2.2.2.2.2.2.2.2.2.2.2.2.2.2.2.2.2.2.2.2.2.2.2.2.2.2.2.2.2.2.2.2.2.2.2.2.2.2.1
noncomputable def kvt : List (Str × Value) := K_lawstands.2.2.2.2.2.2.2.2.2.2.2.2.2.2.2.2.2.2.2.2.2.2.2.2.2.2.2.2.2.2.2.2.2.2.2.2.2.2.2.2.1
noncomputable def kvfi : List (Str × Value) := K_lawstands.2.2.2.2.2.2.2.2.2.2.2.2.2.2.2.2.2.2.2.2.2.2.2.2.2.2.2.2.2.2.2.2.2.2.2.2.2.2.2.2.2.1
noncomputable def kvo : List (Int × Value) := K_lawstands.2.2.2.2.2.2.2.2.2.2.2.2.2.2.2.2.2.2.2.2.2.2.2.2.2.2.2.2.2.2.2.2.2.2.2.2.2.2.2.2.2.2.1
noncomputable def kvb : List (Int × Value) := K_lawstands.2.2.2.2.2.2.2.2.2.2.2.2.2.2.2.2.2.2.2.2.2.2.2.2.2.2.2.2.2.2.2.2.2.2.2.2.2.2.2.2.2.2.2.1
noncomputable def kvr : List (Int × Value) := K_lawstands.2.2.2.2.2.2.2.2.2.2.2.2.2.2.2.2.2.2.2.2.2.2.2.2.2.2.2.2.2.2.2.2.2.2.2.2.2.2.2.2.2.2.2.2.1
noncomputable def fl : List (Str × Fld) := K_lawstands.2.2.2.2.2.2.2.2.2.2.2.2.2.2.2.2.2.2.2.2.2.2.2.2.2.2.2.2.2.2.2.2.2.2.2.2.2.2.2.2.2.2.2.2.2.1
noncomputable def led : List (Addr × Obj) := K_lawstands.2.2.2.2.2.2.2.2.2.2.2.2.2.2.2.2.2.2.2.2.2.2.2.2.2.2.2.2.2.2.2.2.2.2.2.2.2.2.2.2.2.2.2.2.2.2.1
noncomputable def Q : Value → Shared → Prop := K_lawstands.2.2.2.2.2.2.2.2.2.2.2.2.2.2.2.2.2.2.2.2.2.2.2.2.2.2.2.2.2.2.2.2.2.2.2.2.2.2.2.2.2.2.2.2.2.2.2
theorem go : P_lawstands w G L m p loose mean mg mb E s A aw awd afi aop afl tw pl bu rc rl1 rl2 rs1 rs2 tf1 tf2 rvs1 rvs2 nr1 nr2 ofl opl oo otw obu orc ofi kvf kvp kvt kvfi kvo kvb kvr fl led Q := by
  intro hh hdp hu F T X N W m3 d3 m4 d5 f5 lo5 mt dt vt1 vt3 vt4 mpl d6 f6 lo6 mbu db hch mr dr vr1 vr2 mr1 R1 zr1 zq1 zc1 mr2 R2 zr2 zq2 zc2 m5 df vf1 vf2 h
  refine wpAny_weak (A' := A5) ?_ hh hdp hu rfl rfl
  refine ex2_5 (W.ex) ?_; intro esw nw w1 w2 w3 w4 w5
  revert X
  k_fill
  intro X
  refine wpAny_call ?_
  have hab := F.above
  have hLr : ∀ p ∈ led, p.1 ≠ L := fun p hp => (N p hp).2.1
  refine' enterC (binds := [(Str.ofString "world", .ref aw), (Str.ofString "twin", .ref tw)]) F X N (Top.nolimit T) ?k6 ?k7 ?k8 ?k9 ?kB ?kD ?_ ?c2 ?c3 ?c4
  case k8 => exact Nat.lt_of_le_of_lt (Nat.le_refl 500) (by decide)
  (((case k6 => k_is); (case k7 => k_is); (case k9 => first | exact BindsTo.of_eq rfl | exact binds_K (by k_in) rfl (by k_is) rfl rfl rfl); (case kB => (intro n'; ((repeat (first | exact List.forall_mem_nil _ | refine List.forall_mem_cons.mpr ⟨by first | exact .inl rfl | exact .inr ⟨rfl, rfl⟩, ?_⟩))))); (case kD => decide +kernel); (case c2 => exact rfl); (case c3 => exact rfl); (case c4 => exact rfl)))
  intro L' h₁ tk₁ oL cells' hoL F' N' Y l0
  clear F N
  refine ex2_3 (CellsAre.two Y) ?_; intro oc2 oc1 hE q2 q1
  subst hE
  clear Y
  have lL : @LT.lt Nat _ L L' := l0 _ (.head _)
  have lr : ∀ p ∈ led, @LT.lt Nat _ p.1 L' := fun p hp => l0 _ (.tail _ hp)
  have lr1 : ∀ p ∈ led, p.1 ≠ L' + 1 := fun p hp => Nat.ne_of_lt (Nat.lt_succ_of_lt (lr p hp))
  have lr2 : ∀ p ∈ led, p.1 ≠ L' + 1 + 1 := fun p hp => Nat.ne_of_lt (Nat.lt_succ_of_lt (Nat.lt_succ_of_lt (lr p hp)))
  clear l0
  simp only [List.cons_append, List.nil_append] at N'
  dsimp only
  have q1 : oc1.data = .cell (some (.ref tw)) := q1
  have q2 : oc2.data = .cell none := q2
  (repeat ((fail_if_success (with_reducible show wpAny _ _ (exec (Stmt.For _ _ _ _ _) _) _ _ _)); first | (k_unfold; (try dsimp only)) | walk1 | (dsimp only; walk1) | (leave1; try dsimp only)))
  with_reducible rename Fr _ _ _ _ => F7
  refine' For_turns F7 ?_
  (repeat ((fail_if_success (with_reducible show wpAny _ _ (pyIter _) _ _ _)); first | (k_unfold; (try dsimp only)) | walk1 | (dsimp only; walk1) | (leave1; try dsimp only)))
  rename_i lit hl Fl Nl ll
  have lit1 : @LT.lt Nat _ L' lit := Nat.lt_trans (Nat.lt_succ_self _) ll.2.1
  have lit2 : @LT.lt Nat _ (L'+1+1) lit := ll.1
  refine ex1_1 (⟨_, rfl⟩ : ∃ us0 : List Value, us0 = [Value.str (Str.ofString "P$") tk₁, Value.str (Str.ofString "Q$") (tk₁ + 1), Value.str (Str.ofString "R$") (tk₁ + 1 + 1), Value.str (Str.ofString "S$") (tk₁ + 1 + 1 + 1), Value.str (Str.ofString "T$") (tk₁ + 1 + 1 + 1 + 1)]) ?_; intro us0 hus0
  have hS0 : StrsAre us0 names5 := by rw [hus0]; exact .cons _ _ (.cons _ _ (.cons _ _ (.cons _ _ (.cons _ _ .nil))))
  refine ex1_1 (⟨_, rfl⟩ : ∃ b, b = (lit, listOf us0.toArray 0) :: (L'+1, oc1) :: (L, oL) :: led) ?_; intro base hbase
  have NB := news_sub Nl (nl' := (L'+1+1, oc2) :: base) (by rw [hbase, hus0]; ((repeat (first | exact List.forall_mem_nil _ | refine List.forall_mem_cons.mpr ⟨by k_mem, ?_⟩ | (intro p' hp'; k_mem)))))
  have bL : (lit, listOf us0.toArray 0) ∈ base := by rw [hbase]; exact .head _
  have b1 : (L'+1, oc1) ∈ base := by rw [hbase]; exact .tail _ (.head _)
  have bS : ∀ p ∈ led, p ∈ base := by rw [hbase]; exact fun p hp => .tail _ (.tail _ (.tail _ hp))
  have bC : ∀ p ∈ base, p.1 ≠ L'+1+1 := by
    rw [hbase]
    refine List.forall_mem_cons.mpr ⟨Nat.ne_of_gt lit2, List.forall_mem_cons.mpr ⟨Nat.ne_of_lt (Nat.lt_succ_self _), List.forall_mem_cons.mpr ⟨Nat.ne_of_lt (Nat.lt_succ_of_lt (Nat.lt_succ_of_lt lL)), lr2⟩⟩⟩
  have WB := W.sub bS
  have fB := f5.sub bS
  have bmt := bS _ mt
  have bmpl := bS _ mpl
  have bmbu := bS _ mbu
  clear Nl
  refine iter_listTurns (vs := us0) (by rfl) Fl NB (lo := listOf us0.toArray 0) (.tail _ bL) rfl rfl (fun I2 hI2 => ?_)
  have iC : @LT.lt Nat _ (L'+1+1) I2 := hI2 _ (.head _)
  have iB : ∀ p ∈ base, @LT.lt Nat _ p.1 I2 := fun p hp => hI2 p (.tail _ hp)
  refine items_ind (α := Str) (J := fun as us m' news => ∃ oc' vc, (∃ v1 v2 v3 : Option Value, m' = fun y => if y = Str.ofString "name" then v1 else if y = Str.ofString "due" then v2 else if y = Str.ofString "places" then v3 else if y = Str.ofString "world" then some (.ref aw) else none) ∧
      news = (L'+1+1, oc') :: base ∧ oc'.data = .cell vc ∧ StrsAre us as)
      ?hlen ?hsrc ?step ?done us0 names5 _ _ ?init
  case hlen => rintro as us m' news ⟨_, _, _, _, _, S⟩; exact S.length.symm
  case hsrc => rintro as us m' news ⟨_, _, _, rfl, _⟩; exact .tail _ bL
  case init =>
    refine in2_4 oc2 none ⟨none, none, none, ?_⟩ rfl q2 hS0
    funext y
    by_cases e1 : y = Str.ofString "name"
    · subst e1; rfl
    by_cases e2 : y = Str.ofString "due"
    · subst e2; rfl
    by_cases e3 : y = Str.ofString "places"
    · subst e3; rfl
    simp only [if_neg e1, if_neg e2, if_neg e3]
    rfl
  case done =>
    intro m' news h9 tk9 N_1 F6 N6
    refine ex2_4 N_1 ?_; intro oc' vc N_2 E_3 qc S
    try clear N_1
    refine ex3_1 N_2 ?_; intro v1 v2 v3 E_4
    try clear N_2
    subst E_4
    subst E_3
    change Fr G L' _ _ at F6
    change News G L' _ _ at N6
    (repeat ((fail_if_success (with_reducible show wpAny _ _ (exec (Stmt.Assign _ (Expr.ListComp _ _ _ _) _) _) _ _ _)); first | (k_unfold; (try dsimp only)) | walk1 | (dsimp only; walk1) | (leave1; try dsimp only)))
    refine comp_strsT_asg [TS rs1.flatten, TS rs2.flatten] (by k_asm) (by (exact Nat.le_of_ble_eq_true rfl)) (by rfl) (by rfl) (by decide) (by rfl) (by decide) (by rfl) (by rfl) (by rfl) (by rfl) (by rfl) ?_
    k_steps
    rename_i DT hT FT NT lT
    refine in4_7 DT ([.int 1 tk9, .int 2 (tk9 + 1)]) 0 ((DT, tupOf #[.int 1 tk9, .int 2 (tk9 + 1)]) :: (L'+1+1, oc') :: base) rfl rfl (.head _) FT NT ?_ ?_
    · intro i v o hvi hoi I3 oI3 C3 oC3 D3 oD3 m3' h10 tk10 E10 hC10 hx10 F10 N10 off10 ne10
      have H_5 : ∃ (c : Int) (tc : Tok) (rl : Addr) (rs : List (List Nat)) (rvs : List Value) (nr : Nat), v = .int c tc ∧ o = TS rs.flatten ∧ valueAt kvr c = some (.ref rl) ∧ (rl, listOf rvs.toArray nr) ∈ led ∧ RecsIn led rvs rs ∧ rs.length ≤ 3 ∧ ∀ r ∈ rs, r.length ≤ 6 := by
        match i, hvi, hoi with
        | 0, hvi, hoi => cases hvi; cases hoi; exact ⟨1, _, rl1, rs1, rvs1, nr1, rfl, rfl, vr1, mr1, R1, zr1, zq1⟩
        | 1, hvi, hoi => cases hvi; cases hoi; exact ⟨2, _, rl2, rs2, rvs2, nr2, rfl, rfl, vr2, mr2, R2, zr2, zq2⟩
        | i + 2, hvi, _ => simp at hvi
      refine ex6_7 H_5 ?_; intro c tc rl rs rvs nr E_6 E_7 vrc mrl RR zr zq
      try clear H_5
      subst E_6
      subst E_7
      have brl := bS _ mrl
      have brc := bS _ mr
      have hRl := RR.length
      (repeat ((fail_if_success (with_reducible show wpAny _ _ (eval (Expr.ListComp _ _ _ _) _) _ _ _)); first | (k_unfold; (try dsimp only)) | walk1 | (dsimp only; walk1) | (leave1; try dsimp only)))
      refine comp_strs (led := (I3, oI3) :: (C3, oC3) :: (D3, oD3) :: (DT, tupOf #[.int 1 tk9, .int 2 (tk9 + 1)]) :: (L'+1+1, oc') :: base) (rs.map TS) (by k_asm) (.tail _ (.tail _ (.tail _ (.tail _ (.tail _ brl))))) (by rw [sizeLine_eq, hRl]; omega) (by rw [List.length_map, hRl]) (by rfl) (by rfl) (by decide) (by rfl) (by decide) (by rfl) ?_
      k_steps
      refine ⟨rfl, by k_asm, by k_asm, ?_, ?_⟩
      · intro j v o hvj hoj I4 oI4 C4 oC4 D4 oD4 m4' h11 tk11 E11 hC11 hx11 F11 N11 off11 ne11
        rw [List.getElem?_map] at hoj
        refine ex1_2 (Option.map_eq_some_iff.mp hoj) ?_; intro r hr hro
        subst hro
        refine ex3_3 (RR.at hr) ?_; intro RA nR us g1 g2 g3
        rw [hvj] at g1
        cases g1
        have hr6 := zq r (List.mem_of_getElem? hr)
        have bR := bS _ g2
        (repeat ((fail_if_success (with_reducible show wpAny _ _ (call (Value.builtin "str.join") _) _ _ _)); first | (k_unfold; (try dsimp only)) | walk1 | (dsimp only; walk1) | (leave1; try dsimp only)))
        refine join_list (items := us.toArray) (ys := r.map fun c => TS [c]) ⟨_, (N11 _ (.tail _ (.tail _ (.tail _ (.tail _ (.tail _ (.tail _ (.tail _ (.tail _ bR))))))))).1, rfl, _, rfl⟩ (by simpa using g3) (by rw [ones_sum, List.length_map]; show r.length + r.length * 0 ≤ _; rw [Nat.mul_zero]; exact Nat.le_trans hr6 (by decide)) ?_
        intro tj kj
        rw [join_signs]
        exact in3_4 _ _ _ rfl rfl (by k_asm) (by k_asm)
      · intro D h11 tk11 ys F11 N11 o11 S11
        dsimp only
        (repeat ((fail_if_success (with_reducible show wpAny _ _ (call (Value.builtin "str.join") _) _ _ _)); first | (k_unfold; (try dsimp only)) | walk1 | (dsimp only; walk1) | (leave1; try dsimp only)))
        refine join_list (items := ys.toArray) (ys := rs.map TS) ⟨_, (N11 _ (.head _)).1, rfl, _, rfl⟩ (by simpa using S11) (by
          have e := recs_sum zq
          show _ + _ * 0 ≤ _
          rw [Nat.mul_zero]
          exact Nat.le_trans e (Nat.le_trans (Nat.mul_le_mul_right 6 zr) (by decide))) ?_
        intro tj kj
        rw [join_flat]
        exact in3_4 _ _ _ rfl rfl (by k_asm) (news_sub N11 (by ((repeat (first | exact List.forall_mem_nil _ | refine List.forall_mem_cons.mpr ⟨by k_mem, ?_⟩ | (intro p' hp'; k_mem))))))
    · intro D h10 tk10 ys F10 N10 o10 S10
      cases S10 with
      | cons _ u1 S10 =>
      cases S10 with
      | cons _ u2 S10 =>
      cases S10
      have N11 := news_sub N10 (nl' := (D, listOf #[.str (TS rs1.flatten) u1, .str (TS rs2.flatten) u2] 2) :: (L'+1+1, oc') :: base) (by
        intro p hp
        refine mcons hp ?_ fun hp => ?_
        · exact .head _
        · exact .tail _ (.tail _ hp))
      clear N10
      refine ex2_5 (WB.ex) ?_; intro esB nB wb1 wb2 wb3 wb4 wb5
      have bfi := bS _ m5
      dsimp only
      (repeat ((fail_if_success (with_reducible show wpAny _ _ (compareOp CmpOp.Eq (Value.ref _) (Value.ref _)) _ _ _)); first | (k_unfold; (try dsimp only)) | walk1 | (dsimp only; walk1) | (leave1; try dsimp only)))
      refine eq_two (by k_asm) (.head _) (.tail _ (.head _)) (ts_ok zc1) (ts_ok zc2) (by (exact Nat.le_of_ble_eq_true rfl)) ?_
      with_reducible rename Fr _ _ _ _ => F13
      with_reducible rename News _ _ _ _ => N13
      refine h _ _ (back_fr F13 N13 (.tail _ (.tail _ (.tail _ (by rw [hbase]; exact .tail _ (.tail _ (.head _)))))) hoL hab) (back_news N13 fun p hp => ⟨.tail _ (.tail _ (.tail _ (bS p hp))), hLr p hp⟩)
  case step =>
    intro a as v us m' news h9 tk9 oI N_8 F6 N6
    refine ex2_4 N_8 ?_; intro oc' vc N_9 E_10 qc S
    try clear N_8
    refine ex3_1 N_9 ?_; intro v1 v2 v3 E_11
    try clear N_9
    subst E_11
    subst E_10
    change Fr G L' _ _ at F6
    change News G L' _ _ at N6
    cases S with
    | cons _ ta S =>
    have iC' : @Ne Nat I2 (L'+1+1) := Nat.ne_of_gt iC
    (repeat ((fail_if_success (with_reducible show wpAny _ _ (execs (_ :: _) _) _ _ _)); first | (k_unfold; (try dsimp only)) | walk1 | (dsimp only; walk1) | (leave1; try dsimp only)))
    refine wp_hide ?_
    intro Q_ hQ_
    rcases g2 : look fl a with _ | x
    · have g1 := at_none f6 g2
      have g1' : (valueAt kvp a).isSome = false := by rw [g1]; rfl
      have u1 := at_none f5 g2
      · k_steps
        refine ftext_none rfl (by (exact Nat.le_of_ble_eq_true rfl)) (by (exact Nat.le_of_ble_eq_true rfl)) (by k_asm) T X (by k_asm) (WB.sub fun p hp => .tail _ (.tail _ hp)) (.tail _ (.tail _ (bS _ m4))) d5 lo5 u1 ?_
        intro h5 tk5 F5 N5
        k_steps
        with_reducible rename Fr _ _ _ _ => F9
        with_reducible rename News _ _ _ _ => N9
        refine hQ_ _ _ ?_
        refine ⟨_, _, _, (L'+1+1, oc') :: base, rfl, F9, news_sub N9 (by ((repeat (first | exact List.forall_mem_nil _ | refine List.forall_mem_cons.mpr ⟨by k_mem, ?_⟩ | (intro p' hp'; k_mem))))), List.forall_mem_cons.mpr ⟨Nat.ne_of_lt iC, fun p hp => Nat.ne_of_lt (iB p hp)⟩, oc', vc, ⟨some (.str a ta), some .none, v3, ?_⟩, rfl, qc, S⟩
        funext y
        by_cases e1 : y = Str.ofString "name"
        · subst e1; rfl
        by_cases e2 : y = Str.ofString "due"
        · subst e2; rfl
        simp only [if_neg e1, if_neg e2]
    · refine at_place f6 g2 ?_
      intro T9 k9 t9 q9 n9 ws g1 gT gq gw
      have g1' : (valueAt kvp a).isSome = true := by rw [g1]; rfl
      have bT := bS _ gT
      have bq := bS _ gq
      obtain ⟨c, at_, many⟩ := x
      try clear x
      dsimp only at bT gw
      (repeat ((fail_if_success (with_reducible show wpAny _ _ (eval (Expr.ListComp _ _ _ _) _) _ _ _)); first | (k_unfold; (try dsimp only)) | walk1 | (dsimp only; walk1) | (leave1; try dsimp only)))
      rename_i hz oC dC hz2 FC NC
      refine ex10_11 (hch a _ g2) ?_; intro am om kvm nmc size bl r blA vsb nb e1 e2 e3 e4 e5 e6 e7 e8 e9 e10 e11
      dsimp only at e1 e5 e8 e9 e10
      have be2 := bS _ e2
      have be6 := bS _ e6
      have hbm : at_.toNat + many.toNat ≤ bl.length := by rw [← Int.toNat_add e8 e9]; exact Int.toNat_le.mpr e10
      have hk : ∀ i : Nat, (at_ + (i : Int)).toNat = at_.toNat + i := fun i => tn_addn e8
      have hk0 : ∀ i : Nat, (0 : Int) ≤ at_ + (i : Int) := fun i => at_ge e8
      have hk6 : ∀ i : Nat, i < many.toNat → at_ + (i : Int) < 2 ^ 63 := fun i hi => at_lt63' e10 hi e11
      have hm10 : many.toNat ≤ 10 := Nat.le_trans (Nat.le_trans (Nat.le_add_left _ _) hbm) e11
      have hmt : (at_ + many - at_).toNat = many.toNat := by rw [show at_ + many - at_ = many from add_sub_l]
      have hab' : at_ ≤ at_ + many := le_addr e9
      have hble : (TS bl).length ≤ 100 := by rw [ts_len]; exact Nat.le_trans e11 (by decide)
      refine ex1_1 (⟨_, rfl⟩ : ∃ b, b = (bl.drop at_.toNat).take many.toNat) ?_; intro seg hseg
      have hsl : seg.length = many.toNat := by rw [hseg, List.length_take, List.length_drop]; exact Nat.min_eq_left (Nat.le_sub_of_add_le (by rw [Nat.add_comm]; exact hbm))
      have hwl : ws.length = many.toNat := by rw [gw.length, rangeKs_length]
      refine comp_strs (led := (I2, oI) :: (L'+1+1, oC) :: base) (seg.map fun c => TS [c]) (by k_asm) (.tail _ (.tail _ bq)) (by rw [sizeLine_eq]; omega) (by rw [List.length_map, hsl, hwl]) (by rfl) (by rfl) (by decide) (by rfl) (by decide) (by rfl) ?_
      k_steps
      refine ⟨rfl, by k_asm, by k_asm, ?_, ?_⟩
      · intro i v o hvi hoi I3 oI3 C3 oC3 D3 oD3 m3' h10 tk10 E10 hC10 hx10 F10 N10 off10 ne10
        have hil : i < many.toNat := by rw [← hwl]; exact (List.getElem?_eq_some_iff.mp hvi).1
        refine ex1_1 (gw.get i (at_ + (i : Int)) (by unfold rangeKs; rw [List.getElem?_map, List.getElem?_range hil]; rfl)) ?_; intro tv hv
        rw [hvi] at hv
        cases hv
        have hj : at_.toNat + i < bl.length := Nat.lt_of_lt_of_le (Nat.add_lt_add_left hil _) hbm
        refine ex1_1 (e7.get (at_.toNat + i) (TS [bl[at_.toNat + i]]) (by rw [List.getElem?_map, List.getElem?_eq_getElem hj]; rfl)) ?_; intro tb hb
        have hb' : vsb[(at_ + (i : Int)).toNat]? = some (.str (TS [bl[at_.toNat + i]]) tb) := by rw [hk i]; exact hb
        have hsi : seg[i]? = some bl[at_.toNat + i] := by rw [hseg, List.getElem?_take_of_lt hil, List.getElem?_drop, List.getElem?_eq_getElem hj]
        rw [List.getElem?_map, hsi] at hoi
        cases hoi
        repeat ((fail_if_success ((with_reducible show wpAny _ _ (subscriptTail _ _ (Value.ref blA) _) _ _ _))); first | (k_unfold; (try dsimp only)) | walk1 | (dsimp only; walk1) | (leave1; try dsimp only))
        refine list_at (by k_asm) (.tail _ (.tail _ (.tail _ (.tail _ (.tail _ be6))))) (hk0 i) (hk6 i hil) hb' ?_
        exact in3_4 tb _ _ rfl rfl (by k_asm) (by k_asm)
      · intro D h10 tk10 ys F10 N10 o10 S10
        dsimp only
        (repeat ((fail_if_success (with_reducible show wpAny _ _ (call (Value.builtin "str.join") _) _ _ _)); first | (k_unfold; (try dsimp only)) | walk1 | (dsimp only; walk1) | (leave1; try dsimp only)))
        have hws : (((seg.map fun c => TS [c]).map (·.length)).sum + (seg.map fun c => TS [c]).length * (Str.ofString "").length ≤ 16777216) := by
          have e1 : ∀ l : List Nat, ((l.map fun c => TS [c]).map (·.length)).sum = l.length := fun l => by
            induction l with
            | nil => rfl
            | cons a l ih => rw [List.map_cons, List.map_cons, List.sum_cons, ih, List.length_cons, Nat.add_comm]; rfl
          rw [e1, hsl]
          show many.toNat + _ * 0 ≤ _
          rw [Nat.mul_zero]
          exact Nat.le_trans hm10 (by decide)
        refine join_list (items := ys.toArray) (ys := seg.map fun c => TS [c]) ⟨_, (N10 _ (.head _)).1, rfl, _, rfl⟩ (by simpa using S10) hws ?_
        intro tj kj
        rw [join_signs]
        have N11 := news_sub N10 (nl' := (I2, oI) :: (L'+1+1, oC) :: base) (by ((repeat (first | exact List.forall_mem_nil _ | refine List.forall_mem_cons.mpr ⟨by k_mem, ?_⟩ | (intro p' hp'; k_mem)))))
        clear N10
        k_steps
        refine at_field f5 g2 ?_
        intro TF kF tF1 tF2 tF3 u1 mF
        dsimp only at mF
        refine ex1_1 (e4.buf) ?_; intro tbuf hbuf
        refine ftext_some rfl (by (exact Nat.le_of_ble_eq_true rfl)) (by (exact Nat.le_of_ble_eq_true rfl)) (by k_asm) T X (by k_asm) (WB.sub fun p hp => .tail _ (.tail _ hp)) (.tail _ (.tail _ (bS _ m4))) d5 lo5 u1 (.tail _ (.tail _ (bS _ mF))) (.tail _ (.tail _ (bS _ m3))) d3 e1 (.tail _ (.tail _ be2)) e3 hbuf hble ?_
        intro h12 tk12 t12 F12 N12
        rw [slice_mid bl e8 hab' e10, hmt, ← hseg]
        k_steps
        · rename_i hbad; exfalso; simp at hbad
        with_reducible rename Fr _ _ _ _ => F13
        with_reducible rename News _ _ _ _ => N13
        refine hQ_ _ _ ?_
        refine ⟨_, _, _, (L'+1+1, oC) :: base, rfl, F13, news_sub N13 (by ((repeat (first | exact List.forall_mem_nil _ | refine List.forall_mem_cons.mpr ⟨by k_mem, ?_⟩ | (intro p' hp'; k_mem))))), List.forall_mem_cons.mpr ⟨Nat.ne_of_lt iC, fun p hp => Nat.ne_of_lt (iB p hp)⟩, oC, _, ⟨some (.str a ta), some (.str (TS seg) tj), some (.ref q9), ?_⟩, rfl, dC, S⟩
        funext y
        by_cases x1 : y = Str.ofString "name"
        · subst x1; rfl
        by_cases x2 : y = Str.ofString "due"
        · subst x2; rfl
        by_cases x3 : y = Str.ofString "places"
        · subst x3; rfl
        simp only [if_neg x1, if_neg x2, if_neg x3]
end E_lawstands
theorem lawstands {w : World} {G : Heap} {L : Addr} {m : Str → Option Value} {p : Program} {loose : List Str} {mean : ExcName → Option Value} {mg mb : Str → Option Value} {E : Value → Shared → Prop} {s : Shared} {A : Around} {aw awd afi aop afl tw pl bu rc rl1 rl2 : Addr} {rs1 rs2 : List (List Nat)} {tf1 tf2 : Tok} {rvs1 rvs2 : List Value} {nr1 nr2 : Nat} {ofl opl oo otw obu orc ofi : Obj} {kvf kvp kvt kvfi : List (Str × Value)} {kvo kvb kvr : List (Int × Value)} {fl : List (Str × Fld)} {led : List (Addr × Obj)} {Q : Value → Shared → Prop} : P_lawstands w G L m p loose mean mg mb E s A aw awd afi aop afl tw pl bu rc rl1 rl2 rs1 rs2 tf1 tf2 rvs1 rvs2 nr1 nr2 ofl opl oo otw obu orc ofi kvf kvp kvt kvfi kvo kvb kvr fl led Q := eps_all (Ψ := U_lawstands) E_lawstands.go (w, G, L, m, p, loose, mean, mg, mb, E, s, A, aw, awd, afi, aop, afl, tw, pl, bu, rc, rl1, rl2, rs1, rs2, tf1, tf2, rvs1, rvs2, nr1, nr2, ofl, opl, oo, otw, obu, orc, ofi, kvf, kvp, kvt, kvfi, kvo, kvb, kvr, fl, led, Q)
section
variable {w : World} {G : Heap} {L : Addr} {m : Str → Option Value} {p : Program} {loose : List Str} {mean : ExcName → Option Value} {mg mb : Str → Option Value}
  {E : Value → Shared → Prop} {s : Shared} {A : Around}
end

section
variable {w : World} {G : Heap} {L : Addr} {m : Str → Option Value} {p : Program} {loose : List Str} {mean : ExcName → Option Value} {mg mb : Str → Option Value}
  {E : Value → Shared → Prop} {s : Shared} {A : Around}
end
def P_world_made (w : World) (G : Heap) (L : Addr) (m : Str → Option Value) (p : Program) (loose : List Str) (mean : ExcName → Option Value) (mg mb : Str → Option Value) (E : Value → Shared → Prop) (s : Shared) (A : Around) (led : List (Addr × Obj)) (Q : Value → Shared → Prop) : Prop := ∀ (hh : A.handled = none) (hdp : A.depth ≤ 800) (hu : A.units ≤ 800) (F : Fr G L s.heap m) (T : Top p loose mean mg mb G) (X : (hd.heap_1 w.params).In G) (N : News G L s.heap led) (h : ∀ h' tk aw awd afi aop afl oo ofi ofl rest, Fr G L h' m → News G L h' ((afi, ofi) :: (aop, oo) :: (afl, ofl) :: (rest ++ led)) → WorldAt rest aw awd afi aop afl →
    ofi.IsDictOf (PySem.strKind PySem.Challenge.rw_pq0169_01.row.prog w) [] → oo.IsDictOf (PySem.intKind PySem.Challenge.rw_pq0169_01.row.prog w) [] → ofl.IsDictOf (PySem.strKind PySem.Challenge.rw_pq0169_01.row.prog w) [] →
    (afi == sysModules) = false → (aop == sysModules) = false → (afl == sysModules) = false → @List.Nodup Nat [afi, aop, afl] → (∀ p ∈ rest, ¬ @Membership.mem Nat (List Nat) _ [afi, aop, afl] p.1) → (∀ p ∈ (afi, ofi) :: (aop, oo) :: (afl, ofl) :: rest, ∀ q ∈ led, @LT.lt Nat _ q.1 p.1) →
    Q (.ref aw) { s with heap := h', toks := tk }), wpAny (model PySem.Challenge.rw_pq0169_01.row.prog w) A (call (.ref 142) [] []) Q E s
def U_world_made (c : (World) × (Heap) × (Addr) × (Str → Option Value) × (Program) × (List Str) × (ExcName → Option Value) × (Str → Option Value) × (Str → Option Value) × (Value → Shared → Prop) × (Shared) × (Around) × (List (Addr × Obj)) × (Value → Shared → Prop)) : Prop := P_world_made c.1 c.2.1 c.2.2.1 c.2.2.2.1 c.2.2.2.2.1 c.2.2.2.2.2.1 c.2.2.2.2.2.2.1 c.2.2.2.2.2.2.2.1 c.2.2.2.2.2.2.2.2.1 c.2.2.2.2.2.2.2.2.2.1 c.2.2.2.2.2.2.2.2.2.2.1 c.2.2.2.2.2.2.2.2.2.2.2.1 c.2.2.2.2.2.2.2.2.2.2.2.2.1 c.2.2.2.2.2.2.2.2.2.2.2.2.2
/- the letters at which it would fail, if there are such -/
noncomputable def K_world_made : (World) × (Heap) × (Addr) × (Str → Option Value) × (Program) × (List Str) × (ExcName → Option Value) × (Str → Option Value) × (Str → Option Value) × (Value → Shared → Prop) × (Shared) × (Around) × (List (Addr × Obj)) × (Value → Shared → Prop) := @Classical.epsilon _ (neP ⟨aWorld 0⟩ (neP ⟨default⟩ (neP ⟨default⟩ (neP ⟨default⟩ (neP ⟨default⟩ (neP ⟨default⟩ (neP ⟨default⟩ (neP ⟨default⟩ (neP ⟨default⟩ (neP ⟨default⟩ (neP neS (neP ⟨{}⟩ (neP ⟨default⟩ ⟨default⟩))))))))))))) fun c => ¬ U_world_made c
namespace E_world_made
noncomputable def w : World := K_world_made.1
noncomputable def G : Heap := K_world_made.2.1
noncomputable def L : Addr := K_world_made.2.2.1
noncomputable def m : Str → Option Value := K_world_made.2.2.2.1
noncomputable def p : Program := K_world_made.2.2.2.2.1
noncomputable def loose : List Str := K_world_made.2.2.2.2.2.1
noncomputable def mean : ExcName → Option Value := K_world_made.2.2.2.2.2.2.1
noncomputable def mg : Str → Option Value := K_world_made.2.2.2.2.2.2.2.1
noncomputable def mb : Str → Option Value := K_world_made.2.2.2.2.2.2.2.2.1
noncomputable def E : Value → Shared → Prop := K_world_made.2.2.2.2.2.2.2.2.2.1
noncomputable def s : Shared := K_world_made.2.2.2.2.2.2.2.2.2.2.1
noncomputable def A : Around := K_world_made.2.2.2.2.2.2.2.2.2.2.2.1
noncomputable def led : List (Addr × Obj) := K_world_made.2.2.2.2.2.2.2.2.2.2.2.2.1
noncomputable def Q : Value → Shared → Prop := K_world_made.2.2.2.2.2.2.2.2.2.2.2.2.2
theorem go : P_world_made w G L m p loose mean mg mb E s A led Q := by
  intro hh hdp hu F T X N h
  refine wpAny_weak (A' := A2) ?_ hh hdp hu rfl rfl
  revert X
  k_fill
  intro X
  have hab := F.above
  refine call_cls F X N (by k_is) (by k_is) (by k_is) ?_
  intro x dx h2 F2 N2 l1 l2
  refine' enter0 (binds := [(Str.ofString "self", .ref x), (Str.ofString "bits", .int 16 378), (Str.ofString "digits", .int 9 379), (Str.ofString "most_steps", .int 2000 380), (Str.ofString "most_depth", .int 20 381), (Str.ofString "room", .int 2000 382)]) F2 X N2 (Top.nolimit T) ?k6 ?k7 ?k8 ?k9 ?kB ?_ ?c2 ?c3 ?c4 ?c5
  case k6 => k_is
  case k7 => k_is
  case k8 => exact Nat.lt_of_le_of_lt (Nat.le_refl _) (by decide)
  case k9 => exact binds_K (by k_in) rfl (by k_is) rfl rfl rfl
  case c5 => decide
  case kB => exact locs rfl
  case c2 => exact rfl
  case c3 => exact rfl
  case c4 => exact rfl
  intro L' h₁ oL hoL F' N' l0 l1'
  have nd : ∀ p ∈ led, p.1 ≠ dx := fun p hp => Nat.ne_of_lt (l1 p hp)
  have nx : ∀ p ∈ led, p.1 ≠ x := fun p hp => Nat.ne_of_lt (Nat.lt_trans (l1 p hp) l2)
  have ndx : @Ne Nat dx x := Nat.ne_of_lt l2
  have nLd : @Ne Nat L dx := Ne.symm (N2 _ (.tail _ (.head _))).2.1
  have nLx : @Ne Nat L x := Ne.symm (N2 _ (.head _)).2.1
  have N3 := news_sub N' (nl' := (x, instObj 142 dx) :: (dx, dictOf [] 0) :: (L, oL) :: led) (by ((repeat (first | exact List.forall_mem_nil _ | refine List.forall_mem_cons.mpr ⟨by k_mem, ?_⟩ | (intro p' hp'; k_mem)))))
  have xL : @LT.lt Nat _ x L' := l0 _ (.head _)
  have dL : @LT.lt Nat _ dx L' := l0 _ (.tail _ (.head _))
  have rL : ∀ p ∈ led, @LT.lt Nat _ p.1 L' := fun p hp => l0 p (.tail _ (.tail _ hp))
  have hLr : ∀ p ∈ led, p.1 ≠ L := fun p hp => (N p hp).2.1
  clear N' F N F2 N2
  dsimp only
  (try k_fold)
  k_steps
  rename_i afi h21 ofi lofi hsfi fsfi hifi fifi l5 h20 aop h19 oo loo hso fso hio fio l4 h18 afl h17 ofl lofl hsfl fsfl hifl fifl l3 h16 la h15 l2_ h14 tk1 g1 g2 g3 g4 g5 g6 g7 g8 g9 g10 lb h3 l1_ h2_ tk0 lc h1_ l0_ h0_ FF NN
  have H_1 : ∃ es n, (∀ p, p = (dx, dictOf es n) → h0_.get? p.1 = some p.2 ∧ p.1 ≠ L' ∧ G.get? p.1 = none) ∧ getL (Str.ofString "files") es = some (some (.ref afi)) ∧ getL (Str.ofString "open") es = some (some (.ref aop)) ∧ getL (Str.ofString "fields") es = some (some (.ref afl)) := by
    refine in2_4 (?es) (?n) (fun p hp => NN p ?mm) (?g1) (?g2) (?g3)
    case mm =>
      rw [hp]
      repeat (first | exact List.Mem.head _ | refine List.Mem.tail _ ?_)
    case g1 => rfl
    case g2 => rfl
    case g3 => rfl
  refine ex2_4 H_1 ?_; intro es n he e1 e2 e3
  try clear H_1
  have hx : (x, instObj 142 dx) ∈ (x, instObj 142 dx) :: (dx, dictOf es n) :: ([] : List (Addr × Obj)) := .head _
  refine ex0_10 l5 ?_; intro a1 a2 a3 a4 a5 a6 a7 a8 a9 a10
  try clear l5
  refine ex0_11 l4 ?_; intro b0 b1 b2 b3 b4 b5 b6 b7 b8 b9 b10
  try clear l4
  refine ex0_12 l3 ?_; intro c0 c1 c2 c3 c4 c5 c6 c7 c8 c9 c10 c11
  try clear l3
  refine ⟨rfl, h _ _ x dx afi aop afl oo ofi ofl [(x, instObj 142 dx), (dx, dictOf es n)] (back_fr FF NN ?mL hoL hab) (fun p hp => ?nn) ⟨⟨es, n, .head _, .tail _ (.head _), e1, e2, e3⟩⟩ hsfi hio hsfl lofi loo lofl ?nd ?off ?lt⟩
  case mL => repeat (first | exact List.Mem.head _ | refine List.Mem.tail _ ?_)
  case nd =>
    have r1 : @Ne Nat afi aop := Nat.ne_of_lt b0
    have r2 : @Ne Nat afi afl := Nat.ne_of_lt c1
    have r3 : @Ne Nat aop afl := Nat.ne_of_lt c0
    exact List.nodup_cons.mpr ⟨by simp [r1, r2], List.nodup_cons.mpr ⟨by simp [r3], by simp⟩⟩
  case off =>
    have r1 : @Ne Nat x afi := Nat.ne_of_lt a7
    have r2 : @Ne Nat x aop := Nat.ne_of_lt b7
    have r3 : @Ne Nat x afl := Nat.ne_of_lt c8
    have r4 : @Ne Nat dx afi := Nat.ne_of_lt a8
    have r5 : @Ne Nat dx aop := Nat.ne_of_lt b8
    have r6 : @Ne Nat dx afl := Nat.ne_of_lt c9
    intro p hp
    refine mcons hp ?_ fun hp => ?_
    · simp [r1, r2, r3]
    · rw [List.mem_singleton.mp hp]; simp [r4, r5, r6]
  case lt =>
    have t1 := PySem.W.tb_ltOf a10
    have t2 := PySem.W.tb_ltOf b10
    have t3 := PySem.W.tb_ltOf c11
    intro p hp q hq
    refine mcons hp ?_ fun hp => ?_
    · exact t1 q hq
    refine mcons hp ?_ fun hp => ?_
    · exact t2 q hq
    refine mcons hp ?_ fun hp => ?_
    · exact t3 q hq
    refine mcons hp ?_ fun hp => ?_
    · exact Nat.lt_trans (l1 q hq) l2
    · rw [List.mem_singleton.mp hp]; exact l1 q hq
  case nn =>
    have k1 : ∀ (q : Addr × Obj), h0_.get? q.1 = some q.2 ∧ q.1 ≠ L' ∧ G.get? q.1 = none → q.1 ≠ L → h0_.get? q.1 = some q.2 ∧ q.1 ≠ L ∧ G.get? q.1 = none := fun q x y => ⟨x.1, y, x.2.2⟩
    refine mcons hp ?_ fun hp => ?_
    · exact k1 (afi, ofi) (NN _ (by repeat (first | exact List.Mem.head _ | refine List.Mem.tail _ ?_))) (Nat.ne_of_gt a9)
    refine mcons hp ?_ fun hp => ?_
    · exact k1 (aop, oo) (NN _ (by repeat (first | exact List.Mem.head _ | refine List.Mem.tail _ ?_))) (Nat.ne_of_gt b9)
    refine mcons hp ?_ fun hp => ?_
    · exact k1 (afl, ofl) (NN _ (by repeat (first | exact List.Mem.head _ | refine List.Mem.tail _ ?_))) (Nat.ne_of_gt c10)
    refine mcons hp ?_ fun hp => ?_
    · exact k1 (x, instObj 142 dx) (NN _ (by repeat (first | exact List.Mem.head _ | refine List.Mem.tail _ ?_))) (Ne.symm nLx)
    refine mcons hp ?_ fun hp => ?_
    · exact k1 (dx, dictOf es n) (he _ rfl) (Ne.symm nLd)
    · refine k1 p (NN p ?_) (hLr p hp)
      iterate 15 (refine List.Mem.tail _ ?_)
      exact hp
end E_world_made
theorem world_made {w : World} {G : Heap} {L : Addr} {m : Str → Option Value} {p : Program} {loose : List Str} {mean : ExcName → Option Value} {mg mb : Str → Option Value} {E : Value → Shared → Prop} {s : Shared} {A : Around} {led : List (Addr × Obj)} {Q : Value → Shared → Prop} : P_world_made w G L m p loose mean mg mb E s A led Q := eps_all (Ψ := U_world_made) E_world_made.go (w, G, L, m, p, loose, mean, mg, mb, E, s, A, led, Q)
section
variable {w : World} {G : Heap} {L : Addr} {m : Str → Option Value} {p : Program} {loose : List Str} {mean : ExcName → Option Value} {mg mb : Str → Option Value}
  {E : Value → Shared → Prop} {s : Shared} {A : Around}
end

theorem names_bound {fl : List (Str × Fld)} (hn : (fl.map (·.1)).Nodup) (h : ∀ p ∈ fl, IsName p.1) : fl.length ≤ 5 := by
  have := List.Nodup.length_le_of_subset (l₂ := (List.range 5).map nameN) hn (fun x hx => by
    refine ex1_2 (List.mem_map.mp hx) ?_; intro p hp E_1
    subst E_1
    refine ex1_2 (h p hp) ?_; intro k hk e
    exact List.mem_map.mpr ⟨k, List.mem_range.mpr hk, e.symm⟩)
  simpa using this
theorem putN_keys {fl : List (Str × Fld)} {n : Str} {x : Fld} (hn : (fl.map (·.1)).Nodup) : ((putN fl n x).map (·.1)).Nodup := by
  unfold putN
  split
  · have e : (fl.map (fun p => if p.1 = n then (p.1, x) else p)).map (·.1) = fl.map (·.1) := by
      rw [List.map_map]
      refine List.map_congr_left fun p _ => ?_
      show (if p.1 = n then (p.1, x) else p).1 = p.1
      split <;> rfl
    rw [e]; exact hn
  · rename_i h
    rw [List.map_append, List.nodup_append]
    refine ⟨hn, by simp, ?_⟩
    intro a ha b hb
    refine ex1_2 (List.mem_map.mp ha) ?_; intro p hp E_2
    subst E_2
    have hb' : b = n := by simpa using hb
    subst hb'
    intro e
    refine ex1_1 (look_some hp) ?_; intro z hz
    rw [e] at hz
    rw [hz] at h
    exact h rfl
theorem putN_mem {fl : List (Str × Fld)} {n : Str} {x : Fld} {p : Str × Fld} (hp : p ∈ putN fl n x) : p ∈ fl ∨ p = (n, x) := by
  unfold putN at hp
  split at hp
  · refine ex1_2 (List.mem_map.mp hp) ?_; intro q hq e
    split at e
    · rename_i h; right; rw [← e, h]
    · left; rw [← e]; exact hq
  · rcases List.mem_append.mp hp with h | h
    · exact .inl h
    · exact .inr (List.mem_singleton.mp h)
theorem fput_keys {c : Int} : ∀ (ds : List (Int × Str)) (a : Int) (fl : List (Str × Fld)), (fl.map (·.1)).Nodup → ((fput c a fl ds).map (·.1)).Nodup
  | [], _, _, h => h
  | d :: ds, a, fl, h => fput_keys ds (a + d.1) (putN fl d.2 (c, a, d.1)) (putN_keys h)
theorem sum_nonneg : ∀ {ds : List (Int × Str)}, (∀ x ∈ ds, PartOk x) → 0 ≤ (ds.map (·.1)).sum
  | [], _ => by simp
  | d :: ds, h => by
    rw [List.map_cons, List.sum_cons]
    have := sum_nonneg (ds := ds) fun x hx => h x (.tail _ hx)
    have := (h d (.head _)).1
    omega
theorem fput_mem {c : Int} : ∀ {ds : List (Int × Str)} {a : Int} {fl : List (Str × Fld)} {p : Str × Fld}, (∀ x ∈ ds, PartOk x) → p ∈ fput c a fl ds →
    p ∈ fl ∨ (IsName p.1 ∧ p.2.1 = c ∧ a ≤ p.2.2.1 ∧ 0 ≤ p.2.2.2 ∧ p.2.2.2 ≤ 3 ∧ p.2.2.1 + p.2.2.2 ≤ a + (ds.map (·.1)).sum)
  | [], _, _, _, _, hp => .inl hp
  | d :: ds, a, fl, p, h, hp => by
    refine ex0_3 (h d (.head _)) ?_; intro d0 d1 d2
    have hs := sum_nonneg (ds := ds) fun x hx => h x (.tail _ hx)
    rw [List.map_cons, List.sum_cons]
    rcases fput_mem (ds := ds) (fun x hx => h x (.tail _ hx)) hp with h1 | ⟨h1, h2, h3, h4, h5, h6⟩
    · rcases putN_mem h1 with h1 | rfl
      · exact .inl h1
      · exact .inr ⟨d2, rfl, Int.le_refl _, d0, d1, by show a + d.1 ≤ _; omega⟩
    · exact .inr ⟨h1, h2, by omega, h4, h5, by omega⟩
/- the state between the turns -/
structure St where
  fl : List (Str × Fld)
  b1 : Option (List Nat)
  b2 : Option (List Nat)
  rs1 : List (List Nat)
  rs2 : List (List Nat)
def St.buf (st : St) (c : Int) : Option (List Nat) := if c = 1 then st.b1 else if c = 2 then st.b2 else none
structure BufOk (b : Option (List Nat)) (size : Nat) : Prop where
  ok : ∀ l, b = some l → l.length = size ∧ ∀ c ∈ l, c < 128
structure RecOk (rs : List (List Nat)) (size : Nat) : Prop where
  len : rs.length ≤ 3
  each : ∀ r ∈ rs, r.length = size
  code : ∀ r ∈ rs, ∀ c ∈ r, c < 128
structure St.Ok (st : St) : Prop where
  nd : (st.fl.map (·.1)).Nodup
  nam : ∀ p ∈ st.fl, IsName p.1
  fld : ∀ p ∈ st.fl, (∃ b, st.buf p.2.1 = some b ∧ p.2.2.1 + p.2.2.2 ≤ b.length) ∧ 0 ≤ p.2.2.1 ∧ 0 ≤ p.2.2.2 ∧ p.2.2.2 ≤ 3
  ok1 : BufOk st.b1 4
  ok2 : BufOk st.b2 6
  rk1 : RecOk st.rs1 4
  rk2 : RecOk st.rs2 6

theorem miss_list_keys : typeLookup (.type "list") "keys" = pure none := by rw [typeLookup_type, builtinLookup_eq_fast]; kernel_rfl
theorem entry_dict_loop : entryFor table "dict.update.loop" = some Builtin.«dict.update.loop» := entryFor_of_tree (by kernel_rfl)
theorem plain_dict_loop : plainId "dict.update.loop" = true := by decide +kernel
section
variable {prog : Program} {w : World} {K : Type} [DecidableEq K] {knd : KeyKind prog w K} {A : Around} {E : Value → Shared → Prop} {s : Shared}
theorem list_no_keys {a : Addr} {o : Obj} {xs : Array Value} {k : Nat} {Q : Option Value → Shared → Prop}
    (hx : s.heap.get? a = some o) (hc : o.cls = .type "list") (hdat : o.data = .seq xs k) (hd : o.dict = none) (hA : A.handled = none)
    (h : ∀ h' tk, (∀ b ob, s.heap.get? b = some ob → h'.get? b = some ob) → Q none { s with heap := h', toks := tk }) :
    wpAny (model prog w) A (getAttr? (.ref a) "keys") Q E s := by
  obtain ⟨c, dct, dat, sl⟩ := o
  try clear o
  simp only at hc hdat hd
  subst hc hdat hd
  obtain ⟨hp, g, d, tk, os⟩ := s
  try clear s
  have hT : ∀ tk', (⟨hp, g, d, tk', os⟩ : Shared).TypeIs (.ref a) "list" := fun _ => ⟨_, hx, rfl⟩
  have f1 := sub_AttributeError
  have f3 := F.slot_list_getattribute.lookup
  have f4 := F.slot_list_getattribute.bind (.ref a)
  have f5 := am_list_getattr_none
  unfold getAttr? getAttrBy? getAttrBy
  repeat (any_goals (first | assumption | exact hT _ | ((with_reducible show wpAny _ _ (call (Value.builtin "list.__getattribute__") _ _) _ _ _); refine call_meets F.slot_list_getattribute (hT _) am_entry_list_getattribute (F.args_list_getattribute_2 _ _) (meets_getattribute_miss_list a xs k sl (Str.ofString "keys") _ miss_list_keys (by decide +kernel)) ⟨hx, hA, fun h' tk' e hx' => ?_⟩) | wp_step))
  refine ex2_1 (hx'.there) ?_; intro t' u' he
  show wpAny _ _ (getattributeRaised _ _ _ _ _ _ _) _ _ _
  unfold getattributeRaised
  repeat (any_goals (first | assumption | wp_step))
  exact h _ _ hx'.keeps

/- a list of pairs of the heap -/
def PairsAt (knd : KeyKind prog w K) (h : Heap) : List Value → List (K × Value) → Prop
  | [], [] => True
  | v :: vs, p :: ps => (∃ T key, v = .ref T ∧ h.IsTuple T #[key, p.2] ∧ knd.is p.1 key = true) ∧ PairsAt knd h vs ps
  | _, _ => False
theorem PairsAt.length {h : Heap} : ∀ {vs : List Value} {ps : List (K × Value)}, PairsAt knd h vs ps → vs.length = ps.length
  | [], [], _ => rfl
  | _ :: _, _ :: _, ⟨_, r⟩ => congrArg (· + 1) r.length
  | [], _ :: _, x => x.elim
  | _ :: _, [], x => x.elim
theorem PairsAt.at {h : Heap} : ∀ {vs : List Value} {ps : List (K × Value)}, PairsAt knd h vs ps → ∀ (i : Nat) (hi : i < ps.length), ∃ T key, vs[i]? = some (.ref T) ∧ h.IsTuple T #[key, ps[i].2] ∧ knd.is ps[i].1 key = true
  | [], [], _, i, hi => absurd hi (Nat.not_lt_zero _)
  | _ :: _, _ :: _, ⟨⟨T, key, rfl, a, b⟩, r⟩, 0, _ => ⟨T, key, rfl, a, b⟩
  | _ :: _, _ :: _, ⟨_, r⟩, i + 1, hi => by
    refine ex2_3 (PairsAt.at r i (Nat.lt_of_succ_lt_succ hi)) ?_; intro T key a b c
    exact ⟨T, key, by simpa using a, by simpa using b, by simpa using c⟩
  | [], _ :: _, x, _, _ => x.elim
  | _ :: _, [], x, _, _ => x.elim
theorem stored_new {kvs : List (K × Value)} {k : K} {v : Value} (h : k ∉ kvs.map (·.1)) : stored kvs k v = kvs ++ [(k, v)] := by
  unfold stored
  rw [if_neg]
  intro hc
  refine ex1_2 (List.any_eq_true.mp hc) ?_; intro q hq e
  exact h (List.mem_map.mpr ⟨q, hq, by simpa using e⟩)
theorem stored_take {ps : List (K × Value)} (hn : (ps.map (·.1)).Nodup) (i : Nat) (hi : i < ps.length) : stored (ps.take i) ps[i].1 ps[i].2 = ps.take (i + 1) := by
  rw [stored_new]
  · rw [List.take_succ_eq_append_getElem hi]
  · intro hc
    refine ex1_2 (List.mem_map.mp hc) ?_; intro q hq e
    obtain ⟨j, hj, E_1⟩ := (List.getElem_of_mem hq)
    subst E_1
    rw [List.length_take] at hj
    rw [List.getElem_take] at e
    have := (List.pairwise_iff_getElem.mp hn) j i (by rw [List.length_map]; omega) (by rw [List.length_map]; omega) (by omega)
    rw [List.getElem_map, List.getElem_map] at this
    exact this e
theorem dict_loop {R : Result → Shared → Prop} {h0 : Heap} {S I l : Addr} {vs : List Value} {ps : List (K × Value)} {res : Value} (hh : A.handled = none) (hS : h0.get? S = none) (hI : h0.get? I = none) (hSI : @Ne Nat S I)
    (hl : h0.IsList l vs.toArray) (hp : PairsAt knd h0 vs ps) (hn : (ps.map (·.1)).Nodup) (hz : ps.length ≤ 1000)
    (hR : ∀ h' tk, (∀ b o, h0.get? b = some o → h'.get? b = some o) → h'.DictOf knd S ps → R (.ok (.ret res)) { s with heap := h', toks := tk }) :
    ∀ (k i : Nat) (j : Int) (t : Tok) (h : Heap) (tk : Nat), ps.length - i = k → i ≤ ps.length → (∀ b o, h0.get? b = some o → h.get? b = some o) → h.IsListIter I l i → h.DictOf knd S (ps.take i) →
      codeAny (model prog w) A (.builtin "dict.update.loop" ⟨[.ref S, .ref I, .int j t, res], []⟩) R { s with heap := h, toks := tk } := by
  have hlen := hp.length
  have keepL : ∀ h : Heap, (∀ b o, h0.get? b = some o → h.get? b = some o) → h.IsList l vs.toArray := fun h hk => by
    refine ex1_2 hl ?_; intro o ho r
    try clear hl
    exact ⟨o, hk _ _ ho, r⟩
  intro k
  induction k with
  | zero =>
    intro i j t h tk hk hi keep hit hd
    have hin : i = ps.length := by omega
    subst hin
    refine codeAny_builtin entry_dict_loop ?_
    rw [Around.under_plainId plain_dict_loop _]
    show wpAny _ A.in1 (pyNext (.ref I) >>= _) _ _ _
    refine wpAny_bind (wpAny_pyNext_list_end (s := { s with heap := h, toks := tk }) hh hit (keepL h keep) (by simp; omega) fun h' hs => ?_)
    rw [List.take_length] at hd
    refine wpAny_bind (wpAny_pure (wpAny_pure (hR h' tk (fun b o hb => hs b o ?_ (keep b o hb)) ?_)))
    · intro e; rw [e] at hb; rw [hI] at hb; cases hb
    · refine ex3_2 hd ?_; intro o es ep ho r
      try clear hd
      exact ⟨o, es, ep, hs _ _ hSI ho, r⟩
  | succ k ih =>
    intro i j t h tk hk hi keep hit hd
    have hlt : i < ps.length := by omega
    refine ex2_3 (hp.at i hlt) ?_; intro T key hv hT hkey
    refine codeAny_builtin entry_dict_loop ?_
    rw [Around.under_plainId plain_dict_loop _]
    show wpAny _ A.in1 (pyNext (.ref I) >>= _) _ _ _
    refine wpAny_bind (wpAny_pyNext_list_item (s := { s with heap := h, toks := tk }) hit (keepL h keep) (x := .ref T) (by simpa using hv) fun h' hit' hs => ?_)
    have keep' : ∀ b o, h0.get? b = some o → h'.get? b = some o := fun b o hb => by
      have hbI : b ≠ I := fun e => by rw [e, hI] at hb; cases hb
      rw [hs.2 b hbI]; exact keep b o hb
    have hd' : h'.DictOf knd S (ps.take i) := by
      refine ex3_2 hd ?_; intro o es ep ho r
      try clear hd
      exact ⟨o, es, ep, by rw [hs.2 S hSI]; exact ho, r⟩
    obtain ⟨oT, hoT, hcT, nT, hdT⟩ := hT
    try clear hT
    have hT' := keep' _ _ hoT
    show wpAny _ A.in1 (holding [Value.ref T] _ >>= _) _ _ _
    refine wpAny_bind (wpAny_holding ?_)
    refine wpAny_bind (wpAny_tryCatch ?_)
    unfold Builtin.Dict.pairItems
    refine wpAny_bind (wpAny_typeOf (s := { s with heap := h', toks := tk }) ⟨oT, hT', hcT⟩ ?_)
    rw [if_pos (by decide)]
    refine wpAny_bind (wpAny_seqItems (s := { s with heap := h', toks := tk }) hT' hdT ?_)
    refine wpAny_pure ?_
    show wpAny _ _ (holding [key, ps[i].2] _) _ _ _
    refine wpAny_holding ?_
    refine wpAny_dictSet_pairs (s := { s with heap := h', toks := tk }) hkey hd' (fun h'' hd'' hs'' => ?_) (by rw [List.length_take]; unfold sizeLine; omega)
    rw [stored_take hn i hlt] at hd''
    refine wpAny_pure ⟨plainId_quiet plain_dict_loop _, ih (i + 1) _ _ h'' _ (by omega) hlt (fun b o hb => ?_) ?_ hd''⟩
    · have hbS : b ≠ S := fun e => by rw [e, hS] at hb; cases hb
      rw [hs''.2 b hbS]; exact keep' b o hb
    · refine ex1_2 hit' ?_; intro o ho r
      try clear hit'
      exact ⟨o, by rw [hs''.2 I (Ne.symm hSI)]; exact ho, r⟩
theorem call_dict_pairs {l : Addr} {ol : Obj} {nl : Nat} {vs : List Value} {ps : List (K × Value)} {Q : Value → Shared → Prop} (hh : A.handled = none)
    (hol : s.heap.get? l = some ol) (hc : ol.cls = .type "list") (hd : ol.dict = none) (hdat : ol.data = .seq vs.toArray nl) (hp : PairsAt knd s.heap vs ps) (hn : (ps.map (·.1)).Nodup) (hz : ps.length ≤ 1000)
    (h : ∀ h' tk o', (∀ b o, s.heap.get? b = some o → h'.get? b = some o) → h'.get? s.heap.objs.size = some o' → o'.IsDictOf knd ps → Q (.ref s.heap.objs.size) { s with heap := h', toks := tk }) :
    wpAny (model prog w) A (call (.type "dict") [.ref l]) Q E s := by
  refine callType_codes (Q₁ := fun obj s₁ => obj = .ref s.heap.objs.size ∧ s₁ = { s with heap := s.heap.push { cls := .type "dict", data := .dict #[] } }) F.kt_called_dict (F.kt_typeCall_dict_1 _) F.entry_dict_init (kt_code_dict_new _ ⟨rfl, rfl⟩) ?_
  intro obj s₁ N_2
  refine ex0_2 N_2 ?_; intro E_3 E_4
  try clear N_2
  subst E_3
  subst E_4
  have hnew : (s.heap.push { cls := .type "dict", data := .dict #[] }).DictOf knd s.heap.objs.size [] := Heap.DictOf.new s.heap
  have hol' := Heap.get?_push_of_some (o := { cls := .type "dict", data := .dict #[] }) hol
  have hsz : s.heap.get? s.heap.objs.size = none := Heap.get?_none_of_le (Nat.le_refl _)
  refine ⟨hnew.typeIs, F.args_dict_init_2 _ _, ?_⟩
  unfold Builtin.«dict.__init__»
  refine wpAny_bind ?_
  unfold Builtin.Dict.selfAndRest
  refine wpAny_bind (wpAny_notOrdered_dict hnew.typeIs ?_)
  show wpAny _ _ (pure (s.heap.objs.size, [Value.ref l])) _ _ _
  refine wpAny_pure ?_
  show wpAny _ _ (Builtin.Dict.updateFrom "dict.__init__" s.heap.objs.size (.ref l) [] .none) _ _ _
  unfold Builtin.Dict.updateFrom
  refine wpAny_bind (wpAny_typeOf ⟨ol, hol', hc⟩ ?_)
  rw [if_pos (by decide)]
  refine wpAny_bind (list_no_keys hol' hc hdat hd hh fun h' tk hk => ?_)
  rw [if_pos (show (none : Option Value).isNone = true from rfl)]
  refine wpAny_bind (wpAny_rule ?_)
  have kk : ∀ b o, s.heap.get? b = some o → h'.get? b = some o := fun b o hb => hk b o (Heap.get?_push_of_some _ hb)
  have hl1 : h'.IsList l vs.toArray := ⟨ol, kk _ _ hol, hc, nl, hdat⟩
  have hnew' : h'.DictOf knd s.heap.objs.size [] := by
    refine ex3_2 hnew ?_; intro o es ep ho r
    try clear hnew
    exact ⟨o, es, ep, hk _ _ ho, r⟩
  have hSlt : @LT.lt Nat _ s.heap.objs.size h'.objs.size := by
    refine ex3_2 hnew' ?_; intro o es ep ho r
    try clear hnew'
    exact Heap.lt_size ho
  refine wpAny_bind (wpAny_pyIter_list (s := { s with heap := h', toks := tk }) hl1 ?_)
  refine wpAny_pure ⟨plainId_quiet plain_dict_loop _, ?_⟩
  refine dict_loop (s := s) (h0 := s.heap) (S := s.heap.objs.size) (I := h'.objs.size) (A := A.in1) hh hsz (Heap.get?_none_of_le (Nat.le_of_lt hSlt)) (Nat.ne_of_lt hSlt) ⟨ol, hol, hc, nl, hdat⟩ hp hn hz (fun h'' tk'' k2 hd2 => ?_) ps.length 0 _ _ _ _ (by simp) (Nat.zero_le _) (fun b o hb => Heap.get?_push_of_some _ (kk b o hb)) ⟨_, Heap.get?_push_size _ rfl, rfl, rfl⟩ (hnew'.push _)
  refine ex1_2 (Heap.dictOf_iff.mp hd2) ?_; intro o' ho' hd'
  exact ⟨rfl, h h'' tk'' o' k2 ho' hd'⟩
end
section
open LCg LCt
variable {prog : Program} {w : World} {K : Type} [DecidableEq K] {knd : KeyKind prog w K} {A : Around} {E : Value → Shared → Prop} {s : Shared} {G : Heap} {L : Addr} {m : Str → Option Value} {env : Env}
/- a list of pairs of the ledger -/
def PairsLed (knd : KeyKind prog w K) (led : List (Addr × Obj)) : List Value → List (K × Value) → Prop
  | [], [] => True
  | v :: vs, p :: ps => (∃ T key kk, v = .ref T ∧ (T, tupOf #[key, p.2] kk) ∈ led ∧ knd.is p.1 key = true) ∧ PairsLed knd led vs ps
  | _, _ => False
theorem PairsLed.sub {led led' : List (Addr × Obj)} (h : ∀ p ∈ led, p ∈ led') : ∀ {vs : List Value} {ps : List (K × Value)}, PairsLed knd led vs ps → PairsLed knd led' vs ps
  | [], [], _ => trivial
  | _ :: _, _ :: _, ⟨⟨T, key, kk, a, b, c⟩, r⟩ => ⟨⟨T, key, kk, a, h _ b, c⟩, PairsLed.sub h r⟩
  | [], _ :: _, x => x.elim
  | _ :: _, [], x => x.elim
theorem PairsLed.snoc {led : List (Addr × Obj)} {T : Addr} {key : Value} {kk : Nat} {p : K × Value} (hm : (T, tupOf #[key, p.2] kk) ∈ led) (hk : knd.is p.1 key = true) : ∀ {vs : List Value} {ps : List (K × Value)}, PairsLed knd led vs ps → PairsLed knd led (vs ++ [.ref T]) (ps ++ [p])
  | [], [], _ => ⟨⟨T, key, kk, rfl, hm, hk⟩, trivial⟩
  | _ :: _, _ :: _, ⟨a, x⟩ => ⟨a, PairsLed.snoc hm hk x⟩
  | [], _ :: _, x => x.elim
  | _ :: _, [], x => x.elim
theorem PairsLed.heap {G h : Heap} {L : Addr} {led : List (Addr × Obj)} (N : News G L h led) : ∀ {vs : List Value} {ps : List (K × Value)}, PairsLed knd led vs ps → PairsAt knd h vs ps
  | [], [], _ => trivial
  | _ :: _, _ :: _, ⟨⟨T, key, kk, a, b, c⟩, r⟩ => ⟨⟨T, key, a, ⟨_, (N _ b).1, rfl, _, rfl⟩, c⟩, PairsLed.heap N r⟩
  | [], _ :: _, x => x.elim
  | _ :: _, [], x => x.elim
theorem PairsLed.length {led : List (Addr × Obj)} : ∀ {vs : List Value} {ps : List (K × Value)}, PairsLed knd led vs ps → vs.length = ps.length
  | [], [], _ => rfl
  | _ :: _, _ :: _, ⟨_, r⟩ => congrArg (· + 1) r.length
  | [], _ :: _, x => x.elim
  | _ :: _, [], x => x.elim
/- where an element of a comprehension of pairs ends -/
def PairEnd (knd : KeyKind prog w K) (G : Heap) (L : Addr) (m : Str → Option Value) (s : Shared) (p : K × Value) (led : List (Addr × Obj)) (y : Value) (s₅ : Shared) : Prop :=
  ∃ T key kk h' tk', y = .ref T ∧ s₅ = { s with heap := h', toks := tk' } ∧ Fr G L h' m ∧ News G L h' ((T, tupOf #[key, p.2] kk) :: led) ∧ knd.is p.1 key = true ∧ ∀ q ∈ led, @LT.lt Nat _ q.1 T
def Still (G : Heap) (L : Addr) (m : Str → Option Value) (s : Shared) (led : List (Addr × Obj)) (s₅ : Shared) : Prop :=
  ∃ h' tk', s₅ = { s with heap := h', toks := tk' } ∧ Fr G L h' m ∧ News G L h' led
/- a comprehension of pairs, with a test, over the keys of a dict of the ledger -/
theorem comp_keys {ct elt iter : PySem.Expr} {x : Str} {px : Pos} {scope : Scope} {cl : List (Str × Addr)} {pos : Pos} {led : List (Addr × Obj)} {Q : Value → Shared → Prop} {d : Addr} {od : Obj} {kvs : List (K × Value)} (tst : K × Value → Bool)
    (_F₀ : Fr G L s.heap m) (hm : (d, od) ∈ led) (hd : od.IsDictOf knd kvs) (hsz : kvs.length ≤ sizeLine) (lo : (d == sysModules) = false) (hh : A.handled = none)
    (hclos : closureFor scope env = pure cl) (hcell : ∀ y ∈ scope.names, y.2 ≠ .cell) (hkind : scope.kind = .function)
    (hnames : ∀ y ∈ scope.names, y.2 = .local → scope.names.lookup y.1 = some .local) (hx : scope.names.lookup x = some .local)
    (h : wpAny (model prog w) A (eval iter env) (Mid fun v s₁ => v = .ref d ∧ Fr G L s₁.heap m ∧ News G L s₁.heap led ∧
      (∀ (k : K) (v0 key : Value), (k, v0) ∈ kvs → valueAt kvs k = some v0 → knd.is k key = true → ∀ I oI C oC D oD ext m₂ h tk (E' : Value → Shared → Prop), NsObj oC m₂ → m₂ x = some key → Fr G L h m → News G L h ((I, oI) :: (C, oC) :: (D, oD) :: (ext ++ led)) → Off3 I C D (ext ++ led) → ((@Ne Nat I C) ∧ (@Ne Nat I D) ∧ (@Ne Nat C D)) →
        wpAny (model prog w) A (isTrue ct (compEnvC scope cl C env) (eval ct (compEnvC scope cl C env))) (Mid fun ok s₄ => ok = tst (k, v0) ∧
          if tst (k, v0) = true then wpAny (model prog w) A (eval elt (compEnvC scope cl C env)) (PairEnd knd G L m s₁ (k, v0) ((I, oI) :: (C, oC) :: (D, oD) :: (ext ++ led))) E' s₄
          else Still G L m s₁ ((I, oI) :: (C, oC) :: (D, oD) :: (ext ++ led)) s₄) E' { s₁ with heap := h, toks := tk }) ∧
      ∀ D h tk ys ext, Fr G L h m → News G L h ((D, lst ys) :: (ext ++ led)) → Off1 D (ext ++ led) → PairsLed knd ext ys (kvs.filter tst) → (∀ p ∈ ext, ∀ q ∈ led, @LT.lt Nat _ q.1 p.1) → Q (.ref D) { s₁ with heap := h, toks := tk }) E s)
    (hs : ∀ x, foldedSetIterable iter env x = pure x := by intro _; rfl) :
    wpAny (model prog w) A (eval (.ListComp elt [⟨.Name x px, iter, [ct], 0⟩] scope pos) env) Q E s := by
  rw [eval_ListComp]
  refine wpAny_comprehension_free (use := none) rfl hs hclos hkind hnames (wpAny_mono h (fun xv s₁ h₁ => ?_) fun _ _ e => e)
  refine ex0_5 h₁ ?_; intro E_5 F N turn hQ
  try clear h₁
  subst E_5
  refine ex2_5 (id hd) ?_; intro es ep hE hdat hK hP hnd
  have hat : s₁.heap.DictAt knd d kvs ep := ⟨od, es, (N _ hm).1, hE, hdat, hK, hP, hnd⟩
  have hlt : d < s₁.heap.objs.size := Heap.lt_size (N _ hm).1
  refine wpAny_pyIter_dict lo hat ?_
  have up : ∀ b o, s₁.heap.get? b = some o → (s₁.heap.push { cls := .type "dict_keyiterator", data := .fields #[.ref d, .int 0 0, .int kvs.length 0, .int ep 0] }).get? b = some o := fun b o e => Heap.get?_push_of_some _ e
  have key : ∀ g : Heap, ∀ r i ys ext, i + r = kvs.length → PairsLed knd ext ys ((kvs.take i).filter tst) → (∀ p ∈ ext, ∀ q ∈ led, @LT.lt Nat _ q.1 p.1) →
      CompRestT prog w A G L m env ct elt x scope cl { s₁ with heap := g } (fun nw => (d, od) ∈ nw) (fun i v => ∃ k x, kvs[i]? = some (k, x) ∧ knd.is k v = true) (FinE G L m { s₁ with heap := g } Q) r i ys (ext ++ led) := by
    intro g r
    induction r with
    | zero =>
      intro i ys ext e hy hl
      refine CompRestT.zero fun D h tk F' N' o => ?_
      rw [List.take_of_length_le (by omega)] at hy
      exact hQ D h tk ys ext F' N' o hy hl
    | succ r ih =>
      intro i ys ext e hy hl
      refine CompRestT.succ fun v I oI C oC D m₂ h tk E' hv hC ha F' N' off ne => ?_
      refine ex2_2 hv ?_; intro k v0 hkv hkey
      try clear hv
      have hi : i < kvs.length := by omega
      have hat' : (kvs.take (i + 1)).filter tst = (kvs.take i).filter tst ++ (if tst (k, v0) = true then [(k, v0)] else []) := by
        rw [List.take_add_one, hkv, List.filter_append]
        congr 1
        by_cases c : tst (k, v0) = true <;> simp [c]
      have hval : valueAt kvs k = some v0 := by
        unfold valueAt
        have hmem := List.mem_of_getElem? hkv
        cases hf : kvs.find? (fun kv => decide (kv.1 = k)) with
        | none =>
          have := List.find?_eq_none.mp hf _ hmem
          simp at this
        | some q =>
          have h1 := List.find?_some hf
          have h2 := List.mem_of_find?_eq_some hf
          have h3 : q.1 = k := by simpa using h1
          obtain ⟨a, ha', hq⟩ := (List.getElem_of_mem h2)
          obtain ⟨b, hb', hp⟩ := (List.getElem_of_mem hmem)
          have : a = b := by
            rcases Nat.lt_trichotomy a b with c | c | c
            · have := (List.pairwise_iff_getElem.mp hnd) a b (by rw [List.length_map]; exact ha') (by rw [List.length_map]; exact hb') c
              rw [List.getElem_map, List.getElem_map, hq, hp] at this
              exact absurd h3 this
            · exact c
            · have := (List.pairwise_iff_getElem.mp hnd) b a (by rw [List.length_map]; exact hb') (by rw [List.length_map]; exact ha') c
              rw [List.getElem_map, List.getElem_map, hq, hp] at this
              exact absurd h3.symm this
          subst this
          rw [hq] at hp
          rw [hp]
          rfl
      refine wpAny_mono (turn k v0 v (List.mem_of_getElem? hkv) hval hkey I oI C oC D (lst ys) ext m₂ h tk E' hC ha F' N' off ne) (fun ok s₄ h₄ => ?_) fun _ _ e => e
      revert h₄
      intro O_6
      refine ex0_2 O_6 ?_; intro E_7 h₄
      try clear O_6
      subst E_7
      by_cases c : tst (k, v0) = true
      · rw [if_pos c] at h₄ hat' ⊢
        refine wpAny_mono h₄ (fun y s₅ h₅ => ?_) fun _ _ e => e
        refine ex5_6 h₅ ?_; intro T key' kk h' tk' E_8 E_9 F5 N5 hk5 l5
        try clear h₅
        subst E_8
        subst E_9
        refine CompEnd.intro F5 N5 (((T, tupOf #[key', v0] kk) :: ext) ++ led) ?_ ?_ (List.mem_append_right _ hm) ?_
        · k_offL
        · exact ⟨⟨Nat.ne_of_gt (l5 (I, oI) (.head _)), Nat.ne_of_gt (l5 (C, oC) (.tail _ (.head _))), Nat.ne_of_gt (l5 (D, lst ys) (.tail _ (.tail _ (.head _))))⟩, off⟩
        · refine ih (i + 1) _ _ (by omega) ?_ ?_
          · rw [hat']
            exact PairsLed.snoc (p := (k, v0)) (.head _) hk5 (hy.sub fun p hp => .tail _ hp)
          · intro p hp q hq
            refine mcons hp ?_ fun hp => ?_
            · exact l5 q (.tail _ (.tail _ (.tail _ (List.mem_append_right _ hq))))
            · exact hl p hp q hq
      · rw [if_neg c] at h₄ hat' ⊢
        refine ex2_3 h₄ ?_; intro h' tk' E_10 F5 N5
        try clear h₄
        subst E_10
        refine CompEnd.intro F5 N5 (ext ++ led) (fun _ h => h) off (List.mem_append_right _ hm) ?_
        refine ih (i + 1) _ _ (by omega) ?_ hl
        rw [hat', List.append_nil]
        exact hy
  refine block_T (Walks.dictKeys hh s₁.heap.objs.size d (Nat.ne_of_lt hlt) kvs ep) hsz (fun i h st => by obtain ⟨o, e, _⟩ := st.1; exact ⟨o, e⟩) (S := fun nw => (d, od) ∈ nw) ?_ hcell hkind hx ⟨⟨_, Heap.get?_push_size _ rfl, rfl, rfl⟩, hat.push _⟩ (fun b hb => ?_)
    (F.keeps up) (N.grown up) (Nat.ne_of_lt F.ns.lt) (next_is_new F) (fun p hp => Nat.ne_of_lt (Heap.lt_size (N p hp).1)) hm (key _ kvs.length 0 [] [] (by omega) trivial (by simp)) ?_
  · intro i h h' o nw st e e' kp N' S
    exact ⟨by obtain ⟨o', q, r⟩ := st.1; rw [e] at q; cases q; exact ⟨o, e', r⟩, ⟨od, es, (N' _ S).1, hE, hdat, hK, hP, hnd⟩⟩
  · show b < (s₁.heap.push _).objs.size
    rw [Heap.size_push]
    refine mcons hb ?_ fun hb => ?_
    · exact Nat.lt_succ_self _
    · rw [List.mem_singleton.mp hb]; exact Nat.lt_succ_of_lt hlt
  · intro D C h tk m' ys news' F' N' o1 hn hC₀ hD₀ hCL hDL hCD offC fin
    refine ⟨m', hn, fun h'' hs'' => fin D h'' tk (F'.change hs'' hCL hC₀) (fun p hp => ?_) o1⟩
    refine ⟨hs''.extBut _ _ ?_ (N' p hp).1, (N' p hp).2⟩
    refine mcons hp ?_ fun hp => ?_
    · exact Ne.symm hCD
    · exact offC p hp
theorem call_dict_led {p : Program} {loose : List Str} {mean : ExcName → Option Value} {mg mb : Str → Option Value} {l : Addr} {nl : Nat} {vs : List Value} {ps : List (K × Value)} {led : List (Addr × Obj)} {Q : Value → Shared → Prop} (hh : A.handled = none) (T : Top p loose mean mg mb G)
    (F : Fr G L s.heap m) (N : News G L s.heap led) (hl : (l, listOf vs.toArray nl) ∈ led) (hp : PairsLed knd led vs ps) (hn : (ps.map (·.1)).Nodup) (hz : ps.length ≤ 1000)
    (h : ∀ h' tk d o', Fr G L h' m → News G L h' ((d, o') :: led) → (∀ q ∈ led, @LT.lt Nat _ q.1 d) → (d == sysModules) = false → o'.IsDictOf knd ps → Q (.ref d) { s with heap := h', toks := tk }) :
    wpAny (model prog w) A (call (.type "dict") [.ref l]) Q E s := by
  refine call_dict_pairs hh (N _ hl).1 rfl rfl rfl (hp.heap N) hn hz fun h' tk o' keep ho' hd' => ?_
  have hL : @LT.lt Nat _ L s.heap.objs.size := F.ns.lt
  refine h h' tk _ o' ⟨F.ns.at' fun o e => keep _ _ e, fun b o e => keep _ _ (F.keep b o e), F.above⟩ ?_ (fun q hq => Heap.lt_size (N q hq).1) (F.notModules (modules_low (Top.nolimit T))) hd'
  intro q hq
  refine mcons hq ?_ fun hq => ?_
  · exact ⟨ho', Nat.ne_of_gt hL, Heap.get?_none_of_le (Nat.le_trans F.above (Nat.le_of_lt hL))⟩
  · exact ⟨keep _ _ (N q hq).1, (N q hq).2⟩
end

def dO : Addr × Obj := (0, ⟨.none, none, .plain, #[]⟩)
def pick (es : List (Addr × Obj)) (I : List Nat) : List (Addr × Obj) := I.map fun i => es.getD i dO
theorem pick_mem {es : List (Addr × Obj)} {I : List Nat} {n : Nat} (hn : es.length = n) (hI : ∀ i ∈ I, i < n) : ∀ p ∈ pick es I, p ∈ es := by
  intro p hp
  refine ex1_2 (List.mem_map.mp hp) ?_; intro i hi E_1
  subst E_1
  rw [List.getD_eq_getElem?_getD, List.getElem?_eq_getElem (hn ▸ hI i hi)]
  exact List.getElem_mem _
theorem pick_all {es : List (Addr × Obj)} {I : List Nat} {n : Nat} (hn : es.length = n) (hI : ∀ i, i < n → i ∈ I) : ∀ p ∈ es, p ∈ pick es I := by
  intro p hp
  obtain ⟨i, hi, E_2⟩ := (List.getElem_of_mem hp)
  subst E_2
  refine List.mem_map.mpr ⟨i, hI i (hn ▸ hi), ?_⟩
  rw [List.getD_eq_getElem?_getD, List.getElem?_eq_getElem hi]
  rfl
section
variable {G h : Heap} {L : Addr} {core rest ext AE BE tgt : List (Addr × Obj)}
theorem news_out (N : News G L h (core ++ rest)) (A B : List Nat) (n : Nat) (hn : core.length = n) (hA : ∀ i ∈ A, i < n) (hB : ∀ i ∈ B, i < n) : News G L h (pick core A ++ (pick core B ++ rest)) :=
  news_sub N fun p hp => by
    rcases List.mem_append.mp hp with hp | hp
    · exact List.mem_append_left _ (pick_mem hn hA p hp)
    · rcases List.mem_append.mp hp with hp | hp
      · exact List.mem_append_left _ (pick_mem hn hB p hp)
      · exact List.mem_append_right _ hp
theorem news_in (N : News G L h (AE ++ (ext ++ (BE ++ rest)))) (I : List Nat) (n : Nat) (hn : (AE ++ BE).length = n) (hI : ∀ i ∈ I, i < n) (ht : tgt = pick (AE ++ BE) I) : News G L h (tgt ++ (ext ++ rest)) :=
  news_sub N fun p hp => by
    rw [ht] at hp
    rcases List.mem_append.mp hp with hp | hp
    · rcases List.mem_append.mp (pick_mem hn hI p hp) with hp | hp
      · exact List.mem_append_left _ hp
      · exact List.mem_append_right _ (List.mem_append_right _ (List.mem_append_left _ hp))
    · rcases List.mem_append.mp hp with hp | hp
      · exact List.mem_append_right _ (List.mem_append_left _ hp)
      · exact List.mem_append_right _ (List.mem_append_right _ (List.mem_append_right _ hp))
theorem pick_at (hn : core.length = n) (hi : i < n) : ((core.getD i dO).1 : Nat) = ((core.map fun p => (p.1 : Nat)).getD i 0) := by
  subst hn
  rw [List.getD_eq_getElem?_getD, List.getD_eq_getElem?_getD, List.getElem?_eq_getElem hi, List.getElem?_map, List.getElem?_eq_getElem hi]
  rfl
def adrs (core : List (Addr × Obj)) : List Nat := core.map fun p => p.1
theorem adrs_inj (nd : (adrs core).Nodup) {n : Nat} (hn : core.length = n) {i j : Nat} (hi : i < n) (hj : j < n) (e : (core.getD i dO).1 = (core.getD j dO).1) : i = j := by
  subst hn
  have ei : (core.getD i dO) = core[i] := by rw [List.getD_eq_getElem?_getD, List.getElem?_eq_getElem hi]; rfl
  have ej : (core.getD j dO) = core[j] := by rw [List.getD_eq_getElem?_getD, List.getElem?_eq_getElem hj]; rfl
  rw [ei, ej] at e
  have hi' : i < (adrs core).length := by unfold adrs; rw [List.length_map]; exact hi
  have hj' : j < (adrs core).length := by unfold adrs; rw [List.length_map]; exact hj
  rcases Nat.lt_trichotomy i j with c | c | c
  · have := (List.pairwise_iff_getElem.mp nd) i j hi' hj' c
    simp only [adrs, List.getElem_map] at this
    exact absurd e this
  · exact c
  · have := (List.pairwise_iff_getElem.mp nd) j i hj' hi' c
    simp only [adrs, List.getElem_map] at this
    exact absurd e.symm this
theorem nd_pick (nd : (adrs core).Nodup) (A : List Nat) (n : Nat) (hn : core.length = n) (hA : A.Nodup) (hA' : ∀ i ∈ A, i < n) : (adrs (pick core A)).Nodup := by
  unfold adrs pick
  rw [List.map_map]
  induction A with
  | nil => exact List.nodup_nil
  | cons a A ih =>
    rw [List.map_cons, List.nodup_cons]
    rw [List.nodup_cons] at hA
    refine ⟨fun hc => ?_, ih hA.2 fun i hi => hA' i (.tail _ hi)⟩
    refine ex1_2 (List.mem_map.mp hc) ?_; intro j hj e
    have := adrs_inj nd hn (hA' j (.tail _ hj)) (hA' a (.head _)) e
    exact hA.1 (this ▸ hj)
theorem off_pick (nd : (adrs core).Nodup) (off : ∀ p ∈ rest, ¬ p.1 ∈ adrs core) (A B : List Nat) (n : Nat) (hn : core.length = n) (hA : ∀ i ∈ A, i < n) (hB : ∀ i ∈ B, i < n ∧ i ∉ A) :
    ∀ p ∈ pick core B ++ rest, ¬ p.1 ∈ adrs (pick core A) := by
  intro p hp hc
  refine ex1_2 (List.mem_map.mp hc) ?_; intro q hq e
  refine ex1_2 (List.mem_map.mp hq) ?_; intro i hi E_3
  subst E_3
  rcases List.mem_append.mp hp with hp | hp
  · refine ex1_2 (List.mem_map.mp hp) ?_; intro j hj E_4
    subst E_4
    have := adrs_inj nd hn (hA i hi) (hB j hj).1 e
    exact (hB j hj).2 (this ▸ hi)
  · exact off p hp (List.mem_map.mpr ⟨_, pick_mem hn hA _ hq, e⟩)
theorem off_ext (off : ∀ p ∈ rest, ¬ p.1 ∈ adrs core) (A B : List Nat) (n : Nat) (hn : core.length = n) (hI : ∀ i, i < n → i ∈ A ++ B) (l : ∀ p ∈ ext, ∀ q ∈ pick core A ++ (pick core B ++ rest), @LT.lt Nat _ q.1 p.1) :
    ∀ p ∈ ext ++ rest, ¬ p.1 ∈ adrs core := by
  intro p hp hc
  rcases List.mem_append.mp hp with hp | hp
  · refine ex1_2 (List.mem_map.mp hc) ?_; intro q hq e
    have hm := pick_all hn hI q hq
    unfold pick at hm
    rw [List.map_append] at hm
    refine absurd e (Nat.ne_of_lt (l p hp q ?_))
    rcases List.mem_append.mp hm with h | h
    · exact List.mem_append_left _ h
    · exact List.mem_append_right _ (List.mem_append_left _ h)
  · exact off p hp hc
end
/- what belongs to one channel, on both sides -/
structure ChD where
  c : Int
  size : Int
  ts : Tok
  nm : Str
  opn : Bool
  am : Addr
  om : Obj
  kvm : List (Str × Value)
  bl : List Nat
  r : Int
  blA : Addr
  vsb : List Value
  nb : Nat
  rl : Addr
  rvs : List Value
  nr : Nat
  rs : List (List Nat)
  tf : Tok
/- the state of the ledger between two turns -/
structure LD where
  feed : Addr
  cells : Addr
  aw : Addr
  awd : Addr
  afi : Addr
  aop : Addr
  afl : Addr
  tw : Addr
  pl : Addr
  sz : Addr
  bu : Addr
  rc : Addr
  c1 : Addr
  c2 : Addr
  c3 : Addr
  turn : Int
  tt : Tok
  nF : Nat
  nC : Nat
  vs : List Value
  ofi : Obj
  oo : Obj
  ofl : Obj
  otw : Obj
  opl : Obj
  osz : Obj
  obu : Obj
  orc : Obj
  o1 : Obj
  o2 : Obj
  o3 : Obj
  kvfi : List (Str × Value)
  kvf : List (Str × Value)
  kvp : List (Str × Value)
  kvt : List (Str × Value)
  kvo : List (Int × Value)
  kvs : List (Int × Value)
  kvb : List (Int × Value)
  kvr : List (Int × Value)
  fl : List (Str × Fld)
  x : ChD
  y : ChD
  ps2 : Array Value
  ps7 : Array Value
  ps4 : Array Value
  rest : List (Addr × Obj)
theorem neChD : Nonempty ChD := ⟨by constructor <;> exact default⟩
theorem neLD : Nonempty LD := neChD.elim fun z => ⟨by constructor <;> first | exact z | exact default⟩
/- feed 0, cells 1, files 2, open 3, fields 4, the channels 5 6, twin 7, places 8, buffers 9, the buffers' lists 10 11, the records' lists 12 13, cells 14 15 16, tables 17 18 19 -/
def LD.core (d : LD) : List (Addr × Obj) :=
  [(d.feed, listOf #[.ref d.cells, .int d.turn d.tt] d.nF), (d.cells, listOf d.vs.toArray d.nC), (d.afi, d.ofi), (d.aop, d.oo), (d.afl, d.ofl), (d.x.am, d.x.om), (d.y.am, d.y.om), (d.tw, d.otw), (d.pl, d.opl), (d.bu, d.obu),
   (d.x.blA, listOf d.x.vsb.toArray d.x.nb), (d.y.blA, listOf d.y.vsb.toArray d.y.nb), (d.x.rl, listOf d.x.rvs.toArray d.x.nr), (d.y.rl, listOf d.y.rvs.toArray d.y.nr), (d.c1, d.o1), (d.c2, d.o2), (d.c3, d.o3),
   ((162 : Addr), tabObj d.ps2), ((167 : Addr), tabObj d.ps7), ((174 : Addr), tabObj d.ps4)]
def LD.led (d : LD) : List (Addr × Obj) := d.core ++ d.rest
structure ChD.Ok (w : World) (rest : List (Addr × Obj)) (kvo kvs kvb kvr : List (Int × Value)) (kvfi : List (Str × Value)) (z : ChD) : Prop where
  sc : (z.c = 1 ∧ z.size = 4 ∧ z.nm = Str.ofString "ONE") ∨ (z.c = 2 ∧ z.size = 6 ∧ z.nm = Str.ofString "TWO")
  vs : valueAt kvs z.c = some (.int z.size z.ts)
  vr : valueAt kvr z.c = some (.ref z.rl)
  vf : valueAt kvfi z.nm = some (.str (TS z.rs.flatten) z.tf)
  R : RecsIn rest z.rvs z.rs
  zr : ∀ r ∈ z.rs, r.length = z.size.toNat
  zr3 : z.rs.length ≤ 3
  zc : ∀ c ∈ z.rs.flatten, c < 128
  shut : z.opn = false → valueAt kvo z.c = none ∧ valueAt kvb z.c = none
  vo : z.opn = true → valueAt kvo z.c = some (.ref z.am)
  vb : z.opn = true → valueAt kvb z.c = some (.ref z.blA)
  dm : z.om.IsDictOf (PySem.strKind PySem.Challenge.rw_pq0169_01.row.prog w) z.kvm
  M : MadeIs z.kvm z.nm z.size z.bl z.r
  S : SignsAre z.vsb z.bl
  zb : z.bl.length = z.size.toNat
  zbc : ∀ c ∈ z.bl, c < 128
theorem ChD.Ok.sub {w : World} {rest rest' : List (Addr × Obj)} {kvo kvs kvb kvr : List (Int × Value)} {kvfi : List (Str × Value)} {z : ChD} (K : ChD.Ok w rest kvo kvs kvb kvr kvfi z) (h : ∀ p ∈ rest, p ∈ rest') : ChD.Ok w rest' kvo kvs kvb kvr kvfi z :=
  { K with R := K.R.sub h }
theorem ChD.Ok.sz {w : World} {rest : List (Addr × Obj)} {kvo kvs kvb kvr : List (Int × Value)} {kvfi : List (Str × Value)} {z : ChD} (K : ChD.Ok w rest kvo kvs kvb kvr kvfi z) : z.size = 4 ∨ z.size = 6 := by
  rcases K.sc with h | h
  · exact .inl h.2.1
  · exact .inr h.2.1
def LD.In (d : LD) (p : Str × Fld) : Prop :=
  ((p.2.1 = d.x.c ∧ d.x.opn = true ∧ p.2.2.1 + p.2.2.2 ≤ d.x.size) ∨ (p.2.1 = d.y.c ∧ d.y.opn = true ∧ p.2.2.1 + p.2.2.2 ≤ d.y.size)) ∧ 0 ≤ p.2.2.1 ∧ 0 ≤ p.2.2.2 ∧ p.2.2.2 ≤ 3
structure LD.Ok (w : World) (d : LD) : Prop where
  nd : (adrs d.core).Nodup
  off : ∀ p ∈ d.rest, ¬ p.1 ∈ adrs d.core
  W : WorldAt d.rest d.aw d.awd d.afi d.aop d.afl
  lo1 : (d.afi == sysModules) = false
  lo2 : (d.aop == sysModules) = false
  lo3 : (d.afl == sysModules) = false
  lo4 : (d.pl == sysModules) = false
  lo5 : (d.bu == sysModules) = false
  dfi : d.ofi.IsDictOf (PySem.strKind PySem.Challenge.rw_pq0169_01.row.prog w) d.kvfi
  doo : d.oo.IsDictOf (PySem.intKind PySem.Challenge.rw_pq0169_01.row.prog w) d.kvo
  dfl : d.ofl.IsDictOf (PySem.strKind PySem.Challenge.rw_pq0169_01.row.prog w) d.kvf
  dtw : d.otw.IsDictOf (PySem.strKind PySem.Challenge.rw_pq0169_01.row.prog w) d.kvt
  dpl : d.opl.IsDictOf (PySem.strKind PySem.Challenge.rw_pq0169_01.row.prog w) d.kvp
  dsz : d.osz.IsDictOf (PySem.intKind PySem.Challenge.rw_pq0169_01.row.prog w) d.kvs
  dbu : d.obu.IsDictOf (PySem.intKind PySem.Challenge.rw_pq0169_01.row.prog w) d.kvb
  drc : d.orc.IsDictOf (PySem.intKind PySem.Challenge.rw_pq0169_01.row.prog w) d.kvr
  zfi : d.kvfi.length ≤ 10
  zo : d.kvo.length ≤ 10
  zt : d.kvt.length ≤ 10
  zb : d.kvb.length ≤ 10
  vt1 : valueAt d.kvt (Str.ofString "places") = some (.ref d.pl)
  vt2 : valueAt d.kvt (Str.ofString "sizes") = some (.ref d.sz)
  vt3 : valueAt d.kvt (Str.ofString "buffers") = some (.ref d.bu)
  vt4 : valueAt d.kvt (Str.ofString "records") = some (.ref d.rc)
  ms : (d.sz, d.osz) ∈ d.rest
  mr : (d.rc, d.orc) ∈ d.rest
  f5 : FieldsAt d.rest d.kvf d.fl
  f6 : PlacesAt d.rest d.kvp d.fl
  t2 : TabOk d.rest "_law_told.<locals>.<lambda>" d.ps2
  t7 : TabOk d.rest "_law_set.<locals>.<lambda>" d.ps7
  t4 : TabOk d.rest "_law_moved.<locals>.<lambda>" d.ps4
  xo : ChD.Ok w d.rest d.kvo d.kvs d.kvb d.kvr d.kvfi d.x
  yo : ChD.Ok w d.rest d.kvo d.kvs d.kvb d.kvr d.kvfi d.y
  xy : (d.x.c = 1 ∧ d.y.c = 2) ∨ (d.x.c = 2 ∧ d.y.c = 1)
  fnd : (d.fl.map (·.1)).Nodup
  fnm : ∀ p ∈ d.fl, IsName p.1
  fb : ∀ p ∈ d.fl, d.In p
  t0 : 0 ≤ d.turn
  q1 : d.o1.data = .cell (some (.ref d.tw))
  q2 : ∃ v, d.o2.data = .cell v
  q3 : ∃ v, d.o3.data = .cell v
def LD.Same (d d' : LD) : Prop := d'.feed = d.feed ∧ d'.cells = d.cells ∧ d'.aw = d.aw ∧ d'.tw = d.tw ∧ d'.c1 = d.c1 ∧ d'.c2 = d.c2 ∧ d'.c3 = d.c3 ∧ d'.vs = d.vs
def LD.swap (d : LD) : LD := { d with x := d.y, y := d.x }
theorem LD.z5 {w : World} {d : LD} (K : d.Ok w) : d.fl.length ≤ 5 := names_bound K.fnd K.fnm
theorem LD.swap_core (d : LD) : d.swap.core = pick d.core [0, 1, 2, 3, 4, 6, 5, 7, 8, 9, 11, 10, 13, 12, 14, 15, 16, 17, 18, 19] := rfl
theorem LD.swap_adr {d : LD} {a : Nat} (h : a ∈ adrs d.swap.core) : a ∈ adrs d.core := by
  refine ex1_2 (List.mem_map.mp h) ?_; intro q hq e
  rw [LD.swap_core] at hq
  exact List.mem_map.mpr ⟨q, pick_mem (n := 20) rfl (by decide) q hq, e⟩
theorem LD.Ok.swap {w : World} {d : LD} (K : d.Ok w) : d.swap.Ok w :=
  { K with
    nd := by rw [LD.swap_core]; exact nd_pick K.nd _ 20 rfl (by decide) (by decide)
    off := fun p hp h => K.off p hp (LD.swap_adr h)
    xo := K.yo
    yo := K.xo
    xy := K.xy.symm.imp (fun h => ⟨h.2, h.1⟩) (fun h => ⟨h.2, h.1⟩)
    fb := fun p hp => ⟨(K.fb p hp).1.symm, (K.fb p hp).2⟩ }
theorem LD.swap_news {d : LD} {G h : Heap} {L : Addr} (N : News G L h d.led) : News G L h d.swap.led :=
  news_sub N fun p hp => by
    unfold LD.led at hp ⊢
    rcases List.mem_append.mp hp with hp | hp
    · rw [LD.swap_core] at hp
      exact List.mem_append_left _ (pick_mem (n := 20) rfl (by decide) p hp)
    · exact List.mem_append_right _ hp
/- bystanders of the ledger -/
def Apart (spec led : List (Addr × Obj)) : Prop := ∀ p ∈ spec, ∀ q ∈ led, @Ne Nat p.1 q.1
section
variable {G h : Heap} {L : Addr} {core core' spec rest ext : List (Addr × Obj)}
theorem spec_out (N : News G L h (spec ++ (core ++ rest))) : News G L h (core ++ (spec ++ rest)) := news_sub N fun p hp => by
  simp only [List.mem_append] at hp ⊢
  rcases hp with h | h | h <;> simp [h]
theorem spec_in (N : News G L h (core ++ (ext ++ (spec ++ rest)))) : News G L h (spec ++ (core ++ (ext ++ rest))) := news_sub N fun p hp => by
  simp only [List.mem_append] at hp ⊢
  rcases hp with h | h | h | h <;> simp [h]
theorem mem_spec {p : Addr × Obj} (hp : p ∈ ext ++ rest) : p ∈ ext ++ (spec ++ rest) := (List.mem_append.mp hp).elim (List.mem_append_left _) fun h => List.mem_append_right _ (List.mem_append_right _ h)
theorem off_spec (ap : Apart spec (core ++ rest)) (off : ∀ p ∈ rest, ¬ p.1 ∈ adrs core) : ∀ p ∈ spec ++ rest, ¬ p.1 ∈ adrs core := by
  intro p hp
  rcases List.mem_append.mp hp with hp | hp
  · intro hc
    refine ex1_2 (List.mem_map.mp hc) ?_; intro q hq e
    exact ap p hp q (List.mem_append_left _ hq) e.symm
  · exact off p hp
theorem apart_in (ap : Apart spec (core ++ rest)) (hc : adrs core' = adrs core) (l : ∀ p ∈ ext, ∀ q ∈ spec, @LT.lt Nat _ q.1 p.1) : Apart spec (core' ++ (ext ++ rest)) := by
  intro p hp q hq
  rcases List.mem_append.mp hq with hq | hq
  · have : q.1 ∈ adrs core := by rw [← hc]; exact List.mem_map.mpr ⟨q, hq, rfl⟩
    refine ex1_2 (List.mem_map.mp this) ?_; intro q' hq' e
    exact fun e' => ap p hp q' (List.mem_append_left _ hq') (e'.trans e.symm)
  · rcases List.mem_append.mp hq with hq | hq
    · exact Nat.ne_of_lt (l q hq p hp)
    · exact ap p hp q (List.mem_append_right _ hq)
end
theorem LD.swap_led {d : LD} {p : Addr × Obj} (hp : p ∈ d.swap.led) : p ∈ d.led := by
  unfold LD.led at hp ⊢
  rcases List.mem_append.mp hp with hp | hp
  · rw [LD.swap_core] at hp
    exact List.mem_append_left _ (pick_mem (n := 20) rfl (by decide) p hp)
  · exact List.mem_append_right _ hp
theorem LD.swap_apart {d : LD} {spec : List (Addr × Obj)} (ap : Apart spec d.led) : Apart spec d.swap.led := fun p hp q hq => ap p hp q (LD.swap_led hq)
theorem spec_swap {d : LD} {G h : Heap} {L : Addr} {spec : List (Addr × Obj)} (N : News G L h (spec ++ d.led)) : News G L h (spec ++ d.swap.led) := news_sub N fun p hp => (List.mem_append.mp hp).elim (List.mem_append_left _) fun h => List.mem_append_right _ (LD.swap_led h)

theorem mem_pick {es : List (Addr × Obj)} {I : List Nat} {q : Addr × Obj} (i : Nat) (hi : i ∈ I) (e : es.getD i dO = q) : q ∈ pick es I := List.mem_map.mpr ⟨i, hi, e⟩
section
variable {w : World} {G : Heap} {L : Addr} {m : Str → Option Value} {p : Program} {loose : List Str} {mean : ExcName → Option Value} {mg mb : Str → Option Value}
  {E : Value → Shared → Prop} {s : Shared} {A : Around}
theorem told_step {env₀ : Env} {d : LD} {spec : List (Addr × Obj)} {ns : List Int} {tc : Tok} {Q : Value → Shared → Prop}
  (hA : A.frames = some [env₀]) (hf₀ : env₀.frame = some L) (hk₀ : env₀.scope.kind ≠ .module)
  (hh : A.handled = none) (hdp : A.depth ≤ 500) (hu : A.units ≤ 500)
  (F : Fr G L s.heap m) (T : Top p loose mean mg mb G) (X : (hd.heap_1 w.params).In G) (C : CodeHd G 164 162)
  (N : News G L s.heap (spec ++ d.led)) (ap : Apart spec d.led) (K : d.Ok w) (hi : IntsAre d.vs ns) (hvl : d.vs.length ≤ 100) (h1 : d.turn ≤ 9000)
  (h : ∀ h' tk d', Fr G L h' m → News G L h' (spec ++ d'.led) → Apart spec d'.led → d'.Ok w → d.Same d' → d.turn ≤ d'.turn → d'.turn ≤ d.turn + 10 → Q (.bool true) { s with heap := h', toks := tk }) :
  wpAny (model PySem.Challenge.rw_pq0169_01.row.prog w) A (call (.ref 165) [.ref d.feed, .ref d.aw, .ref d.tw, .int d.x.c tc] []) Q E s := by
  have offR := off_spec ap K.off
  have N1 := news_out (core := d.core) (rest := spec ++ d.rest) (spec_out N) [0, 1, 4, 8, 17] [2, 3, 5, 6, 7, 9, 10, 11, 12, 13, 14, 15, 16, 18, 19] 20 rfl (by decide) (by decide)
  have sub : ∀ q ∈ d.rest, q ∈ pick d.core [2, 3, 5, 6, 7, 9, 10, 11, 12, 13, 14, 15, 16, 18, 19] ++ (spec ++ d.rest) := fun q hq => List.mem_append_right _ (List.mem_append_right _ hq)
  refine lawtold (stt := d.rest) (rest := pick d.core [2, 3, 5, 6, 7, 9, 10, 11, 12, 13, 14, 15, 16, 18, 19] ++ (spec ++ d.rest)) hA hf₀ hk₀ hh hdp hu F T X C N1
    (nd_pick K.nd [0, 1, 4, 8, 17] 20 rfl (by decide) (by decide)) (off_pick K.nd offR [0, 4, 8, 17] [2, 3, 5, 6, 7, 9, 10, 11, 12, 13, 14, 15, 16, 18, 19] 20 rfl (by decide) (by decide)) sub hi hvl K.t0 h1
    (K.W.sub sub) (List.mem_append_left _ (mem_pick 3 (by decide) rfl)) K.doo K.lo2 K.lo3 K.lo4 (List.mem_append_left _ (mem_pick 7 (by decide) rfl)) K.dtw K.vt1 K.vt2 K.vt3
    (sub _ K.ms) K.dsz K.xo.vs (List.mem_append_left _ (mem_pick 9 (by decide) rfl)) K.dbu K.lo5 K.dfl K.f5 K.dpl K.f6 (LD.z5 K) K.t2 ?_ ?_
  · cases ho : d.x.opn with
    | false => exact .inl (K.xo.shut ho)
    | true => exact .inr ⟨d.x.am, d.x.om, d.x.kvm, d.x.nm, d.x.bl, d.x.r, .ref d.x.blA, K.xo.vo ho, List.mem_append_left _ (mem_pick 5 (by decide) rfl), K.xo.dm, K.xo.M, K.xo.vb ho⟩
  · intro h' tk turn' tt' ofl' opl' kvf' kvp' ps' ext fl' F' N' t1 t2 dl' f5' dp' f6' tab' l' hfl
    have sube : ∀ q ∈ d.rest, q ∈ ext ++ d.rest := fun q hq => List.mem_append_right _ hq
    refine h h' tk { d with turn := turn', tt := tt', ofl := ofl', opl := opl', kvf := kvf', kvp := kvp', ps2 := ps', fl := fl', rest := ext ++ d.rest } F' ?_ (apart_in (core := d.core) ap rfl fun p hp q hq => l' p hp q (show q ∈ pick d.core [0, 1, 4, 8, 17] ++ (pick d.core [2, 3, 5, 6, 7, 9, 10, 11, 12, 13, 14, 15, 16, 18, 19] ++ (spec ++ d.rest)) from List.mem_append_right _ (List.mem_append_right _ (List.mem_append_left _ hq)))) ?_ ⟨rfl, rfl, rfl, rfl, rfl, rfl, rfl, rfl⟩ t1 t2
    · exact spec_in (news_in (AE := [(d.feed, listOf #[.ref d.cells, .int turn' tt'] d.nF), (d.cells, listOf d.vs.toArray d.nC), (d.afl, ofl'), (d.pl, opl'), ((162 : Addr), tabObj ps')]) (BE := pick d.core [2, 3, 5, 6, 7, 9, 10, 11, 12, 13, 14, 15, 16, 18, 19]) (ext := ext) (rest := spec ++ d.rest) N' [0, 1, 5, 6, 2, 7, 8, 9, 3, 10, 11, 12, 13, 14, 15, 16, 17, 4, 18, 19] 20 rfl (by decide) rfl)
    · have hf : (fl'.map (·.1)).Nodup ∧ (∀ p ∈ fl', IsName p.1) ∧ ∀ p ∈ fl', d.In p := by
        rcases hfl with rfl | ⟨hv, ds, rfl, hds, hsum⟩
        · exact ⟨K.fnd, K.fnm, K.fb⟩
        · have ho : d.x.opn = true := by
            cases ho : d.x.opn with
            | false => exact absurd (K.xo.shut ho).1 hv
            | true => rfl
          refine ⟨fput_keys _ _ _ K.fnd, fun p hp => ?_, fun p hp => ?_⟩
          · rcases fput_mem hds hp with h | h
            · exact K.fnm p h
            · exact h.1
          · rcases fput_mem hds hp with h | ⟨_, h2, h3, h4, h5, h6⟩
            · exact K.fb p h
            · exact ⟨.inl ⟨h2, ho, by omega⟩, h3, h4, h5⟩
      exact { K with
        nd := K.nd
        off := by have z := off_ext (core := d.core) (rest := spec ++ d.rest) offR [0, 1, 4, 8, 17] [2, 3, 5, 6, 7, 9, 10, 11, 12, 13, 14, 15, 16, 18, 19] 20 rfl (by decide) l'; exact fun p hp => z p (mem_spec hp)
        W := K.W.sub sube
        dfl := dl'
        dpl := dp'
        ms := sube _ K.ms
        mr := sube _ K.mr
        f5 := f5'
        f6 := f6'
        t2 := tab'
        t7 := K.t7.sub sube
        t4 := K.t4.sub sube
        xo := K.xo.sub sube
        yo := K.yo.sub sube
        fnd := hf.1
        fnm := hf.2.1
        fb := hf.2.2
        t0 := Int.le_trans K.t0 t1 }

theorem stored_len {K : Type} [DecidableEq K] {kvs : List (K × Value)} {k : K} {v u : Value} (h : valueAt kvs k = some u) : (stored kvs k v).length = kvs.length := by
  unfold stored
  rw [any_key, h]
  simp
theorem core_ne {core : List (Addr × Obj)} (nd : (adrs core).Nodup) (i j : Nat) {n : Nat} (hn : core.length = n) (hi : i < n) (hj : j < n) (hij : i ≠ j) : @Ne Nat (core.getD i dO).1 (core.getD j dO).1 := fun e => hij (adrs_inj nd hn hi hj e)
theorem off_one {core rest : List (Addr × Obj)} (nd : (adrs core).Nodup) (off : ∀ p ∈ rest, ¬ p.1 ∈ adrs core) (i : Nat) (B : List Nat) (n : Nat) (hn : core.length = n) (hA : i < n) (hB : ∀ j ∈ B, j < n ∧ j ≠ i) :
    ∀ p ∈ pick core B ++ rest, p.1 ≠ (core.getD i dO).1 := by
  intro p hp e
  exact off_pick nd off [i] B n hn (by simpa using hA) (fun j hj => ⟨(hB j hj).1, by simpa using (hB j hj).2⟩) p hp (by simp [adrs, pick, e])
theorem off_cov {core rest ext CL : List (Addr × Obj)} (off : ∀ p ∈ rest, ¬ p.1 ∈ adrs core) (hc : ∀ q ∈ core, q ∈ CL) (l : ∀ p ∈ ext, ∀ q ∈ CL, @LT.lt Nat _ q.1 p.1) : ∀ p ∈ ext ++ rest, ¬ p.1 ∈ adrs core := by
  intro p hp h
  rcases List.mem_append.mp hp with hp | hp
  · refine ex1_2 (List.mem_map.mp h) ?_; intro q hq e
    exact absurd e (Nat.ne_of_lt (l p hp q (hc q hq)))
  · exact off p hp h
theorem pick_sub {es : List (Addr × Obj)} {I J : List Nat} (h : ∀ i ∈ I, i ∈ J) : ∀ p ∈ pick es I, p ∈ pick es J := by
  intro p hp
  refine ex1_2 (List.mem_map.mp hp) ?_; intro i hi e
  exact List.mem_map.mpr ⟨i, h i hi, e⟩
theorem core_mem {es : List (Addr × Obj)} (i : Nat) {n : Nat} (hn : es.length = n) (hi : i < n) {q : Addr × Obj} (e : es.getD i dO = q) : q ∈ es := by
  rw [← e, List.getD_eq_getElem?_getD, List.getElem?_eq_getElem (hn ▸ hi)]
  exact List.getElem_mem _
theorem putRec_code {rs : List (List Nat)} {n size : Nat} {b : List Nat} (h : ∀ c ∈ rs.flatten, c < 128) (hb : ∀ c ∈ b, c < 128) : ∀ c ∈ (putRec rs n size b).flatten, c < 128 := by
  intro c hc
  refine ex1_2 (List.mem_flatten.mp hc) ?_; intro r hr hc2
  rcases List.mem_or_eq_of_mem_set hr with hr | he
  · rcases List.mem_append.mp hr with hr | hr
    · exact h c (List.mem_flatten.mpr ⟨r, hr, hc2⟩)
    · rw [List.eq_of_mem_replicate hr] at hc2
      rw [List.eq_of_mem_replicate hc2]; decide
  · exact hb c (he ▸ hc2)
theorem set_pk {d : LD} {spec : List (Addr × Obj)} {RR : List (Addr × Obj)} {at_ many : Int} {Q : Value → Shared → Prop} (ap : Apart spec d.led) (K : d.Ok w) (hRB : ∀ q ∈ pick d.core [2, 3, 4, 5, 6, 7, 8, 9, 10, 11, 12, 13, 14, 15, 16, 17, 19], q ∈ RR) (hR2 : ∀ q ∈ spec ++ d.rest, q ∈ RR) (ho : d.x.opn = true) (b0 : 0 ≤ at_) (b1 : 0 ≤ many) (b2 : many ≤ 3) (b3 : at_ + many ≤ d.x.size)
  (h : ∀ h' tk d', Fr G L h' m → News G L h' (spec ++ d'.led) → Apart spec d'.led → d'.Ok w → d.Same d' → d.turn ≤ d'.turn → d'.turn ≤ d.turn + 10 → Q (.bool true) { s with heap := h', toks := tk }) :
  ∃ am om kvm nm size bl r blA vsb nb rest', SetCh w RR rest' d.rest d.aw d.awd d.afi d.aop d.afl d.tw d.bu d.oo d.ofl d.otw d.obu d.kvo d.kvb d.kvf d.kvp d.fl d.ps7 d.x.c at_ many am blA om kvm nm size bl r vsb nb ∧
    (∀ h' tk turn' tt' om' kvm' vsb' ps' ext bl', Fr G L h' m → News G L h' ((d.feed, listOf #[.ref d.cells, .int turn' tt'] d.nF) :: (d.cells, listOf d.vs.toArray d.nC) :: (167, tabObj ps') :: (am, om') :: (blA, listOf vsb'.toArray nb) :: (ext ++ rest')) →
      d.turn ≤ turn' → turn' ≤ d.turn + 10 → om'.IsDictOf (PySem.strKind PySem.Challenge.rw_pq0169_01.row.prog w) kvm' → MadeIs kvm' nm size bl' r → bl'.length = bl.length → ((∀ c ∈ bl, c < 128) → ∀ c ∈ bl', c < 128) → SignsAre vsb' bl' → TabOk (ext ++ d.rest) "_law_set.<locals>.<lambda>" ps' →
      (∀ p ∈ ext, ∀ q ∈ (d.feed, listOf #[.ref d.cells, .int d.turn d.tt] d.nF) :: (d.cells, listOf d.vs.toArray d.nC) :: ((167 : Addr), tabObj d.ps7) :: RR, @LT.lt Nat _ q.1 p.1) → Q (.bool true) { s with heap := h', toks := tk }) := by
  have offR := off_spec ap K.off
  have sub : ∀ q ∈ d.rest, q ∈ pick d.core [2, 3, 4, 6, 7, 8, 9, 11, 12, 13, 14, 15, 16, 17, 19] ++ (spec ++ d.rest) := fun q hq => List.mem_append_right _ (List.mem_append_right _ hq)
  have hz : d.x.bl.length ≤ 10 ∧ at_ + many ≤ d.x.bl.length := by
    have := K.xo.zb
    rcases K.xo.sz with e | e <;> rw [e] at this b3 <;> omega
  refine ⟨d.x.am, d.x.om, d.x.kvm, d.x.nm, d.x.size, d.x.bl, d.x.r, d.x.blA, d.x.vsb, d.x.nb, pick d.core [2, 3, 4, 6, 7, 8, 9, 11, 12, 13, 14, 15, 16, 17, 19] ++ (spec ++ d.rest), ⟨?_, core_ne K.nd 5 10 (n := 20) rfl (by decide) (by decide) (by decide), off_one K.nd offR 5 [2, 3, 4, 6, 7, 8, 9, 11, 12, 13, 14, 15, 16, 17, 19] 20 rfl (by decide) (by decide), off_one K.nd offR 10 [2, 3, 4, 6, 7, 8, 9, 11, 12, 13, 14, 15, 16, 17, 19] 20 rfl (by decide) (by decide), K.W.sub sub,
    List.mem_append_left _ (mem_pick 3 (by decide) rfl), List.mem_append_left _ (mem_pick 4 (by decide) rfl), List.mem_append_left _ (mem_pick 7 (by decide) rfl), List.mem_append_left _ (mem_pick 9 (by decide) rfl), K.f5.sub sub, K.f6.sub sub, sub, K.t7, K.xo.vo ho, K.xo.dm, K.xo.M, K.xo.vb ho, K.xo.S, b0, b1, b2, hz.2, hz.1⟩, ?_⟩
  · intro q hq
    refine mcons hq ?_ fun hq => ?_
    · exact hRB _ (mem_pick 5 (by decide) rfl)
    refine mcons hq ?_ fun hq => ?_
    · exact hRB _ (mem_pick 10 (by decide) rfl)
    · exact (List.mem_append.mp hq).elim (fun hq => hRB _ (pick_sub (by decide) q hq)) (hR2 q)
  · intro h' tk turn' tt' om' kvm' vsb' ps' ext bl' F' N' t1 t2 dm' M' l1 l2 S' tab' l'
    have sube : ∀ q ∈ d.rest, q ∈ ext ++ d.rest := fun q hq => List.mem_append_right _ hq
    refine h h' tk { d with turn := turn', tt := tt', ps7 := ps', x := { d.x with om := om', kvm := kvm', bl := bl', vsb := vsb' }, rest := ext ++ d.rest } F' ?_ (apart_in (core := d.core) ap rfl fun p hp q hq => l' p hp q (.tail _ (.tail _ (.tail _ (hR2 q (List.mem_append_left _ hq)))))) ?_ ⟨rfl, rfl, rfl, rfl, rfl, rfl, rfl, rfl⟩ t1 t2
    · exact spec_in (news_in (AE := [(d.feed, listOf #[.ref d.cells, .int turn' tt'] d.nF), (d.cells, listOf d.vs.toArray d.nC), ((167 : Addr), tabObj ps'), (d.x.am, om'), (d.x.blA, listOf vsb'.toArray d.x.nb)]) (BE := pick d.core [2, 3, 4, 6, 7, 8, 9, 11, 12, 13, 14, 15, 16, 17, 19]) (ext := ext) (rest := spec ++ d.rest) N' [0, 1, 5, 6, 7, 3, 8, 9, 10, 11, 4, 12, 13, 14, 15, 16, 17, 18, 2, 19] 20 rfl (by decide) rfl)
    · have z := off_cov (core := d.core) (CL := (d.feed, listOf #[.ref d.cells, .int d.turn d.tt] d.nF) :: (d.cells, listOf d.vs.toArray d.nC) :: ((167 : Addr), tabObj d.ps7) :: RR) offR (fun q hq => by
        have := pick_all (I := [0, 1, 18] ++ [2, 3, 4, 5, 6, 7, 8, 9, 10, 11, 12, 13, 14, 15, 16, 17, 19]) (n := 20) rfl (by decide) q hq
        unfold pick at this
        rw [List.map_append] at this
        rcases List.mem_append.mp this with h | h
        · refine mcons h ?_ fun h => ?_
          · exact .head _
          refine mcons h ?_ fun h => ?_
          · exact .tail _ (.head _)
          rw [List.mem_singleton.mp h]
          exact .tail _ (.tail _ (.head _))
        · exact .tail _ (.tail _ (.tail _ (hRB q h)))) l'
      exact { K with
        nd := K.nd
        off := fun p hp => z p (mem_spec hp)
        W := K.W.sub sube
        ms := sube _ K.ms
        mr := sube _ K.mr
        f5 := K.f5.sub sube
        f6 := K.f6.sub sube
        t2 := K.t2.sub sube
        t7 := tab'
        t4 := K.t4.sub sube
        xo := { K.xo.sub sube with dm := dm', M := M', S := S', zb := by rw [l1]; exact K.xo.zb, zbc := l2 K.xo.zbc }
        yo := K.yo.sub sube
        fb := K.fb
        t0 := Int.le_trans K.t0 t1 }
theorem set_step {d : LD} {spec : List (Addr × Obj)} {ns : List Int} {Q : Value → Shared → Prop}
  (hh : A.handled = none) (hdp : A.depth ≤ 500) (hu : A.units ≤ 500)
  (F : Fr G L s.heap m) (T : Top p loose mean mg mb G) (X : (hd.heap_1 w.params).In G) (C : CodeHd G 171 167)
  (N : News G L s.heap (spec ++ d.led)) (ap : Apart spec d.led) (K : d.Ok w) (hi : IntsAre d.vs ns) (hvl : d.vs.length ≤ 100) (h1 : d.turn ≤ 9000) (z6 : d.fl ≠ [])
  (h : ∀ h' tk d', Fr G L h' m → News G L h' (spec ++ d'.led) → Apart spec d'.led → d'.Ok w → d.Same d' → d.turn ≤ d'.turn → d'.turn ≤ d.turn + 10 → Q (.bool true) { s with heap := h', toks := tk }) :
  wpAny (model PySem.Challenge.rw_pq0169_01.row.prog w) A (call (.ref 172) [.ref d.feed, .ref d.aw, .ref d.tw] []) Q E s := by
  have offR := off_spec ap K.off
  have N1 := news_out (core := d.core) (rest := spec ++ d.rest) (spec_out N) [0, 1, 18] [2, 3, 4, 5, 6, 7, 8, 9, 10, 11, 12, 13, 14, 15, 16, 17, 19] 20 rfl (by decide) (by decide)
  have sub : ∀ q ∈ d.rest, q ∈ pick d.core [2, 3, 4, 5, 6, 7, 8, 9, 10, 11, 12, 13, 14, 15, 16, 17, 19] ++ (spec ++ d.rest) := fun q hq => List.mem_append_right _ (List.mem_append_right _ hq)
  refine lawset (awd := d.awd) (afi := d.afi) (aop := d.aop) (stt := d.rest) (rest := pick d.core [2, 3, 4, 5, 6, 7, 8, 9, 10, 11, 12, 13, 14, 15, 16, 17, 19] ++ (spec ++ d.rest)) hh hdp hu F T X C N1 (core_ne K.nd 1 0 (n := 20) rfl (by decide) (by decide) (by decide)) (core_ne K.nd 0 18 (n := 20) rfl (by decide) (by decide) (by decide)) (core_ne K.nd 1 18 (n := 20) rfl (by decide) (by decide) (by decide))
    (off_one K.nd offR 0 [2, 3, 4, 5, 6, 7, 8, 9, 10, 11, 12, 13, 14, 15, 16, 17, 19] 20 rfl (by decide) (by decide)) (off_one K.nd offR 18 [2, 3, 4, 5, 6, 7, 8, 9, 10, 11, 12, 13, 14, 15, 16, 17, 19] 20 rfl (by decide) (by decide)) (off_one K.nd offR 1 [2, 3, 4, 5, 6, 7, 8, 9, 10, 11, 12, 13, 14, 15, 16, 17, 19] 20 rfl (by decide) (by decide)) hi hvl K.t0 h1
    K.doo K.lo3 K.lo4 (List.mem_append_left _ (mem_pick 7 (by decide) rfl)) K.dtw K.vt1 K.vt3 K.dbu K.dfl (K.f5.sub sub) (List.mem_append_left _ (mem_pick 8 (by decide) rfl)) K.dpl (K.f6.sub sub) (LD.z5 K) z6 ?_
  intro n c at_ many hl
  refine ex0_4 (K.fb _ (look_mem hl)) ?_; intro hc b0 b1 b2
  dsimp only at hc b0 b1 b2
  rcases hc with ⟨rfl, ho, b3⟩ | ⟨rfl, ho, b3⟩
  · exact set_pk (d := d) ap K (fun q hq => List.mem_append_left _ hq) (fun q hq => List.mem_append_right _ hq) ho b0 b1 b2 b3 h
  · exact set_pk (d := d.swap) (LD.swap_apart ap) K.swap (fun q hq => List.mem_append_left _ (pick_sub (I := [2, 3, 4, 6, 5, 7, 8, 9, 11, 10, 13, 12, 14, 15, 16, 17, 19]) (by decide) q hq)) (fun q hq => List.mem_append_right _ hq) ho b0 b1 b2 b3 h
theorem put_step {d : LD} {spec : List (Addr × Obj)} {ns : List Int} {tc : Tok} {Q : Value → Shared → Prop}
  (hh : A.handled = none) (hdp : A.depth ≤ 500) (hu : A.units ≤ 500)
  (F : Fr G L s.heap m) (T : Top p loose mean mg mb G) (X : (hd.heap_1 w.params).In G) (C : CodeHd G 178 174)
  (N : News G L s.heap (spec ++ d.led)) (ap : Apart spec d.led) (K : d.Ok w) (hi : IntsAre d.vs ns) (hvl : d.vs.length ≤ 100) (h1 : d.turn ≤ 9000) (ho : d.x.opn = true)
  (h : ∀ h' tk d', Fr G L h' m → News G L h' (spec ++ d'.led) → Apart spec d'.led → d'.Ok w → d.Same d' → d.turn ≤ d'.turn → d'.turn ≤ d.turn + 10 → Q (.bool true) { s with heap := h', toks := tk }) :
  wpAny (model PySem.Challenge.rw_pq0169_01.row.prog w) A (call (.ref 179) [.ref d.feed, .ref d.aw, .ref d.tw, .int d.x.c tc, .bool true] []) Q E s := by
  have offR := off_spec ap K.off
  have N1 := news_out (core := d.core) (rest := spec ++ d.rest) (spec_out N) [0, 1, 2, 5, 12, 19] [3, 4, 6, 7, 8, 9, 10, 11, 13, 14, 15, 16, 17, 18] 20 rfl (by decide) (by decide)
  have sub : ∀ q ∈ d.rest, q ∈ pick d.core [3, 4, 6, 7, 8, 9, 10, 11, 13, 14, 15, 16, 17, 18] ++ (spec ++ d.rest) := fun q hq => List.mem_append_right _ (List.mem_append_right _ hq)
  have hx := K.xo
  refine moved_put (stt := d.rest) (rest := pick d.core [3, 4, 6, 7, 8, 9, 10, 11, 13, 14, 15, 16, 17, 18] ++ (spec ++ d.rest)) hh hdp hu F T X C N1 (nd_pick K.nd [0, 1, 2, 5, 12, 19] 20 rfl (by decide) (by decide)) (off_pick K.nd offR [0, 2, 5, 12, 19] [3, 4, 6, 7, 8, 9, 10, 11, 13, 14, 15, 16, 17, 18] 20 rfl (by decide) (by decide)) sub hi hvl K.t0 h1
    (K.W.sub sub) (List.mem_append_left _ (mem_pick 3 (by decide) rfl)) K.doo K.lo2 (hx.vo ho) hx.dm hx.M K.dfi hx.vf K.zfi (List.mem_append_left _ (mem_pick 7 (by decide) rfl)) K.dtw K.vt2 K.vt3 K.vt4
    (sub _ K.ms) K.dsz hx.vs (List.mem_append_left _ (mem_pick 9 (by decide) rfl)) K.dbu K.lo5 (hx.vb ho) (List.mem_append_left _ (mem_pick 10 (by decide) rfl)) hx.S hx.zb (sub _ K.mr) K.drc hx.vr hx.R hx.zr hx.zr3 hx.sz K.t4 ?_
  intro h' tk turn' tt' om' kvm' ofi' t' rvs' nr' ps' ext n F' N' t1 t2 dm' M' n1 n3 dfi' R' tab' l'
  have sube : ∀ q ∈ d.rest, q ∈ ext ++ d.rest := fun q hq => List.mem_append_right _ hq
  refine h h' tk { d with turn := turn', tt := tt', ofi := ofi', kvfi := stored d.kvfi d.x.nm (.str (TS (putRec d.x.rs n d.x.size.toNat d.x.bl).flatten) t'), ps4 := ps', x := { d.x with om := om', kvm := kvm', r := (n : Int), rvs := rvs', nr := nr', rs := putRec d.x.rs n d.x.size.toNat d.x.bl, tf := t' }, rest := ext ++ d.rest } F' ?_ (apart_in (core := d.core) ap rfl fun p hp q hq => l' p hp q (show q ∈ pick d.core [0, 1, 2, 5, 12, 19] ++ (pick d.core [3, 4, 6, 7, 8, 9, 10, 11, 13, 14, 15, 16, 17, 18] ++ (spec ++ d.rest)) from List.mem_append_right _ (List.mem_append_right _ (List.mem_append_left _ hq)))) ?_ ⟨rfl, rfl, rfl, rfl, rfl, rfl, rfl, rfl⟩ t1 t2
  · exact spec_in (news_in (AE := [(d.feed, listOf #[.ref d.cells, .int turn' tt'] d.nF), (d.cells, listOf d.vs.toArray d.nC), (d.afi, ofi'), (d.x.am, om'), (d.x.rl, listOf rvs'.toArray nr'), ((174 : Addr), tabObj ps')]) (BE := pick d.core [3, 4, 6, 7, 8, 9, 10, 11, 13, 14, 15, 16, 17, 18]) (ext := ext) (rest := spec ++ d.rest) N' [0, 1, 2, 6, 7, 3, 8, 9, 10, 11, 12, 13, 4, 14, 15, 16, 17, 18, 19, 5] 20 rfl (by decide) rfl)
  · have hnm : d.y.nm ≠ d.x.nm := by
      rcases K.xo.sc with ⟨e1, _, e3⟩ | ⟨e1, _, e3⟩ <;> rcases K.yo.sc with ⟨e4, _, e6⟩ | ⟨e4, _, e6⟩
      · rcases K.xy with h | h <;> omega
      · rw [e3, e6]; decide
      · rw [e3, e6]; decide
      · rcases K.xy with h | h <;> omega
    exact { K with
      nd := K.nd
      off := by have z := off_ext (core := d.core) (rest := spec ++ d.rest) offR [0, 1, 2, 5, 12, 19] [3, 4, 6, 7, 8, 9, 10, 11, 13, 14, 15, 16, 17, 18] 20 rfl (by decide) l'; exact fun p hp => z p (mem_spec hp)
      W := K.W.sub sube
      dfi := dfi'
      zfi := by show (stored _ _ _).length ≤ 10; rw [stored_len hx.vf]; exact K.zfi
      ms := sube _ K.ms
      mr := sube _ K.mr
      f5 := K.f5.sub sube
      f6 := K.f6.sub sube
      t2 := K.t2.sub sube
      t7 := K.t7.sub sube
      t4 := tab'
      xo := { K.xo.sub sube with
        dm := dm', M := M', R := R'
        vf := by show valueAt (stored _ _ _) _ = _; rw [valueAt_stored, if_pos rfl]
        zr := putRec_len hx.zr hx.zb
        zr3 := by show (putRec _ _ _ _).length ≤ 3; rw [putRec_length]; exact Nat.max_le.mpr ⟨hx.zr3, n3⟩
        zc := putRec_code hx.zc hx.zbc }
      yo := { K.yo.sub sube with vf := by show valueAt (stored _ _ _) _ = _; rw [valueAt_stored, if_neg hnm]; exact K.yo.vf }
      fb := K.fb
      t0 := Int.le_trans K.t0 t1 }
theorem get_step {env₀ : Env} {d : LD} {spec : List (Addr × Obj)} {ns : List Int} {tc : Tok} {Q : Value → Shared → Prop}
  (hA : A.frames = some [env₀]) (hf₀ : env₀.frame = some L) (hk₀ : env₀.scope.kind ≠ .module)
  (hh : A.handled = none) (hdp : A.depth ≤ 500) (hu : A.units ≤ 500)
  (F : Fr G L s.heap m) (T : Top p loose mean mg mb G) (X : (hd.heap_1 w.params).In G) (C : CodeHd G 178 174)
  (N : News G L s.heap (spec ++ d.led)) (ap : Apart spec d.led) (K : d.Ok w) (hi : IntsAre d.vs ns) (hvl : d.vs.length ≤ 100) (h1 : d.turn ≤ 9000) (ho : d.x.opn = true)
  (h : ∀ h' tk d', Fr G L h' m → News G L h' (spec ++ d'.led) → Apart spec d'.led → d'.Ok w → d.Same d' → d.turn ≤ d'.turn → d'.turn ≤ d.turn + 10 → Q (.bool true) { s with heap := h', toks := tk }) :
  wpAny (model PySem.Challenge.rw_pq0169_01.row.prog w) A (call (.ref 179) [.ref d.feed, .ref d.aw, .ref d.tw, .int d.x.c tc, .bool false] []) Q E s := by
  have offR := off_spec ap K.off
  have N1 := news_out (core := d.core) (rest := spec ++ d.rest) (spec_out N) [0, 1, 5, 9, 19] [2, 3, 4, 6, 7, 8, 10, 11, 12, 13, 14, 15, 16, 17, 18] 20 rfl (by decide) (by decide)
  have sub : ∀ q ∈ d.rest, q ∈ pick d.core [2, 3, 4, 6, 7, 8, 10, 11, 12, 13, 14, 15, 16, 17, 18] ++ (spec ++ d.rest) := fun q hq => List.mem_append_right _ (List.mem_append_right _ hq)
  have hx := K.xo
  refine moved_get (stt := d.rest) (rest := pick d.core [2, 3, 4, 6, 7, 8, 10, 11, 12, 13, 14, 15, 16, 17, 18] ++ (spec ++ d.rest)) hA hf₀ hk₀ hh hdp hu F T X C N1 (nd_pick K.nd [0, 1, 5, 9, 19] 20 rfl (by decide) (by decide)) (off_pick K.nd offR [0, 5, 9, 19] [2, 3, 4, 6, 7, 8, 10, 11, 12, 13, 14, 15, 16, 17, 18] 20 rfl (by decide) (by decide)) sub hi hvl K.t0 h1
    (K.W.sub sub) (List.mem_append_left _ (mem_pick 3 (by decide) rfl)) K.doo K.lo2 (hx.vo ho) hx.dm hx.M (List.mem_append_left _ (mem_pick 2 (by decide) rfl)) K.dfi hx.vf (List.mem_append_left _ (mem_pick 7 (by decide) rfl)) K.dtw K.vt2 K.vt3 K.vt4
    (sub _ K.ms) K.dsz hx.vs K.dbu K.lo5 (hx.vb ho) K.zb (sub _ K.mr) K.drc hx.vr (List.mem_append_left _ (mem_pick 12 (by decide) rfl)) (hx.R.sub sub) hx.zr hx.zr3 hx.sz K.t4 ?_ ?_
  · intro h' tk turn' tt' om' kvm' obu' ps' ext n r BL vsb' nb' F' N' t1 t2 dm' M' hr dbu' S' tab' l' l2'
    have sube : ∀ q ∈ d.rest, q ∈ ext ++ d.rest := fun q hq => List.mem_append_right _ hq
    have hBL : ∀ q ∈ pick d.core [0, 1, 5, 9, 19] ++ (pick d.core [2, 3, 4, 6, 7, 8, 10, 11, 12, 13, 14, 15, 16, 17, 18] ++ (spec ++ d.rest)), @LT.lt Nat _ q.1 BL := fun q hq => l' (BL, listOf vsb'.toArray nb') (.head _) q hq
    have cov : ∀ q ∈ d.core, q ∈ pick d.core [0, 1, 5, 9, 19] ++ (pick d.core [2, 3, 4, 6, 7, 8, 10, 11, 12, 13, 14, 15, 16, 17, 18] ++ (spec ++ d.rest)) := fun q hq => by
      have := pick_all (I := [0, 1, 5, 9, 19] ++ [2, 3, 4, 6, 7, 8, 10, 11, 12, 13, 14, 15, 16, 17, 18]) (n := 20) rfl (by decide) q hq
      unfold pick at this
      rw [List.map_append] at this
      rcases List.mem_append.mp this with h | h
      · exact List.mem_append_left _ h
      · exact List.mem_append_right _ (List.mem_append_left _ h)
    have hBn : ¬ BL ∈ adrs d.core := fun hc => by
      refine ex1_2 (List.mem_map.mp hc) ?_; intro q hq e
      exact absurd e (Nat.ne_of_lt (hBL q (cov q hq)))
    have off0 : ∀ p ∈ ext ++ d.rest, ¬ p.1 ∈ adrs d.core := off_cov (rest := d.rest) (CL := pick d.core [0, 1, 5, 9, 19] ++ (pick d.core [2, 3, 4, 6, 7, 8, 10, 11, 12, 13, 14, 15, 16, 17, 18] ++ (spec ++ d.rest))) K.off cov fun p hp q hq => l' p (.tail _ hp) q hq
    have offB : ∀ p ∈ ext ++ d.rest, p.1 ≠ BL := fun p hp => (List.mem_append.mp hp).elim (fun hp => Nat.ne_of_gt (l2' p hp)) (fun hp => Nat.ne_of_lt (hBL p (List.mem_append_right _ (List.mem_append_right _ (List.mem_append_right _ hp)))))
    have hyx : d.y.c ≠ d.x.c := by rcases K.xy with h | h <;> omega
    have hrl := List.mem_of_getElem? hr
    refine h h' tk { d with turn := turn', tt := tt', obu := obu', kvb := stored d.kvb d.x.c (.ref BL), ps4 := ps', x := { d.x with om := om', kvm := kvm', bl := r, r := (n : Int), blA := BL, vsb := vsb', nb := nb' }, rest := ext ++ d.rest } F' ?_ (by
      intro p hp q hq
      have hlB := hBL p (List.mem_append_right _ (List.mem_append_right _ (List.mem_append_left _ hp)))
      rcases List.mem_append.mp hq with hq | hq
      · have hq1 := (List.mem_map.mpr ⟨q, hq, rfl⟩ : q.1 ∈ adrs _)
        have hq2 : q.1 ∈ adrs (pick (d.core ++ [(BL, dO.2)]) [0, 1, 2, 3, 4, 5, 6, 7, 8, 9, 20, 11, 12, 13, 14, 15, 16, 17, 18, 19]) := hq1
        refine ex1_2 (List.mem_map.mp hq2) ?_; intro q' hq' e'
        rcases List.mem_append.mp (pick_mem (n := 21) rfl (by decide) q' hq') with h | h
        · exact fun e => ap p hp q' (List.mem_append_left _ h) (e.trans e'.symm)
        · rw [List.mem_singleton.mp h] at e'
          exact fun e => absurd (e.trans e'.symm) (Nat.ne_of_lt hlB)
      · rcases List.mem_append.mp hq with hq | hq
        · exact Nat.ne_of_lt (l' q (.tail _ hq) p (show p ∈ pick d.core [0, 1, 5, 9, 19] ++ (pick d.core [2, 3, 4, 6, 7, 8, 10, 11, 12, 13, 14, 15, 16, 17, 18] ++ (spec ++ d.rest)) from List.mem_append_right _ (List.mem_append_right _ (List.mem_append_left _ hp))))
        · exact ap p hp q (List.mem_append_right _ hq)) ?_ ⟨rfl, rfl, rfl, rfl, rfl, rfl, rfl, rfl⟩ t1 t2
    · exact spec_in (news_in (AE := [(d.feed, listOf #[.ref d.cells, .int turn' tt'] d.nF), (d.cells, listOf d.vs.toArray d.nC), (d.x.am, om'), (d.bu, obu'), ((174 : Addr), tabObj ps'), (BL, listOf vsb'.toArray nb')]) (BE := pick d.core [2, 3, 4, 6, 7, 8, 10, 11, 12, 13, 14, 15, 16, 17, 18]) (ext := ext) (rest := spec ++ d.rest) N' [0, 1, 6, 7, 8, 2, 9, 10, 11, 3, 5, 13, 14, 15, 16, 17, 18, 19, 20, 4] 21 rfl (by decide) rfl)
    · have nd2 : (adrs (d.core ++ [(BL, dO.2)])).Nodup := by
        unfold adrs
        rw [List.map_append, List.nodup_append]
        refine ⟨K.nd, by simp, ?_⟩
        intro a ha b hb e
        have hb' : b = BL := by simpa using hb
        rw [e, hb'] at ha
        exact hBn ha
      have nd3 := nd_pick nd2 [0, 1, 2, 3, 4, 5, 6, 7, 8, 9, 20, 11, 12, 13, 14, 15, 16, 17, 18, 19] 21 rfl (by decide) (by decide)
      exact { K with
        nd := nd3
        off := fun p hp hc => by
          have hq2 : p.1 ∈ adrs (pick (d.core ++ [(BL, dO.2)]) [0, 1, 2, 3, 4, 5, 6, 7, 8, 9, 20, 11, 12, 13, 14, 15, 16, 17, 18, 19]) := hc
          refine ex1_2 (List.mem_map.mp hq2) ?_; intro q' hq' e'
          rcases List.mem_append.mp (pick_mem (n := 21) rfl (by decide) q' hq') with h | h
          · exact off0 p hp (List.mem_map.mpr ⟨q', h, e'⟩)
          · rw [List.mem_singleton.mp h] at e'
            exact offB p hp e'.symm
        W := K.W.sub sube
        dbu := dbu'
        zb := by show (stored _ _ _).length ≤ 10; rw [stored_len (hx.vb ho)]; exact K.zb
        ms := sube _ K.ms
        mr := sube _ K.mr
        f5 := K.f5.sub sube
        f6 := K.f6.sub sube
        t2 := K.t2.sub sube
        t7 := K.t7.sub sube
        t4 := tab'
        xo := { K.xo.sub sube with
          dm := dm', M := M', S := S'
          shut := fun hc => absurd (ho.symm.trans hc) (by decide)
          vb := fun _ => by show valueAt (stored _ _ _) _ = _; rw [valueAt_stored, if_pos rfl]
          zb := hx.zr r hrl
          zbc := fun c hc => hx.zc c (List.mem_flatten.mpr ⟨r, hrl, hc⟩) }
        yo := { K.yo.sub sube with
          shut := fun hc => ⟨(K.yo.shut hc).1, by show valueAt (stored _ _ _) _ = _; rw [valueAt_stored, if_neg hyx]; exact (K.yo.shut hc).2⟩
          vb := fun hc => by show valueAt (stored _ _ _) _ = _; rw [valueAt_stored, if_neg hyx]; exact K.yo.vb hc }
        fb := K.fb
        t0 := Int.le_trans K.t0 t1 }
  · intro h' tk turn' tt' ps' ext F' N' t1 t2 tab' l'
    have sube : ∀ q ∈ d.rest, q ∈ ext ++ d.rest := fun q hq => List.mem_append_right _ hq
    refine h h' tk { d with turn := turn', tt := tt', ps4 := ps', rest := ext ++ d.rest } F' ?_ (apart_in (core := d.core) ap rfl fun p hp q hq => l' p hp q (show q ∈ pick d.core [0, 1, 5, 9, 19] ++ (pick d.core [2, 3, 4, 6, 7, 8, 10, 11, 12, 13, 14, 15, 16, 17, 18] ++ (spec ++ d.rest)) from List.mem_append_right _ (List.mem_append_right _ (List.mem_append_left _ hq)))) ?_ ⟨rfl, rfl, rfl, rfl, rfl, rfl, rfl, rfl⟩ t1 t2
    · exact spec_in (news_in (AE := [(d.feed, listOf #[.ref d.cells, .int turn' tt'] d.nF), (d.cells, listOf d.vs.toArray d.nC), (d.x.am, d.x.om), (d.bu, d.obu), ((174 : Addr), tabObj ps')]) (BE := pick d.core [2, 3, 4, 6, 7, 8, 10, 11, 12, 13, 14, 15, 16, 17, 18]) (ext := ext) (rest := spec ++ d.rest) N' [0, 1, 5, 6, 7, 2, 8, 9, 10, 3, 11, 12, 13, 14, 15, 16, 17, 18, 19, 4] 20 rfl (by decide) rfl)
    · exact { K with
        nd := K.nd
        off := by have z := off_ext (core := d.core) (rest := spec ++ d.rest) offR [0, 1, 5, 9, 19] [2, 3, 4, 6, 7, 8, 10, 11, 12, 13, 14, 15, 16, 17, 18] 20 rfl (by decide) l'; exact fun p hp => z p (mem_spec hp)
        W := K.W.sub sube
        ms := sube _ K.ms
        mr := sube _ K.mr
        f5 := K.f5.sub sube
        f6 := K.f6.sub sube
        t2 := K.t2.sub sube
        t7 := K.t7.sub sube
        t4 := tab'
        xo := K.xo.sub sube
        yo := K.yo.sub sube
        fb := K.fb
        t0 := Int.le_trans K.t0 t1 }
theorem mbn_step {env₀ : Env} {d : LD} {spec : List (Addr × Obj)} {ns : List Int} {tc : Tok} {ip : Bool} {Q : Value → Shared → Prop}
  (hA : A.frames = some [env₀]) (hf₀ : env₀.frame = some L) (hk₀ : env₀.scope.kind ≠ .module)
  (hh : A.handled = none) (hdp : A.depth ≤ 500) (hu : A.units ≤ 500)
  (F : Fr G L s.heap m) (T : Top p loose mean mg mb G) (X : (hd.heap_1 w.params).In G) (C : CodeHd G 178 174)
  (N : News G L s.heap (spec ++ d.led)) (ap : Apart spec d.led) (K : d.Ok w) (hi : IntsAre d.vs ns) (hvl : d.vs.length ≤ 100) (h1 : d.turn ≤ 9000) (ho : d.x.opn = false)
  (h : ∀ h' tk d', Fr G L h' m → News G L h' (spec ++ d'.led) → Apart spec d'.led → d'.Ok w → d.Same d' → d.turn ≤ d'.turn → d'.turn ≤ d.turn + 10 → Q (.bool true) { s with heap := h', toks := tk }) :
  wpAny (model PySem.Challenge.rw_pq0169_01.row.prog w) A (call (.ref 179) [.ref d.feed, .ref d.aw, .ref d.tw, .int d.x.c tc, .bool ip] []) Q E s := by
  have offR := off_spec ap K.off
  have N1 := news_out (core := d.core) (rest := spec ++ d.rest) (spec_out N) [0, 1, 19] [2, 3, 4, 5, 6, 7, 8, 9, 10, 11, 12, 13, 14, 15, 16, 17, 18] 20 rfl (by decide) (by decide)
  have sub : ∀ q ∈ d.rest, q ∈ pick d.core [2, 3, 4, 5, 6, 7, 8, 9, 10, 11, 12, 13, 14, 15, 16, 17, 18] ++ (spec ++ d.rest) := fun q hq => List.mem_append_right _ (List.mem_append_right _ hq)
  refine moved_bn (stt := d.rest) (rest := pick d.core [2, 3, 4, 5, 6, 7, 8, 9, 10, 11, 12, 13, 14, 15, 16, 17, 18] ++ (spec ++ d.rest)) hA hf₀ hk₀ hh hdp hu F T X C N1 (core_ne K.nd 1 0 (n := 20) rfl (by decide) (by decide) (by decide)) (core_ne K.nd 0 19 (n := 20) rfl (by decide) (by decide) (by decide)) (core_ne K.nd 1 19 (n := 20) rfl (by decide) (by decide) (by decide))
    (off_one K.nd offR 0 [2, 3, 4, 5, 6, 7, 8, 9, 10, 11, 12, 13, 14, 15, 16, 17, 18] 20 rfl (by decide) (by decide)) (off_one K.nd offR 19 [2, 3, 4, 5, 6, 7, 8, 9, 10, 11, 12, 13, 14, 15, 16, 17, 18] 20 rfl (by decide) (by decide)) sub hi hvl K.t0 h1
    (K.W.sub sub) (List.mem_append_left _ (mem_pick 3 (by decide) rfl)) K.doo K.lo2 (K.xo.shut ho).1 (List.mem_append_left _ (mem_pick 7 (by decide) rfl)) K.dtw K.vt3 (List.mem_append_left _ (mem_pick 9 (by decide) rfl)) K.dbu K.lo5 (K.xo.shut ho).2 K.t4 ?_
  intro h' tk turn' tt' ps' ext F' N' t1 t2 tab' l'
  have sube : ∀ q ∈ d.rest, q ∈ ext ++ d.rest := fun q hq => List.mem_append_right _ hq
  refine h h' tk { d with turn := turn', tt := tt', ps4 := ps', rest := ext ++ d.rest } F' ?_ (apart_in (core := d.core) ap rfl fun p hp q hq => l' p hp q (show q ∈ pick d.core [0, 1, 19] ++ (pick d.core [2, 3, 4, 5, 6, 7, 8, 9, 10, 11, 12, 13, 14, 15, 16, 17, 18] ++ (spec ++ d.rest)) from List.mem_append_right _ (List.mem_append_right _ (List.mem_append_left _ hq)))) ?_ ⟨rfl, rfl, rfl, rfl, rfl, rfl, rfl, rfl⟩ t1 t2
  · exact spec_in (news_in (AE := [(d.feed, listOf #[.ref d.cells, .int turn' tt'] d.nF), (d.cells, listOf d.vs.toArray d.nC), ((174 : Addr), tabObj ps')]) (BE := pick d.core [2, 3, 4, 5, 6, 7, 8, 9, 10, 11, 12, 13, 14, 15, 16, 17, 18]) (ext := ext) (rest := spec ++ d.rest) N' [0, 1, 3, 4, 5, 6, 7, 8, 9, 10, 11, 12, 13, 14, 15, 16, 17, 18, 19, 2] 20 rfl (by decide) rfl)
  · exact { K with
      nd := K.nd
      off := by have z := off_ext (core := d.core) (rest := spec ++ d.rest) offR [0, 1, 19] [2, 3, 4, 5, 6, 7, 8, 9, 10, 11, 12, 13, 14, 15, 16, 17, 18] 20 rfl (by decide) l'; exact fun p hp => z p (mem_spec hp)
      W := K.W.sub sube
      ms := sube _ K.ms
      mr := sube _ K.mr
      f5 := K.f5.sub sube
      f6 := K.f6.sub sube
      t2 := K.t2.sub sube
      t7 := K.t7.sub sube
      t4 := tab'
      xo := K.xo.sub sube
      yo := K.yo.sub sube
      fb := K.fb
      t0 := Int.le_trans K.t0 t1 }
theorem moved_step {env₀ : Env} {d : LD} {spec : List (Addr × Obj)} {ns : List Int} {tc : Tok} {ip : Bool} {Q : Value → Shared → Prop}
  (hA : A.frames = some [env₀]) (hf₀ : env₀.frame = some L) (hk₀ : env₀.scope.kind ≠ .module)
  (hh : A.handled = none) (hdp : A.depth ≤ 500) (hu : A.units ≤ 500)
  (F : Fr G L s.heap m) (T : Top p loose mean mg mb G) (X : (hd.heap_1 w.params).In G) (C : CodeHd G 178 174)
  (N : News G L s.heap (spec ++ d.led)) (ap : Apart spec d.led) (K : d.Ok w) (hi : IntsAre d.vs ns) (hvl : d.vs.length ≤ 100) (h1 : d.turn ≤ 9000)
  (h : ∀ h' tk d', Fr G L h' m → News G L h' (spec ++ d'.led) → Apart spec d'.led → d'.Ok w → d.Same d' → d.turn ≤ d'.turn → d'.turn ≤ d.turn + 10 → Q (.bool true) { s with heap := h', toks := tk }) :
  wpAny (model PySem.Challenge.rw_pq0169_01.row.prog w) A (call (.ref 179) [.ref d.feed, .ref d.aw, .ref d.tw, .int d.x.c tc, .bool ip] []) Q E s := by
  cases ho : d.x.opn with
  | false => exact mbn_step hA hf₀ hk₀ hh hdp hu F T X C N ap K hi hvl h1 ho h
  | true =>
    cases ip with
    | true => exact put_step hh hdp hu F T X C N ap K hi hvl h1 ho h
    | false => exact get_step hA hf₀ hk₀ hh hdp hu F T X C N ap K hi hvl h1 ho h
theorem stands1 {d : LD} {spec : List (Addr × Obj)} {Q : Value → Shared → Prop}
  (hh : A.handled = none) (hdp : A.depth ≤ 500) (hu : A.units ≤ 500)
  (F : Fr G L s.heap m) (T : Top p loose mean mg mb G) (X : (hd.heap_1 w.params).In G)
  (N : News G L s.heap (spec ++ d.led)) (ap : Apart spec d.led) (K : d.Ok w) (hxy : d.x.c = 1 ∧ d.y.c = 2)
  (h : ∀ h' tk, Fr G L h' m → News G L h' (spec ++ d.led) → Q (.bool true) { s with heap := h', toks := tk }) :
  wpAny (model PySem.Challenge.rw_pq0169_01.row.prog w) A (call (.ref 184) [.ref d.aw, .ref d.tw] []) Q E s := by
  have sub : ∀ q ∈ d.rest, q ∈ spec ++ d.led := fun q hq => List.mem_append_right _ (List.mem_append_right _ hq)
  have hx := K.xo
  have hy := K.yo
  have h6 : ∀ z : Int, z = 4 ∨ z = 6 → z.toNat ≤ 6 := fun z hz => by omega
  have ex : d.x.nm = Str.ofString "ONE" := by rcases hx.sc with h | h; exact h.2.2; omega
  have ey : d.y.nm = Str.ofString "TWO" := by rcases hy.sc with h | h; omega; exact h.2.2
  refine lawstands hh hdp hu F T X N (K.W.sub sub) (List.mem_append_right _ (List.mem_append_left _ (core_mem 3 (n := 20) rfl (by decide) rfl))) K.doo (List.mem_append_right _ (List.mem_append_left _ (core_mem 4 (n := 20) rfl (by decide) rfl))) K.dfl (K.f5.sub sub) K.lo3
    (List.mem_append_right _ (List.mem_append_left _ (core_mem 7 (n := 20) rfl (by decide) rfl))) K.dtw K.vt1 K.vt3 K.vt4 (List.mem_append_right _ (List.mem_append_left _ (core_mem 8 (n := 20) rfl (by decide) rfl))) K.dpl (K.f6.sub sub) K.lo4 (List.mem_append_right _ (List.mem_append_left _ (core_mem 9 (n := 20) rfl (by decide) rfl))) K.dbu ?_
    (sub _ K.mr) K.drc (by rw [← hxy.1]; exact hx.vr) (by rw [← hxy.2]; exact hy.vr) (List.mem_append_right _ (List.mem_append_left _ (core_mem 12 (n := 20) rfl (by decide) rfl))) (hx.R.sub sub) hx.zr3 (fun r hr => by rw [hx.zr r hr]; exact h6 _ hx.sz) hx.zc
    (List.mem_append_right _ (List.mem_append_left _ (core_mem 13 (n := 20) rfl (by decide) rfl))) (hy.R.sub sub) hy.zr3 (fun r hr => by rw [hy.zr r hr]; exact h6 _ hy.sz) hy.zc (List.mem_append_right _ (List.mem_append_left _ (core_mem 2 (n := 20) rfl (by decide) rfl))) K.dfi (by rw [← ex]; exact hx.vf) (by rw [← ey]; exact hy.vf) h
  intro n x hl
  refine ex0_4 (K.fb _ (look_mem hl)) ?_; intro hc b0 b1 b2
  obtain ⟨c, at_, many⟩ := x
  try clear x
  dsimp only at hc b0 b1 b2
  rcases hc with ⟨rfl, ho, b3⟩ | ⟨rfl, ho, b3⟩
  · have hz : at_ + many ≤ d.x.bl.length ∧ d.x.bl.length ≤ 10 := by
      have := hx.zb
      rcases hx.sz with e | e <;> rw [e] at this b3 <;> omega
    exact in10_11 (d.x.am) (d.x.om) (d.x.kvm) (d.x.nm) (d.x.size) (d.x.bl) (d.x.r) (d.x.blA) (d.x.vsb) (d.x.nb) (hx.vo ho) (List.mem_append_right _ (List.mem_append_left _ (core_mem 5 (n := 20) rfl (by decide) rfl))) (hx.dm) (hx.M) (hx.vb ho) (List.mem_append_right _ (List.mem_append_left _ (core_mem 10 (n := 20) rfl (by decide) rfl))) (hx.S) b0 b1 (hz.1) (hz.2)
  · have hz : at_ + many ≤ d.y.bl.length ∧ d.y.bl.length ≤ 10 := by
      have := hy.zb
      rcases hy.sz with e | e <;> rw [e] at this b3 <;> omega
    exact in10_11 (d.y.am) (d.y.om) (d.y.kvm) (d.y.nm) (d.y.size) (d.y.bl) (d.y.r) (d.y.blA) (d.y.vsb) (d.y.nb) (hy.vo ho) (List.mem_append_right _ (List.mem_append_left _ (core_mem 6 (n := 20) rfl (by decide) rfl))) (hy.dm) (hy.M) (hy.vb ho) (List.mem_append_right _ (List.mem_append_left _ (core_mem 11 (n := 20) rfl (by decide) rfl))) (hy.S) b0 b1 (hz.1) (hz.2)
theorem stands_step {d : LD} {spec : List (Addr × Obj)} {Q : Value → Shared → Prop}
  (hh : A.handled = none) (hdp : A.depth ≤ 500) (hu : A.units ≤ 500)
  (F : Fr G L s.heap m) (T : Top p loose mean mg mb G) (X : (hd.heap_1 w.params).In G)
  (N : News G L s.heap (spec ++ d.led)) (ap : Apart spec d.led) (K : d.Ok w)
  (h : ∀ h' tk, Fr G L h' m → News G L h' (spec ++ d.led) → Q (.bool true) { s with heap := h', toks := tk }) :
  wpAny (model PySem.Challenge.rw_pq0169_01.row.prog w) A (call (.ref 184) [.ref d.aw, .ref d.tw] []) Q E s := by
  rcases K.xy with hxy | hxy
  · exact stands1 hh hdp hu F T X N ap K hxy h
  · exact stands1 (d := d.swap) hh hdp hu F T X (spec_swap N) (LD.swap_apart ap) K.swap ⟨hxy.2, hxy.1⟩ fun h' tk F' N' => h h' tk F' (spec_swap (d := d.swap) N')
end


/- body and scope of the last function of a program -/
def lastFn (p : Program) : Option (List Stmt × Scope) := match p.main.body.getLast? with
  | some (.FunctionDef _ _ body _ _ _ scope _ _ _) => some (body, scope)
  | _ => none
/- the scope, the loop's body, what is done of the sixth kind, of the seventh, and the last test -/
def turnParts (p : Program) : Option (Scope × List Stmt × List Stmt × List Stmt × Stmt) :=
  (lastFn p).bind fun q => (q.1[4]? : Option Stmt).bind fun st => match st with
    | Stmt.For _ _ bd _ _ => match bd with
      | [_, Stmt.If _ _ [Stmt.If _ _ [Stmt.If _ _ [Stmt.If _ b4 [Stmt.If _ b5 _ _] _] _] _] _, tl] => some (q.2, bd, b4, b5, tl)
      | _ => none
    | _ => none
abbrev lawA (env : Env) : Around := { handled := none, depth := 400, frames := some [env], units := 400 }
section
variable {w : World} {G : Heap} {L fa : Addr} {cd : Value} {p : Program} {loose : List Str} {mean : ExcName → Option Value} {mg mb : Str → Option Value}
  {E : Value → Shared → Prop} {s : Shared} {bd b4 b5 : List Stmt} {tl : Stmt} {scope : Scope}
theorem law_tail {d : LD} {spec : List (Addr × Obj)} {v1 v2 v3 : Option Value} {Q : Flow → Shared → Prop} (hT : turnParts PySem.Challenge.pw_pq0169_01 = some (scope, bd, b4, b5, tl))
  (F : Fr G L s.heap (fun y => if y = Str.ofString "turn" then v1 else if y = Str.ofString "kind" then v2 else if y = Str.ofString "is_right" then some (.bool true) else if y = Str.ofString "world" then some (.ref d.aw) else if y = Str.ofString "feed" then some (.ref d.feed) else if y = Str.ofString "script" then v3 else none))
  (T : Top p loose mean mg mb G) (X : (hd.heap_1 w.params).In G) (N : News G L s.heap (spec ++ d.led)) (ap : Apart spec d.led) (K : d.Ok w) (hc : d.c1 = L + 1)
  (h : ∀ h' tk, Fr G L h' (fun y => if y = Str.ofString "turn" then v1 else if y = Str.ofString "kind" then v2 else if y = Str.ofString "is_right" then some (.bool true) else if y = Str.ofString "world" then some (.ref d.aw) else if y = Str.ofString "feed" then some (.ref d.feed) else if y = Str.ofString "script" then v3 else none) →
    News G L h' (spec ++ d.led) → Q .next { s with heap := h', toks := tk }) :
  wpAny (model PySem.Challenge.rw_pq0169_01.row.prog w) (lawA (envOfC (Str.ofString "law") scope L fa cd)) (exec tl (envOfC (Str.ofString "law") scope L fa cd)) Q E s := by
  cases hT
  revert X
  k_fill
  intro X
  have m1 : (L + 1, d.o1) ∈ spec ++ d.led := List.mem_append_right _ (List.mem_append_left _ (core_mem 14 (n := 20) rfl (by decide) (by rw [← hc]; rfl)))
  have q1 := K.q1
  refine ex1_1 (⟨_, rfl⟩ : ∃ b, b = spec ++ d.led) ?_; intro led hled
  rw [← hled] at N m1
  k_steps
  subst hled
  refine stands_step rfl (by (exact Nat.le_of_ble_eq_true rfl)) (by (exact Nat.le_of_ble_eq_true rfl)) (by k_asm) T X (by k_asm) ap K ?_
  intro h' tk' F' N'
  k_steps
  exact h _ _ (by k_asm) (by k_asm)
end

section
variable {prog : Program} {w : World}
theorem strKind_val {k : Str} {v : Value} (h : (PySem.strKind prog w).is k v = true) : ∃ t, v = .str k t := by
  cases v <;> simp [PySem.strKind, Value.isStrOf] at h
  rename_i x t
  exact ⟨t, by rw [h]⟩
theorem intKind_val {k : Int} {v : Value} (h : (PySem.intKind prog w).is k v = true) : ∃ t, v = .int k t := by
  cases v <;> simp [PySem.intKind, Value.isInt] at h
  rename_i x t
  exact ⟨t, by rw [h]⟩
end
section
variable {core core' rest rest' spec : List (Addr × Obj)} {b : Nat}
theorem mem_fresh (o : Obj) (J : List Nat) (n : Nat) (hn : core.length = n) (hJ : ∀ i ∈ J, i < n + 1) (he : adrs core' = adrs (pick (core ++ [(b, o)]) J)) {a : Nat} (ha : a ∈ adrs core') : a ∈ adrs core ∨ a = b := by
  rw [he] at ha
  refine ex1_2 (List.mem_map.mp ha) ?_; intro q hq e
  rcases List.mem_append.mp (pick_mem (n := n + 1) (by rw [List.length_append, hn]; rfl) hJ q hq) with h | h
  · exact .inl (List.mem_map.mpr ⟨q, h, e⟩)
  · rw [List.mem_singleton.mp h] at e
    exact .inr e.symm
theorem nd_fresh (nd : (adrs core).Nodup) (hb : ¬ b ∈ adrs core) (o : Obj) (J : List Nat) (n : Nat) (hn : core.length = n) (hJ : J.Nodup) (hJ' : ∀ i ∈ J, i < n + 1) (he : adrs core' = adrs (pick (core ++ [(b, o)]) J)) : (adrs core').Nodup := by
  rw [he]
  refine nd_pick ?_ J (n + 1) (by rw [List.length_append, hn]; rfl) hJ hJ'
  unfold adrs
  rw [List.map_append, List.nodup_append]
  refine ⟨nd, by simp, ?_⟩
  intro a ha c hc e
  have hc' : c = b := by simpa using hc
  rw [e, hc'] at ha
  exact hb ha
theorem off1_mem {D : Addr} : ∀ {l : List (Addr × Obj)}, LCg.Off1 D l → ∀ p ∈ l, p.1 ≠ D
  | [], _, _, h => nomatch h
  | _ :: _, x, p, h => by
    refine mcons h ?_ fun h => ?_
    · exact x.1
    · exact off1_mem x.2 p h
theorem bne_str (k nm : Str) : (k != nm) = decide (k ≠ nm) := by
  by_cases e : k = nm
  · subst e; simp
  · simp [e, bne]
end
section
variable {w : World} {G : Heap} {L fa : Addr} {cd : Value} {p : Program} {loose : List Str} {mean : ExcName → Option Value} {mg mb : Str → Option Value}
  {E : Value → Shared → Prop} {s : Shared} {bd b4 b5 : List Stmt} {tl : Stmt} {scope : Scope}
end
def P_law_k6 (w : World) (G : Heap) (L fa : Addr) (cd : Value) (p : Program) (loose : List Str) (mean : ExcName → Option Value) (mg mb : Str → Option Value) (E : Value → Shared → Prop) (s : Shared) (d : LD) (ns : List Int) (spec : List (Addr × Obj)) (v1 v2 v3 v4 : Option Value) (Q : Flow → Shared → Prop) : Prop := ∀ {bd : List Stmt} {b4 : List Stmt} {b5 : List Stmt} {tl : Stmt} {scope : Scope} (hT : turnParts PySem.Challenge.pw_pq0169_01 = some (scope, bd, b4, b5, tl)) (F : Fr G L s.heap (fun y => if y = Str.ofString "turn" then v1 else if y = Str.ofString "kind" then v2 else if y = Str.ofString "is_right" then v4 else if y = Str.ofString "world" then some (.ref d.aw) else if y = Str.ofString "feed" then some (.ref d.feed) else if y = Str.ofString "script" then v3 else none)) (T : Top p loose mean mg mb G) (X : (hd.heap_1 w.params).In G) (N : News G L s.heap (spec ++ d.led)) (ap : Apart spec d.led) (K : d.Ok w) (hc1 : d.c1 = L + 1) (hc3 : d.c3 = L + 1 + 1 + 1) (hi : IntsAre d.vs ns) (hvl : d.vs.length ≤ 100) (h1 : d.turn ≤ 9000) (h : ∀ h' tk d', Fr G L h' (fun y => if y = Str.ofString "turn" then v1 else if y = Str.ofString "kind" then v2 else if y = Str.ofString "is_right" then v4 else if y = Str.ofString "world" then some (.ref d.aw) else if y = Str.ofString "feed" then some (.ref d.feed) else if y = Str.ofString "script" then v3 else none) →
    News G L h' (spec ++ d'.led) → Apart spec d'.led → d'.Ok w → d.Same d' → d.turn ≤ d'.turn → d'.turn ≤ d.turn + 10 → Q .next { s with heap := h', toks := tk }), wpAny (model PySem.Challenge.rw_pq0169_01.row.prog w) (lawA (envOfC (Str.ofString "law") scope L fa cd)) (execs b4 (envOfC (Str.ofString "law") scope L fa cd)) Q E s
def U_law_k6 (c : (World) × (Heap) × (Addr) × (Addr) × (Value) × (Program) × (List Str) × (ExcName → Option Value) × (Str → Option Value) × (Str → Option Value) × (Value → Shared → Prop) × (Shared) × (LD) × (List Int) × (List (Addr × Obj)) × (Option Value) × (Option Value) × (Option Value) × (Option Value) × (Flow → Shared → Prop)) : Prop := P_law_k6 c.1 c.2.1 c.2.2.1 c.2.2.2.1 c.2.2.2.2.1 c.2.2.2.2.2.1 c.2.2.2.2.2.2.1 c.2.2.2.2.2.2.2.1 c.2.2.2.2.2.2.2.2.1 c.2.2.2.2.2.2.2.2.2.1 c.2.2.2.2.2.2.2.2.2.2.1 c.2.2.2.2.2.2.2.2.2.2.2.1 c.2.2.2.2.2.2.2.2.2.2.2.2.1 c.2.2.2.2.2.2.2.2.2.2.2.2.2.1 c.2.2.2.2.2.2.2.2.2.2.2.2.2.2.1 c.2.2.2.2.2.2.2.2.2.2.2.2.2.2.2.1 c.2.2.2.2.2.2.2.2.2.2.2.2.2.2.2.2.1 c.2.2.2.2.2.2.2.2.2.2.2.2.2.2.2.2.2.1 c.2.2.2.2.2.2.2.2.2.2.2.2.2.2.2.2.2.2.1 c.2.2.2.2.2.2.2.2.2.2.2.2.2.2.2.2.2.2.2
/- the letters at which it would fail, if there are such -/
noncomputable def K_law_k6 : (World) × (Heap) × (Addr) × (Addr) × (Value) × (Program) × (List Str) × (ExcName → Option Value) × (Str → Option Value) × (Str → Option Value) × (Value → Shared → Prop) × (Shared) × (LD) × (List Int) × (List (Addr × Obj)) × (Option Value) × (Option Value) × (Option Value) × (Option Value) × (Flow → Shared → Prop) := @Classical.epsilon _ (neP ⟨aWorld 0⟩ (neP ⟨default⟩ (neP ⟨default⟩ (neP ⟨default⟩ (neP ⟨default⟩ (neP ⟨default⟩ (neP ⟨default⟩ (neP ⟨default⟩ (neP ⟨default⟩ (neP ⟨default⟩ (neP ⟨default⟩ (neP neS (neP neLD (neP ⟨default⟩ (neP ⟨default⟩ (neP ⟨default⟩ (neP ⟨default⟩ (neP ⟨default⟩ (neP ⟨default⟩ ⟨default⟩))))))))))))))))))) fun c => ¬ U_law_k6 c
namespace E_law_k6
noncomputable def w : World := K_law_k6.1
noncomputable def G : Heap := K_law_k6.2.1
noncomputable def L : Addr := K_law_k6.2.2.1
noncomputable def fa : Addr := K_law_k6.2.2.2.1
noncomputable def cd : Value := K_law_k6.2.2.2.2.1
noncomputable def p : Program := K_law_k6.2.2.2.2.2.1
noncomputable def loose : List Str := K_law_k6.2.2.2.2.2.2.1
noncomputable def mean : ExcName → Option Value := K_law_k6.2.2.2.2.2.2.2.1
noncomputable def mg : Str → Option Value := K_law_k6.2.2.2.2.2.2.2.2.1
noncomputable def mb : Str → Option Value := K_law_k6.2.2.2.2.2.2.2.2.2.1
noncomputable def E : Value → Shared → Prop := K_law_k6.2.2.2.2.2.2.2.2.2.2.1
noncomputable def s : Shared := K_law_k6.2.2.2.2.2.2.2.2.2.2.2.1
noncomputable def d : LD := K_law_k6.2.2.2.2.2.2.2.2.2.2.2.2.1
noncomputable def ns : List Int := K_law_k6.2.2.2.2.2.2.2.2.2.2.2.2.2.1
noncomputable def spec : List (Addr × Obj) := K_law_k6.2.2.2.2.2.2.2.2.2.2.2.2.2.2.1
noncomputable def v1 : Option Value := K_law_k6.2.2.2.2.2.2.2.2.2.2.2.2.2.2.2.1
noncomputable def v2 : Option Value := K_law_k6.2.2.2.2.2.2.2.2.2.2.2.2.2.2.2.2.1
noncomputable def v3 : Option Value := K_law_k6.2.2.2.2.2.2.2.2.2.2.2.2.2.2.2.2.2.1
noncomputable def v4 : Option Value := K_law_k6.2.2.2.2.2.2.2.2.2.2.2.2.2.2.2.2.2.2.1
noncomputable def Q : Flow → Shared → Prop := K_law_k6.2.2.2.2.2.2.2.2.2.2.2.2.2.2.2.2.2.2.2
theorem go : P_law_k6 w G L fa cd p loose mean mg mb E s d ns spec v1 v2 v3 v4 Q := by
  intro bd b4 b5 tl scope hT F T X N ap K hc1 hc3 hi hvl h1 h
  cases hT
  refine ex2_5 (K.W.ex) ?_; intro esw nw w1 w2 w3 w4 w5
  revert X
  k_fill
  intro X
  have offR := off_spec ap K.off
  have ndA : @List.Nodup Nat [d.feed, d.cells, d.c3, d.afl, d.c1, d.tw, d.pl] := nd_pick K.nd [0, 1, 16, 4, 14, 7, 8] 20 rfl (by decide) (by decide)
  refine ex1_1 (⟨_, rfl⟩ : ∃ b, b = pick d.core [2, 3, 5, 6, 9, 10, 11, 12, 13, 15, 17, 18, 19] ++ (spec ++ d.rest)) ?_; intro tl htl
  have N1 : News G L s.heap ((d.feed, listOf #[.ref d.cells, .int d.turn d.tt] d.nF) :: (d.cells, listOf d.vs.toArray d.nC) :: (L + 1 + 1 + 1, d.o3) :: (d.afl, d.ofl) :: (L + 1, d.o1) :: (d.tw, d.otw) :: (d.pl, d.opl) :: tl) := by
    rw [← hc3, ← hc1, htl]
    exact news_out (core := d.core) (rest := spec ++ d.rest) (spec_out N) [0, 1, 16, 4, 14, 7, 8] [2, 3, 5, 6, 9, 10, 11, 12, 13, 15, 17, 18, 19] 20 rfl (by decide) (by decide)
  have f1 : ∀ p ∈ tl, p.1 ≠ d.feed := htl ▸ off_one K.nd offR 0 _ 20 rfl (by decide) (by decide)
  have f2 : ∀ p ∈ tl, p.1 ≠ L + 1 + 1 + 1 := by rw [← hc3]; exact htl ▸ off_one K.nd offR 16 _ 20 rfl (by decide) (by decide)
  have f3 : ∀ p ∈ tl, p.1 ≠ d.afl := htl ▸ off_one K.nd offR 4 _ 20 rfl (by decide) (by decide)
  have f4 : ∀ p ∈ tl, p.1 ≠ d.tw := htl ▸ off_one K.nd offR 7 _ 20 rfl (by decide) (by decide)
  rw [hc1, hc3] at ndA
  simp only [List.nodup_cons, List.mem_cons, List.not_mem_nil, or_false, not_or, not_false_eq_true, List.nodup_nil, and_true] at ndA
  refine ex0_6 ndA ?_; intro N_1 N_2 N_3 N_4 N_5 n21
  try clear ndA
  refine ex0_6 N_1 ?_; intro n1 n2 n3 n4 n5 n6
  try clear N_1
  refine ex0_5 N_2 ?_; intro n7 n8 n9 n10 n11
  try clear N_2
  refine ex0_4 N_3 ?_; intro n12 n13 n14 n15
  try clear N_3
  refine ex0_3 N_4 ?_; intro n16 n17 n18
  try clear N_4
  refine ex0_2 N_5 ?_; intro n19 n20
  try clear N_5
  have hsub : ∀ q ∈ d.rest, q ∈ tl := by rw [htl]; exact fun q hq => List.mem_append_right _ (List.mem_append_right _ hq)
  have WT := K.W.sub hsub
  refine ex1_1 (K.q3) ?_; intro v9 q3
  have q1 := K.q1
  have dt := K.dtw
  have dp := K.dpl
  have df := K.dfl
  have vt1 := K.vt1
  have lo3 := K.lo3
  have lo4 := K.lo4
  have ht0 := K.t0
  have hz5 := LD.z5 K
  have hzp : d.kvp.length ≤ 5 := by rw [K.f6.length]; exact hz5
  have hzf : d.kvf.length ≤ 5 := by rw [K.f5.length]; exact hz5
  k_steps
  ((refine' next_any rfl ?a_234 ?b_234 ?F_234 ?T_234 ?X_234 ?N_234 ?nd1_234 ?nd2_234 (by assumption) (by assumption) ?h0_234 ?h1_234 (by first | decide | (simp only [List.size_toArray]; first | assumption | omega)) (by first | decide | (simp only [List.size_toArray]; first | assumption | omega)) ?_; (case a_234 => (exact Nat.le_of_ble_eq_true rfl)); (case b_234 => (exact Nat.le_of_ble_eq_true rfl)); (case F_234 => k_asm); (case T_234 => k_asm); (case X_234 => k_asm); (case N_234 => k_asm); (case nd1_234 => first | assumption | k_ne); (case nd2_234 => first | assumption | k_all); (case h0_234 => first | assumption | omega); (case h1_234 => first | assumption | omega)))
  intro h2 tk2 r t2 t2' hr0 hr1 F2 N2
  k_steps
  rename_i kxi tn kn an h3 o3 F3 N3 dq3
  clear kxi an
  generalize Txt.item (Str.ofString "PQRST") r ++ Str.ofString "$" = nm at dq3 ⊢
  refine nofield_ok rfl (by (exact Nat.le_of_ble_eq_true rfl)) (by (exact Nat.le_of_ble_eq_true rfl)) F3 T X (news_sub N3 (nl' := (d.afl, d.ofl) :: (d.tw, d.otw) :: (d.pl, d.opl) :: (L + 1, d.o1) :: (L + 1 + 1 + 1, o3) :: (d.feed, listOf #[.ref d.cells, .int (d.turn + 1) t2'] d.nF) :: (d.cells, listOf d.vs.toArray d.nC) :: tl) (by ((repeat (first | exact List.forall_mem_nil _ | refine List.forall_mem_cons.mpr ⟨by k_mem, ?_⟩ | (intro p' hp'; k_mem)))))) (by k_all) (WT.sub fun q hq => by simp [hq]) df lo3 (by omega) ?_
  intro h4 tk4 ofl' F4 N4 df'
  (try clear N3); (try clear F3)
  refine ex1_1 (⟨_, rfl⟩ : ∃ b, b = (L + 1, d.o1) :: (L + 1 + 1 + 1, o3) :: (d.feed, listOf #[.ref d.cells, .int (d.turn + 1) t2'] d.nF) :: (d.cells, listOf d.vs.toArray d.nC) :: (d.afl, ofl') :: tl) ?_; intro base hbase
  have NB := news_sub N4 (nl' := (d.tw, d.otw) :: (d.pl, d.opl) :: base) (by rw [hbase]; ((repeat (first | exact List.forall_mem_nil _ | refine List.forall_mem_cons.mpr ⟨by k_mem, ?_⟩ | (intro p' hp'; k_mem)))))
  have b1 : (L + 1, d.o1) ∈ base := by rw [hbase]; exact .head _
  have b3 : (L + 1 + 1 + 1, o3) ∈ base := by rw [hbase]; exact .tail _ (.head _)
  have ba : ∀ q ∈ base, q.1 ≠ d.tw := by rw [hbase]; k_all
  clear N4
  dsimp only
  (repeat ((fail_if_success (with_reducible show wpAny _ _ (eval (Expr.ListComp _ _ _ _) _) _ _ _)); first | (k_unfold; (try dsimp only)) | walk1 | (dsimp only; walk1) | (leave1; try dsimp only)))
  refine comp_keys (knd := PySem.strKind _ _) (led := (d.tw, d.otw) :: (d.pl, d.opl) :: base) (kvs := d.kvp) (d := d.pl) (od := d.opl) (fun q => decide (q.1 ≠ nm)) (by k_asm) (.tail _ (.head _)) dp (by unfold sizeLine; omega) lo4 rfl (by rfl) (by decide) (by rfl) (by decide) (by rfl) ?_
  k_steps
  refine ⟨rfl, by k_asm, by k_asm, ?_, ?_⟩
  · intro k v0 key hm hv hkey I oI C oC D oD ext m₂ h5 tk5 E5 hC hx F5 N5 off ne
    refine ex1_1 (strKind_val hkey) ?_; intro tkey E_6
    subst E_6
    refine ex1_1 (⟨_, rfl⟩ : ∃ b, b = ext ++ (d.tw, d.otw) :: (d.pl, d.opl) :: base) ?_; intro l2 hl2
    rw [← hl2] at N5 off
    have c1 : (L + 1, d.o1) ∈ l2 := by rw [hl2]; exact List.mem_append_right _ (.tail _ (.tail _ b1))
    have c3 : (L + 1 + 1 + 1, o3) ∈ l2 := by rw [hl2]; exact List.mem_append_right _ (.tail _ (.tail _ b3))
    have ct : (d.tw, d.otw) ∈ l2 := by rw [hl2]; exact List.mem_append_right _ (.head _)
    have cp : (d.pl, d.opl) ∈ l2 := by rw [hl2]; exact List.mem_append_right _ (.tail _ (.head _))
    k_steps
    refine ⟨bne_str k nm, ?_⟩
    dsimp only
    by_cases hkn : k ≠ nm
    · rw [if_pos (decide_eq_true hkn)]
      k_steps
      rename_i T9 h9 F9 N9 l9
      refine ex0_4 l9 ?_; intro x1 x2 x3 x0
      try clear l9
      have x4 := PySem.W.tb_ltOf x0
      subst hl2
      refine in5_6 T9 (.str k tkey) 0 h9 _ rfl rfl F9 N9 hkey ?_
      intro q hq
      refine mcons hq ?_ fun hq => ?_
      · exact x1
      refine mcons hq ?_ fun hq => ?_
      · exact x2
      refine mcons hq ?_ fun hq => ?_
      · exact x3
      · exact x4 q hq
    · subst hl2
      rw [if_neg (by simpa using hkn)]
      exact ⟨_, _, rfl, by k_asm, by k_asm⟩
  · intro D h5 tk5 ys ext F5 N5 off P lx
    refine ex1_1 (⟨_, rfl⟩ : ∃ b, b = (D, LCg.lst ys) :: (ext ++ base)) ?_; intro l3 hl3
    (repeat ((fail_if_success (with_reducible show wpAny _ _ (call (Value.type "dict") _) _ _ _)); first | (k_unfold; (try dsimp only)) | walk1 | (dsimp only; walk1) | (leave1; try dsimp only)))
    refine call_dict_led (l := D) (vs := ys) rfl T (by k_asm) (by k_asm) (.head _) (P.sub fun q hq => .tail _ (List.mem_append_left _ hq)) (by
      refine ex2_5 (K.dpl) ?_; intro _ _ _ _ _ _ hn
      exact hn.sublist (List.filter_sublist.map _)) (Nat.le_trans (List.length_filter_le _ _) (Nat.le_trans hzp (by decide))) ?_
    intro h6 tk6 D2 o2 F6 N6 l6 lo6 d6
    have e3 : ∀ q ∈ l3, q.1 ≠ d.tw := by
      rw [hl3]
      intro q hq
      refine mcons hq ?_ fun hq => ?_
      · exact Ne.symm (off1_mem off (d.tw, d.otw) (List.mem_append_right _ (.head _)))
      rcases List.mem_append.mp hq with hq | hq
      · exact Nat.ne_of_gt (lx q hq (d.tw, d.otw) (.head _))
      · exact ba q hq
    have g1 : (L + 1, d.o1) ∈ l3 := by rw [hl3]; exact .tail _ (List.mem_append_right _ b1)
    have n22 : @Ne Nat D2 d.tw := Nat.ne_of_gt (l6 (d.tw, d.otw) (.tail _ (List.mem_append_right _ (.head _))))
    have N7 := news_sub N6 (nl' := (d.tw, d.otw) :: (D2, o2) :: (d.pl, d.opl) :: l3) (by
      rw [hl3]
      k_offL)
    clear N6
    have hzt : d.kvt.length ≤ 10 := K.zt
    k_steps
    rename_i h9 o9 F9 N9 d9
    have N10 := news_sub N9 (nl' := (d.tw, o9) :: (D2, o2) :: (d.c1, d.o1) :: (d.c3, o3) :: (d.feed, listOf #[.ref d.cells, .int (d.turn + 1) t2'] d.nF) :: (d.cells, listOf d.vs.toArray d.nC) :: (d.afl, ofl') :: (pick d.core [2, 3, 5, 6, 9, 10, 11, 12, 13, 15, 17, 18, 19] ++ (spec ++ d.rest))) (by
      rw [hc1, hc3, hl3, hbase, ← htl]
      k_offL)
    have bas : ∀ q ∈ base, @LT.lt Nat _ q.1 D2 := fun q hq => l6 q (.tail _ (List.mem_append_right _ (.tail _ (.tail _ hq))))
    have tb : ∀ q ∈ tl, q ∈ base := by rw [hbase]; exact fun q hq => .tail _ (.tail _ (.tail _ (.tail _ (.tail _ hq))))
    have big : ∀ q ∈ tl, @LT.lt Nat _ q.1 D2 := fun q hq => bas q (tb q hq)
    have cov : ∀ q ∈ d.core, @LT.lt Nat _ q.1 D2 := by
      intro q hq
      have hp := pick_all (I := [7, 8, 14, 16, 0, 1, 4] ++ [2, 3, 5, 6, 9, 10, 11, 12, 13, 15, 17, 18, 19]) (n := 20) rfl (by decide) q hq
      unfold pick at hp
      rw [List.map_append] at hp
      rcases List.mem_append.mp hp with h | h
      · refine mcons h ?_ fun h => ?_
        · exact l6 (d.tw, d.otw) (.tail _ (List.mem_append_right _ (.head _)))
        refine mcons h ?_ fun h => ?_
        · exact l6 (d.pl, d.opl) (.tail _ (List.mem_append_right _ (.tail _ (.head _))))
        refine mcons h ?_ fun h => ?_
        · show @LT.lt Nat _ d.c1 D2
          rw [hc1]; exact bas _ b1
        refine mcons h ?_ fun h => ?_
        · show @LT.lt Nat _ d.c3 D2
          rw [hc3]; exact bas _ b3
        refine mcons h ?_ fun h => ?_
        · exact bas (d.feed, listOf #[.ref d.cells, .int (d.turn + 1) t2'] d.nF) (by rw [hbase]; simp)
        refine mcons h ?_ fun h => ?_
        · exact bas (d.cells, listOf d.vs.toArray d.nC) (by rw [hbase]; simp)
        rw [List.mem_singleton.mp h]
        exact bas (d.afl, ofl') (by rw [hbase]; simp)
      · exact big q (by rw [htl]; exact List.mem_append_left _ h)
    have hfr : ¬ (D2 : Nat) ∈ adrs d.core := fun hc => by
      refine ex1_2 (List.mem_map.mp hc) ?_; intro q hq e
      exact absurd e (Nat.ne_of_lt (cov q hq))
    refine h h9 _ { d with turn := d.turn + 1, tt := t2', ofl := ofl', kvf := without d.kvf nm, fl := dropN d.fl nm, otw := o9, kvt := stored d.kvt (Str.ofString "places") (.ref D2), pl := D2, opl := o2, kvp := d.kvp.filter fun q => decide (q.1 ≠ nm), o3 := o3 } F9 ?_ ?_ ?_ ⟨rfl, rfl, rfl, rfl, rfl, rfl, rfl, rfl⟩ (by show d.turn ≤ d.turn + 1; omega) (by show d.turn + 1 ≤ d.turn + 10; omega)
    · exact spec_in (news_in (AE := [(d.tw, o9), (D2, o2), (d.c1, d.o1), (d.c3, o3), (d.feed, listOf #[.ref d.cells, .int (d.turn + 1) t2'] d.nF), (d.cells, listOf d.vs.toArray d.nC), (d.afl, ofl')]) (BE := pick d.core [2, 3, 5, 6, 9, 10, 11, 12, 13, 15, 17, 18, 19]) (ext := []) (rest := spec ++ d.rest) N10 [4, 5, 7, 8, 6, 9, 10, 0, 1, 11, 12, 13, 14, 15, 2, 16, 3, 17, 18, 19] 20 rfl (by decide) rfl)
    · intro q hq q' hq' e
      rcases List.mem_append.mp hq' with hq' | hq'
      · have hq1 := (List.mem_map.mpr ⟨q', hq', rfl⟩ : q'.1 ∈ adrs _)
        rcases mem_fresh (core := d.core) (b := D2) dO.2 [0, 1, 2, 3, 4, 5, 6, 7, 20, 9, 10, 11, 12, 13, 14, 15, 16, 17, 18, 19] 20 rfl (by decide) rfl hq1 with h | h
        · refine ex1_2 (List.mem_map.mp h) ?_; intro q2 hq2 e2
          exact ap q hq q2 (List.mem_append_left _ hq2) (e.trans e2.symm)
        · exact absurd (e.trans h) (Nat.ne_of_lt (big q (by rw [htl]; exact List.mem_append_right _ (List.mem_append_left _ hq))))
      · exact ap q hq q' (List.mem_append_right _ hq') e
    · exact { K with
        nd := nd_fresh K.nd hfr dO.2 [0, 1, 2, 3, 4, 5, 6, 7, 20, 9, 10, 11, 12, 13, 14, 15, 16, 17, 18, 19] 20 rfl (by decide) (by decide) rfl
        off := fun q hq hc => by
          rcases mem_fresh (core := d.core) (b := D2) dO.2 [0, 1, 2, 3, 4, 5, 6, 7, 20, 9, 10, 11, 12, 13, 14, 15, 16, 17, 18, 19] 20 rfl (by decide) rfl hc with h | h
          · exact K.off q hq h
          · exact absurd h (Nat.ne_of_lt (big q (hsub q hq)))
        lo4 := lo6
        dfl := df'
        dtw := d9
        dpl := d6
        zt := by show (stored _ _ _).length ≤ 10; rw [stored_len K.vt1]; exact K.zt
        vt1 := by show valueAt (stored _ _ _) _ = _; rw [valueAt_stored, if_pos rfl]
        vt2 := by show valueAt (stored _ _ _) _ = _; rw [valueAt_stored, if_neg (by decide)]; exact K.vt2
        vt3 := by show valueAt (stored _ _ _) _ = _; rw [valueAt_stored, if_neg (by decide)]; exact K.vt3
        vt4 := by show valueAt (stored _ _ _) _ = _; rw [valueAt_stored, if_neg (by decide)]; exact K.vt4
        f5 := K.f5.drop nm
        f6 := Rel.filter (fun z => decide (z ≠ nm)) K.f6
        fnd := K.fnd.sublist (List.filter_sublist.map _)
        fnm := fun q hq => K.fnm q (List.mem_filter.mp hq).1
        fb := fun q hq => K.fb q (List.mem_filter.mp hq).1
        t0 := by show 0 ≤ d.turn + 1; omega
        q1 := K.q1
        q3 := ⟨_, dq3⟩ }
end E_law_k6
theorem law_k6 {w : World} {G : Heap} {L fa : Addr} {cd : Value} {p : Program} {loose : List Str} {mean : ExcName → Option Value} {mg mb : Str → Option Value} {E : Value → Shared → Prop} {s : Shared} {d : LD} {ns : List Int} {spec : List (Addr × Obj)} {v1 v2 v3 v4 : Option Value} {Q : Flow → Shared → Prop} : P_law_k6 w G L fa cd p loose mean mg mb E s d ns spec v1 v2 v3 v4 Q := eps_all (Ψ := U_law_k6) E_law_k6.go (w, G, L, fa, cd, p, loose, mean, mg, mb, E, s, d, ns, spec, v1, v2, v3, v4, Q)
section
variable {w : World} {G : Heap} {L fa : Addr} {cd : Value} {p : Program} {loose : List Str} {mean : ExcName → Option Value} {mg mb : Str → Option Value}
  {E : Value → Shared → Prop} {s : Shared} {bd b4 b5 : List Stmt} {tl : Stmt} {scope : Scope}
end

theorem bne_int (k c : Int) : (k != c) = decide (k ≠ c) := by
  by_cases e : k = c
  · subst e; simp
  · simp [e]
/- does the field of a name lie on another channel -/
def keepF (fl : List (Str × Fld)) (c : Int) (n : Str) : Bool := match look fl n with
  | some x => decide (x.1 ≠ c)
  | none => false
theorem keepF_filter {fl : List (Str × Fld)} {c : Int} (hn : (fl.map (·.1)).Nodup) : fl.filter (fun p => keepF fl c p.1) = fl.filter fun p => decide (p.2.1 ≠ c) := by
  refine List.filter_congr fun p hp => ?_
  refine ex1_1 (look_some hp) ?_; intro x hx
  have : p = (p.1, x) := look_uniq hn hp (look_mem hx) rfl
  unfold keepF
  rw [hx]
  show decide (x.1 ≠ c) = decide (p.2.1 ≠ c)
  rw [show p.2 = x from congrArg Prod.snd this]
section
variable {w : World} {G : Heap} {L fa : Addr} {cd : Value} {p : Program} {loose : List Str} {mean : ExcName → Option Value} {mg mb : Str → Option Value}
  {E : Value → Shared → Prop} {s : Shared} {bd b4 b5 : List Stmt} {tl : Stmt} {scope : Scope}
end
def P_law_k7 (w : World) (G : Heap) (L fa : Addr) (cd : Value) (p : Program) (loose : List Str) (mean : ExcName → Option Value) (mg mb : Str → Option Value) (E : Value → Shared → Prop) (s : Shared) (d : LD) (tc : Tok) (spec : List (Addr × Obj)) (v1 v2 v3 v4 : Option Value) (Q : Flow → Shared → Prop) : Prop := ∀ {bd : List Stmt} {b4 : List Stmt} {b5 : List Stmt} {tl : Stmt} {scope : Scope} (hT : turnParts PySem.Challenge.pw_pq0169_01 = some (scope, bd, b4, b5, tl)) (F : Fr G L s.heap (fun y => if y = Str.ofString "turn" then v1 else if y = Str.ofString "kind" then v2 else if y = Str.ofString "is_right" then v4 else if y = Str.ofString "world" then some (.ref d.aw) else if y = Str.ofString "feed" then some (.ref d.feed) else if y = Str.ofString "script" then v3 else none)) (T : Top p loose mean mg mb G) (X : (hd.heap_1 w.params).In G) (N : News G L s.heap (spec ++ d.led)) (ap : Apart spec d.led) (K : d.Ok w) (hc1 : d.c1 = L + 1) (hc2 : d.c2 = L + 1 + 1) (q2 : d.o2.data = .cell (some (.int d.x.c tc))) (h : ∀ h' tk d', Fr G L h' (fun y => if y = Str.ofString "turn" then v1 else if y = Str.ofString "kind" then v2 else if y = Str.ofString "is_right" then v4 else if y = Str.ofString "world" then some (.ref d.aw) else if y = Str.ofString "feed" then some (.ref d.feed) else if y = Str.ofString "script" then v3 else none) →
    News G L h' (spec ++ d'.led) → Apart spec d'.led → d'.Ok w → d.Same d' → d.turn ≤ d'.turn → d'.turn ≤ d.turn + 10 → Q .next { s with heap := h', toks := tk }), wpAny (model PySem.Challenge.rw_pq0169_01.row.prog w) (lawA (envOfC (Str.ofString "law") scope L fa cd)) (execs b5 (envOfC (Str.ofString "law") scope L fa cd)) Q E s
def U_law_k7 (c : (World) × (Heap) × (Addr) × (Addr) × (Value) × (Program) × (List Str) × (ExcName → Option Value) × (Str → Option Value) × (Str → Option Value) × (Value → Shared → Prop) × (Shared) × (LD) × (Tok) × (List (Addr × Obj)) × (Option Value) × (Option Value) × (Option Value) × (Option Value) × (Flow → Shared → Prop)) : Prop := P_law_k7 c.1 c.2.1 c.2.2.1 c.2.2.2.1 c.2.2.2.2.1 c.2.2.2.2.2.1 c.2.2.2.2.2.2.1 c.2.2.2.2.2.2.2.1 c.2.2.2.2.2.2.2.2.1 c.2.2.2.2.2.2.2.2.2.1 c.2.2.2.2.2.2.2.2.2.2.1 c.2.2.2.2.2.2.2.2.2.2.2.1 c.2.2.2.2.2.2.2.2.2.2.2.2.1 c.2.2.2.2.2.2.2.2.2.2.2.2.2.1 c.2.2.2.2.2.2.2.2.2.2.2.2.2.2.1 c.2.2.2.2.2.2.2.2.2.2.2.2.2.2.2.1 c.2.2.2.2.2.2.2.2.2.2.2.2.2.2.2.2.1 c.2.2.2.2.2.2.2.2.2.2.2.2.2.2.2.2.2.1 c.2.2.2.2.2.2.2.2.2.2.2.2.2.2.2.2.2.2.1 c.2.2.2.2.2.2.2.2.2.2.2.2.2.2.2.2.2.2.2
/- the letters at which it would fail, if there are such -/
noncomputable def K_law_k7 : (World) × (Heap) × (Addr) × (Addr) × (Value) × (Program) × (List Str) × (ExcName → Option Value) × (Str → Option Value) × (Str → Option Value) × (Value → Shared → Prop) × (Shared) × (LD) × (Tok) × (List (Addr × Obj)) × (Option Value) × (Option Value) × (Option Value) × (Option Value) × (Flow → Shared → Prop) := @Classical.epsilon _ (neP ⟨aWorld 0⟩ (neP ⟨default⟩ (neP ⟨default⟩ (neP ⟨default⟩ (neP ⟨default⟩ (neP ⟨default⟩ (neP ⟨default⟩ (neP ⟨default⟩ (neP ⟨default⟩ (neP ⟨default⟩ (neP ⟨default⟩ (neP neS (neP neLD (neP ⟨default⟩ (neP ⟨default⟩ (neP ⟨default⟩ (neP ⟨default⟩ (neP ⟨default⟩ (neP ⟨default⟩ ⟨default⟩))))))))))))))))))) fun c => ¬ U_law_k7 c
namespace E_law_k7
noncomputable def w : World := K_law_k7.1
noncomputable def G : Heap := K_law_k7.2.1
noncomputable def L : Addr := K_law_k7.2.2.1
noncomputable def fa : Addr := K_law_k7.2.2.2.1
noncomputable def cd : Value := K_law_k7.2.2.2.2.1
noncomputable def p : Program := K_law_k7.2.2.2.2.2.1
noncomputable def loose : List Str := K_law_k7.2.2.2.2.2.2.1
noncomputable def mean : ExcName → Option Value := K_law_k7.2.2.2.2.2.2.2.1
noncomputable def mg : Str → Option Value := K_law_k7.2.2.2.2.2.2.2.2.1
noncomputable def mb : Str → Option Value := K_law_k7.2.2.2.2.2.2.2.2.2.1
noncomputable def E : Value → Shared → Prop := K_law_k7.2.2.2.2.2.2.2.2.2.2.1
noncomputable def s : Shared := K_law_k7.2.2.2.2.2.2.2.2.2.2.2.1
noncomputable def d : LD := K_law_k7.2.2.2.2.2.2.2.2.2.2.2.2.1
noncomputable def tc : Tok := K_law_k7.2.2.2.2.2.2.2.2.2.2.2.2.2.1
noncomputable def spec : List (Addr × Obj) := K_law_k7.2.2.2.2.2.2.2.2.2.2.2.2.2.2.1
noncomputable def v1 : Option Value := K_law_k7.2.2.2.2.2.2.2.2.2.2.2.2.2.2.2.1
noncomputable def v2 : Option Value := K_law_k7.2.2.2.2.2.2.2.2.2.2.2.2.2.2.2.2.1
noncomputable def v3 : Option Value := K_law_k7.2.2.2.2.2.2.2.2.2.2.2.2.2.2.2.2.2.1
noncomputable def v4 : Option Value := K_law_k7.2.2.2.2.2.2.2.2.2.2.2.2.2.2.2.2.2.2.1
noncomputable def Q : Flow → Shared → Prop := K_law_k7.2.2.2.2.2.2.2.2.2.2.2.2.2.2.2.2.2.2.2
theorem go : P_law_k7 w G L fa cd p loose mean mg mb E s d tc spec v1 v2 v3 v4 Q := by
  intro bd b4 b5 tl scope hT F T X N ap K hc1 hc2 q2 h
  cases hT
  refine ex2_5 (K.W.ex) ?_; intro esw nw w1 w2 w3 w4 w5
  revert X
  k_fill
  intro X
  have offR := off_spec ap K.off
  have ndA : @List.Nodup Nat [d.aop, d.afl, d.tw, d.c1, d.c2, d.pl, d.bu] := nd_pick K.nd [3, 4, 7, 14, 15, 8, 9] 20 rfl (by decide) (by decide)
  refine ex1_1 (⟨_, rfl⟩ : ∃ b, b = pick d.core [0, 1, 2, 5, 6, 10, 11, 12, 13, 16, 17, 18, 19] ++ (spec ++ d.rest)) ?_; intro tl htl
  have N1 : News G L s.heap ((d.aop, d.oo) :: (d.afl, d.ofl) :: (d.tw, d.otw) :: (L + 1, d.o1) :: (L + 1 + 1, d.o2) :: (d.pl, d.opl) :: (d.bu, d.obu) :: tl) := by
    rw [← hc2, ← hc1, htl]
    exact news_out (core := d.core) (rest := spec ++ d.rest) (spec_out N) [3, 4, 7, 14, 15, 8, 9] [0, 1, 2, 5, 6, 10, 11, 12, 13, 16, 17, 18, 19] 20 rfl (by decide) (by decide)
  have f1 : ∀ p ∈ tl, p.1 ≠ d.aop := htl ▸ off_one K.nd offR 3 _ 20 rfl (by decide) (by decide)
  have f3 : ∀ p ∈ tl, p.1 ≠ d.afl := htl ▸ off_one K.nd offR 4 _ 20 rfl (by decide) (by decide)
  have f4 : ∀ p ∈ tl, p.1 ≠ d.tw := htl ▸ off_one K.nd offR 7 _ 20 rfl (by decide) (by decide)
  rw [hc1, hc2] at ndA
  simp only [List.nodup_cons, List.mem_cons, List.not_mem_nil, or_false, not_or, not_false_eq_true, List.nodup_nil, and_true] at ndA
  refine ex0_6 ndA ?_; intro N_1 N_2 N_3 N_4 N_5 n21
  try clear ndA
  refine ex0_6 N_1 ?_; intro n1 n2 n3 n4 n5 n6
  try clear N_1
  refine ex0_5 N_2 ?_; intro n7 n8 n9 n10 n11
  try clear N_2
  refine ex0_4 N_3 ?_; intro n12 n13 n14 n15
  try clear N_3
  refine ex0_3 N_4 ?_; intro n16 n17 n18
  try clear N_4
  refine ex0_2 N_5 ?_; intro n19 n20
  try clear N_5
  have hsub : ∀ q ∈ d.rest, q ∈ tl := by rw [htl]; exact fun q hq => List.mem_append_right _ (List.mem_append_right _ hq)
  have WT := K.W.sub hsub
  have q1 := K.q1
  have dt := K.dtw
  have dp := K.dpl
  have db := K.dbu
  have vt1 := K.vt1
  have vt3 := K.vt3
  have lo3 := K.lo3
  have lo4 := K.lo4
  have lo5 := K.lo5
  have hz5 := LD.z5 K
  have hzp : d.kvp.length ≤ 5 := by rw [K.f6.length]; exact hz5
  have hzb : d.kvb.length ≤ 10 := K.zb
  have hzt : d.kvt.length ≤ 10 := K.zt
  k_steps
  refine close_ok rfl (by (exact Nat.le_of_ble_eq_true rfl)) (by (exact Nat.le_of_ble_eq_true rfl)) (by k_asm) T X (news_sub N1 (nl' := (d.aop, d.oo) :: (d.afl, d.ofl) :: (d.tw, d.otw) :: (L + 1, d.o1) :: (L + 1 + 1, d.o2) :: (d.pl, d.opl) :: (d.bu, d.obu) :: tl) (by ((repeat (first | exact List.forall_mem_nil _ | refine List.forall_mem_cons.mpr ⟨by k_mem, ?_⟩ | (intro p' hp'; k_mem)))))) (by k_all) (by k_all) (by k_ne) (WT.sub fun q hq => by simp [hq]) K.doo K.lo2 lo3 K.dfl (stt := d.rest) (fun q hq => by simp [hsub q hq]) K.f5 (by omega) K.zo ?_
  intro h4 tk4 oo' ofl' kvf' F4 N4 do' df' f5'
  refine ex1_1 (⟨_, rfl⟩ : ∃ b, b = (L + 1, d.o1) :: (L + 1 + 1, d.o2) :: (d.aop, oo') :: (d.afl, ofl') :: tl) ?_; intro base hbase
  have NB := news_sub N4 (nl' := (d.tw, d.otw) :: (d.pl, d.opl) :: (d.bu, d.obu) :: base) (by rw [hbase]; ((repeat (first | exact List.forall_mem_nil _ | refine List.forall_mem_cons.mpr ⟨by k_mem, ?_⟩ | (intro p' hp'; k_mem)))))
  have b1 : (L + 1, d.o1) ∈ base := by rw [hbase]; exact .head _
  have b2 : (L + 1 + 1, d.o2) ∈ base := by rw [hbase]; exact .tail _ (.head _)
  have ba : ∀ q ∈ base, q.1 ≠ d.tw := by rw [hbase]; k_all
  have tb : ∀ q ∈ tl, q ∈ base := by rw [hbase]; exact fun q hq => .tail _ (.tail _ (.tail _ (.tail _ hq)))
  clear N4
  (repeat ((fail_if_success (with_reducible show wpAny _ _ (eval (Expr.ListComp _ _ _ _) _) _ _ _)); first | (k_unfold; (try dsimp only)) | walk1 | (dsimp only; walk1) | (leave1; try dsimp only)))
  refine comp_keys (knd := PySem.intKind _ _) (led := (d.tw, d.otw) :: (d.pl, d.opl) :: (d.bu, d.obu) :: base) (kvs := d.kvb) (d := d.bu) (od := d.obu) (fun q => decide (q.1 ≠ d.x.c)) (by k_asm) (.tail _ (.tail _ (.head _))) db (by unfold sizeLine; omega) lo5 rfl (by rfl) (by decide) (by rfl) (by decide) (by rfl) ?_
  k_steps
  refine ⟨rfl, by k_asm, by k_asm, ?_, ?_⟩
  · intro k v0 key hm hv hkey I oI C oC D oD ext m₂ h5 tk5 E5 hC hx F5 N5 off ne
    refine ex1_1 (intKind_val hkey) ?_; intro tkey E_6
    subst E_6
    refine ex1_1 (⟨_, rfl⟩ : ∃ b, b = ext ++ (d.tw, d.otw) :: (d.pl, d.opl) :: (d.bu, d.obu) :: base) ?_; intro l2 hl2
    rw [← hl2] at N5 off
    have c1 : (L + 1, d.o1) ∈ l2 := by rw [hl2]; exact List.mem_append_right _ (.tail _ (.tail _ (.tail _ b1)))
    have c2 : (L + 1 + 1, d.o2) ∈ l2 := by rw [hl2]; exact List.mem_append_right _ (.tail _ (.tail _ (.tail _ b2)))
    have ct : (d.tw, d.otw) ∈ l2 := by rw [hl2]; exact List.mem_append_right _ (.head _)
    have cb : (d.bu, d.obu) ∈ l2 := by rw [hl2]; exact List.mem_append_right _ (.tail _ (.tail _ (.head _)))
    k_steps
    refine ⟨bne_int k d.x.c, ?_⟩
    dsimp only
    by_cases hkn : k ≠ d.x.c
    · rw [if_pos (decide_eq_true hkn)]
      k_steps
      rename_i T9 h9 F9 N9 l9
      refine ex0_4 l9 ?_; intro x1 x2 x3 x0
      try clear l9
      have x4 := PySem.W.tb_ltOf x0
      subst hl2
      refine in5_6 T9 (.int k tkey) 0 h9 _ rfl rfl F9 N9 hkey ?_
      intro q hq
      refine mcons hq ?_ fun hq => ?_
      · exact x1
      refine mcons hq ?_ fun hq => ?_
      · exact x2
      refine mcons hq ?_ fun hq => ?_
      · exact x3
      · exact x4 q hq
    · subst hl2
      rw [if_neg (by simpa using hkn)]
      exact ⟨_, _, rfl, by k_asm, by k_asm⟩
  · intro D h5 tk5 ys ext F5 N5 off P lx
    refine ex1_1 (⟨_, rfl⟩ : ∃ b, b = (D, LCg.lst ys) :: (ext ++ base)) ?_; intro l3 hl3
    (repeat ((fail_if_success (with_reducible show wpAny _ _ (call (Value.type "dict") _) _ _ _)); first | (k_unfold; (try dsimp only)) | walk1 | (dsimp only; walk1) | (leave1; try dsimp only)))
    refine call_dict_led (l := D) (vs := ys) rfl T (by k_asm) (by k_asm) (.head _) (P.sub fun q hq => .tail _ (List.mem_append_left _ hq)) (by
      refine ex2_5 (K.dbu) ?_; intro _ _ _ _ _ _ hn
      exact hn.sublist (List.filter_sublist.map _)) (Nat.le_trans (List.length_filter_le _ _) (Nat.le_trans hzb (by decide))) ?_
    intro h6 tk6 B2 ob2 F6 N6 l6 lo6 d6
    have e3 : ∀ q ∈ l3, q.1 ≠ d.tw := by
      rw [hl3]
      intro q hq
      refine mcons hq ?_ fun hq => ?_
      · exact Ne.symm (off1_mem off (d.tw, d.otw) (List.mem_append_right _ (.head _)))
      rcases List.mem_append.mp hq with hq | hq
      · exact Nat.ne_of_gt (lx q hq (d.tw, d.otw) (.head _))
      · exact ba q hq
    have b3 : ∀ q ∈ base, q ∈ l3 := by rw [hl3]; exact fun q hq => .tail _ (List.mem_append_right _ hq)
    have g1 := b3 _ b1
    have g2 := b3 _ b2
    have lB : ∀ q ∈ base, @LT.lt Nat _ q.1 B2 := fun q hq => l6 q (.tail _ (List.mem_append_right _ (.tail _ (.tail _ (.tail _ hq)))))
    have lBt : @LT.lt Nat _ d.tw B2 := l6 (d.tw, d.otw) (.tail _ (List.mem_append_right _ (.head _)))
    have lBp : @LT.lt Nat _ d.pl B2 := l6 (d.pl, d.opl) (.tail _ (List.mem_append_right _ (.tail _ (.head _))))
    have lBb : @LT.lt Nat _ d.bu B2 := l6 (d.bu, d.obu) (.tail _ (List.mem_append_right _ (.tail _ (.tail _ (.head _)))))
    have n22 : @Ne Nat B2 d.tw := Nat.ne_of_gt lBt
    have N7 := news_sub N6 (nl' := (d.tw, d.otw) :: (B2, ob2) :: (d.bu, d.obu) :: (d.pl, d.opl) :: l3) (by
      rw [hl3]
      k_offL)
    clear N6
    (repeat ((fail_if_success (with_reducible show wpAny _ _ (eval (Expr.ListComp _ _ _ _) _) _ _ _)); first | (k_unfold; (try dsimp only)) | walk1 | (dsimp only; walk1) | (leave1; try dsimp only)))
    rename_i h8 o8 F8 N8 d8
    have vt1' : valueAt (stored d.kvt (Str.ofString "buffers") (.ref B2)) (Str.ofString "places") = some (.ref d.pl) := by rw [valueAt_stored, if_neg (by decide)]; exact K.vt1
    have hzt8 : (stored d.kvt (Str.ofString "buffers") (.ref B2)).length ≤ 10 := by rw [stored_len K.vt3]; exact K.zt
    refine comp_keys (knd := PySem.strKind _ _) (led := (d.tw, o8) :: (B2, ob2) :: (d.bu, d.obu) :: (d.pl, d.opl) :: l3) (kvs := d.kvp) (d := d.pl) (od := d.opl) (fun q => keepF d.fl d.x.c q.1) (by k_asm) (.tail _ (.tail _ (.tail _ (.head _)))) dp (by unfold sizeLine; omega) lo4 rfl (by rfl) (by decide) (by rfl) (by decide) (by rfl) ?_
    k_steps
    refine ⟨rfl, by k_asm, by k_asm, ?_, ?_⟩
    · intro k v0 key hm hv hkey I oI C oC D' oD' ext' m₂ h5 tk5 E5 hC hx F5 N5 off ne
      refine ex1_1 (strKind_val hkey) ?_; intro tkey E_7
      subst E_7
      refine at_key K.f6 hv ?_
      intro x TP kP tP qP nP usP e0 hlx mTP _ _
      subst e0
      have hkp : keepF d.fl d.x.c k = decide (x.1 ≠ d.x.c) := by unfold keepF; rw [hlx]
      obtain ⟨xc, xa, xm⟩ := x
      try clear x
      dsimp only at hkp mTP
      rw [hkp]
      refine ex1_1 (⟨_, rfl⟩ : ∃ b, b = ext' ++ (d.tw, o8) :: (B2, ob2) :: (d.bu, d.obu) :: (d.pl, d.opl) :: l3) ?_; intro l2 hl2
      rw [← hl2] at N5 off
      have s3 : ∀ q ∈ l3, q ∈ l2 := by rw [hl2]; exact fun q hq => List.mem_append_right _ (.tail _ (.tail _ (.tail _ (.tail _ hq))))
      have c1 := s3 _ g1
      have c2 := s3 _ g2
      have ct : (d.tw, o8) ∈ l2 := by rw [hl2]; exact List.mem_append_right _ (.head _)
      have cp : (d.pl, d.opl) ∈ l2 := by rw [hl2]; exact List.mem_append_right _ (.tail _ (.tail _ (.tail _ (.head _))))
      have cT := s3 _ (b3 _ (tb _ (hsub _ mTP)))
      k_steps
      refine ⟨bne_int xc d.x.c, ?_⟩
      dsimp only
      by_cases hkn : xc ≠ d.x.c
      · rw [if_pos (decide_eq_true hkn)]
        k_steps
        rename_i T9 h9 F9 N9 l9
        refine ex0_4 l9 ?_; intro x1 x2 x3 x0
        try clear l9
        have x4 := PySem.W.tb_ltOf x0
        subst hl2
        refine in5_6 T9 (.str k tkey) 0 h9 _ rfl rfl F9 N9 hkey ?_
        intro q hq
        refine mcons hq ?_ fun hq => ?_
        · exact x1
        refine mcons hq ?_ fun hq => ?_
        · exact x2
        refine mcons hq ?_ fun hq => ?_
        · exact x3
        · exact x4 q hq
      · subst hl2
        rw [if_neg (by simpa using hkn)]
        exact ⟨_, _, rfl, by k_asm, by k_asm⟩
    · intro D' h7 tk7 ys' ext' F5 N5 off' P' lx'
      refine ex1_1 (⟨_, rfl⟩ : ∃ b, b = (D', LCg.lst ys') :: (ext' ++ (d.bu, d.obu) :: (d.pl, d.opl) :: l3)) ?_; intro l4 hl4
      (repeat ((fail_if_success (with_reducible show wpAny _ _ (call (Value.type "dict") _) _ _ _)); first | (k_unfold; (try dsimp only)) | walk1 | (dsimp only; walk1) | (leave1; try dsimp only)))
      refine call_dict_led (l := D') (vs := ys') rfl T (by k_asm) (by k_asm) (.head _) (P'.sub fun q hq => .tail _ (List.mem_append_left _ hq)) (by
        refine ex2_5 (K.dpl) ?_; intro _ _ _ _ _ _ hn
        exact hn.sublist (List.filter_sublist.map _)) (Nat.le_trans (List.length_filter_le _ _) (Nat.le_trans hzp (by decide))) ?_
      intro h10 tk10 P2 op2 F6 N6 l6' lo6' d6'
      have e4 : ∀ q ∈ l4, q.1 ≠ d.tw := by
        rw [hl4]
        intro q hq
        refine mcons hq ?_ fun hq => ?_
        · exact Ne.symm (off1_mem off' (d.tw, o8) (List.mem_append_right _ (.head _)))
        rcases List.mem_append.mp hq with hq | hq
        · exact Nat.ne_of_gt (lx' q hq (d.tw, o8) (.head _))
        refine mcons hq ?_ fun hq => ?_
        · exact Ne.symm n15
        refine mcons hq ?_ fun hq => ?_
        · exact Ne.symm n14
        · exact e3 q hq
      have s4 : ∀ q ∈ l3, q ∈ l4 := by rw [hl4]; exact fun q hq => .tail _ (List.mem_append_right _ (.tail _ (.tail _ hq)))
      have g14 := s4 _ g1
      have lP : ∀ q ∈ (d.tw, o8) :: (B2, ob2) :: (d.bu, d.obu) :: (d.pl, d.opl) :: l3, @LT.lt Nat _ q.1 P2 := fun q hq => l6' q (.tail _ (List.mem_append_right _ hq))
      have n23 : @Ne Nat P2 d.tw := Nat.ne_of_gt (lP (d.tw, o8) (.head _))
      have lPB : @LT.lt Nat _ B2 P2 := lP (B2, ob2) (.tail _ (.head _))
      have N11 := news_sub N6 (nl' := (d.tw, o8) :: (P2, op2) :: (B2, ob2) :: l4) (by
        rw [hl4]
        k_offL)
      clear N6
      k_steps
      rename_i h9 o9 F9 N9 d9
      have lPb : ∀ q ∈ base, @LT.lt Nat _ q.1 P2 := fun q hq => lP q (.tail _ (.tail _ (.tail _ (.tail _ (b3 q hq)))))
      have N10 := news_sub N9 (nl' := (d.tw, o9) :: (P2, op2) :: (B2, ob2) :: (d.c1, d.o1) :: (d.c2, d.o2) :: (d.aop, oo') :: (d.afl, ofl') :: (pick d.core [0, 1, 2, 5, 6, 10, 11, 12, 13, 16, 17, 18, 19] ++ (spec ++ d.rest))) (by
        rw [hc1, hc2, ← htl]
        intro q hq
        refine mcons hq ?_ fun hq => ?_
        · exact .head _
        refine mcons hq ?_ fun hq => ?_
        · exact .tail _ (.head _)
        refine mcons hq ?_ fun hq => ?_
        · exact .tail _ (.tail _ (.head _))
        · exact .tail _ (.tail _ (.tail _ (s4 q (b3 q (by rw [hbase]; exact hq))))))
      have bigB : ∀ q ∈ tl, @LT.lt Nat _ q.1 B2 := fun q hq => lB q (tb q hq)
      have bigP : ∀ q ∈ tl, @LT.lt Nat _ q.1 P2 := fun q hq => lPb q (tb q hq)
      have cov : ∀ q ∈ d.core, @LT.lt Nat _ q.1 B2 := by
        intro q hq
        have hp := pick_all (I := [7, 8, 9, 14, 15, 3, 4] ++ [0, 1, 2, 5, 6, 10, 11, 12, 13, 16, 17, 18, 19]) (n := 20) rfl (by decide) q hq
        unfold pick at hp
        rw [List.map_append] at hp
        rcases List.mem_append.mp hp with h | h
        · refine mcons h ?_ fun h => ?_
          · exact lBt
          refine mcons h ?_ fun h => ?_
          · exact lBp
          refine mcons h ?_ fun h => ?_
          · exact lBb
          refine mcons h ?_ fun h => ?_
          · show @LT.lt Nat _ d.c1 B2
            rw [hc1]; exact lB _ b1
          refine mcons h ?_ fun h => ?_
          · show @LT.lt Nat _ d.c2 B2
            rw [hc2]; exact lB _ b2
          refine mcons h ?_ fun h => ?_
          · exact lB (d.aop, oo') (by rw [hbase]; exact .tail _ (.tail _ (.head _)))
          rw [List.mem_singleton.mp h]
          exact lB (d.afl, ofl') (by rw [hbase]; exact .tail _ (.tail _ (.tail _ (.head _))))
        · exact bigB q (by rw [htl]; exact List.mem_append_left _ h)
      have hfB : ¬ (B2 : Nat) ∈ adrs d.core := fun hc => by
        refine ex1_2 (List.mem_map.mp hc) ?_; intro q hq e
        exact absurd e (Nat.ne_of_lt (cov q hq))
      have hm1 : ∀ a, a ∈ adrs (LD.core { d with bu := B2 }) → a ∈ adrs d.core ∨ a = B2 := fun a ha => mem_fresh (core := d.core) (b := B2) dO.2 [0, 1, 2, 3, 4, 5, 6, 7, 8, 20, 10, 11, 12, 13, 14, 15, 16, 17, 18, 19] 20 rfl (by decide) rfl ha
      have nd1 : (adrs (LD.core { d with bu := B2 })).Nodup := nd_fresh K.nd hfB dO.2 [0, 1, 2, 3, 4, 5, 6, 7, 8, 20, 10, 11, 12, 13, 14, 15, 16, 17, 18, 19] 20 rfl (by decide) (by decide) rfl
      have hfP : ¬ (P2 : Nat) ∈ adrs (LD.core { d with bu := B2 }) := fun hc => by
        rcases hm1 _ hc with h | h
        · refine ex1_2 (List.mem_map.mp h) ?_; intro q hq e
          exact absurd e (Nat.ne_of_lt (Nat.lt_trans (cov q hq) lPB))
        · exact absurd h (Nat.ne_of_gt lPB)
      have hyx : d.y.c ≠ d.x.c := by rcases K.xy with h | h <;> omega
      refine h h9 _ { d with oo := oo', kvo := without d.kvo d.x.c, ofl := ofl', kvf := kvf', fl := d.fl.filter fun q => decide (q.2.1 ≠ d.x.c), otw := o9, kvt := stored (stored d.kvt (Str.ofString "buffers") (.ref B2)) (Str.ofString "places") (.ref P2), bu := B2, obu := ob2, kvb := d.kvb.filter fun q => decide (q.1 ≠ d.x.c), pl := P2, opl := op2, kvp := d.kvp.filter fun q => keepF d.fl d.x.c q.1, x := { d.x with opn := false } } F9 ?_ ?_ ?_ ⟨rfl, rfl, rfl, rfl, rfl, rfl, rfl, rfl⟩ (Int.le_refl _) (by show d.turn ≤ d.turn + 10; omega)
      · exact spec_in (news_in (AE := [(d.tw, o9), (P2, op2), (B2, ob2), (d.c1, d.o1), (d.c2, d.o2), (d.aop, oo'), (d.afl, ofl')]) (BE := pick d.core [0, 1, 2, 5, 6, 10, 11, 12, 13, 16, 17, 18, 19]) (ext := []) (rest := spec ++ d.rest) N10 [7, 8, 9, 5, 6, 10, 11, 0, 1, 2, 12, 13, 14, 15, 3, 4, 16, 17, 18, 19] 20 rfl (by decide) rfl)
      · intro q hq q' hq' e
        rcases List.mem_append.mp hq' with hq' | hq'
        · have hq1 := (List.mem_map.mpr ⟨q', hq', rfl⟩ : q'.1 ∈ adrs _)
          have hst : q ∈ tl := by rw [htl]; exact List.mem_append_right _ (List.mem_append_left _ hq)
          rcases mem_fresh (core := LD.core { d with bu := B2 }) (b := P2) dO.2 [0, 1, 2, 3, 4, 5, 6, 7, 20, 9, 10, 11, 12, 13, 14, 15, 16, 17, 18, 19] 20 rfl (by decide) rfl hq1 with h | h
          · rcases hm1 _ h with h | h
            · refine ex1_2 (List.mem_map.mp h) ?_; intro q2 hq2 e2
              exact ap q hq q2 (List.mem_append_left _ hq2) (e.trans e2.symm)
            · exact absurd (e.trans h) (Nat.ne_of_lt (bigB q hst))
          · exact absurd (e.trans h) (Nat.ne_of_lt (bigP q hst))
        · exact ap q hq q' (List.mem_append_right _ hq') e
      · exact { K with
          nd := nd_fresh nd1 hfP dO.2 [0, 1, 2, 3, 4, 5, 6, 7, 20, 9, 10, 11, 12, 13, 14, 15, 16, 17, 18, 19] 20 rfl (by decide) (by decide) rfl
          off := fun q hq hc => by
            rcases mem_fresh (core := LD.core { d with bu := B2 }) (b := P2) dO.2 [0, 1, 2, 3, 4, 5, 6, 7, 20, 9, 10, 11, 12, 13, 14, 15, 16, 17, 18, 19] 20 rfl (by decide) rfl hc with h | h
            · rcases hm1 _ h with h | h
              · exact K.off q hq h
              · exact absurd h (Nat.ne_of_lt (bigB q (hsub q hq)))
            · exact absurd h (Nat.ne_of_lt (bigP q (hsub q hq)))
          lo4 := lo6'
          lo5 := lo6
          doo := do'
          dfl := df'
          dtw := d9
          dpl := d6'
          dbu := d6
          zo := Nat.le_trans (List.length_filter_le _ _) K.zo
          zb := Nat.le_trans (List.length_filter_le _ _) K.zb
          zt := by show (stored (stored _ _ _) _ _).length ≤ 10; rw [stored_len vt1']; exact hzt8
          vt1 := by show valueAt (stored _ _ _) _ = _; rw [valueAt_stored, if_pos rfl]
          vt2 := by show valueAt (stored (stored _ _ _) _ _) _ = _; rw [valueAt_stored, if_neg (by decide), valueAt_stored, if_neg (by decide)]; exact K.vt2
          vt3 := by show valueAt (stored (stored _ _ _) _ _) _ = _; rw [valueAt_stored, if_neg (by decide), valueAt_stored, if_pos rfl]
          vt4 := by show valueAt (stored (stored _ _ _) _ _) _ = _; rw [valueAt_stored, if_neg (by decide), valueAt_stored, if_neg (by decide)]; exact K.vt4
          f5 := f5'
          f6 := by
            have z := Rel.filter (fun z => keepF d.fl d.x.c z) K.f6
            rw [keepF_filter K.fnd] at z
            exact z
          xo := { K.xo with
            shut := fun _ => ⟨by show valueAt (without _ _) _ = _; rw [valueAt_without, if_pos rfl], by show valueAt (without d.kvb d.x.c) _ = _; rw [valueAt_without, if_pos rfl]⟩
            vo := fun hc => Bool.noConfusion (show false = true from hc)
            vb := fun hc => Bool.noConfusion (show false = true from hc) }
          yo := { K.yo with
            shut := fun hc => ⟨by show valueAt (without _ _) _ = _; rw [valueAt_without, if_neg hyx]; exact (K.yo.shut hc).1, by show valueAt (without d.kvb d.x.c) _ = _; rw [valueAt_without, if_neg hyx]; exact (K.yo.shut hc).2⟩
            vo := fun hc => by show valueAt (without _ _) _ = _; rw [valueAt_without, if_neg hyx]; exact K.yo.vo hc
            vb := fun hc => by show valueAt (without d.kvb d.x.c) _ = _; rw [valueAt_without, if_neg hyx]; exact K.yo.vb hc }
          fnd := K.fnd.sublist (List.filter_sublist.map _)
          fnm := fun q hq => K.fnm q (List.mem_filter.mp hq).1
          fb := fun q hq => by
            refine ex0_2 (List.mem_filter.mp hq) ?_; intro hq1 hq2
            refine ex0_2 (K.fb q hq1) ?_; intro hb hr
            refine ⟨.inr ?_, hr⟩
            rcases hb with hb | hb
            · exact absurd hb.1 (by simpa using hq2)
            · exact hb
          q1 := K.q1
          q2 := ⟨_, q2⟩ }
end E_law_k7
theorem law_k7 {w : World} {G : Heap} {L fa : Addr} {cd : Value} {p : Program} {loose : List Str} {mean : ExcName → Option Value} {mg mb : Str → Option Value} {E : Value → Shared → Prop} {s : Shared} {d : LD} {tc : Tok} {spec : List (Addr × Obj)} {v1 v2 v3 v4 : Option Value} {Q : Flow → Shared → Prop} : P_law_k7 w G L fa cd p loose mean mg mb E s d tc spec v1 v2 v3 v4 Q := eps_all (Ψ := U_law_k7) E_law_k7.go (w, G, L, fa, cd, p, loose, mean, mg, mb, E, s, d, tc, spec, v1, v2, v3, v4, Q)
section
variable {w : World} {G : Heap} {L fa : Addr} {cd : Value} {p : Program} {loose : List Str} {mean : ExcName → Option Value} {mg mb : Str → Option Value}
  {E : Value → Shared → Prop} {s : Shared} {bd b4 b5 : List Stmt} {tl : Stmt} {scope : Scope}
end

theorem fr_eq {G h : Heap} {L : Addr} {m m' : Str → Option Value} (F : Fr G L h m) (e : ∀ y, m y = m' y) : Fr G L h m' := (funext e : m = m') ▸ F
theorem LD.apart_turn {d : LD} {spec : List (Addr × Obj)} (ap : Apart spec d.led) (tn : Int) (tt : Tok) : Apart spec (LD.led { d with turn := tn, tt := tt }) :=
  apart_in (core := d.core) (ext := []) ap rfl (fun _ h => nomatch h)
theorem right_names {v1 v2 v3 v4 v5 v6 v7 : Option Value} : ∀ y : Str, (if y = Str.ofString "is_right" then v4 else if y = Str.ofString "turn" then v1 else if y = Str.ofString "kind" then v2 else if y = Str.ofString "is_right" then v3 else if y = Str.ofString "world" then v5 else if y = Str.ofString "feed" then v6 else if y = Str.ofString "script" then v7 else none) =
    if y = Str.ofString "turn" then v1 else if y = Str.ofString "kind" then v2 else if y = Str.ofString "is_right" then v4 else if y = Str.ofString "world" then v5 else if y = Str.ofString "feed" then v6 else if y = Str.ofString "script" then v7 else none := by
  intro y
  by_cases e1 : y = Str.ofString "is_right"
  · subst e1; rfl
  · simp only [if_neg e1]
section
variable {w : World} {G : Heap} {L fa : Addr} {cd : Value} {p : Program} {loose : List Str} {mean : ExcName → Option Value} {mg mb : Str → Option Value}
  {E : Value → Shared → Prop} {s : Shared} {bd b4 b5 : List Stmt} {ifs tl : Stmt} {scope : Scope}
end
def P_law_if (w : World) (G : Heap) (L fa : Addr) (cd : Value) (p : Program) (loose : List Str) (mean : ExcName → Option Value) (mg mb : Str → Option Value) (E : Value → Shared → Prop) (s : Shared) (d : LD) (ns : List Int) (tc tr : Tok) (spec : List (Addr × Obj)) (v1 v3 : Option Value) (Q : Flow → Shared → Prop) : Prop := ∀ {bd : List Stmt} {b4 : List Stmt} {b5 : List Stmt} {ifs : Stmt} {tl : Stmt} {scope : Scope} {r : Int} (hT : turnParts PySem.Challenge.pw_pq0169_01 = some (scope, bd, b4, b5, tl)) (hI : bd[1]? = some ifs) (F : Fr G L s.heap (fun y => if y = Str.ofString "turn" then v1 else if y = Str.ofString "kind" then some (.int r tr) else if y = Str.ofString "is_right" then some (.bool true) else if y = Str.ofString "world" then some (.ref d.aw) else if y = Str.ofString "feed" then some (.ref d.feed) else if y = Str.ofString "script" then v3 else none)) (T : Top p loose mean mg mb G) (X : (hd.heap_1 w.params).In G) (C1 : CodeHd G 178 174) (C2 : CodeHd G 171 167) (C3 : CodeHd G 164 162) (N : News G L s.heap (spec ++ d.led)) (ap : Apart spec d.led) (K : d.Ok w) (hc1 : d.c1 = L + 1) (hc2 : d.c2 = L + 1 + 1) (hc3 : d.c3 = L + 1 + 1 + 1) (q2 : d.o2.data = .cell (some (.int d.x.c tc))) (hi : IntsAre d.vs ns) (hvl : d.vs.length ≤ 100) (h1 : d.turn ≤ 8990) (hr0 : 0 ≤ r) (hr1 : r < 8) (h : ∀ h' tk d', Fr G L h' (fun y => if y = Str.ofString "turn" then v1 else if y = Str.ofString "kind" then some (.int r tr) else if y = Str.ofString "is_right" then some (.bool true) else if y = Str.ofString "world" then some (.ref d.aw) else if y = Str.ofString "feed" then some (.ref d.feed) else if y = Str.ofString "script" then v3 else none) →
    News G L h' (spec ++ d'.led) → Apart spec d'.led → d'.Ok w → d.Same d' → d.turn ≤ d'.turn → d'.turn ≤ d.turn + 11 → Q .next { s with heap := h', toks := tk }), wpAny (model PySem.Challenge.rw_pq0169_01.row.prog w) (lawA (envOfC (Str.ofString "law") scope L fa cd)) (exec ifs (envOfC (Str.ofString "law") scope L fa cd)) Q E s
def U_law_if (c : (World) × (Heap) × (Addr) × (Addr) × (Value) × (Program) × (List Str) × (ExcName → Option Value) × (Str → Option Value) × (Str → Option Value) × (Value → Shared → Prop) × (Shared) × (LD) × (List Int) × (Tok) × (Tok) × (List (Addr × Obj)) × (Option Value) × (Option Value) × (Flow → Shared → Prop)) : Prop := P_law_if c.1 c.2.1 c.2.2.1 c.2.2.2.1 c.2.2.2.2.1 c.2.2.2.2.2.1 c.2.2.2.2.2.2.1 c.2.2.2.2.2.2.2.1 c.2.2.2.2.2.2.2.2.1 c.2.2.2.2.2.2.2.2.2.1 c.2.2.2.2.2.2.2.2.2.2.1 c.2.2.2.2.2.2.2.2.2.2.2.1 c.2.2.2.2.2.2.2.2.2.2.2.2.1 c.2.2.2.2.2.2.2.2.2.2.2.2.2.1 c.2.2.2.2.2.2.2.2.2.2.2.2.2.2.1 c.2.2.2.2.2.2.2.2.2.2.2.2.2.2.2.1 c.2.2.2.2.2.2.2.2.2.2.2.2.2.2.2.2.1 c.2.2.2.2.2.2.2.2.2.2.2.2.2.2.2.2.2.1 c.2.2.2.2.2.2.2.2.2.2.2.2.2.2.2.2.2.2.1 c.2.2.2.2.2.2.2.2.2.2.2.2.2.2.2.2.2.2.2
/- the letters at which it would fail, if there are such -/
noncomputable def K_law_if : (World) × (Heap) × (Addr) × (Addr) × (Value) × (Program) × (List Str) × (ExcName → Option Value) × (Str → Option Value) × (Str → Option Value) × (Value → Shared → Prop) × (Shared) × (LD) × (List Int) × (Tok) × (Tok) × (List (Addr × Obj)) × (Option Value) × (Option Value) × (Flow → Shared → Prop) := @Classical.epsilon _ (neP ⟨aWorld 0⟩ (neP ⟨default⟩ (neP ⟨default⟩ (neP ⟨default⟩ (neP ⟨default⟩ (neP ⟨default⟩ (neP ⟨default⟩ (neP ⟨default⟩ (neP ⟨default⟩ (neP ⟨default⟩ (neP ⟨default⟩ (neP neS (neP neLD (neP ⟨default⟩ (neP ⟨default⟩ (neP ⟨default⟩ (neP ⟨default⟩ (neP ⟨default⟩ (neP ⟨default⟩ ⟨default⟩))))))))))))))))))) fun c => ¬ U_law_if c
namespace E_law_if
noncomputable def w : World := K_law_if.1
noncomputable def G : Heap := K_law_if.2.1
noncomputable def L : Addr := K_law_if.2.2.1
noncomputable def fa : Addr := K_law_if.2.2.2.1
noncomputable def cd : Value := K_law_if.2.2.2.2.1
noncomputable def p : Program := K_law_if.2.2.2.2.2.1
noncomputable def loose : List Str := K_law_if.2.2.2.2.2.2.1
noncomputable def mean : ExcName → Option Value := K_law_if.2.2.2.2.2.2.2.1
noncomputable def mg : Str → Option Value := K_law_if.2.2.2.2.2.2.2.2.1
noncomputable def mb : Str → Option Value := K_law_if.2.2.2.2.2.2.2.2.2.1
noncomputable def E : Value → Shared → Prop := K_law_if.2.2.2.2.2.2.2.2.2.2.1
noncomputable def s : Shared := K_law_if.2.2.2.2.2.2.2.2.2.2.2.1
noncomputable def d : LD := K_law_if.2.2.2.2.2.2.2.2.2.2.2.2.1
noncomputable def ns : List Int := K_law_if.2.2.2.2.2.2.2.2.2.2.2.2.2.1
noncomputable def tc : Tok := K_law_if.2.2.2.2.2.2.2.2.2.2.2.2.2.2.1
noncomputable def tr : Tok := K_law_if.2.2.2.2.2.2.2.2.2.2.2.2.2.2.2.1
noncomputable def spec : List (Addr × Obj) := K_law_if.2.2.2.2.2.2.2.2.2.2.2.2.2.2.2.2.1
noncomputable def v1 : Option Value := K_law_if.2.2.2.2.2.2.2.2.2.2.2.2.2.2.2.2.2.1
noncomputable def v3 : Option Value := K_law_if.2.2.2.2.2.2.2.2.2.2.2.2.2.2.2.2.2.2.1
noncomputable def Q : Flow → Shared → Prop := K_law_if.2.2.2.2.2.2.2.2.2.2.2.2.2.2.2.2.2.2.2
theorem go : P_law_if w G L fa cd p loose mean mg mb E s d ns tc tr spec v1 v3 Q := by
  intro bd b4 b5 ifs tl scope r hT hI F T X C1 C2 C3 N ap K hc1 hc2 hc3 q2 hi hvl h1 hr0 hr1 h
  have hT' := hT
  cases hT
  cases hI
  revert X
  k_fill
  intro X
  have offR := off_spec ap K.off
  have ndA : @List.Nodup Nat [d.feed, d.cells, d.c2, d.c1, d.tw, d.pl] := nd_pick K.nd [0, 1, 15, 14, 7, 8] 20 rfl (by decide) (by decide)
  refine ex1_1 (⟨_, rfl⟩ : ∃ b, b = pick d.core [2, 3, 4, 5, 6, 9, 10, 11, 12, 13, 16, 17, 18, 19] ++ (spec ++ d.rest)) ?_; intro rs hrs
  have N1 : News G L s.heap ((d.feed, listOf #[.ref d.cells, .int d.turn d.tt] d.nF) :: (d.cells, listOf d.vs.toArray d.nC) :: (L + 1 + 1, d.o2) :: (L + 1, d.o1) :: (d.tw, d.otw) :: (d.pl, d.opl) :: rs) := by
    rw [← hc2, ← hc1, hrs]
    exact news_out (core := d.core) (rest := spec ++ d.rest) (spec_out N) [0, 1, 15, 14, 7, 8] [2, 3, 4, 5, 6, 9, 10, 11, 12, 13, 16, 17, 18, 19] 20 rfl (by decide) (by decide)
  have fold : ∀ {h' : Heap} (tn : Int) (tt : Tok), News G L h' ((d.feed, listOf #[.ref d.cells, .int tn tt] d.nF) :: (d.cells, listOf d.vs.toArray d.nC) :: (L + 1 + 1, d.o2) :: (L + 1, d.o1) :: (d.tw, d.otw) :: (d.pl, d.opl) :: rs) → News G L h' (spec ++ LD.led { d with turn := tn, tt := tt }) := by
    intro h' tn tt N'
    rw [← hc2, ← hc1, hrs] at N'
    exact spec_in (news_in (AE := [(d.feed, listOf #[.ref d.cells, .int tn tt] d.nF), (d.cells, listOf d.vs.toArray d.nC), (d.c2, d.o2), (d.c1, d.o1), (d.tw, d.otw), (d.pl, d.opl)]) (BE := pick d.core [2, 3, 4, 5, 6, 9, 10, 11, 12, 13, 16, 17, 18, 19]) (ext := []) (rest := spec ++ d.rest) N' [0, 1, 6, 7, 8, 9, 10, 4, 5, 11, 12, 13, 14, 15, 3, 2, 16, 17, 18, 19] 20 rfl (by decide) rfl)
  have f1 : ∀ p ∈ rs, p.1 ≠ d.feed := hrs ▸ off_one K.nd offR 0 _ 20 rfl (by decide) (by decide)
  rw [hc1, hc2] at ndA
  simp only [List.nodup_cons, List.mem_cons, List.not_mem_nil, or_false, not_or, not_false_eq_true, List.nodup_nil, and_true] at ndA
  refine ex0_5 ndA ?_; intro N_1 N_2 N_3 N_4 n15
  try clear ndA
  refine ex0_5 N_1 ?_; intro n1 n2 n3 n4 n5
  try clear N_1
  refine ex0_4 N_2 ?_; intro n6 n7 n8 n9
  try clear N_2
  refine ex0_3 N_3 ?_; intro n10 n11 n12
  try clear N_3
  refine ex0_2 N_4 ?_; intro n13 n14
  try clear N_4
  have q1 := K.q1
  have dt := K.dtw
  have dp := K.dpl
  have vt1 := K.vt1
  have lo4 := K.lo4
  have ht0 := K.t0
  have hz5 := LD.z5 K
  have hzp : d.kvp.length ≤ 5 := by rw [K.f6.length]; exact hz5
  have hcl : r < 2 ∨ (r = 2 ∨ r = 3) ∨ (r = 4 ∨ r = 5) ∨ r = 6 ∨ r = 7 := by omega
  rcases hcl with hr | hr | hr | rfl | rfl
  · have hk : decide (r < 2) = true := decide_eq_true hr
    k_steps
    refine told_step (d := d) (spec := spec) rfl rfl (show ScopeKind.function ≠ ScopeKind.module by decide) rfl (by (exact Nat.le_of_ble_eq_true rfl)) (by (exact Nat.le_of_ble_eq_true rfl)) (by k_asm) T X C3 N ap K hi hvl (by omega) ?_
    intro h' tk' d' F' N' ap' K' S' t1 t2
    clear N1 N F
    k_steps
    exact h _ _ d' (fr_eq (by k_asm) right_names) (by k_asm) ap' K' S' t1 (le11 t2)
  · rcases hr with rfl | rfl
    · by_cases hfl : d.fl = []
      · have hkp : d.kvp = [] := List.eq_nil_of_length_eq_zero (by rw [K.f6.length, hfl]; rfl)
        (repeat ((fail_if_success (with_reducible show wpAny _ _ (compareOp CmpOp.Eq (Value.ref _) (Value.ref _)) _ _ _)); first | (k_unfold; (try dsimp only)) | walk1 | (dsimp only; walk1) | (leave1; try dsimp only)))
        rename_i D8 h8 l8 E8 h9 oE F8 N8 loE dsE fsE diE fiE l9
        clear l8 l9
        have da := Heap.dictOf_iff.mpr ⟨d.opl, (N8 (d.pl, d.opl) (.tail _ (.tail _ (.tail _ (.tail _ (.tail _ (.tail _ (.tail _ (.head _)))))))) ).1, dp⟩
        have db := Heap.dictOf_iff.mpr ⟨oE, (N8 (E8, oE) (.head _)).1, dsE⟩
        refine keq_eq (knd := PySem.strKind _ _) (r := true) lo4 loE da db (show (400 : Nat) < cLine by decide) (fun _ => by rw [hkp]; exact .nil) ?_
        rw [hkp]
        dsimp only [List.length_nil]
        k_steps
        have N9 : News G L _ (spec ++ d.led) := fold d.turn d.tt (news_sub N8 (by ((repeat (first | exact List.forall_mem_nil _ | refine List.forall_mem_cons.mpr ⟨by k_mem, ?_⟩ | (intro p' hp'; k_mem))))))
        refine told_step (d := d) (spec := spec) rfl rfl (show ScopeKind.function ≠ ScopeKind.module by decide) rfl (by (exact Nat.le_of_ble_eq_true rfl)) (by (exact Nat.le_of_ble_eq_true rfl)) (by k_asm) T X C3 N9 ap K hi hvl (by omega) ?_
        intro h' tk' d' F' N' ap' K' S' t1 t2
        clear N9; (try clear N8); (try clear da); (try clear db)
        k_steps
        exact h _ _ d' (fr_eq (by k_asm) right_names) (by k_asm) ap' K' S' t1 (le11 t2)
      · have hkl : d.kvp.length ≠ 0 := by
          rw [K.f6.length]
          intro e
          exact hfl (List.eq_nil_of_length_eq_zero e)
        have hkq : (d.kvp.length == ([] : List (Str × Value)).length && true) = false := by simpa using hkl
        (repeat ((fail_if_success (with_reducible show wpAny _ _ (compareOp CmpOp.Eq (Value.ref _) (Value.ref _)) _ _ _)); first | (k_unfold; (try dsimp only)) | walk1 | (dsimp only; walk1) | (leave1; try dsimp only)))
        rename_i D8 h8 l8 E8 h9 oE F8 N8 loE dsE fsE diE fiE l9
        clear l8 l9
        have da := Heap.dictOf_iff.mpr ⟨d.opl, (N8 (d.pl, d.opl) (.tail _ (.tail _ (.tail _ (.tail _ (.tail _ (.tail _ (.tail _ (.head _)))))))) ).1, dp⟩
        have db := Heap.dictOf_iff.mpr ⟨oE, (N8 (E8, oE) (.head _)).1, dsE⟩
        refine keq_eq (knd := PySem.strKind _ _) (r := true) lo4 loE da db (show (400 : Nat) < cLine by decide) (fun e => absurd e hkl) ?_
        rw [hkq]
        k_steps
        with_reducible rename News _ _ _ _ => N12
        have N9 : News G L _ (spec ++ d.led) := fold d.turn d.tt (news_sub N12 (by ((repeat (first | exact List.forall_mem_nil _ | refine List.forall_mem_cons.mpr ⟨by k_mem, ?_⟩ | (intro p' hp'; k_mem))))))
        refine set_step (d := d) (spec := spec) rfl (by (exact Nat.le_of_ble_eq_true rfl)) (by (exact Nat.le_of_ble_eq_true rfl)) (by k_asm) T X C2 N9 ap K hi hvl (by omega) hfl ?_
        intro h' tk' d' F' N' ap' K' S' t1 t2
        clear N9; (try clear N8); (try clear da); (try clear db)
        k_steps
        exact h _ _ d' (fr_eq (by k_asm) right_names) (by k_asm) ap' K' S' t1 (le11 t2)
    · by_cases hfl : d.fl = []
      · have hkp : d.kvp = [] := List.eq_nil_of_length_eq_zero (by rw [K.f6.length, hfl]; rfl)
        (repeat ((fail_if_success (with_reducible show wpAny _ _ (compareOp CmpOp.Eq (Value.ref _) (Value.ref _)) _ _ _)); first | (k_unfold; (try dsimp only)) | walk1 | (dsimp only; walk1) | (leave1; try dsimp only)))
        rename_i D8 h8 l8 E8 h9 oE F8 N8 loE dsE fsE diE fiE l9
        clear l8 l9
        have da := Heap.dictOf_iff.mpr ⟨d.opl, (N8 (d.pl, d.opl) (.tail _ (.tail _ (.tail _ (.tail _ (.tail _ (.tail _ (.tail _ (.head _)))))))) ).1, dp⟩
        have db := Heap.dictOf_iff.mpr ⟨oE, (N8 (E8, oE) (.head _)).1, dsE⟩
        refine keq_eq (knd := PySem.strKind _ _) (r := true) lo4 loE da db (show (400 : Nat) < cLine by decide) (fun _ => by rw [hkp]; exact .nil) ?_
        rw [hkp]
        dsimp only [List.length_nil]
        k_steps
        have N9 : News G L _ (spec ++ d.led) := fold d.turn d.tt (news_sub N8 (by ((repeat (first | exact List.forall_mem_nil _ | refine List.forall_mem_cons.mpr ⟨by k_mem, ?_⟩ | (intro p' hp'; k_mem))))))
        refine told_step (d := d) (spec := spec) rfl rfl (show ScopeKind.function ≠ ScopeKind.module by decide) rfl (by (exact Nat.le_of_ble_eq_true rfl)) (by (exact Nat.le_of_ble_eq_true rfl)) (by k_asm) T X C3 N9 ap K hi hvl (by omega) ?_
        intro h' tk' d' F' N' ap' K' S' t1 t2
        clear N9; (try clear N8); (try clear da); (try clear db)
        k_steps
        exact h _ _ d' (fr_eq (by k_asm) right_names) (by k_asm) ap' K' S' t1 (le11 t2)
      · have hkl : d.kvp.length ≠ 0 := by
          rw [K.f6.length]
          intro e
          exact hfl (List.eq_nil_of_length_eq_zero e)
        have hkq : (d.kvp.length == ([] : List (Str × Value)).length && true) = false := by simpa using hkl
        (repeat ((fail_if_success (with_reducible show wpAny _ _ (compareOp CmpOp.Eq (Value.ref _) (Value.ref _)) _ _ _)); first | (k_unfold; (try dsimp only)) | walk1 | (dsimp only; walk1) | (leave1; try dsimp only)))
        rename_i D8 h8 l8 E8 h9 oE F8 N8 loE dsE fsE diE fiE l9
        clear l8 l9
        have da := Heap.dictOf_iff.mpr ⟨d.opl, (N8 (d.pl, d.opl) (.tail _ (.tail _ (.tail _ (.tail _ (.tail _ (.tail _ (.tail _ (.head _)))))))) ).1, dp⟩
        have db := Heap.dictOf_iff.mpr ⟨oE, (N8 (E8, oE) (.head _)).1, dsE⟩
        refine keq_eq (knd := PySem.strKind _ _) (r := true) lo4 loE da db (show (400 : Nat) < cLine by decide) (fun e => absurd e hkl) ?_
        rw [hkq]
        k_steps
        with_reducible rename News _ _ _ _ => N12
        have N9 : News G L _ (spec ++ d.led) := fold d.turn d.tt (news_sub N12 (by ((repeat (first | exact List.forall_mem_nil _ | refine List.forall_mem_cons.mpr ⟨by k_mem, ?_⟩ | (intro p' hp'; k_mem))))))
        refine set_step (d := d) (spec := spec) rfl (by (exact Nat.le_of_ble_eq_true rfl)) (by (exact Nat.le_of_ble_eq_true rfl)) (by k_asm) T X C2 N9 ap K hi hvl (by omega) hfl ?_
        intro h' tk' d' F' N' ap' K' S' t1 t2
        clear N9; (try clear N8); (try clear da); (try clear db)
        k_steps
        exact h _ _ d' (fr_eq (by k_asm) right_names) (by k_asm) ap' K' S' t1 (le11 t2)
  · rcases hr with rfl | rfl
    · k_steps
      with_reducible rename News _ _ _ _ => N8
      have N9 : News G L _ (spec ++ d.led) := fold d.turn d.tt (news_sub N8 (by ((repeat (first | exact List.forall_mem_nil _ | refine List.forall_mem_cons.mpr ⟨by k_mem, ?_⟩ | (intro p' hp'; k_mem))))))
      refine moved_step (d := d) (spec := spec) rfl rfl (show ScopeKind.function ≠ ScopeKind.module by decide) rfl (by (exact Nat.le_of_ble_eq_true rfl)) (by (exact Nat.le_of_ble_eq_true rfl)) (by k_asm) T X C1 N9 ap K hi hvl (by omega) ?_
      intro h' tk' d' F' N' ap' K' S' t1 t2
      clear N9; (try clear N8)
      k_steps
      exact h _ _ d' (fr_eq (by k_asm) right_names) (by k_asm) ap' K' S' t1 (le11 t2)
    · k_steps
      with_reducible rename News _ _ _ _ => N8
      have N9 : News G L _ (spec ++ d.led) := fold d.turn d.tt (news_sub N8 (by ((repeat (first | exact List.forall_mem_nil _ | refine List.forall_mem_cons.mpr ⟨by k_mem, ?_⟩ | (intro p' hp'; k_mem))))))
      refine moved_step (d := d) (spec := spec) rfl rfl (show ScopeKind.function ≠ ScopeKind.module by decide) rfl (by (exact Nat.le_of_ble_eq_true rfl)) (by (exact Nat.le_of_ble_eq_true rfl)) (by k_asm) T X C1 N9 ap K hi hvl (by omega) ?_
      intro h' tk' d' F' N' ap' K' S' t1 t2
      clear N9; (try clear N8)
      k_steps
      exact h _ _ d' (fr_eq (by k_asm) right_names) (by k_asm) ap' K' S' t1 (le11 t2)
  · (repeat ((fail_if_success (with_reducible show wpAny _ _ (execs [_, _, _] _) _ _ _)); first | (k_unfold; (try dsimp only)) | walk1 | (dsimp only; walk1) | (leave1; try dsimp only)))
    with_reducible rename News _ _ _ _ => N8
    have N9 : News G L _ (spec ++ d.led) := fold d.turn d.tt (news_sub N8 (by ((repeat (first | exact List.forall_mem_nil _ | refine List.forall_mem_cons.mpr ⟨by k_mem, ?_⟩ | (intro p' hp'; k_mem))))))
    refine law_k6 hT' (by k_asm) T X N9 ap K hc1 hc3 hi hvl (by omega) ?_
    intro h' tk' d' F' N' ap' K' S' t1 t2
    clear N9; (try clear N8)
    k_steps
    exact h _ _ d' (by k_asm) (by k_asm) ap' K' S' t1 (le11 t2)
  · k_steps
    with_reducible rename News _ _ _ _ => N8
    rename_i D8 h8 F8 l8 tk8 tk9 tk10
    refine ex0_7 l8 ?_; intro x1 x2 x3 x4 x5 x6 x0
    try clear l8
    have x7 := PySem.W.tb_ltOf x0
    have N7 := news_sub N8 (nl' := (d.feed, listOf #[.ref d.cells, .int d.turn d.tt] d.nF) :: (d.cells, listOf d.vs.toArray d.nC) :: (L + 1 + 1, d.o2) :: (L + 1, d.o1) :: (d.tw, d.otw) :: (d.pl, d.opl) :: rs) (by ((repeat (first | exact List.forall_mem_nil _ | refine List.forall_mem_cons.mpr ⟨by k_mem, ?_⟩ | (intro p' hp'; k_mem)))))
    clear N8
    ((refine' next_any rfl ?a_276 ?b_276 ?F_276 ?T_276 ?X_276 ?N_276 ?nd1_276 ?nd2_276 (by assumption) (by assumption) ?h0_276 ?h1_276 (by first | decide | (simp only [List.size_toArray]; first | assumption | omega)) (by first | decide | (simp only [List.size_toArray]; first | assumption | omega)) ?_; (case a_276 => (exact Nat.le_of_ble_eq_true rfl)); (case b_276 => (exact Nat.le_of_ble_eq_true rfl)); (case F_276 => k_asm); (case T_276 => k_asm); (case X_276 => k_asm); (case N_276 => k_asm); (case nd1_276 => first | assumption | k_ne); (case nd2_276 => first | assumption | k_all); (case h0_276 => first | assumption | omega); (case h1_276 => first | assumption | omega)))
    intro h2 tk2 r t2 t2' hr0 hr1 F2 N2
    by_cases hz : r = 0
    · subst hz
      (repeat ((fail_if_success (with_reducible show wpAny _ _ (execs [_, _, _] _) _ _ _)); first | (k_unfold; (try dsimp only)) | walk1 | (dsimp only; walk1) | (leave1; try dsimp only)))
      have N9 := fold _ _ N2
      refine law_k7 (d := { d with turn := d.turn + 1, tt := t2' }) hT' (by k_asm) T X N9 (LD.apart_turn ap _ _) { K with t0 := (by show 0 ≤ d.turn + 1; omega) } hc1 hc2 q2 ?_
      intro h' tk' d' F' N' ap' K' S' t1 t2
      clear N2 N9
      k_steps
      exact h _ _ d' (by k_asm) (by k_asm) ap' K' S' (by have t1' : d.turn + 1 ≤ d'.turn := t1; omega) (by have t2' : d'.turn ≤ d.turn + 1 + 10 := t2; omega)
    · have hz' : (r == 0) = false := by simpa using hz
      k_steps
      have N9 := fold _ _ N2
      exact h _ _ { d with turn := d.turn + 1, tt := t2' } (by k_asm) N9 (LD.apart_turn ap _ _) { K with t0 := (by show 0 ≤ d.turn + 1; omega) } ⟨rfl, rfl, rfl, rfl, rfl, rfl, rfl, rfl⟩ (by show d.turn ≤ d.turn + 1; omega) (by show d.turn + 1 ≤ d.turn + 11; omega)
end E_law_if
theorem law_if {w : World} {G : Heap} {L fa : Addr} {cd : Value} {p : Program} {loose : List Str} {mean : ExcName → Option Value} {mg mb : Str → Option Value} {E : Value → Shared → Prop} {s : Shared} {d : LD} {ns : List Int} {tc tr : Tok} {spec : List (Addr × Obj)} {v1 v3 : Option Value} {Q : Flow → Shared → Prop} : P_law_if w G L fa cd p loose mean mg mb E s d ns tc tr spec v1 v3 Q := eps_all (Ψ := U_law_if) E_law_if.go (w, G, L, fa, cd, p, loose, mean, mg, mb, E, s, d, ns, tc, tr, spec, v1, v3, Q)
section
variable {w : World} {G : Heap} {L fa : Addr} {cd : Value} {p : Program} {loose : List Str} {mean : ExcName → Option Value} {mg mb : Str → Option Value}
  {E : Value → Shared → Prop} {s : Shared} {bd b4 b5 : List Stmt} {ifs tl : Stmt} {scope : Scope}
end

section
variable {w : World} {G : Heap} {L fa : Addr} {cd : Value} {p : Program} {loose : List Str} {mean : ExcName → Option Value} {mg mb : Str → Option Value}
  {E : Value → Shared → Prop} {s : Shared} {bd b4 b5 : List Stmt} {tl : Stmt} {scope : Scope}
theorem kind_names {v1 v2 v4 v5 v6 v7 k r : Option Value} : ∀ y : Str, (if y = Str.ofString "is_right" then r else if y = Str.ofString "kind" then k else if y = Str.ofString "turn" then v1 else if y = Str.ofString "kind" then v2 else if y = Str.ofString "is_right" then v4 else if y = Str.ofString "world" then v5 else if y = Str.ofString "feed" then v6 else if y = Str.ofString "script" then v7 else none) =
    if y = Str.ofString "turn" then v1 else if y = Str.ofString "kind" then k else if y = Str.ofString "is_right" then r else if y = Str.ofString "world" then v5 else if y = Str.ofString "feed" then v6 else if y = Str.ofString "script" then v7 else none := by
  intro y
  by_cases e1 : y = Str.ofString "is_right"
  · subst e1; rfl
  by_cases e2 : y = Str.ofString "kind"
  · subst e2; rfl
  · simp only [if_neg e1, if_neg e2]
theorem law_rest {d : LD} {ns : List Int} {tc tr : Tok} {r : Int} {spec : List (Addr × Obj)} {v1 v3 : Option Value} {Q : Flow → Shared → Prop} (hT : turnParts PySem.Challenge.pw_pq0169_01 = some (scope, bd, b4, b5, tl))
  (F : Fr G L s.heap (fun y => if y = Str.ofString "turn" then v1 else if y = Str.ofString "kind" then some (.int r tr) else if y = Str.ofString "is_right" then some (.bool true) else if y = Str.ofString "world" then some (.ref d.aw) else if y = Str.ofString "feed" then some (.ref d.feed) else if y = Str.ofString "script" then v3 else none))
  (T : Top p loose mean mg mb G) (X : (hd.heap_1 w.params).In G) (C1 : CodeHd G 178 174) (C2 : CodeHd G 171 167) (C3 : CodeHd G 164 162) (N : News G L s.heap (spec ++ d.led)) (ap : Apart spec d.led) (K : d.Ok w) (hc1 : d.c1 = L + 1) (hc2 : d.c2 = L + 1 + 1) (hc3 : d.c3 = L + 1 + 1 + 1) (q2 : d.o2.data = .cell (some (.int d.x.c tc)))
  (hi : IntsAre d.vs ns) (hvl : d.vs.length ≤ 100) (h1 : d.turn ≤ 8990) (hr0 : 0 ≤ r) (hr1 : r < 8)
  (h : ∀ h' tk d', Fr G L h' (fun y => if y = Str.ofString "turn" then v1 else if y = Str.ofString "kind" then some (.int r tr) else if y = Str.ofString "is_right" then some (.bool true) else if y = Str.ofString "world" then some (.ref d.aw) else if y = Str.ofString "feed" then some (.ref d.feed) else if y = Str.ofString "script" then v3 else none) →
    News G L h' (spec ++ d'.led) → Apart spec d'.led → d'.Ok w → d.Same d' → d.turn ≤ d'.turn → d'.turn ≤ d.turn + 11 → Q .next { s with heap := h', toks := tk }) :
  wpAny (model PySem.Challenge.rw_pq0169_01.row.prog w) (lawA (envOfC (Str.ofString "law") scope L fa cd)) (execs (bd.drop 1) (envOfC (Str.ofString "law") scope L fa cd)) Q E s := by
  have hT' := hT
  cases hT
  show wpAny _ _ (execs [_, _] _) _ _ _
  (repeat ((fail_if_success (with_reducible show wpAny _ _ (exec (Stmt.If _ _ _ _) _) _ _ _)); first | (k_unfold; (try dsimp only)) | walk1 | (dsimp only; walk1) | (leave1; try dsimp only)))
  refine law_if hT' rfl (by k_asm) T X C1 C2 C3 (by k_asm) ap K hc1 hc2 hc3 q2 hi hvl h1 hr0 hr1 ?_
  intro h' tk' d' F' N' ap' K' S' t1 t2
  clear F N
  (repeat ((fail_if_success (with_reducible show wpAny _ _ (exec (Stmt.If _ _ _ _) _) _ _ _)); first | (k_unfold; (try dsimp only)) | walk1 | (dsimp only; walk1) | (leave1; try dsimp only)))
  have S'' := S'
  refine ex0_8 S' ?_; intro s1 s2 s3 s4 s5 s6 s7 s8
  try clear S'
  refine law_tail hT' (d := d') (v1 := v1) (v2 := some (.int r tr)) (v3 := v3) (by rw [s3, s1]; k_asm) T X (by k_asm) ap' K' (s5.trans hc1) ?_
  intro h2 tk2 F2 N2
  rw [s3, s1] at F2
  k_steps
  exact h _ _ d' (by k_asm) (by k_asm) ap' K' S'' t1 t2
end
def P_law_turn (w : World) (G : Heap) (L fa : Addr) (cd : Value) (p : Program) (loose : List Str) (mean : ExcName → Option Value) (mg mb : Str → Option Value) (E : Value → Shared → Prop) (s : Shared) (d : LD) (ns : List Int) (spec : List (Addr × Obj)) (v1 v2 v3 v4 : Option Value) (Q : Flow → Shared → Prop) : Prop := ∀ {bd : List Stmt} {b4 : List Stmt} {b5 : List Stmt} {tl : Stmt} {scope : Scope} (hT : turnParts PySem.Challenge.pw_pq0169_01 = some (scope, bd, b4, b5, tl)) (F : Fr G L s.heap (fun y => if y = Str.ofString "turn" then v1 else if y = Str.ofString "kind" then v2 else if y = Str.ofString "is_right" then v4 else if y = Str.ofString "world" then some (.ref d.aw) else if y = Str.ofString "feed" then some (.ref d.feed) else if y = Str.ofString "script" then v3 else none)) (T : Top p loose mean mg mb G) (X : (hd.heap_1 w.params).In G) (C1 : CodeHd G 178 174) (C2 : CodeHd G 171 167) (C3 : CodeHd G 164 162) (N : News G L s.heap (spec ++ d.led)) (ap : Apart spec d.led) (K : d.Ok w) (hc1 : d.c1 = L + 1) (hc2 : d.c2 = L + 1 + 1) (hc3 : d.c3 = L + 1 + 1 + 1) (hi : IntsAre d.vs ns) (hvl : d.vs.length ≤ 100) (h1 : d.turn ≤ 8900) (h : ∀ h' tk d' v5, Fr G L h' (fun y => if y = Str.ofString "turn" then v1 else if y = Str.ofString "kind" then v5 else if y = Str.ofString "is_right" then some (.bool true) else if y = Str.ofString "world" then some (.ref d.aw) else if y = Str.ofString "feed" then some (.ref d.feed) else if y = Str.ofString "script" then v3 else none) →
    News G L h' (spec ++ d'.led) → Apart spec d'.led → d'.Ok w → d.Same d' → d.turn ≤ d'.turn → d'.turn ≤ d.turn + 13 → Q .next { s with heap := h', toks := tk }), wpAny (model PySem.Challenge.rw_pq0169_01.row.prog w) (lawA (envOfC (Str.ofString "law") scope L fa cd)) (execs bd (envOfC (Str.ofString "law") scope L fa cd)) Q E s
def U_law_turn (c : (World) × (Heap) × (Addr) × (Addr) × (Value) × (Program) × (List Str) × (ExcName → Option Value) × (Str → Option Value) × (Str → Option Value) × (Value → Shared → Prop) × (Shared) × (LD) × (List Int) × (List (Addr × Obj)) × (Option Value) × (Option Value) × (Option Value) × (Option Value) × (Flow → Shared → Prop)) : Prop := P_law_turn c.1 c.2.1 c.2.2.1 c.2.2.2.1 c.2.2.2.2.1 c.2.2.2.2.2.1 c.2.2.2.2.2.2.1 c.2.2.2.2.2.2.2.1 c.2.2.2.2.2.2.2.2.1 c.2.2.2.2.2.2.2.2.2.1 c.2.2.2.2.2.2.2.2.2.2.1 c.2.2.2.2.2.2.2.2.2.2.2.1 c.2.2.2.2.2.2.2.2.2.2.2.2.1 c.2.2.2.2.2.2.2.2.2.2.2.2.2.1 c.2.2.2.2.2.2.2.2.2.2.2.2.2.2.1 c.2.2.2.2.2.2.2.2.2.2.2.2.2.2.2.1 c.2.2.2.2.2.2.2.2.2.2.2.2.2.2.2.2.1 c.2.2.2.2.2.2.2.2.2.2.2.2.2.2.2.2.2.1 c.2.2.2.2.2.2.2.2.2.2.2.2.2.2.2.2.2.2.1 c.2.2.2.2.2.2.2.2.2.2.2.2.2.2.2.2.2.2.2
/- the letters at which it would fail, if there are such -/
noncomputable def K_law_turn : (World) × (Heap) × (Addr) × (Addr) × (Value) × (Program) × (List Str) × (ExcName → Option Value) × (Str → Option Value) × (Str → Option Value) × (Value → Shared → Prop) × (Shared) × (LD) × (List Int) × (List (Addr × Obj)) × (Option Value) × (Option Value) × (Option Value) × (Option Value) × (Flow → Shared → Prop) := @Classical.epsilon _ (neP ⟨aWorld 0⟩ (neP ⟨default⟩ (neP ⟨default⟩ (neP ⟨default⟩ (neP ⟨default⟩ (neP ⟨default⟩ (neP ⟨default⟩ (neP ⟨default⟩ (neP ⟨default⟩ (neP ⟨default⟩ (neP ⟨default⟩ (neP neS (neP neLD (neP ⟨default⟩ (neP ⟨default⟩ (neP ⟨default⟩ (neP ⟨default⟩ (neP ⟨default⟩ (neP ⟨default⟩ ⟨default⟩))))))))))))))))))) fun c => ¬ U_law_turn c
namespace E_law_turn
noncomputable def w : World := K_law_turn.1
noncomputable def G : Heap := K_law_turn.2.1
noncomputable def L : Addr := K_law_turn.2.2.1
noncomputable def fa : Addr := K_law_turn.2.2.2.1
noncomputable def cd : Value := K_law_turn.2.2.2.2.1
noncomputable def p : Program := K_law_turn.2.2.2.2.2.1
noncomputable def loose : List Str := K_law_turn.2.2.2.2.2.2.1
noncomputable def mean : ExcName → Option Value := K_law_turn.2.2.2.2.2.2.2.1
noncomputable def mg : Str → Option Value := K_law_turn.2.2.2.2.2.2.2.2.1
noncomputable def mb : Str → Option Value := K_law_turn.2.2.2.2.2.2.2.2.2.1
noncomputable def E : Value → Shared → Prop := K_law_turn.2.2.2.2.2.2.2.2.2.2.1
noncomputable def s : Shared := K_law_turn.2.2.2.2.2.2.2.2.2.2.2.1
noncomputable def d : LD := K_law_turn.2.2.2.2.2.2.2.2.2.2.2.2.1
noncomputable def ns : List Int := K_law_turn.2.2.2.2.2.2.2.2.2.2.2.2.2.1
noncomputable def spec : List (Addr × Obj) := K_law_turn.2.2.2.2.2.2.2.2.2.2.2.2.2.2.1
noncomputable def v1 : Option Value := K_law_turn.2.2.2.2.2.2.2.2.2.2.2.2.2.2.2.1
noncomputable def v2 : Option Value := K_law_turn.2.2.2.2.2.2.2.2.2.2.2.2.2.2.2.2.1
noncomputable def v3 : Option Value := K_law_turn.2.2.2.2.2.2.2.2.2.2.2.2.2.2.2.2.2.1
noncomputable def v4 : Option Value := K_law_turn.2.2.2.2.2.2.2.2.2.2.2.2.2.2.2.2.2.2.1
noncomputable def Q : Flow → Shared → Prop := K_law_turn.2.2.2.2.2.2.2.2.2.2.2.2.2.2.2.2.2.2.2
theorem go : P_law_turn w G L fa cd p loose mean mg mb E s d ns spec v1 v2 v3 v4 Q := by
  intro bd b4 b5 tl scope hT F T X C1 C2 C3 N ap K hc1 hc2 hc3 hi hvl h1 h
  have hT' := hT
  cases hT
  revert X
  k_fill
  intro X
  have offR := off_spec ap K.off
  have ndA : @List.Nodup Nat [d.feed, d.cells, d.c2] := nd_pick K.nd [0, 1, 15] 20 rfl (by decide) (by decide)
  refine ex1_1 (⟨_, rfl⟩ : ∃ b, b = pick d.core [2, 3, 4, 5, 6, 7, 8, 9, 10, 11, 12, 13, 14, 16, 17, 18, 19] ++ (spec ++ d.rest)) ?_; intro rs hrs
  have N1 : News G L s.heap ((d.feed, listOf #[.ref d.cells, .int d.turn d.tt] d.nF) :: (d.cells, listOf d.vs.toArray d.nC) :: (L + 1 + 1, d.o2) :: rs) := by
    rw [← hc2, hrs]
    exact news_out (core := d.core) (rest := spec ++ d.rest) (spec_out N) [0, 1, 15] [2, 3, 4, 5, 6, 7, 8, 9, 10, 11, 12, 13, 14, 16, 17, 18, 19] 20 rfl (by decide) (by decide)
  have fold : ∀ {h' : Heap} (tn : Int) (tt : Tok) (o : Obj), News G L h' ((d.feed, listOf #[.ref d.cells, .int tn tt] d.nF) :: (d.cells, listOf d.vs.toArray d.nC) :: (L + 1 + 1, o) :: rs) → News G L h' (spec ++ LD.led { d with turn := tn, tt := tt, o2 := o }) := by
    intro h' tn tt o N'
    rw [← hc2, hrs] at N'
    exact spec_in (news_in (AE := [(d.feed, listOf #[.ref d.cells, .int tn tt] d.nF), (d.cells, listOf d.vs.toArray d.nC), (d.c2, o)]) (BE := pick d.core [2, 3, 4, 5, 6, 7, 8, 9, 10, 11, 12, 13, 14, 16, 17, 18, 19]) (ext := []) (rest := spec ++ d.rest) N' [0, 1, 3, 4, 5, 6, 7, 8, 9, 10, 11, 12, 13, 14, 15, 2, 16, 17, 18, 19] 20 rfl (by decide) rfl)
  have f1 : ∀ p ∈ rs, p.1 ≠ d.feed := hrs ▸ off_one K.nd offR 0 _ 20 rfl (by decide) (by decide)
  have f2 : ∀ p ∈ rs, p.1 ≠ L + 1 + 1 := by rw [← hc2]; exact hrs ▸ off_one K.nd offR 15 _ 20 rfl (by decide) (by decide)
  rw [hc2] at ndA
  simp only [List.nodup_cons, List.mem_cons, List.not_mem_nil, or_false, not_or, not_false_eq_true, List.nodup_nil, and_true] at ndA
  refine ex0_2 ndA ?_; intro N_1 n3
  try clear ndA
  refine ex0_2 N_1 ?_; intro n1 n2
  try clear N_1
  refine ex1_1 (K.q2) ?_; intro v9 q2
  have ht0 := K.t0
  k_steps
  ((refine' next_any rfl ?a_280 ?b_280 ?F_280 ?T_280 ?X_280 ?N_280 ?nd1_280 ?nd2_280 (by assumption) (by assumption) ?h0_280 ?h1_280 (by first | decide | (simp only [List.size_toArray]; first | assumption | omega)) (by first | decide | (simp only [List.size_toArray]; first | assumption | omega)) ?_; (case a_280 => (exact Nat.le_of_ble_eq_true rfl)); (case b_280 => (exact Nat.le_of_ble_eq_true rfl)); (case F_280 => k_asm); (case T_280 => k_asm); (case X_280 => k_asm); (case N_280 => k_asm); (case nd1_280 => first | assumption | k_ne); (case nd2_280 => first | assumption | k_all); (case h0_280 => first | assumption | omega); (case h1_280 => first | assumption | omega)))
  intro h2 tk2 r1 t2 t2' hr0 hr1 F2 N2
  k_steps
  ((refine' next_any rfl ?a_281 ?b_281 ?F_281 ?T_281 ?X_281 ?N_281 ?nd1_281 ?nd2_281 (by assumption) (by assumption) ?h0_281 ?h1_281 (by first | decide | (simp only [List.size_toArray]; first | assumption | omega)) (by first | decide | (simp only [List.size_toArray]; first | assumption | omega)) ?_; (case a_281 => (exact Nat.le_of_ble_eq_true rfl)); (case b_281 => (exact Nat.le_of_ble_eq_true rfl)); (case F_281 => k_asm); (case T_281 => k_asm); (case X_281 => k_asm); (case N_281 => k_asm); (case nd1_281 => first | assumption | k_ne); (case nd2_281 => first | assumption | k_all); (case h0_281 => first | assumption | omega); (case h1_281 => first | assumption | omega)))
  intro h3 tk3 r2 t3 t3' hr20 hr21 F3 N3
  (repeat ((fail_if_success (with_reducible show wpAny _ _ (execs [Stmt.If _ _ _ _, _] _) _ _ _)); first | (k_unfold; (try dsimp only)) | walk1 | (dsimp only; walk1) | (leave1; try dsimp only)))
  rename_i D8 h8 l8 h8a h8b h8c o8 d8 h9 F8 N8
  have N9 := fold _ _ o8 (news_sub N8 (by ((repeat (first | exact List.forall_mem_nil _ | refine List.forall_mem_cons.mpr ⟨by k_mem, ?_⟩ | (intro p' hp'; k_mem))))))
  have F9 := fr_eq F8 kind_names
  clear N8 F8 l8
  have hx : d.x.c = 1 + r2 ∨ d.y.c = 1 + r2 := by rcases K.xy with h | h <;> omega
  rcases hx with hx | hx
  · refine law_rest (d := { d with turn := d.turn + 1 + 1, tt := t3', o2 := o8 }) hT' F9 T X C1 C2 C3 N9 (apart_in (core := d.core) (ext := []) ap rfl (fun _ h => nomatch h)) { K with nd := K.nd, off := K.off, t0 := (by show 0 ≤ d.turn + 1 + 1; omega), q2 := ⟨_, d8⟩ } hc1 hc2 hc3 (by show o8.data = _; rw [d8, ← hx]) hi hvl (by show d.turn + 1 + 1 ≤ 8990; omega) hr0 hr1 ?_
    intro h' tk' d' F' N' ap' K' S' t1 t2
    exact h _ _ d' _ F' N' ap' K' S' (by have t1' : d.turn + 1 + 1 ≤ d'.turn := t1; omega) (by have t2' : d'.turn ≤ d.turn + 1 + 1 + 11 := t2; omega)
  · refine law_rest (d := LD.swap { d with turn := d.turn + 1 + 1, tt := t3', o2 := o8 }) hT' F9 T X C1 C2 C3 (spec_swap N9) (LD.swap_apart (apart_in (core := d.core) (ext := []) ap rfl (fun _ h => nomatch h))) (LD.Ok.swap { K with nd := K.nd, off := K.off, t0 := (by show 0 ≤ d.turn + 1 + 1; omega), q2 := ⟨_, d8⟩ }) hc1 hc2 hc3 (by show o8.data = .cell (some (.int d.y.c _)); rw [d8, ← hx]) hi hvl (by show d.turn + 1 + 1 ≤ 8990; omega) hr0 hr1 ?_
    intro h' tk' d' F' N' ap' K' S' t1 t2
    exact h _ _ d' _ F' N' ap' K' S' (by have t1' : d.turn + 1 + 1 ≤ d'.turn := t1; omega) (by have t2' : d'.turn ≤ d.turn + 1 + 1 + 11 := t2; omega)
end E_law_turn
theorem law_turn {w : World} {G : Heap} {L fa : Addr} {cd : Value} {p : Program} {loose : List Str} {mean : ExcName → Option Value} {mg mb : Str → Option Value} {E : Value → Shared → Prop} {s : Shared} {d : LD} {ns : List Int} {spec : List (Addr × Obj)} {v1 v2 v3 v4 : Option Value} {Q : Flow → Shared → Prop} : P_law_turn w G L fa cd p loose mean mg mb E s d ns spec v1 v2 v3 v4 Q := eps_all (Ψ := U_law_turn) E_law_turn.go (w, G, L, fa, cd, p, loose, mean, mg, mb, E, s, d, ns, spec, v1, v2, v3, v4, Q)
section
variable {w : World} {G : Heap} {L fa : Addr} {cd : Value} {p : Program} {loose : List Str} {mean : ExcName → Option Value} {mg mb : Str → Option Value}
  {E : Value → Shared → Prop} {s : Shared} {bd b4 b5 : List Stmt} {tl : Stmt} {scope : Scope}
end

def C18 : List Nat := [0, 1, 2, 3, 4, 7, 8, 9, 10, 11, 12, 13, 14, 15, 16, 17, 18, 19]
/- the state before the files are opened -/
structure LD.Pre (w : World) (d : LD) : Prop where
  nd : (adrs (pick d.core C18)).Nodup
  off : ∀ p ∈ d.rest, ¬ p.1 ∈ adrs (pick d.core C18)
  W : WorldAt d.rest d.aw d.awd d.afi d.aop d.afl
  lo1 : (d.afi == sysModules) = false
  lo2 : (d.aop == sysModules) = false
  lo3 : (d.afl == sysModules) = false
  lo4 : (d.pl == sysModules) = false
  lo5 : (d.bu == sysModules) = false
  dfi : d.ofi.IsDictOf (PySem.strKind PySem.Challenge.rw_pq0169_01.row.prog w) []
  doo : d.oo.IsDictOf (PySem.intKind PySem.Challenge.rw_pq0169_01.row.prog w) []
  dfl : d.ofl.IsDictOf (PySem.strKind PySem.Challenge.rw_pq0169_01.row.prog w) []
  dtw : d.otw.IsDictOf (PySem.strKind PySem.Challenge.rw_pq0169_01.row.prog w) d.kvt
  dpl : d.opl.IsDictOf (PySem.strKind PySem.Challenge.rw_pq0169_01.row.prog w) []
  dsz : d.osz.IsDictOf (PySem.intKind PySem.Challenge.rw_pq0169_01.row.prog w) d.kvs
  dbu : d.obu.IsDictOf (PySem.intKind PySem.Challenge.rw_pq0169_01.row.prog w) d.kvb
  drc : d.orc.IsDictOf (PySem.intKind PySem.Challenge.rw_pq0169_01.row.prog w) d.kvr
  zt : d.kvt.length ≤ 10
  zb : d.kvb.length ≤ 10
  vt1 : valueAt d.kvt (Str.ofString "places") = some (.ref d.pl)
  vt2 : valueAt d.kvt (Str.ofString "sizes") = some (.ref d.sz)
  vt3 : valueAt d.kvt (Str.ofString "buffers") = some (.ref d.bu)
  vt4 : valueAt d.kvt (Str.ofString "records") = some (.ref d.rc)
  ms : (d.sz, d.osz) ∈ d.rest
  mr : (d.rc, d.orc) ∈ d.rest
  kvf : d.kvf = []
  kvp : d.kvp = []
  fl : d.fl = []
  p2 : d.ps2 = #[]
  p7 : d.ps7 = #[]
  p4 : d.ps4 = #[]
  xc : d.x.c = 1
  yc : d.y.c = 2
  xs : d.x.size = 4
  ys : d.y.size = 6
  xo : d.x.opn = true
  yo : d.y.opn = true
  xn : d.x.nm = Str.ofString "ONE"
  yn : d.y.nm = Str.ofString "TWO"
  xv : valueAt d.kvs 1 = some (.int 4 d.x.ts)
  yv : valueAt d.kvs 2 = some (.int 6 d.y.ts)
  xr : valueAt d.kvr 1 = some (.ref d.x.rl)
  yr : valueAt d.kvr 2 = some (.ref d.y.rl)
  xb : valueAt d.kvb 1 = some (.ref d.x.blA)
  yb : valueAt d.kvb 2 = some (.ref d.y.blA)
  xbl : d.x.bl = List.replicate 4 0
  ybl : d.y.bl = List.replicate 6 0
  xS : SignsAre d.x.vsb (List.replicate 4 0)
  yS : SignsAre d.y.vsb (List.replicate 6 0)
  xrs : d.x.rs = []
  yrs : d.y.rs = []
  xrv : d.x.rvs = []
  yrv : d.y.rvs = []
  t0 : d.turn = 0
  q1 : d.o1.data = .cell (some (.ref d.tw))
  q2 : ∃ v, d.o2.data = .cell v
  q3 : ∃ v, d.o3.data = .cell v
theorem nd_app {core : List (Addr × Obj)} {b : Nat} (nd : (adrs core).Nodup) (hb : ¬ b ∈ adrs core) (o : Obj) : (adrs (core ++ [(b, o)])).Nodup := by
  unfold adrs
  rw [List.map_append, List.nodup_append]
  refine ⟨nd, by simp, ?_⟩
  intro a ha c hc e
  have hc' : c = b := by simpa using hc
  rw [e, hc'] at ha
  exact hb ha
theorem turn_names {a b : Option Value} {g : Str → Option Value} : ∀ y : Str, (if y = Str.ofString "turn" then a else if y = Str.ofString "turn" then b else g y) = if y = Str.ofString "turn" then a else g y := by
  intro y
  by_cases e : y = Str.ofString "turn"
  · simp only [if_pos e]
  · simp only [if_neg e]
theorem none_names {v5 v6 v7 : Option Value} : (fun y : Str => if y = Str.ofString "world" then v5 else if y = Str.ofString "feed" then v6 else if y = Str.ofString "script" then v7 else none) =
    fun y => if y = Str.ofString "turn" then none else if y = Str.ofString "kind" then none else if y = Str.ofString "is_right" then none else if y = Str.ofString "world" then v5 else if y = Str.ofString "feed" then v6 else if y = Str.ofString "script" then v7 else none := by
  funext y
  by_cases e1 : y = Str.ofString "turn"
  · subst e1; rfl
  by_cases e2 : y = Str.ofString "kind"
  · subst e2; rfl
  by_cases e3 : y = Str.ofString "is_right"
  · subst e3; rfl
  · simp only [if_neg e1, if_neg e2, if_neg e3]
section
variable {w : World} {G : Heap} {L fa : Addr} {cd : Value} {p : Program} {loose : List Str} {mean : ExcName → Option Value} {mg mb : Str → Option Value}
  {E : Value → Shared → Prop} {s : Shared} {body : List Stmt} {scope : Scope}
end
def P_law_main (w : World) (G : Heap) (L fa : Addr) (cd : Value) (p : Program) (loose : List Str) (mean : ExcName → Option Value) (mg mb : Str → Option Value) (E : Value → Shared → Prop) (s : Shared) (d : LD) (ns : List Int) (v3 : Option Value) (Q : Flow → Shared → Prop) : Prop := ∀ {body : List Stmt} {scope : Scope} (hf : lastFn PySem.Challenge.pw_pq0169_01 = some (body, scope)) (F : Fr G L s.heap (fun y => if y = Str.ofString "world" then some (.ref d.aw) else if y = Str.ofString "feed" then some (.ref d.feed) else if y = Str.ofString "script" then v3 else none)) (T : Top p loose mean mg mb G) (X : (hd.heap_1 w.params).In G) (C1 : CodeHd G 178 174) (C2 : CodeHd G 171 167) (C3 : CodeHd G 164 162) (N : News G L s.heap (pick d.core C18 ++ d.rest)) (P : d.Pre w) (hc1 : d.c1 = L + 1) (hc2 : d.c2 = L + 1 + 1) (hc3 : d.c3 = L + 1 + 1 + 1) (hi : IntsAre d.vs ns) (hvl : d.vs.length ≤ 100) (hE : PassesOwn (model PySem.Challenge.rw_pq0169_01.row.prog w) (lawA (envOfC (Str.ofString "law") scope L fa cd)) (envOfC (Str.ofString "law") scope L fa cd) E) (h : ∀ h' tk d' m', Fr G L h' m' → News G L h' (LD.led d') → Q (.ret (.bool true)) { s with heap := h', toks := tk }), wpAny (model PySem.Challenge.rw_pq0169_01.row.prog w) (lawA (envOfC (Str.ofString "law") scope L fa cd)) (execs (body.drop 2) (envOfC (Str.ofString "law") scope L fa cd)) Q E s
def U_law_main (c : (World) × (Heap) × (Addr) × (Addr) × (Value) × (Program) × (List Str) × (ExcName → Option Value) × (Str → Option Value) × (Str → Option Value) × (Value → Shared → Prop) × (Shared) × (LD) × (List Int) × (Option Value) × (Flow → Shared → Prop)) : Prop := P_law_main c.1 c.2.1 c.2.2.1 c.2.2.2.1 c.2.2.2.2.1 c.2.2.2.2.2.1 c.2.2.2.2.2.2.1 c.2.2.2.2.2.2.2.1 c.2.2.2.2.2.2.2.2.1 c.2.2.2.2.2.2.2.2.2.1 c.2.2.2.2.2.2.2.2.2.2.1 c.2.2.2.2.2.2.2.2.2.2.2.1 c.2.2.2.2.2.2.2.2.2.2.2.2.1 c.2.2.2.2.2.2.2.2.2.2.2.2.2.1 c.2.2.2.2.2.2.2.2.2.2.2.2.2.2.1 c.2.2.2.2.2.2.2.2.2.2.2.2.2.2.2
/- the letters at which it would fail, if there are such -/
noncomputable def K_law_main : (World) × (Heap) × (Addr) × (Addr) × (Value) × (Program) × (List Str) × (ExcName → Option Value) × (Str → Option Value) × (Str → Option Value) × (Value → Shared → Prop) × (Shared) × (LD) × (List Int) × (Option Value) × (Flow → Shared → Prop) := @Classical.epsilon _ (neP ⟨aWorld 0⟩ (neP ⟨default⟩ (neP ⟨default⟩ (neP ⟨default⟩ (neP ⟨default⟩ (neP ⟨default⟩ (neP ⟨default⟩ (neP ⟨default⟩ (neP ⟨default⟩ (neP ⟨default⟩ (neP ⟨default⟩ (neP neS (neP neLD (neP ⟨default⟩ (neP ⟨default⟩ ⟨default⟩))))))))))))))) fun c => ¬ U_law_main c
namespace E_law_main
noncomputable def w : World := K_law_main.1
noncomputable def G : Heap := K_law_main.2.1
noncomputable def L : Addr := K_law_main.2.2.1
noncomputable def fa : Addr := K_law_main.2.2.2.1
noncomputable def cd : Value := K_law_main.2.2.2.2.1
noncomputable def p : Program := K_law_main.2.2.2.2.2.1
noncomputable def loose : List Str := K_law_main.2.2.2.2.2.2.1
noncomputable def mean : ExcName → Option Value := K_law_main.2.2.2.2.2.2.2.1
noncomputable def mg : Str → Option Value := K_law_main.2.2.2.2.2.2.2.2.1
noncomputable def mb : Str → Option Value := K_law_main.2.2.2.2.2.2.2.2.2.1
noncomputable def E : Value → Shared → Prop := K_law_main.2.2.2.2.2.2.2.2.2.2.1
noncomputable def s : Shared := K_law_main.2.2.2.2.2.2.2.2.2.2.2.1
noncomputable def d : LD := K_law_main.2.2.2.2.2.2.2.2.2.2.2.2.1
noncomputable def ns : List Int := K_law_main.2.2.2.2.2.2.2.2.2.2.2.2.2.1
noncomputable def v3 : Option Value := K_law_main.2.2.2.2.2.2.2.2.2.2.2.2.2.2.1
noncomputable def Q : Flow → Shared → Prop := K_law_main.2.2.2.2.2.2.2.2.2.2.2.2.2.2.2
theorem go : P_law_main w G L fa cd p loose mean mg mb E s d ns v3 Q := by
  intro body scope hf F T X C1 C2 C3 N P hc1 hc2 hc3 hi hvl hE h
  cases hf
  revert X
  k_fill
  intro X
  show wpAny _ _ (execs [_, _, _, _] _) _ _ _
  have N1 := news_out N [2, 3] [0, 1, 4, 5, 6, 7, 8, 9, 10, 11, 12, 13, 14, 15, 16, 17] 18 rfl (by decide) (by decide)
  have N1 : News G L s.heap ((d.afi, d.ofi) :: (d.aop, d.oo) :: (pick (pick d.core C18) [0, 1, 4, 5, 6, 7, 8, 9, 10, 11, 12, 13, 14, 15, 16, 17] ++ d.rest)) := N1
  refine ex1_1 (⟨_, rfl⟩ : ∃ b, b = pick (pick d.core C18) [0, 1, 4, 5, 6, 7, 8, 9, 10, 11, 12, 13, 14, 15, 16, 17] ++ d.rest) ?_; intro rs hrs
  rw [← hrs] at N1
  have f1 : ∀ p ∈ rs, p.1 ≠ d.afi := hrs ▸ off_one P.nd P.off 2 _ 18 rfl (by decide) (by decide)
  have f2 : ∀ p ∈ rs, p.1 ≠ d.aop := hrs ▸ off_one P.nd P.off 3 _ 18 rfl (by decide) (by decide)
  have n1 : @Ne Nat d.afi d.aop := core_ne P.nd 2 3 (n := 18) rfl (by decide) (by decide) (by decide)
  have hsub : ∀ q ∈ d.rest, q ∈ rs := by rw [hrs]; exact fun q hq => List.mem_append_right _ hq
  have WT := P.W.sub hsub
  k_steps
  refine openA rfl (by (exact Nat.le_of_ble_eq_true rfl)) (by (exact Nat.le_of_ble_eq_true rfl)) (by k_asm) T X N1 f1 f2 n1 WT P.doo P.lo2 P.dfi P.lo1 ?_
  intro h2 tk2 am1 om1 ofi1 oo1 kvm1 tf1 F2 N2 do1 dfi1 dom1 M1 l1
  have N3 := news_sub N2 (nl' := (d.afi, ofi1) :: (d.aop, oo1) :: (am1, om1) :: rs) (by ((repeat (first | exact List.forall_mem_nil _ | refine List.forall_mem_cons.mpr ⟨by k_mem, ?_⟩ | (intro p' hp'; k_mem)))))
  clear N2
  have lr1 : ∀ q ∈ rs, @LT.lt Nat _ q.1 am1 := fun q hq => l1 q (.tail _ (.tail _ hq))
  k_steps
  refine openB rfl (by (exact Nat.le_of_ble_eq_true rfl)) (by (exact Nat.le_of_ble_eq_true rfl)) (by k_asm) T X N3 (List.forall_mem_cons.mpr ⟨Nat.ne_of_gt (l1 (d.afi, d.ofi) (.head _)), f1⟩) (List.forall_mem_cons.mpr ⟨Nat.ne_of_gt (l1 (d.aop, d.oo) (.tail _ (.head _))), f2⟩) n1 (WT.sub fun q hq => .tail _ hq) do1 (.head _) dom1 M1 P.lo2 dfi1 P.lo1 ?_
  intro h3 tk3 am2 om2 ofi2 oo2 kvm2 tf2 F3 N4 do2 dfi2 dom2 M2 l2
  have lr2 : ∀ q ∈ rs, @LT.lt Nat _ q.1 am2 := fun q hq => l2 q (.tail _ (.tail _ (.tail _ hq)))
  have l12 : @LT.lt Nat _ am1 am2 := l2 (am1, om1) (.tail _ (.tail _ (.head _)))
  rw [hrs] at N4
  refine ex1_1 (⟨_, rfl⟩ : ∃ d2 : LD, d2 = { d with ofi := ofi2, kvfi := [(Str.ofString "ONE", .str (Str.ofString "") tf1), (Str.ofString "TWO", .str (Str.ofString "") tf2)], oo := oo2, kvo := [(1, .ref am1), (2, .ref am2)], x := { d.x with am := am1, om := om1, kvm := kvm1, r := 0, tf := tf1 }, y := { d.y with am := am2, om := om2, kvm := kvm2, r := 0, tf := tf2 } }) ?_; intro d2 hd2
  have N5 : News G L h3 d2.led := by
    rw [hd2]
    exact news_in (AE := [(am2, om2), (d.afi, ofi2), (d.aop, oo2), (am1, om1)]) (BE := pick (pick d.core C18) [0, 1, 4, 5, 6, 7, 8, 9, 10, 11, 12, 13, 14, 15, 16, 17]) (ext := []) (rest := d.rest) N4 [4, 5, 1, 2, 6, 3, 0, 7, 8, 9, 10, 11, 12, 13, 14, 15, 16, 17, 18, 19] 20 rfl (by decide) rfl
  have cov : ∀ q ∈ pick d.core C18, @LT.lt Nat _ q.1 am1 := by
    intro q hq
    have hp := pick_all (I := [2, 3] ++ [0, 1, 4, 5, 6, 7, 8, 9, 10, 11, 12, 13, 14, 15, 16, 17]) (n := 18) rfl (by decide) q hq
    unfold pick at hp
    rw [List.map_append] at hp
    rcases List.mem_append.mp hp with h | h
    · refine mcons h ?_ fun h => ?_
      · exact l1 (d.afi, d.ofi) (.head _)
      rw [List.mem_singleton.mp h]
      exact l1 (d.aop, d.oo) (.tail _ (.head _))
    · exact lr1 q (by rw [hrs]; exact List.mem_append_left _ h)
  have hf1 : ¬ (am1 : Nat) ∈ adrs (pick d.core C18) := fun hc => by
    refine ex1_2 (List.mem_map.mp hc) ?_; intro q hq e
    exact absurd e (Nat.ne_of_lt (cov q hq))
  have hf2 : ¬ (am2 : Nat) ∈ adrs (pick d.core C18 ++ [(am1, om1)]) := fun hc => by
    refine ex1_2 (List.mem_map.mp hc) ?_; intro q hq e
    rcases List.mem_append.mp hq with hq | hq
    · exact absurd e (Nat.ne_of_lt (Nat.lt_trans (cov q hq) l12))
    · rw [List.mem_singleton.mp hq] at e
      exact absurd e (Nat.ne_of_lt l12)
  have nd2 := nd_app (nd_app P.nd hf1 om1) hf2 om2
  have K2 : d2.Ok w := by
    rw [hd2]
    exact {
      nd := nd_pick nd2 [0, 1, 2, 3, 4, 18, 19, 5, 6, 7, 8, 9, 10, 11, 12, 13, 14, 15, 16, 17] 20 rfl (by decide) (by decide)
      off := fun q hq hc => by
        have hc2 : q.1 ∈ adrs (pick (pick d.core C18 ++ [(am1, om1)] ++ [(am2, om2)]) [0, 1, 2, 3, 4, 18, 19, 5, 6, 7, 8, 9, 10, 11, 12, 13, 14, 15, 16, 17]) := hc
        refine ex1_2 (List.mem_map.mp hc2) ?_; intro q' hq' e
        rcases List.mem_append.mp (pick_mem (n := 20) rfl (by decide) q' hq') with h | h
        · rcases List.mem_append.mp h with h | h
          · exact P.off q hq (List.mem_map.mpr ⟨q', h, e⟩)
          · rw [List.mem_singleton.mp h] at e
            exact absurd e (Nat.ne_of_gt (lr1 q (hsub q hq)))
        · rw [List.mem_singleton.mp h] at e
          exact absurd e (Nat.ne_of_gt (lr2 q (hsub q hq)))
      W := P.W
      lo1 := P.lo1
      lo2 := P.lo2
      lo3 := P.lo3
      lo4 := P.lo4
      lo5 := P.lo5
      dfi := dfi2
      doo := do2
      dfl := by show d.ofl.IsDictOf _ d.kvf; rw [P.kvf]; exact P.dfl
      dtw := P.dtw
      dpl := by show d.opl.IsDictOf _ d.kvp; rw [P.kvp]; exact P.dpl
      dsz := P.dsz
      dbu := P.dbu
      drc := P.drc
      zfi := (by show 2 ≤ 10; decide)
      zo := (by show 2 ≤ 10; decide)
      zt := P.zt
      zb := P.zb
      vt1 := P.vt1
      vt2 := P.vt2
      vt3 := P.vt3
      vt4 := P.vt4
      ms := P.ms
      mr := P.mr
      f5 := by show FieldsAt d.rest d.kvf d.fl; rw [P.kvf, P.fl]; trivial
      f6 := by show PlacesAt d.rest d.kvp d.fl; rw [P.kvp, P.fl]; trivial
      t2 := by show TabOk d.rest _ d.ps2; rw [P.p2]; exact TabOk.nil _ _
      t7 := by show TabOk d.rest _ d.ps7; rw [P.p7]; exact TabOk.nil _ _
      t4 := by show TabOk d.rest _ d.ps4; rw [P.p4]; exact TabOk.nil _ _
      xo := {
        sc := .inl ⟨P.xc, P.xs, P.xn⟩
        vs := by show valueAt d.kvs d.x.c = some (.int d.x.size d.x.ts); rw [P.xc, P.xs]; exact P.xv
        vr := by show valueAt d.kvr d.x.c = _; rw [P.xc]; exact P.xr
        vf := by show valueAt _ d.x.nm = some (.str (TS d.x.rs.flatten) tf1); rw [P.xn, P.xrs]; rfl
        R := by show RecsIn d.rest d.x.rvs d.x.rs; rw [P.xrs, P.xrv]; trivial
        zr := by show ∀ r ∈ d.x.rs, _; rw [P.xrs]; simp
        zr3 := by show d.x.rs.length ≤ 3; rw [P.xrs]; decide
        zc := by show ∀ c ∈ d.x.rs.flatten, _; rw [P.xrs]; simp
        shut := fun hc => by have := P.xo.symm.trans hc; cases this
        vo := fun _ => by show valueAt _ d.x.c = _; rw [P.xc]; rfl
        vb := fun _ => by show valueAt d.kvb d.x.c = _; rw [P.xc]; exact P.xb
        dm := dom1
        M := by show MadeIs kvm1 d.x.nm d.x.size d.x.bl 0; rw [P.xn, P.xs, P.xbl]; exact M1
        S := by show SignsAre d.x.vsb d.x.bl; rw [P.xbl]; exact P.xS
        zb := by show d.x.bl.length = d.x.size.toNat; rw [P.xbl, P.xs]; rfl
        zbc := by show ∀ c ∈ d.x.bl, _; rw [P.xbl]; intro c hc; rw [List.eq_of_mem_replicate hc]; decide }
      yo := {
        sc := .inr ⟨P.yc, P.ys, P.yn⟩
        vs := by show valueAt d.kvs d.y.c = some (.int d.y.size d.y.ts); rw [P.yc, P.ys]; exact P.yv
        vr := by show valueAt d.kvr d.y.c = _; rw [P.yc]; exact P.yr
        vf := by show valueAt _ d.y.nm = some (.str (TS d.y.rs.flatten) tf2); rw [P.yn, P.yrs]; rfl
        R := by show RecsIn d.rest d.y.rvs d.y.rs; rw [P.yrs, P.yrv]; trivial
        zr := by show ∀ r ∈ d.y.rs, _; rw [P.yrs]; simp
        zr3 := by show d.y.rs.length ≤ 3; rw [P.yrs]; decide
        zc := by show ∀ c ∈ d.y.rs.flatten, _; rw [P.yrs]; simp
        shut := fun hc => by have := P.yo.symm.trans hc; cases this
        vo := fun _ => by show valueAt _ d.y.c = _; rw [P.yc]; rfl
        vb := fun _ => by show valueAt d.kvb d.y.c = _; rw [P.yc]; exact P.yb
        dm := dom2
        M := by show MadeIs kvm2 d.y.nm d.y.size d.y.bl 0; rw [P.yn, P.ys, P.ybl]; exact M2
        S := by show SignsAre d.y.vsb d.y.bl; rw [P.ybl]; exact P.yS
        zb := by show d.y.bl.length = d.y.size.toNat; rw [P.ybl, P.ys]; rfl
        zbc := by show ∀ c ∈ d.y.bl, _; rw [P.ybl]; intro c hc; rw [List.eq_of_mem_replicate hc]; decide }
      xy := .inl ⟨P.xc, P.yc⟩
      fnd := by show (d.fl.map (·.1)).Nodup; rw [P.fl]; exact List.nodup_nil
      fnm := by show ∀ p ∈ d.fl, _; rw [P.fl]; simp
      fb := by
        intro q hq
        have hq' : q ∈ d.fl := hq
        rw [P.fl] at hq'
        exact nomatch hq'
      t0 := by show 0 ≤ d.turn; rw [P.t0]; decide
      q1 := P.q1
      q2 := P.q2
      q3 := P.q3 }
  have e2 : d2.feed = d.feed ∧ d2.aw = d.aw ∧ d2.c1 = d.c1 ∧ d2.c2 = d.c2 ∧ d2.c3 = d.c3 ∧ d2.vs = d.vs ∧ d2.turn = 0 := by rw [hd2]; exact ⟨rfl, rfl, rfl, rfl, rfl, rfl, P.t0⟩
  refine ex0_7 e2 ?_; intro e21 e22 e23 e24 e25 e26 e27
  try clear e2
  clear hd2 N4 N3 N1 hf1 hf2 nd2 cov
  rw [← e21, ← e22] at F3
  have hT : turnParts PySem.Challenge.pw_pq0169_01 = some (_, _, _, _, _) := rfl
  have offR := K2.off
  refine ex1_1 (⟨_, rfl⟩ : ∃ b, b = pick d2.core [2, 3, 4, 5, 6, 7, 8, 9, 10, 11, 12, 13, 14, 15, 16, 17, 18, 19] ++ d2.rest) ?_; intro r2 hr2
  have N6 : News G L h3 ((d2.feed, listOf #[.ref d2.cells, .int d2.turn d2.tt] d2.nF) :: (d2.cells, listOf d2.vs.toArray d2.nC) :: r2) := by
    rw [hr2]
    exact news_out (core := d2.core) (rest := d2.rest) N5 [0, 1] [2, 3, 4, 5, 6, 7, 8, 9, 10, 11, 12, 13, 14, 15, 16, 17, 18, 19] 20 rfl (by decide) (by decide)
  have fold : ∀ {h' : Heap} (tn : Int) (tt : Tok), News G L h' ((d2.feed, listOf #[.ref d2.cells, .int tn tt] d2.nF) :: (d2.cells, listOf d2.vs.toArray d2.nC) :: r2) → News G L h' (LD.led { d2 with turn := tn, tt := tt }) := by
    intro h' tn tt N'
    rw [hr2] at N'
    exact news_in (AE := [(d2.feed, listOf #[.ref d2.cells, .int tn tt] d2.nF), (d2.cells, listOf d2.vs.toArray d2.nC)]) (BE := pick d2.core [2, 3, 4, 5, 6, 7, 8, 9, 10, 11, 12, 13, 14, 15, 16, 17, 18, 19]) (ext := []) (rest := d2.rest) N' [0, 1, 2, 3, 4, 5, 6, 7, 8, 9, 10, 11, 12, 13, 14, 15, 16, 17, 18, 19] 20 rfl (by decide) rfl
  have g1 : ∀ p ∈ r2, p.1 ≠ d2.feed := hr2 ▸ off_one K2.nd offR 0 _ 20 rfl (by decide) (by decide)
  have g2 : @Ne Nat d2.cells d2.feed := core_ne K2.nd 1 0 (n := 20) rfl (by decide) (by decide) (by decide)
  have hi2 : IntsAre d2.vs ns := by rw [e26]; exact hi
  have hvl2 : d2.vs.length ≤ 100 := by rw [e26]; exact hvl
  rw [e27] at N6
  clear N5
  (repeat ((fail_if_success (with_reducible show wpAny _ _ (exec (Stmt.For _ _ _ _ _) _) _ _ _)); first | (k_unfold; (try dsimp only)) | walk1 | (dsimp only; walk1) | (leave1; try dsimp only)))
  with_reducible rename Fr _ _ _ _ => FF
  (with_unfolding_all refine' For_invVF FF ?k1 ?k2 ?_ (hE := hE); (case k1 => exact rfl); (case k2 => exact rfl))
  k_steps
  ((refine' next_any rfl ?a_290 ?b_290 ?F_290 ?T_290 ?X_290 ?N_290 ?nd1_290 ?nd2_290 (by assumption) (by assumption) ?h0_290 ?h1_290 (by first | decide | (simp only [List.size_toArray]; first | assumption | omega)) (by first | decide | (simp only [List.size_toArray]; first | assumption | omega)) ?_; (case a_290 => (exact Nat.le_of_ble_eq_true rfl)); (case b_290 => (exact Nat.le_of_ble_eq_true rfl)); (case F_290 => k_asm); (case T_290 => k_asm); (case X_290 => k_asm); (case N_290 => k_asm); (case nd1_290 => first | assumption | k_ne); (case nd2_290 => first | assumption | k_all); (case h0_290 => first | assumption | omega); (case h1_290 => first | assumption | omega)))
  intro h4 tk4 r t2 t2' hr0 hr1 F4 N7
  (repeat ((fail_if_success (with_reducible show wpAny _ _ (call (Value.type "range") _) _ _ _)); first | (k_unfold; (try dsimp only)) | walk1 | (dsimp only; walk1) | (leave1; try dsimp only)))
  refine ex0_2 (range_facts (a := 0) (b := 3 + r) (by omega) (by omega) (by omega)) ?_; intro hS hZ
  refine range1_rows F4 N7 ?_
  intro h5 tk5 t5 u5 v5 hR F5 N8 hk5
  dsimp only
  have N9 := fold _ _ N8
  refine iter_rangeUnr (n := (3 + r - 0).toNat) (by rfl) hR hS hZ F5 N9 (fun I hI => ?_)
  have hI0 : ∀ q ∈ LD.led { d2 with turn := 0 + 1, tt := t2' }, @Ne Nat I q.1 := fun q hq => Nat.ne_of_gt (hI q hq)
  refine range_ind (J := fun i m' news => ∃ d', (∃ w1 w2 w4 : Option Value, m' = fun y => if y = Str.ofString "turn" then w1 else if y = Str.ofString "kind" then w2 else if y = Str.ofString "is_right" then w4 else if y = Str.ofString "world" then some (.ref d2.aw) else if y = Str.ofString "feed" then some (.ref d2.feed) else if y = Str.ofString "script" then v3 else none) ∧ news = LD.led d' ∧ d'.Ok w ∧ d2.Same d' ∧ d'.turn ≤ 1 + 13 * (i : Int) ∧ ∀ q ∈ LD.led d', @Ne Nat I q.1)
    ?step ?done _ 0 _ _ (by omega) ?init
  case init =>
    exact in1_6 ({ d2 with turn := 0 + 1, tt := t2' }) ⟨none, none, none, none_names⟩ rfl ({ K2 with t0 := (by show (0 : Int) ≤ 0 + 1; decide) }) ⟨rfl, rfl, rfl, rfl, rfl, rfl, rfl, rfl⟩ ((by show (0 + 1 : Int) ≤ 1 + 13 * ((0 : Nat) : Int); decide)) hI0
  case done =>
    intro m' news h9 tk9 N_1 F6 N6
    refine ex1_6 N_1 ?_; intro d' N_2 E_3 K' S' ht hI'
    try clear N_1
    refine ex3_1 N_2 ?_; intro w1 w2 w4 E_4
    try clear N_2
    subst E_4
    subst E_3
    change Fr G L _ _ at F6
    change News G L _ _ at N6
    k_steps
    exact h _ _ d' _ (by k_asm) (by k_asm)
  case step =>
    intro i m' news t9 h9 tk9 oI hi9 N_5 F6 N6
    refine ex1_6 N_5 ?_; intro d' N_6 E_7 K' S' ht hI'
    try clear N_5
    refine ex3_1 N_6 ?_; intro w1 w2 w4 E_8
    try clear N_6
    subst E_8
    subst E_7
    change Fr G L _ _ at F6
    change News G L _ _ at N6
    have S2 := S'
    refine ex0_8 S' ?_; intro s1 s2 s3 s4 s5 s6 s7 s8
    try clear S'
    have ap : Apart [(I, oI)] d'.led := fun q hq q' hq' => by rw [List.mem_singleton.mp hq]; exact hI' q' hq'
    have hi14 : i < 14 := by omega
    refine law_turn (d := d') (spec := [(I, oI)]) (v1 := some (.int (0 + (i : Int)) t9)) (v2 := w2) (v3 := v3) (v4 := w4) hT (by rw [s3, s1]; exact fr_eq F6 turn_names) T X C1 C2 C3 N6 ap K' (s5.trans (e23.trans hc1)) (s6.trans (e24.trans hc2)) (s7.trans (e25.trans hc3)) (by rw [s8]; exact hi2) (by rw [s8]; exact hvl2) (by omega) ?_
    intro h2 tk2 d'' v5 F'' N'' ap'' K'' S'' t1 t2
    rw [s3, s1] at F''
    refine ex0_8 S'' ?_; intro z1 z2 z3 z4 z5 z6 z7 z8
    try clear S''
    exact ⟨h2, tk2, _, LD.led d'', rfl, F'', N'', fun q hq => Ne.symm (ap'' (I, oI) (.head _) q hq), d'', ⟨_, v5, _, rfl⟩, rfl, K'', ⟨z1.trans s1, z2.trans s2, z3.trans s3, z4.trans s4, z5.trans s5, z6.trans s6, z7.trans s7, z8.trans s8⟩, (by push_cast; omega), fun q hq => ap'' (I, oI) (.head _) q hq⟩
end E_law_main
theorem law_main {w : World} {G : Heap} {L fa : Addr} {cd : Value} {p : Program} {loose : List Str} {mean : ExcName → Option Value} {mg mb : Str → Option Value} {E : Value → Shared → Prop} {s : Shared} {d : LD} {ns : List Int} {v3 : Option Value} {Q : Flow → Shared → Prop} : P_law_main w G L fa cd p loose mean mg mb E s d ns v3 Q := eps_all (Ψ := U_law_main) E_law_main.go (w, G, L, fa, cd, p, loose, mean, mg, mb, E, s, d, ns, v3, Q)
section
variable {w : World} {G : Heap} {L fa : Addr} {cd : Value} {p : Program} {loose : List Str} {mean : ExcName → Option Value} {mg mb : Str → Option Value}
  {E : Value → Shared → Prop} {s : Shared} {body : List Stmt} {scope : Scope}
end

section
variable {prog : Program} {w : World} {A : Around} {E : Value → Shared → Prop} {s : Shared} {G : Heap} {L : Addr} {m : Str → Option Value} {news : List (Addr × Obj)}
theorem mul_zeros {l : Addr} {t u : Tok} {x : Int} {k : Nat} {Q : Value → Shared → Prop} (F : Fr G L s.heap m) (N : News G L s.heap news) (hl : s.heap.IsList l #[Value.str (Str.ofString "\x00") t]) (hlo : -(2 ^ 63 : Int) ≤ x) (hhi : x < 2 ^ 63) (hx : x.toNat = k) (hk : k ≤ 10)
    (h : ∀ D h' vsb, SignsAre vsb (List.replicate k 0) → Fr G L h' m → News G L h' ((D, listOf vsb.toArray 0) :: news) → (∀ p ∈ news, p.1 < D) → Q (.ref D) { s with heap := h' }) : wpAny (model prog w) A (binaryOp .Mult (.ref l) (.int x u)) Q E s := by
  subst hx
  exact KMa.mul F N (vs := [Value.str (Str.ofString "\x00") t]) (x := x) hl hlo hhi (by simp; omega) (ws := List.replicate x.toNat (Value.str (Str.ofString "\x00") t)) (by simp) fun D h' F' N' l' => h D h' _ (signs_zeros _) F' N' l'
end
def chainN : Nat → List Nat → Prop
  | _, [] => True
  | a, b :: l => a < b ∧ chainN b l
theorem chain_lt : ∀ {l : List Nat} {a : Nat}, chainN a l → ∀ x ∈ l, a < x
  | [], _, _, _, h => nomatch h
  | b :: l, a, h, x, hx => by
    refine mcons hx ?_ fun hx => ?_
    · exact h.1
    · exact Nat.lt_trans h.1 (chain_lt h.2 x hx)
theorem chain_nodup : ∀ {l : List Nat} {a : Nat}, chainN a l → l.Nodup
  | [], _, _ => List.nodup_nil
  | b :: l, _, h => List.nodup_cons.mpr ⟨fun hm => Nat.lt_irrefl _ (chain_lt h.2 b hm), chain_nodup h.2⟩
theorem chain_le {l : List Nat} {a b : Nat} (h : chainN a (l ++ [b])) : ∀ x ∈ l, x < b := by
  induction l generalizing a with
  | nil => exact fun x hx => nomatch hx
  | cons c l ih =>
    intro x hx
    refine mcons hx ?_ fun hx => ?_
    · exact chain_lt h.2 b (List.mem_append_right _ (.head _))
    · exact ih h.2 x hx
def pickN (l : List Nat) (I : List Nat) : List Nat := I.map fun i => l.getD i 0
theorem pickN_eq (l I : List Nat) : pickN l I = adrs (pick (l.map fun a => ((a : Addr), dO.2)) I) := by
  unfold pickN adrs pick
  rw [List.map_map]
  refine List.map_congr_left fun i _ => ?_
  show l.getD i 0 = ((l.map fun a => ((a : Addr), dO.2)).getD i dO).1
  rw [List.getD_eq_getElem?_getD, List.getD_eq_getElem?_getD, List.getElem?_map]
  cases l[i]? <;> rfl
theorem adrs_pairs (l : List Nat) : adrs (l.map fun a => ((a : Addr), dO.2)) = l := by
  unfold adrs
  rw [List.map_map]
  exact List.map_id'' (fun _ => rfl) l
theorem pickN_nodup {l I : List Nat} {n : Nat} (h : l.Nodup) (hn : l.length = n) (hI : I.Nodup) (hI' : ∀ i ∈ I, i < n) : (pickN l I).Nodup := by
  rw [pickN_eq]
  exact nd_pick (by rw [adrs_pairs]; exact h) I n (by rw [List.length_map]; exact hn) hI hI'
theorem pickN_off {l I : List Nat} {n j : Nat} (h : l.Nodup) (hn : l.length = n) (hI : I.Nodup) (hI' : ∀ i ∈ I, i < n) (hj : j < n) (hjI : j ∉ I) : ¬ l.getD j 0 ∈ pickN l I := by
  intro hm
  have z : (pickN l (j :: I)).Nodup := pickN_nodup h hn (List.nodup_cons.mpr ⟨hjI, hI⟩) (List.forall_mem_cons.mpr ⟨hj, hI'⟩)
  exact (List.nodup_cons.mp z).1 hm
theorem pickN_mem {l I : List Nat} {n : Nat} (hn : l.length = n) (hI' : ∀ i ∈ I, i < n) : ∀ x ∈ pickN l I, x ∈ l := by
  intro x hx
  refine ex1_2 (List.mem_map.mp hx) ?_; intro i hi E_1
  subst E_1
  rw [List.getD_eq_getElem?_getD, List.getElem?_eq_getElem (hn ▸ hI' i hi)]
  exact List.getElem_mem _
theorem nd18 {F C A1 A2 A3 T P S B b1 b2 R r1 r2 L D : Nat} (a1 : 174 < L) (a2 : 167 < L) (a3 : 162 < L) (b : L + 1 + 1 + 1 < C) (c : C < F) (d1 : F < A1) (d2 : F < A2) (d3 : F < A3) (n1 : A1 ≠ A2) (n2 : A1 ≠ A3) (n3 : A2 ≠ A3)
    (e1 : A1 < D) (e2 : A2 < D) (e3 : A3 < D) (f : D < T) (g : T < P) (h : P < S) (i : S < B) (j : B < b1) (k : b1 < b2) (l : b2 < R) (m : R < r1) (o : r1 < r2) :
    List.Nodup [F, C, A1, A2, A3, T, P, B, b1, b2, r1, r2, L + 1, L + 1 + 1, L + 1 + 1 + 1, 162, 167, 174] ∧ ¬ S ∈ [F, C, A1, A2, A3, T, P, B, b1, b2, r1, r2, L + 1, L + 1 + 1, L + 1 + 1 + 1, 162, 167, 174] ∧ ¬ R ∈ [F, C, A1, A2, A3, T, P, B, b1, b2, r1, r2, L + 1, L + 1 + 1, L + 1 + 1 + 1, 162, 167, 174] ∧
    ∀ x : Nat, F < x → x < D → x ≠ A1 → x ≠ A2 → x ≠ A3 → ¬ x ∈ [F, C, A1, A2, A3, T, P, B, b1, b2, r1, r2, L + 1, L + 1 + 1, L + 1 + 1 + 1, 162, 167, 174] := by
  have X : chainN 0 ([162, 167, 174, L + 1, L + 1 + 1, L + 1 + 1 + 1, C] ++ [F]) := ⟨by decide, by decide, by decide, Nat.lt_succ_of_lt a1, Nat.lt_succ_self _, Nat.lt_succ_self _, b, c, trivial⟩
  have Z : chainN D [T, P, S, B, b1, b2, R, r1, r2] := ⟨f, g, h, i, j, k, l, m, o, trivial⟩
  have XF : ∀ x ∈ [162, 167, 174, L + 1, L + 1 + 1, L + 1 + 1 + 1, C] ++ [F], x ≤ F := fun x hx => by
    rcases List.mem_append.mp hx with hx | hx
    · exact Nat.le_of_lt (chain_le X x hx)
    · exact Nat.le_of_eq (List.mem_singleton.mp hx)
  have Y : ∀ x ∈ [A1, A2, A3], F < x ∧ x < D := List.forall_mem_cons.mpr ⟨⟨d1, e1⟩, List.forall_mem_cons.mpr ⟨⟨d2, e2⟩, List.forall_mem_cons.mpr ⟨⟨d3, e3⟩, List.forall_mem_nil _⟩⟩⟩
  have FD : F < D := Nat.lt_trans d1 e1
  have NY : [A1, A2, A3].Nodup := List.nodup_cons.mpr ⟨List.not_mem_cons_of_ne_of_not_mem n1 (List.not_mem_cons_of_ne_of_not_mem n2 List.not_mem_nil), List.nodup_cons.mpr ⟨List.not_mem_cons_of_ne_of_not_mem n3 List.not_mem_nil, List.nodup_cons.mpr ⟨List.not_mem_nil, List.nodup_nil⟩⟩⟩
  have ND : (([162, 167, 174, L + 1, L + 1 + 1, L + 1 + 1 + 1, C] ++ [F]) ++ ([A1, A2, A3] ++ [T, P, S, B, b1, b2, R, r1, r2])).Nodup := by
    refine List.nodup_append.mpr ⟨chain_nodup X, List.nodup_append.mpr ⟨NY, chain_nodup Z, ?_⟩, ?_⟩
    · exact fun x hx y hy => Nat.ne_of_lt (Nat.lt_trans (Y x hx).2 (chain_lt Z y hy))
    · intro x hx y hy
      rcases List.mem_append.mp hy with hy | hy
      · exact Nat.ne_of_lt (Nat.lt_of_le_of_lt (XF x hx) (Y y hy).1)
      · exact Nat.ne_of_lt (Nat.lt_of_le_of_lt (XF x hx) (Nat.lt_trans FD (chain_lt Z y hy)))
  have hn : (([162, 167, 174, L + 1, L + 1 + 1, L + 1 + 1 + 1, C] ++ [F]) ++ ([A1, A2, A3] ++ [T, P, S, B, b1, b2, R, r1, r2])).length = 20 := rfl
  refine ⟨pickN_nodup (I := [7, 6, 8, 9, 10, 11, 12, 14, 15, 16, 18, 19, 3, 4, 5, 0, 1, 2]) ND hn (by decide) (by decide), pickN_off (I := [7, 6, 8, 9, 10, 11, 12, 14, 15, 16, 18, 19, 3, 4, 5, 0, 1, 2]) (j := 13) ND hn (by decide) (by decide) (by decide) (by decide), pickN_off (I := [7, 6, 8, 9, 10, 11, 12, 14, 15, 16, 18, 19, 3, 4, 5, 0, 1, 2]) (j := 17) ND hn (by decide) (by decide) (by decide) (by decide), ?_⟩
  intro x h1 h2 h3 h4 h5 hx
  have hm := pickN_mem (I := [7, 6, 8, 9, 10, 11, 12, 14, 15, 16, 18, 19, 3, 4, 5, 0, 1, 2]) hn (by decide) x hx
  rcases List.mem_append.mp hm with hm | hm
  · exact Nat.lt_irrefl _ (Nat.lt_of_lt_of_le h1 (XF x hm))
  rcases List.mem_append.mp hm with hm | hm
  · rcases List.mem_cons.mp hm with hm | hm
    · exact h3 hm
    rcases List.mem_cons.mp hm with hm | hm
    · exact h4 hm
    · exact h5 (List.mem_singleton.mp hm)
  · exact Nat.lt_asymm h2 (chain_lt Z x hm)
theorem world_names {v1 v2 v3 : Option Value} : ∀ y : Str, (if y = Str.ofString "feed" then v1 else if y = Str.ofString "world" then v2 else if y = Str.ofString "script" then v3 else none) = if y = Str.ofString "world" then v2 else if y = Str.ofString "feed" then v1 else if y = Str.ofString "script" then v3 else none := by
  intro y
  by_cases e1 : y = Str.ofString "feed"
  · subst e1; rfl
  · simp only [if_neg e1]
section
variable {w : World} {G : Heap} {L fa : Addr} {cd : Value} {p : Program} {loose : List Str} {mean : ExcName → Option Value} {mg mb : Str → Option Value}
  {E : Value → Shared → Prop} {s : Shared} {body : List Stmt} {scope : Scope}
end
def P_law_body (w : World) (G : Heap) (L fa : Addr) (cd : Value) (p : Program) (loose : List Str) (mean : ExcName → Option Value) (mg mb : Str → Option Value) (E : Value → Shared → Prop) (s : Shared) (ns0 : List Int) (sc : Addr) (vs0 : List Value) (o1 o2 o3 : Obj) (Q : Flow → Shared → Prop) : Prop := ∀ {body : List Stmt} {scope : Scope} (hf : lastFn PySem.Challenge.pw_pq0169_01 = some (body, scope)) (F : Fr G L s.heap (fun y => if y = Str.ofString "script" then some (.ref sc) else none)) (T : Top p loose mean mg mb G) (X : (hd.heap_1 w.params).In G) (C1 : CodeHd G 178 174) (C2 : CodeHd G 171 167) (C3 : CodeHd G 164 162) (N : News G L s.heap [(L + 1 + 1 + 1, o3), (L + 1 + 1, o2), (L + 1, o1), (174, tabObj #[]), (167, tabObj #[]), (162, tabObj #[])]) (hsc : G.IsList sc vs0.toArray) (hI : IntsAre vs0 ns0) (hlen : ¬ ((63 : Int) < (ns0.length : Int))) (q1 : o1.data = .cell none) (q2 : o2.data = .cell none) (q3 : o3.data = .cell none) (l1 : @LT.lt Nat _ 174 L) (l2 : @LT.lt Nat _ 167 L) (l3 : @LT.lt Nat _ 162 L) (hE : PassesOwn (model PySem.Challenge.rw_pq0169_01.row.prog w) (lawA (envOfC (Str.ofString "law") scope L fa cd)) (envOfC (Str.ofString "law") scope L fa cd) E) (h : ∀ h' tk d' m', Fr G L h' m' → News G L h' (LD.led d') → Q (.ret (.bool true)) { s with heap := h', toks := tk }), wpAny (model PySem.Challenge.rw_pq0169_01.row.prog w) (lawA (envOfC (Str.ofString "law") scope L fa cd)) (execs body (envOfC (Str.ofString "law") scope L fa cd)) Q E s
def U_law_body (c : (World) × (Heap) × (Addr) × (Addr) × (Value) × (Program) × (List Str) × (ExcName → Option Value) × (Str → Option Value) × (Str → Option Value) × (Value → Shared → Prop) × (Shared) × (List Int) × (Addr) × (List Value) × (Obj) × (Obj) × (Obj) × (Flow → Shared → Prop)) : Prop := P_law_body c.1 c.2.1 c.2.2.1 c.2.2.2.1 c.2.2.2.2.1 c.2.2.2.2.2.1 c.2.2.2.2.2.2.1 c.2.2.2.2.2.2.2.1 c.2.2.2.2.2.2.2.2.1 c.2.2.2.2.2.2.2.2.2.1 c.2.2.2.2.2.2.2.2.2.2.1 c.2.2.2.2.2.2.2.2.2.2.2.1 c.2.2.2.2.2.2.2.2.2.2.2.2.1 c.2.2.2.2.2.2.2.2.2.2.2.2.2.1 c.2.2.2.2.2.2.2.2.2.2.2.2.2.2.1 c.2.2.2.2.2.2.2.2.2.2.2.2.2.2.2.1 c.2.2.2.2.2.2.2.2.2.2.2.2.2.2.2.2.1 c.2.2.2.2.2.2.2.2.2.2.2.2.2.2.2.2.2.1 c.2.2.2.2.2.2.2.2.2.2.2.2.2.2.2.2.2.2
/- the letters at which it would fail, if there are such -/
noncomputable def K_law_body : (World) × (Heap) × (Addr) × (Addr) × (Value) × (Program) × (List Str) × (ExcName → Option Value) × (Str → Option Value) × (Str → Option Value) × (Value → Shared → Prop) × (Shared) × (List Int) × (Addr) × (List Value) × (Obj) × (Obj) × (Obj) × (Flow → Shared → Prop) := @Classical.epsilon _ (neP ⟨aWorld 0⟩ (neP ⟨default⟩ (neP ⟨default⟩ (neP ⟨default⟩ (neP ⟨default⟩ (neP ⟨default⟩ (neP ⟨default⟩ (neP ⟨default⟩ (neP ⟨default⟩ (neP ⟨default⟩ (neP ⟨default⟩ (neP neS (neP ⟨default⟩ (neP ⟨default⟩ (neP ⟨default⟩ (neP ⟨default⟩ (neP ⟨default⟩ (neP ⟨default⟩ ⟨default⟩)))))))))))))))))) fun c => ¬ U_law_body c
namespace E_law_body
noncomputable def w : World := K_law_body.1
noncomputable def G : Heap := K_law_body.2.1
noncomputable def L : Addr := K_law_body.2.2.1
noncomputable def fa : Addr := K_law_body.2.2.2.1
noncomputable def cd : Value := K_law_body.2.2.2.2.1
noncomputable def p : Program := K_law_body.2.2.2.2.2.1
noncomputable def loose : List Str := K_law_body.2.2.2.2.2.2.1
noncomputable def mean : ExcName → Option Value := K_law_body.2.2.2.2.2.2.2.1
noncomputable def mg : Str → Option Value := K_law_body.2.2.2.2.2.2.2.2.1
noncomputable def mb : Str → Option Value := K_law_body.2.2.2.2.2.2.2.2.2.1
noncomputable def E : Value → Shared → Prop := K_law_body.2.2.2.2.2.2.2.2.2.2.1
noncomputable def s : Shared := K_law_body.2.2.2.2.2.2.2.2.2.2.2.1
noncomputable def ns0 : List Int := K_law_body.2.2.2.2.2.2.2.2.2.2.2.2.1
noncomputable def sc : Addr := K_law_body.2.2.2.2.2.2.2.2.2.2.2.2.2.1
noncomputable def vs0 : List Value := K_law_body.2.2.2.2.2.2.2.2.2.2.2.2.2.2.1
noncomputable def o1 : Obj := K_law_body.2.2.2.2.2.2.2.2.2.2.2.2.2.2.2.1
noncomputable def o2 : Obj := K_law_body.2.2.2.2.2.2.2.2.2.2.2.2.2.2.2.2.1
noncomputable def o3 : Obj := K_law_body.2.2.2.2.2.2.2.2.2.2.2.2.2.2.2.2.2.1
noncomputable def Q : Flow → Shared → Prop := K_law_body.2.2.2.2.2.2.2.2.2.2.2.2.2.2.2.2.2.2
theorem go : P_law_body w G L fa cd p loose mean mg mb E s ns0 sc vs0 o1 o2 o3 Q := by
  intro body scope hf F T X C1 C2 C3 N hsc hI hlen q1 q2 q3 l1 l2 l3 hE h
  have hf' := hf
  cases hf
  revert X
  k_fill
  intro X
  k_steps
  refine world_made rfl (by (exact Nat.le_of_ble_eq_true rfl)) (by (exact Nat.le_of_ble_eq_true rfl)) (by k_asm) (by k_asm) (by k_asm) (by k_asm) ?_
  intro h2 tk2 aw awd afi aop afl oo ofi ofl restW F2 N2 W2 dfi doo dfl lo1 lo2 lo3 ndW offW ltW
  rename_i C0 ws0 h0a hI0 hC0 hL0 lc0 F0 h0c FF0 NN0 lf0
  refine ex1_1 (⟨_, rfl⟩ : ∃ b, b = (afi, ofi) :: (aop, oo) :: (afl, ofl) :: (restW ++ [(F0, listOf #[.ref C0, .int 0 (s.toks + 1)] 0), (C0, listOf ws0.toArray 0), (L + 1 + 1 + 1, o3), (L + 1 + 1, o2), ((174 : Addr), tabObj #[]), ((167 : Addr), tabObj #[]), ((162 : Addr), tabObj #[])])) ?_; intro bs hbs
  have N3 := news_sub N2 (nl' := (L + 1, o1) :: bs) (by
    rw [hbs]
    k_offL)
  clear N2 NN0 FF0
  repeat ((fail_if_success (with_reducible show wpAny _ _ (eval (Expr.Dict [] [] _) _) _ _ _)); first | (k_unfold; (try dsimp only)) | walk1 | (dsimp only; walk1) | (leave1; try dsimp only))
  (with_reducible refine' newDict_K ?k1 ?k2 ?k3 ?_)
  case k1 => k_asm
  case k2 => k_asm
  case k3 => exact TopRead.nolimit (by k_asm)
  intro PL h10 oPL F_3 N_3 l7 loPL hsPL fsPL hiPL fiPL
  (try k_lt l7)
  (try k_sweep)
  k_steps
  with_reducible rename Fr _ _ _ _ => F3
  with_reducible rename News _ _ _ _ => N3
  refine mul_zeros (k := 4) F3 N3 (N3.isList (.head _)) (by decide) (by decide) rfl (by decide) ?_
  intro D4 h4 vb4 S4 F4 N4 l4
  k_lt l4
  k_steps
  with_reducible rename Fr _ _ _ _ => F5
  with_reducible rename News _ _ _ _ => N5
  refine mul_zeros (k := 6) F5 N5 (N5.isList (.head _)) (by decide) (by decide) rfl (by decide) ?_
  intro D6 h6 vb6 S6 F6 N6 l6
  k_lt l6
  (repeat ((fail_if_success (with_reducible show wpAny _ _ (storeName _ _ (Value.ref _)) _ _ _)); first | (k_unfold; (try dsimp only)) | walk1 | (dsimp only; walk1) | (leave1; try dsimp only)))
  rename_i DT h15 l9 h14 h13 h12 TW h11 o7 lo4t hd6 l8 h9 oSZ loSZ hdSZ hfSZ apSZ l6a BU h8 oB0 loBU hdB0 l5 T3 h7 l4a T2 h6a l3a h5 oBU hdBU RC h4a oR0 loRC hdR0 l2a R1 h3a l1a R2 h2a F_2 N_2 l0a h1a oRC F_1 N_1 hdRC h0 oTW FF NN hdTW
  generalize hSZ : h10.objs.size = SZ at *
  refine ex0_2 l9 ?_; intro k1 k2
  try clear l9
  have hb := PySem.W.tb_ltOf k2
  have c1 : @LT.lt Nat _ DT TW := l8.1
  have c2 : @LT.lt Nat _ TW PL := l7.1
  have c3 : @LT.lt Nat _ PL SZ := l6a.1
  have c4 : @LT.lt Nat _ SZ BU := l5.1
  have c5 : @LT.lt Nat _ BU D4 := l4.2.1
  have c6 : @LT.lt Nat _ D4 D6 := l6.2.1
  have c7 : @LT.lt Nat _ D6 RC := l2a.1
  have c8 : @LT.lt Nat _ RC R1 := l1a.1
  have c9 : @LT.lt Nat _ R1 R2 := l0a.1
  clear k2 l8 l7 l6a l5 l4a l4 l3a l6 l2a l1a l0a F_2 N_2 F_1 N_1 hd6 hdB0 hdR0 apSZ hfSZ fsPL fiPL
  have x1 : afi ∈ [afi, aop, afl] := .head _
  have H_2 : @Ne Nat afi aop ∧ @Ne Nat afi afl ∧ @Ne Nat aop afl := by
    simp only [List.nodup_cons, List.mem_cons, List.not_mem_nil, or_false, not_or, not_false_eq_true, List.nodup_nil, and_true] at ndW
    exact ⟨ndW.1.1, ndW.1.2, ndW.2⟩
  refine ex0_3 H_2 ?_; intro w1 w2 w3
  try clear H_2
  have u1 : @LT.lt Nat _ F0 afi := ltW (afi, ofi) (.head _) _ (.head _)
  have u2 : @LT.lt Nat _ F0 aop := ltW (aop, oo) (.tail _ (.head _)) _ (.head _)
  have u3 : @LT.lt Nat _ F0 afl := ltW (afl, ofl) (.tail _ (.tail _ (.head _))) _ (.head _)
  have y1 : @LT.lt Nat _ afi DT := hb (afi, ofi) (by rw [hbs]; exact .head _)
  have y2 : @LT.lt Nat _ aop DT := hb (aop, oo) (by rw [hbs]; exact .tail _ (.head _))
  have y3 : @LT.lt Nat _ afl DT := hb (afl, ofl) (by rw [hbs]; exact .tail _ (.tail _ (.head _)))
  refine ex0_4 (nd18 l1 l2 l3 lc0.1 lf0.1 u1 u2 u3 w1 w2 w3 y1 y2 y3 c1 c2 c3 c4 c5 c6 c7 c8 c9) ?_; intro ND NS NRC NX
  have hrW : ∀ q ∈ restW, q ∈ bs := by rw [hbs]; exact fun q hq => .tail _ (.tail _ (.tail _ (List.mem_append_left _ hq)))
  have offR : ∀ q ∈ restW, ¬ q.1 ∈ ([F0, C0, afi, aop, afl, TW, PL, BU, D4, D6, R1, R2, L + 1, L + 1 + 1, L + 1 + 1 + 1, 162, 167, 174] : List Nat) := by
    intro q hq
    have hne := offW q hq
    simp only [List.mem_cons, List.not_mem_nil, or_false, not_or] at hne
    exact NX q.1 (ltW q (.tail _ (.tail _ (.tail _ hq))) _ (.head _)) (hb q (hrW q hq)) hne.1 hne.2.1 hne.2.2
  have hbL : ∀ q ∈ bs, q.1 ≠ L + 1 := by
    rw [hbs]
    have z0 : @LT.lt Nat _ (L + 1) F0 := lf0.2.2.2.1
    have z1 : @LT.lt Nat _ (L + 1) C0 := lc0.2.2.1
    refine List.forall_mem_cons.mpr ⟨Nat.ne_of_gt (Nat.lt_trans z0 u1), List.forall_mem_cons.mpr ⟨Nat.ne_of_gt (Nat.lt_trans z0 u2), List.forall_mem_cons.mpr ⟨Nat.ne_of_gt (Nat.lt_trans z0 u3), ?_⟩⟩⟩
    intro q hq
    rcases List.mem_append.mp hq with hq | hq
    · exact Nat.ne_of_gt (Nat.lt_trans z0 (ltW q (.tail _ (.tail _ (.tail _ hq))) _ (.head _)))
    · simp only [List.mem_cons, List.not_mem_nil, or_false] at hq
      rcases hq with rfl | rfl | rfl | rfl | rfl | rfl | rfl
      · exact Nat.ne_of_gt z0
      · exact Nat.ne_of_gt z1
      · exact Nat.ne_of_gt (Nat.lt_succ_of_lt (Nat.lt_succ_self _))
      · exact Nat.ne_of_gt (Nat.lt_succ_self _)
      · exact Nat.ne_of_lt (Nat.lt_succ_of_lt l1)
      · exact Nat.ne_of_lt (Nat.lt_succ_of_lt l2)
      · exact Nat.ne_of_lt (Nat.lt_succ_of_lt l3)
  refine ex1_1 (⟨_, rfl⟩ : ∃ b, b = (TW, oTW) :: (PL, oPL) :: (BU, oBU) :: (D4, listOf vb4.toArray 0) :: (D6, listOf vb6.toArray 0) :: (R1, listOf #[] 0) :: (R2, listOf #[] 0) :: (SZ, oSZ) :: (RC, oRC) :: bs) ?_; intro rs hrs
  have NR := news_sub NN (nl' := (L + 1, o1) :: rs) (by
    rw [hrs]
    k_offL)
  have hrL : ∀ q ∈ rs, q.1 ≠ L + 1 := by
    rw [hrs]
    have d0 : @LT.lt Nat _ (L + 1) TW := Nat.lt_trans k1 c1
    have d1 := Nat.lt_trans d0 c2
    have d2 := Nat.lt_trans d1 c3
    have d3 := Nat.lt_trans d2 c4
    have d4 := Nat.lt_trans d3 c5
    have d5 := Nat.lt_trans d4 c6
    have d6 := Nat.lt_trans d5 c7
    have d7 := Nat.lt_trans d6 c8
    have d8 := Nat.lt_trans d7 c9
    exact List.forall_mem_cons.mpr ⟨Nat.ne_of_gt d0, List.forall_mem_cons.mpr ⟨Nat.ne_of_gt d1, List.forall_mem_cons.mpr ⟨Nat.ne_of_gt d3, List.forall_mem_cons.mpr ⟨Nat.ne_of_gt d4, List.forall_mem_cons.mpr ⟨Nat.ne_of_gt d5, List.forall_mem_cons.mpr ⟨Nat.ne_of_gt d7, List.forall_mem_cons.mpr ⟨Nat.ne_of_gt d8, List.forall_mem_cons.mpr ⟨Nat.ne_of_gt d2, List.forall_mem_cons.mpr ⟨Nat.ne_of_gt d6, hbL⟩⟩⟩⟩⟩⟩⟩⟩⟩
  clear NN
  (repeat ((fail_if_success (with_reducible show wpAny _ _ (execs [_, _, _, _] _) _ _ _)); first | (k_unfold; (try dsimp only)) | walk1 | (dsimp only; walk1) | (leave1; try dsimp only)))
  rename_i h9 o9 F9 N9 d9
  obtain ⟨kvs, dsz, ts1, ts2, es1, es2⟩ := (⟨_, hdSZ, _, _, rfl, rfl⟩ : ∃ kvs, oSZ.IsDictOf (PySem.intKind PySem.Challenge.rw_pq0169_01.row.prog w) kvs ∧ ∃ t1 t2, valueAt kvs 1 = some (.int 4 t1) ∧ valueAt kvs 2 = some (.int 6 t2))
  refine ex1_4 (⟨_, hdBU, rfl, rfl, Nat.le_of_ble_eq_true rfl⟩ : ∃ kvb, oBU.IsDictOf (PySem.intKind PySem.Challenge.rw_pq0169_01.row.prog w) kvb ∧ valueAt kvb 1 = some (.ref D4) ∧ valueAt kvb 2 = some (.ref D6) ∧ kvb.length ≤ 10) ?_; intro kvb dbu eb1 eb2 zb
  refine ex1_3 (⟨_, hdRC, rfl, rfl⟩ : ∃ kvr, oRC.IsDictOf (PySem.intKind PySem.Challenge.rw_pq0169_01.row.prog w) kvr ∧ valueAt kvr 1 = some (.ref R1) ∧ valueAt kvr 2 = some (.ref R2)) ?_; intro kvr drc er1 er2
  refine ex1_6 (⟨_, hdTW, rfl, rfl, rfl, rfl, Nat.le_of_ble_eq_true rfl⟩ : ∃ kvt, oTW.IsDictOf (PySem.strKind PySem.Challenge.rw_pq0169_01.row.prog w) kvt ∧ valueAt kvt (Str.ofString "places") = some (.ref PL) ∧ valueAt kvt (Str.ofString "sizes") = some (.ref SZ) ∧ valueAt kvt (Str.ofString "buffers") = some (.ref BU) ∧ valueAt kvt (Str.ofString "records") = some (.ref RC) ∧ kvt.length ≤ 10) ?_; intro kvt dtw et1 et2 et3 et4 zt
  clear hdSZ hdBU hdRC hdTW
  refine ex1_1 (⟨_, rfl⟩ : ∃ d : LD, d = { feed := F0, cells := C0, aw := aw, awd := awd, afi := afi, aop := aop, afl := afl, tw := TW, pl := PL, sz := SZ, bu := BU, rc := RC, c1 := L + 1, c2 := L + 1 + 1, c3 := L + 1 + 1 + 1, turn := 0, tt := s.toks + 1, nF := 0, nC := 0, vs := ws0, ofi := ofi, oo := oo, ofl := ofl, otw := oTW, opl := oPL, osz := oSZ, obu := oBU, orc := oRC, o1 := o9, o2 := o2, o3 := o3, kvfi := [], kvf := [], kvp := [], kvt := kvt, kvo := [], kvs := kvs, kvb := kvb, kvr := kvr, fl := [], x := { c := 1, size := 4, ts := ts1, nm := Str.ofString "ONE", opn := true, am := 0, om := o1, kvm := [], bl := List.replicate 4 0, r := 0, blA := D4, vsb := vb4, nb := 0, rl := R1, rvs := [], nr := 0, rs := [], tf := 0 }, y := { c := 2, size := 6, ts := ts2, nm := Str.ofString "TWO", opn := true, am := 0, om := o1, kvm := [], bl := List.replicate 6 0, r := 0, blA := D6, vsb := vb6, nb := 0, rl := R2, rvs := [], nr := 0, rs := [], tf := 0 }, ps2 := #[], ps7 := #[], ps4 := #[], rest := (SZ, oSZ) :: (RC, oRC) :: restW }) ?_; intro d hd
  have ND2 : News G L h9 (pick d.core C18 ++ d.rest) := by
    rw [hd]
    have z := news_sub N9 (nl' := (F0, listOf #[.ref C0, .int 0 (s.toks + 1)] 0) :: (C0, listOf ws0.toArray 0) :: (afi, ofi) :: (aop, oo) :: (afl, ofl) :: (TW, oTW) :: (PL, oPL) :: (BU, oBU) :: (D4, listOf vb4.toArray 0) :: (D6, listOf vb6.toArray 0) :: (R1, listOf #[] 0) :: (R2, listOf #[] 0) :: (L + 1, o9) :: (L + 1 + 1, o2) :: (L + 1 + 1 + 1, o3) :: ((162 : Addr), tabObj #[]) :: ((167 : Addr), tabObj #[]) :: ((174 : Addr), tabObj #[]) :: (SZ, oSZ) :: (RC, oRC) :: restW) (by
      rw [hrs, hbs]
      k_offL)
    exact z
  have P : d.Pre w := by
    rw [hd]
    exact {
      nd := ND
      off := List.forall_mem_cons.mpr ⟨NS, List.forall_mem_cons.mpr ⟨NRC, offR⟩⟩
      W := W2.sub fun q hq => .tail _ (.tail _ hq)
      lo1 := lo1
      lo2 := lo2
      lo3 := lo3
      lo4 := loPL
      lo5 := loBU
      dfi := dfi
      doo := doo
      dfl := dfl
      dtw := dtw
      dpl := hsPL
      dsz := dsz
      dbu := dbu
      drc := drc
      zt := zt
      zb := zb
      vt1 := et1
      vt2 := et2
      vt3 := et3
      vt4 := et4
      ms := .head _
      mr := .tail _ (.head _)
      kvf := rfl
      kvp := rfl
      fl := rfl
      p2 := rfl
      p7 := rfl
      p4 := rfl
      xc := rfl
      yc := rfl
      xs := rfl
      ys := rfl
      xo := rfl
      yo := rfl
      xn := rfl
      yn := rfl
      xv := es1
      yv := es2
      xr := er1
      yr := er2
      xb := eb1
      yb := eb2
      xbl := rfl
      ybl := rfl
      xS := S4
      yS := S6
      xrs := rfl
      yrs := rfl
      xrv := rfl
      yrv := rfl
      t0 := rfl
      q1 := d9
      q2 := ⟨_, q2⟩
      q3 := ⟨_, q3⟩ }
  have hvl : ws0.length ≤ 100 := by
    rw [hI0.length, hC0]
    exact Nat.le_trans (Nat.min_le_left _ _) (by decide)
  have FD : Fr G L h9 (fun y => if y = Str.ofString "world" then some (.ref d.aw) else if y = Str.ofString "feed" then some (.ref d.feed) else if y = Str.ofString "script" then some (.ref sc) else none) := by
    rw [hd]
    exact fr_eq F9 world_names
  have e1 : d.c1 = L + 1 ∧ d.c2 = L + 1 + 1 ∧ d.c3 = L + 1 + 1 + 1 ∧ d.vs = ws0 := by rw [hd]; exact ⟨rfl, rfl, rfl, rfl⟩
  clear hd
  exact law_main hf' FD T X C1 C2 C3 ND2 P e1.1 e1.2.1 e1.2.2.1 (by rw [e1.2.2.2]; exact hI0) (by rw [e1.2.2.2]; exact hvl) hE h
end E_law_body
theorem law_body {w : World} {G : Heap} {L fa : Addr} {cd : Value} {p : Program} {loose : List Str} {mean : ExcName → Option Value} {mg mb : Str → Option Value} {E : Value → Shared → Prop} {s : Shared} {ns0 : List Int} {sc : Addr} {vs0 : List Value} {o1 o2 o3 : Obj} {Q : Flow → Shared → Prop} : P_law_body w G L fa cd p loose mean mg mb E s ns0 sc vs0 o1 o2 o3 Q := eps_all (Ψ := U_law_body) E_law_body.go (w, G, L, fa, cd, p, loose, mean, mg, mb, E, s, ns0, sc, vs0, o1, o2, o3, Q)
section
variable {w : World} {G : Heap} {L fa : Addr} {cd : Value} {p : Program} {loose : List Str} {mean : ExcName → Option Value} {mg mb : Str → Option Value}
  {E : Value → Shared → Prop} {s : Shared} {body : List Stmt} {scope : Scope}
end

theorem lawgo : PySem.Challenge.rw_pq0169_01.Holds := hd (by
  k_go0
  all_goals (try k_fold)
  · with_reducible rename Below _ _ _ _ => KB
    clear KB
    with_reducible rename Fr _ _ _ _ => F0
    with_reducible rename News _ _ _ _ => N0
    rename_i hI hrr hcA hcB hD h1 tk1 o3 o2 o1 q3 q2 q1 X0' X1 T1 K1 K2 l0
    refine wpAny_weakF (A' := lawA _) ?_ rfl (by (exact Nat.le_of_ble_eq_true rfl)) (by (exact Nat.le_of_ble_eq_true rfl)) rfl rfl
    refine wpAny_noRaise ?_
    refine law_body rfl (fr_eq F0 ?names) T1 X1 K1 K2 codeHd N0 lifted hI hcA (q1.trans rfl) (q2.trans rfl) (q3.trans rfl) l0.1 l0.2.1 l0.2.2 ?hE ?h
    case names => intro y; rfl
    case hE => exact PassesOwn.never
    case h =>
      intro h' tk d' m' F' N'
      have N2 := news_sub N' (nl' := [((174 : Addr), tabObj d'.ps4), ((167 : Addr), tabObj d'.ps7), ((162 : Addr), tabObj d'.ps2)]) (fun q hq => List.mem_append_left _ (by
        refine mcons hq ?_ fun hq => ?_
        · exact core_mem 19 (n := 20) rfl (by decide) rfl
        refine mcons hq ?_ fun hq => ?_
        · exact core_mem 18 (n := 20) rfl (by decide) rfl
        rw [List.mem_singleton.mp hq]
        exact core_mem 17 (n := 20) rfl (by decide) rfl))
      clear N' N0 F0
      dsimp only
      k_steps)

end Mine
set_option maxRecDepth 100000 in
set_option maxHeartbeats 8000000 in
theorem PySem.Challenge.cw_pq0169_01_holds : PySem.Challenge.rw_pq0169_01.Holds := by
  exact Mine.lawgo
