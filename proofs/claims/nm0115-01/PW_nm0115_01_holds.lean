import PyProof.Rows.All
import Wide.All
import OpenK.AllK
import Wide.FinOn
import Lean
import PySem.Challenge.RW_nm0115_01
set_option Elab.async false
set_option linter.unusedVariables false
set_option linter.unusedSimpArgs false
set_option genSizeOf false
set_option maxRecDepth 100000
set_option maxHeartbeats 8000000
namespace Nm
open PySem PySem.W PyProof.Rows
/-- the text without its three rows __name__ = .. -/
noncomputable def view : Program := { PySem.Challenge.pw_nm0115_01 with main := { PySem.Challenge.pw_nm0115_01.main with body := PySem.Challenge.pw_nm0115_01.main.body.take 10 ++ (PySem.Challenge.pw_nm0115_01.main.body.drop 11).take 6 ++ (PySem.Challenge.pw_nm0115_01.main.body.drop 18).take 3 ++ PySem.Challenge.pw_nm0115_01.main.body.drop 22 } }
set_option linter.defProp false in
noncomputable def o_run (H : Hook) := fun hl k1 hw hc => holds_open (r := PySem.Challenge.rw_nm0115_01.row) (q := view) (loose := [Str.ofString "Piece"]) (Xt := fun s => xlAt view [] s && recOk [] s) (XP := XL view []) (Yf := Hook.obs H) (Ya := Hook.val H) (YP := Hook.says H) (N := 2602) hl (Hook.of H) (Hook.keeps H) (fun s e => xl_of s (Bool.and_eq_true_iff.mp e).1) XL.keeps (by rfl) (by rfl) (by rfl) (fun s e => recFacts_of (Bool.and_eq_true_iff.mp e).2) (by rfl) k1 (by decide +kernel) ⟨rfl, rfl, rfl, rfl, rfl, by decide +kernel⟩ hw hc
theorem lkb : (["vars", "dir", "locals"] : List Str).filter (readsOut PySem.Challenge.pw_nm0115_01 PySem.Challenge.pw_nm0115_01.main.body) = [] := by decide +kernel
theorem lks : (!(importedModules PySem.Challenge.pw_nm0115_01.main.body).all cThrough.contains) = false := by decide +kernel
theorem lkP : looksOpen PySem.Challenge.pw_nm0115_01 = true := by
  unfold looksOpen
  rw [lkb, lks]
  repeat' with_reducible refine look_both ?_ ?_
  all_goals decide +kernel
theorem row_ok : PySem.Challenge.rw_nm0115_01.row.wellSaid = true := by
  unfold OpenRow.wellSaid OpenRow.partSaid
  repeat' with_reducible refine look_both ?_ ?_
  · exact lkP
  all_goals decide +kernel
theorem o_laws (h : PySem.Challenge.rw_nm0115_01.row.wellSaid = true → PySem.Challenge.rw_nm0115_01.row.Holds) : PySem.Challenge.rw_nm0115_01.Holds := by
  refine holds_law ?_ h
  unfold OpenLaw.wellSaid
  repeat' with_reducible refine look_both ?_ ?_
  · exact row_ok
  all_goals decide +kernel
local macro_rules | `(tactic| o_head $H) => `(tactic| refine o_run $H (fun _ => by kernel_rfl) (by assumption) ?hw ?hc)
local macro_rules | `(tactic| o_law) => `(tactic| refine o_laws fun _ => ?_)
open_top hd for PySem.Challenge.rw_nm0115_01
end Nm

namespace Nm
open PySem PySem.W PySem.Calls PyProof.Rows

/- NmLin -/
set_option genInjectivity false
/-- linear words over Nat, their value and their coefficients (the constant first) -/
inductive Lx | v (i : Nat) | n (c : Nat) | a (x y : Lx) | m (c : Nat) (x : Lx) | r (x : Lx) (c : Nat)
noncomputable def nth : List Nat → Nat → Nat
  | [], _ => 0
  | x :: _, 0 => x
  | _ :: l, i + 1 => nth l i
noncomputable def Lx.den (c : List Nat) : Lx → Nat
  | .v i => nth c i
  | .n k => k
  | .a x y => x.den c + y.den c
  | .m k x => k * x.den c
  | .r x k => x.den c * k
noncomputable def padd : List Nat → List Nat → List Nat
  | [], q => q
  | x :: p, [] => x :: p
  | x :: p, y :: q => (x + y) :: padd p q
noncomputable def pmul (k : Nat) : List Nat → List Nat
  | [] => []
  | x :: p => (k * x) :: pmul k p
noncomputable def pv : Nat → List Nat
  | 0 => [1]
  | i + 1 => 0 :: pv i
noncomputable def ple : List Nat → List Nat → Bool
  | [], _ => true
  | x :: p, [] => Nat.beq x 0 && ple p []
  | x :: p, y :: q => Nat.ble x y && ple p q
noncomputable def dot : List Nat → List Nat → Nat
  | [], _ => 0
  | _ :: _, [] => 0
  | x :: p, y :: q => x * y + dot p q
noncomputable def Lx.pl : Lx → List Nat
  | .v i => 0 :: pv i
  | .n k => [k]
  | .a x y => padd x.pl y.pl
  | .m k x => pmul k x.pl
  | .r x k => pmul k x.pl
theorem dot_add : ∀ (p q c : List Nat), dot (padd p q) c = dot p c + dot q c
  | [], q, c => (Nat.zero_add _).symm
  | x :: p, [], c => rfl
  | x :: p, y :: q, [] => rfl
  | x :: p, y :: q, z :: c => by
    show (x + y) * z + dot (padd p q) c = x * z + dot p c + (y * z + dot q c)
    rw [dot_add p q c, Nat.add_mul]
    exact Nat.add_add_add_comm _ _ _ _
theorem dot_mul (k : Nat) : ∀ (p c : List Nat), dot (pmul k p) c = k * dot p c
  | [], c => rfl
  | x :: p, [] => rfl
  | x :: p, z :: c => by
    show k * x * z + dot (pmul k p) c = k * (x * z + dot p c)
    rw [dot_mul k p c, Nat.mul_add, Nat.mul_assoc]
theorem dot_pv : ∀ (i : Nat) (c : List Nat), dot (pv i) c = nth c i
  | 0, [] => rfl
  | 0, x :: c => Nat.one_mul _
  | i + 1, [] => rfl
  | i + 1, x :: c => by
    show 0 * x + dot (pv i) c = nth c i
    rw [dot_pv i c, Nat.zero_mul, Nat.zero_add]
theorem dot_le : ∀ (p q c : List Nat), ple p q = true → dot p c ≤ dot q c
  | [], _, _, _ => Nat.zero_le _
  | _ :: _, _, [], _ => Nat.zero_le _
  | x :: p, [], z :: c, h => by
    have h := Bool.and_eq_true_iff.mp h
    rw [show x = 0 from Nat.eq_of_beq_eq_true h.1]
    show 0 * z + dot p c ≤ 0
    rw [Nat.zero_mul, Nat.zero_add]
    exact dot_le p [] c h.2
  | x :: p, y :: q, z :: c, h =>
    have h := Bool.and_eq_true_iff.mp h
    Nat.add_le_add (Nat.mul_le_mul_right z (Nat.le_of_ble_eq_true h.1)) (dot_le p q c h.2)
theorem dot_pl (c : List Nat) : ∀ e : Lx, dot e.pl (1 :: c) = e.den c
  | .v i => by
    show 0 * 1 + dot (pv i) c = nth c i
    rw [dot_pv, Nat.zero_mul, Nat.zero_add]
  | .n k => Nat.mul_one k
  | .a x y => (dot_add _ _ _).trans (by rw [dot_pl c x, dot_pl c y]; rfl)
  | .m k x => (dot_mul _ _ _).trans (by rw [dot_pl c x]; rfl)
  | .r x k => (dot_mul _ _ _).trans (by rw [dot_pl c x]; exact Nat.mul_comm _ _)
/-- a linear fact, with how often it is taken -/
inductive Lc | le (k : Nat) (l r : Lx) | eq (k : Nat) (l r : Lx) | qe (k : Nat) (l r : Lx) | nl (k : Nat) (l r : Lx)
noncomputable def Lc.den (c : List Nat) : Lc → Prop
  | .le _ l r => l.den c ≤ r.den c
  | .eq _ l r => l.den c = r.den c
  | .qe _ l r => l.den c = r.den c
  | .nl _ l r => ¬ l.den c ≤ r.den c
noncomputable def Lc.k : Lc → Nat
  | .le k _ _ => k
  | .eq k _ _ => k
  | .qe k _ _ => k
  | .nl k _ _ => k
noncomputable def Lc.lo : Lc → Lx
  | .le _ l _ => l
  | .eq _ l _ => l
  | .qe _ _ r => r
  | .nl _ _ r => .a r (.n 1)
noncomputable def Lc.hi : Lc → Lx
  | .le _ _ r => r
  | .eq _ _ r => r
  | .qe _ l _ => l
  | .nl _ l _ => l
theorem Lc.ok {c : List Nat} : ∀ {x : Lc}, x.den c → x.lo.den c ≤ x.hi.den c
  | .le .., h => h
  | .eq .., h => Nat.le_of_eq h
  | .qe .., h => Nat.le_of_eq (Eq.symm h)
  | .nl .., h => Nat.lt_of_not_le h
noncomputable def los : List Lc → List Nat
  | [] => []
  | x :: l => padd (pmul x.k x.lo.pl) (los l)
noncomputable def his : List Lc → List Nat
  | [] => [1]
  | x :: l => padd (pmul x.k x.hi.pl) (his l)
noncomputable def ck (l : List Lc) : Bool := ple (his l) (los l)
theorem sums {c : List Nat} : ∀ {l : List Lc}, (∀ x ∈ l, x.den c) → dot (los l) (1 :: c) + 1 ≤ dot (his l) (1 :: c)
  | [], _ => Nat.le_refl _
  | x :: l, h => by
    show dot (padd _ _) _ + 1 ≤ dot (padd _ _) _
    rw [dot_add, dot_add, dot_mul, dot_mul, dot_pl, dot_pl, Nat.add_assoc]
    exact Nat.add_le_add (Nat.mul_le_mul_left _ (Lc.ok (h x (.head _)))) (sums fun y m => h y (.tail _ m))
theorem lins {c : List Nat} {l : List Lc} (k : ck l = true) (h : ∀ x ∈ l, x.den c) : False :=
  absurd (dot_le _ _ (1 :: c) k) (Nat.not_le_of_lt (sums h))
theorem le_of {c : List Nat} {k : Nat} {l r : Lx} {s : List Lc} (h : ck (.nl k l r :: s) = true) (a : ∀ x ∈ s, x.den c) : l.den c ≤ r.den c :=
  Nat.ge_of_not_lt fun e => lins h fun x m => by
    cases m with
    | head => exact Nat.not_le_of_lt e
    | tail _ m => exact a x m
theorem all0 {c : List Nat} : ∀ x ∈ ([] : List Lc), x.den c := fun _ m => nomatch m
theorem allC {c : List Nat} {x : Lc} {s : List Lc} (h : x.den c) (t : ∀ y ∈ s, y.den c) : ∀ y ∈ x :: s, y.den c := fun _ m => match m with
  | .head _ => h
  | .tail _ m => t _ m
theorem lq0 (c : List Nat) (k : Nat) (l r : Lx) (h : ck [.nl k l r] = true)  : l.den c ≤ r.den c := le_of h all0
theorem lq1 (c : List Nat) (x0 : Lc) (k : Nat) (l r : Lx) (h : ck [.nl k l r, x0] = true) (h0 : x0.den c) : l.den c ≤ r.den c := le_of h (allC h0 all0)
theorem fq1 (c : List Nat) (x0 : Lc) (h : ck [x0] = true) (h0 : x0.den c) : False := lins h (allC h0 all0)
theorem lq2 (c : List Nat) (x0 x1 : Lc) (k : Nat) (l r : Lx) (h : ck [.nl k l r, x0, x1] = true) (h0 : x0.den c) (h1 : x1.den c) : l.den c ≤ r.den c := le_of h (allC h0 (allC h1 all0))
theorem fq2 (c : List Nat) (x0 x1 : Lc) (h : ck [x0, x1] = true) (h0 : x0.den c) (h1 : x1.den c) : False := lins h (allC h0 (allC h1 all0))
theorem lq3 (c : List Nat) (x0 x1 x2 : Lc) (k : Nat) (l r : Lx) (h : ck [.nl k l r, x0, x1, x2] = true) (h0 : x0.den c) (h1 : x1.den c) (h2 : x2.den c) : l.den c ≤ r.den c := le_of h (allC h0 (allC h1 (allC h2 all0)))
theorem fq3 (c : List Nat) (x0 x1 x2 : Lc) (h : ck [x0, x1, x2] = true) (h0 : x0.den c) (h1 : x1.den c) (h2 : x2.den c) : False := lins h (allC h0 (allC h1 (allC h2 all0)))
theorem lq4 (c : List Nat) (x0 x1 x2 x3 : Lc) (k : Nat) (l r : Lx) (h : ck [.nl k l r, x0, x1, x2, x3] = true) (h0 : x0.den c) (h1 : x1.den c) (h2 : x2.den c) (h3 : x3.den c) : l.den c ≤ r.den c := le_of h (allC h0 (allC h1 (allC h2 (allC h3 all0))))
theorem fq4 (c : List Nat) (x0 x1 x2 x3 : Lc) (h : ck [x0, x1, x2, x3] = true) (h0 : x0.den c) (h1 : x1.den c) (h2 : x2.den c) (h3 : x3.den c) : False := lins h (allC h0 (allC h1 (allC h2 (allC h3 all0))))
theorem lq5 (c : List Nat) (x0 x1 x2 x3 x4 : Lc) (k : Nat) (l r : Lx) (h : ck [.nl k l r, x0, x1, x2, x3, x4] = true) (h0 : x0.den c) (h1 : x1.den c) (h2 : x2.den c) (h3 : x3.den c) (h4 : x4.den c) : l.den c ≤ r.den c := le_of h (allC h0 (allC h1 (allC h2 (allC h3 (allC h4 all0)))))
theorem fq5 (c : List Nat) (x0 x1 x2 x3 x4 : Lc) (h : ck [x0, x1, x2, x3, x4] = true) (h0 : x0.den c) (h1 : x1.den c) (h2 : x2.den c) (h3 : x3.den c) (h4 : x4.den c) : False := lins h (allC h0 (allC h1 (allC h2 (allC h3 (allC h4 all0)))))
theorem lq6 (c : List Nat) (x0 x1 x2 x3 x4 x5 : Lc) (k : Nat) (l r : Lx) (h : ck [.nl k l r, x0, x1, x2, x3, x4, x5] = true) (h0 : x0.den c) (h1 : x1.den c) (h2 : x2.den c) (h3 : x3.den c) (h4 : x4.den c) (h5 : x5.den c) : l.den c ≤ r.den c := le_of h (allC h0 (allC h1 (allC h2 (allC h3 (allC h4 (allC h5 all0))))))
theorem fq6 (c : List Nat) (x0 x1 x2 x3 x4 x5 : Lc) (h : ck [x0, x1, x2, x3, x4, x5] = true) (h0 : x0.den c) (h1 : x1.den c) (h2 : x2.den c) (h3 : x3.den c) (h4 : x4.den c) (h5 : x5.den c) : False := lins h (allC h0 (allC h1 (allC h2 (allC h3 (allC h4 (allC h5 all0))))))
theorem lq7 (c : List Nat) (x0 x1 x2 x3 x4 x5 x6 : Lc) (k : Nat) (l r : Lx) (h : ck [.nl k l r, x0, x1, x2, x3, x4, x5, x6] = true) (h0 : x0.den c) (h1 : x1.den c) (h2 : x2.den c) (h3 : x3.den c) (h4 : x4.den c) (h5 : x5.den c) (h6 : x6.den c) : l.den c ≤ r.den c := le_of h (allC h0 (allC h1 (allC h2 (allC h3 (allC h4 (allC h5 (allC h6 all0)))))))
theorem fq7 (c : List Nat) (x0 x1 x2 x3 x4 x5 x6 : Lc) (h : ck [x0, x1, x2, x3, x4, x5, x6] = true) (h0 : x0.den c) (h1 : x1.den c) (h2 : x2.den c) (h3 : x3.den c) (h4 : x4.den c) (h5 : x5.den c) (h6 : x6.den c) : False := lins h (allC h0 (allC h1 (allC h2 (allC h3 (allC h4 (allC h5 (allC h6 all0)))))))
theorem lq8 (c : List Nat) (x0 x1 x2 x3 x4 x5 x6 x7 : Lc) (k : Nat) (l r : Lx) (h : ck [.nl k l r, x0, x1, x2, x3, x4, x5, x6, x7] = true) (h0 : x0.den c) (h1 : x1.den c) (h2 : x2.den c) (h3 : x3.den c) (h4 : x4.den c) (h5 : x5.den c) (h6 : x6.den c) (h7 : x7.den c) : l.den c ≤ r.den c := le_of h (allC h0 (allC h1 (allC h2 (allC h3 (allC h4 (allC h5 (allC h6 (allC h7 all0))))))))
theorem fq8 (c : List Nat) (x0 x1 x2 x3 x4 x5 x6 x7 : Lc) (h : ck [x0, x1, x2, x3, x4, x5, x6, x7] = true) (h0 : x0.den c) (h1 : x1.den c) (h2 : x2.den c) (h3 : x3.den c) (h4 : x4.den c) (h5 : x5.den c) (h6 : x6.den c) (h7 : x7.den c) : False := lins h (allC h0 (allC h1 (allC h2 (allC h3 (allC h4 (allC h5 (allC h6 (allC h7 all0))))))))
theorem sle (x y : Nat) : x ≤ x - y + y := Nat.sub_le_iff_le_add.mp (Nat.le_refl _)
theorem mxm {a b A B : Nat} (h1 : A ≤ a) (h2 : B ≤ b) : max A B ≤ max a b := Nat.max_le.mpr ⟨Nat.le_trans h1 (Nat.le_max_left _ _), Nat.le_trans h2 (Nat.le_max_right _ _)⟩
theorem mxl {a b c k : Nat} (h : c ≤ k) (h2 : max a b + 1 ≤ c) : a < k := Nat.lt_of_le_of_lt (Nat.le_max_left a b) (Nat.lt_of_lt_of_le h2 h)
theorem mxr {a b c k : Nat} (h : c ≤ k) (h2 : max a b + 1 ≤ c) : b < k := Nat.lt_of_le_of_lt (Nat.le_max_right a b) (Nat.lt_of_lt_of_le h2 h)
theorem mx0 {a b : Nat} (h : a ≤ b) : max a 0 ≤ b := Nat.max_le.mpr ⟨h, Nat.zero_le _⟩
theorem dp1 {l f s r k : Nat} (h : l + max (max f s + 1) r ≤ k) : l + 1 + f ≤ k := Nat.le_trans (Nat.le_of_eq (Nat.add_right_comm l 1 f)) (Nat.le_trans (Nat.add_le_add_left (Nat.le_trans (Nat.succ_le_succ (Nat.le_max_left f s)) (Nat.le_max_left _ r)) l) h)
theorem dp2 {l f s r k : Nat} (h : l + max (max f s + 1) r ≤ k) : l + 1 + s ≤ k := Nat.le_trans (Nat.le_of_eq (Nat.add_right_comm l 1 s)) (Nat.le_trans (Nat.add_le_add_left (Nat.le_trans (Nat.succ_le_succ (Nat.le_max_right f s)) (Nat.le_max_left _ r)) l) h)
theorem dp3 {l a r k : Nat} (h : l + max a r ≤ k) : l + r ≤ k := Nat.le_trans (Nat.add_le_add_left (Nat.le_max_right a r) l) h
theorem dp4 {l f r k : Nat} (h : l + max (f + 1) r ≤ k) : l + 1 + f ≤ k := Nat.le_trans (Nat.le_of_eq (Nat.add_right_comm l 1 f)) (Nat.le_trans (Nat.add_le_add_left (Nat.le_max_left (f + 1) r) l) h)
theorem dp5 {l f r k : Nat} (h : l + max (f + 1) r ≤ k) : l + 1 ≤ k := Nat.le_trans (Nat.le_add_right _ f) (dp4 h)
theorem minlt {a n : Nat} (h : 0 < n) : min a (n - 1) < n := Nat.lt_of_le_of_lt (Nat.min_le_right _ _) (Nat.sub_lt h Nat.one_pos)
/-- one of three -/
theorem or3 {α : Type} {P : α → Prop} {x a b c : α} (h : x = a ∨ x = b ∨ x = c) (ha : P a) (hb : P b) (hc : P c) : P x :=
  h.elim (fun e => e ▸ ha) fun h => h.elim (fun e => e ▸ hb) fun e => e ▸ hc

/- NmA -/
set_option genInjectivity true
/-- values: tuples, ranges and lists that stay by value, the rest by address -/
inductive V where
  | none
  | bool (b : Bool)
  | int (i : Int)
  | str (s : Str)
  | tup (l : List V)
  | lst (l : List V)
  | rng (n : Int)
  | ref (a : Addr)
  | bi (id : String)
  | ty (n : String)

/-- abstract objects: those that may turn -/
inductive AO where
  | list (l : List V)
  | inst (dx : Addr) (fs : List (Str × V))
  | attrs
  | sdict (n : Int) (loops : Addr)

noncomputable abbrev AH := Addr → Option AO
noncomputable def AH.set (H : AH) (a : Addr) (o : AO) : AH := fun b => if b = a then some o else H b
noncomputable def AH.del (H : AH) (a : Addr) : AH := fun b => if b = a then none else H b
@[simp] theorem AH.set_self (H : AH) (a : Addr) (o : AO) : H.set a o a = some o := if_pos rfl
theorem AH.set_ne (H : AH) {a b : Addr} (o : AO) (h : b ≠ a) : H.set a o b = H b := if_neg h
@[simp] theorem AH.del_self (H : AH) (a : Addr) : H.del a a = none := if_pos rfl
theorem AH.del_ne (H : AH) {a b : Addr} (h : b ≠ a) : H.del a b = H b := if_neg h
theorem AH.del_none (H : AH) {a b : Addr} (h : H b = none) : H.del a b = none := by
  unfold AH.del; split
  · rfl
  · exact h
theorem AH.del_set (H : AH) {a : Addr} {o : AO} (h : H a = none) : (H.set a o).del a = H := by
  funext b; unfold AH.del AH.set; split
  · rename_i e; subst e; exact h.symm
  · rfl
theorem AH.set_set (H : AH) {a : Addr} {o o' : AO} : (H.set a o).set a o' = H.set a o' := by
  funext b; unfold AH.set; split <;> rfl
theorem AH.set_eq (H : AH) {a : Addr} {o : AO} (h : H a = some o) : H.set a o = H := by
  funext b; unfold AH.set; split
  · rename_i e; subst e; exact h.symm
  · rfl
theorem AH.set_comm (H : AH) {a b : Addr} {o o' : AO} (h : a ≠ b) : (H.set a o).set b o' = (H.set b o').set a o := by
  funext c; unfold AH.set; split <;> split <;> simp_all

mutual
inductive Rep (H : AH) (h : Heap) : Value → V → Prop
  | none : Rep H h .none .none
  | bool (b : Bool) : Rep H h (.bool b) (.bool b)
  | int (i : Int) (t : Tok) : Rep H h (.int i t) (.int i)
  | str (x : Str) (t : Tok) : Rep H h (.str x t) (.str x)
  | ref (a : Addr) : Rep H h (.ref a) (.ref a)
  | bi (i : String) : Rep H h (.builtin i) (.bi i)
  | ty (n : String) : Rep H h (.type n) (.ty n)
  | tup {a : Addr} {items : Array Value} {n : Nat} {l : List V} : IsT h a items n → H a = none → RepL H h items.toList l → Rep H h (.ref a) (.tup l)
  | lst {a : Addr} {items : Array Value} {n : Nat} {l : List V} : IsL h a items n → H a = none → RepL H h items.toList l → Rep H h (.ref a) (.lst l)
  | rng {a : Addr} {b : Int} {t u v : Tok} : IsRange h a 0 b 1 t u v → H a = none → Rep H h (.ref a) (.rng b)
inductive RepL (H : AH) (h : Heap) : List Value → List V → Prop
  | nil : RepL H h [] []
  | cons {r : Value} {v : V} {rs : List Value} {vs : List V} : Rep H h r v → RepL H h rs vs → RepL H h (r :: rs) (v :: vs)
end

structure Cx where
  prog : Program
  w : World
  K : Frag
  p : Program
  loose : List Str
  mg : Str → Option Value
  mb : Str → Option Value
  h0 : Heap
  piece : Addr

/-- a dict's entries, as names and values -/
inductive Ents (H : AH) (h : Heap) : List DictEntry → List (Str × V) → Prop
  | nil : Ents H h [] []
  | cons {hs : Int} {x : Str} {t : Tok} {r : Value} {v : V} {es : List DictEntry} {fs : List (Str × V)} : Rep H h r v → Ents H h es fs → Ents H h (⟨hs, .str x t, r⟩ :: es) ((x, v) :: fs)
inductive InstDict (H : AH) (h : Heap) (dx : Addr) (fs : List (Str × V)) : Prop
  | mk (es n) : h.get? dx = some (dictOf es n) → Ents H h es fs → InstDict H h dx fs

/-- a list's content -/
inductive LstAt (H : AH) (h : Heap) (a : Addr) (l : List V) : Prop
  | mk (items n) : IsL h a items n → RepL H h items.toList l → LstAt H h a l

noncomputable def ORep (C : Cx) (H : AH) (h : Heap) (a : Addr) : AO → Prop
  | .list l => LstAt H h a l
  | .inst dx fs => h.get? a = some (instObj C.piece dx) ∧ InstDict H h dx fs
  | .attrs => ∃ es n, h.get? a = some (dictOf es n)
  | .sdict n la => ∃ t, h.DictOf (PySem.strKind C.prog C.w) a [("blocks", .int n t), ("loops", .ref la)]

structure HOk (C : Cx) (H : AH) (h : Heap) : Prop where
  base : ∀ b o, C.h0.get? b = some o → h.get? b = some o
  objs : ∀ a o, H a = some o → ORep C H h a o
  apart : ∀ a o, H a = some o → C.h0.get? a = none
  dict : ∀ a dx fs, H a = some (.inst dx fs) → H dx = some .attrs
  one : ∀ a a' dx fs fs', H a = some (.inst dx fs) → H a' = some (.inst dx fs') → a = a'

structure Pres (X : Addr → Prop) (H : AH) (h : Heap) (H' : AH) (h' : Heap) : Prop where
  keep : ∀ b o, ¬ X b → H b = none → h.get? b = some o → h'.get? b = some o
  out : ∀ b o, H b = none → h.get? b = some o → H' b = none
  live : ∀ b, h.get? b ≠ none → h'.get? b ≠ none

noncomputable abbrev X0 : Addr → Prop := fun _ => False

theorem Pres.refl (X : Addr → Prop) (H : AH) (h : Heap) : Pres X H h H h :=
  ⟨fun _ _ _ _ e => e, fun _ _ n _ => n, fun _ n => n⟩
theorem Pres.trans {X : Addr → Prop} {h1 h2 h3 : Heap} {H1 H2 H3 : AH} (a : Pres X H1 h1 H2 h2) (b : Pres X H2 h2 H3 h3) : Pres X H1 h1 H3 h3 := by
  refine ⟨fun c o x n e => b.keep c o x (a.out c o n e) (a.keep c o x n e), fun c o n e => ?_, fun c n => b.live c (a.live c n)⟩
  cases q : h2.get? c with
  | none => exact absurd q (a.live c (by rw [e]; exact fun z => nomatch z))
  | some o' => exact b.out c o' (a.out c o n e) q
theorem Pres.weak {X Y : Addr → Prop} {h h' : Heap} {H H' : AH} (a : Pres X H h H' h') (hx : ∀ b, X b → Y b) : Pres Y H h H' h' :=
  ⟨fun b o n => a.keep b o fun x => n (hx b x), a.out, a.live⟩
/-- what was not there before is no loss -/
theorem Pres.fresh {X : Addr → Prop} {h h' : Heap} {H H' : AH} (a : Pres X H h H' h') (hx : ∀ b, X b → h.get? b = none) : Pres X0 H h H' h' :=
  ⟨fun b o _ n e => a.keep b o (fun x => by rw [hx b x] at e; cases e) n e, a.out, a.live⟩

theorem live_of_keep {h h' : Heap} (k : ∀ b o, h.get? b = some o → h'.get? b = some o) : ∀ b, h.get? b ≠ none → h'.get? b ≠ none := fun b n => by
  cases e : h.get? b with
  | none => exact absurd e n
  | some o => rw [k b o e]; exact fun z => nomatch z

/-- a heap that only grew, the abstract one as it was -/
theorem Pres.grow {X : Addr → Prop} {h h' : Heap} {H : AH} (k : ∀ b o, h.get? b = some o → h'.get? b = some o) : Pres X H h H h' :=
  ⟨fun b o _ _ e => k b o e, fun _ _ n _ => n, live_of_keep k⟩
/-- a list is let go into the fixed ones -/
theorem Pres.del {X : Addr → Prop} {h : Heap} {H : AH} (a : Addr) : Pres X H h (H.del a) h :=
  ⟨fun _ _ _ _ e => e, fun _ _ n _ => AH.del_none H n, fun _ n => n⟩

/-- what a change of the heap must leave for the values' sake -/
noncomputable def Imm (o : Obj) : Prop := (∃ items n, o.data = .seq items n) ∨ (o.cls = .type "range" ∧ ∃ vs, o.data = .fields vs)
noncomputable def KeepF (H : AH) (h : Heap) (H' : AH) (h' : Heap) : Prop := ∀ a o, Imm o → H a = none → h.get? a = some o → h'.get? a = some o ∧ H' a = none

theorem Rep.mono {h h' : Heap} {H H' : AH} (k : KeepF H h H' h') {r : Value} {v : V} (x : Rep H h r v) : Rep H' h' r v :=
  Rep.rec (motive_1 := fun r v _ => Rep H' h' r v) (motive_2 := fun rs vs _ => RepL H' h' rs vs) .none .bool .int .str .ref .bi .ty
    (fun t n _ l => have q := k _ _ (.inl ⟨_, _, rfl⟩) n t; .tup q.1 q.2 l) (fun t n _ l => have q := k _ _ (.inl ⟨_, _, rfl⟩) n t; .lst q.1 q.2 l)
    (fun t n => have q := k _ _ (.inr ⟨rfl, _, rfl⟩) n t; .rng q.1 q.2) .nil (fun _ _ a b => .cons a b) x
theorem RepL.ind {H : AH} {h : Heap} {M : List Value → List V → Prop} (n : M [] []) (c : ∀ r v rs vs, Rep H h r v → RepL H h rs vs → M rs vs → M (r :: rs) (v :: vs)) {rs : List Value} {vs : List V} (x : RepL H h rs vs) : M rs vs :=
  RepL.rec (motive_1 := fun _ _ _ => True) (motive_2 := fun rs vs _ => M rs vs) ⟨⟩ (fun _ => ⟨⟩) (fun _ _ => ⟨⟩) (fun _ _ => ⟨⟩) (fun _ => ⟨⟩) (fun _ => ⟨⟩) (fun _ => ⟨⟩)
    (fun _ _ _ _ => ⟨⟩) (fun _ _ _ _ => ⟨⟩) (fun _ _ => ⟨⟩) n (fun a b _ i => c _ _ _ _ a b i) x
theorem RepL.mono {h h' : Heap} {H H' : AH} (k : KeepF H h H' h') {rs : List Value} {vs : List V} (x : RepL H h rs vs) : RepL H' h' rs vs :=
  x.ind .nil fun _ _ _ _ a _ i => .cons (a.mono k) i

theorem Pres.keepF {X : Addr → Prop} {h h' : Heap} {H H' : AH} (P : Pres X H h H' h') (x : ∀ a o, X a → h.get? a = some o → ¬ Imm o) : KeepF H h H' h' :=
  fun a o i n e => ⟨P.keep a o (fun q => x a o q e i) n e, P.out a o n e⟩
theorem Pres.keepF0 {h h' : Heap} {H H' : AH} (P : Pres X0 H h H' h') : KeepF H h H' h' := P.keepF fun _ _ q => q.elim

theorem RepL.length {H : AH} {h : Heap} {rs : List Value} {vs : List V} (x : RepL H h rs vs) : rs.length = vs.length :=
  x.ind (M := fun rs vs => rs.length = vs.length) rfl fun _ _ _ _ _ _ i => congrArg Nat.succ i
theorem RepL.get {H : AH} {h : Heap} {rs : List Value} {vs : List V} (x : RepL H h rs vs) : ∀ {i : Nat} {v : V}, vs[i]? = some v → ∃ r, rs[i]? = some r ∧ Rep H h r v :=
  x.ind (M := fun rs vs => ∀ {i : Nat} {v : V}, vs[i]? = some v → ∃ r, rs[i]? = some r ∧ Rep H h r v) (fun e => by simp at e) fun r _ _ _ a _ ih i _ e => by
    cases i with
    | zero => cases e; exact ⟨r, rfl, a⟩
    | succ i => exact ih e
theorem RepL.append {H : AH} {h : Heap} {rs rs' : List Value} {vs vs' : List V} (x : RepL H h rs vs) (q : RepL H h rs' vs') : RepL H h (rs ++ rs') (vs ++ vs') :=
  x.ind (M := fun rs vs => RepL H h (rs ++ rs') (vs ++ vs')) q fun _ _ _ _ a _ i => .cons a i
theorem RepL.drop {H : AH} {h : Heap} {rs : List Value} {vs : List V} (x : RepL H h rs vs) : ∀ n : Nat, RepL H h (rs.drop n) (vs.drop n) :=
  x.ind (M := fun rs vs => ∀ n : Nat, RepL H h (rs.drop n) (vs.drop n)) (fun n => by rw [List.drop_nil, List.drop_nil]; exact .nil) fun _ _ _ _ a b i n => Nat.casesOn n (.cons a b) i
theorem RepL.take {H : AH} {h : Heap} {rs : List Value} {vs : List V} (x : RepL H h rs vs) : ∀ n : Nat, RepL H h (rs.take n) (vs.take n) :=
  x.ind (M := fun rs vs => ∀ n : Nat, RepL H h (rs.take n) (vs.take n)) (fun n => by rw [List.take_nil, List.take_nil]; exact .nil) fun _ _ _ _ a b i n => Nat.casesOn n .nil fun n => .cons a (i n)
theorem RepL.reverse {H : AH} {h : Heap} {rs : List Value} {vs : List V} (x : RepL H h rs vs) : RepL H h rs.reverse vs.reverse :=
  x.ind (M := fun rs vs => RepL H h rs.reverse vs.reverse) .nil fun _ _ _ _ a _ i => by rw [List.reverse_cons, List.reverse_cons]; exact i.append (.cons a .nil)
theorem RepL.set {H : AH} {h : Heap} {rs : List Value} {vs : List V} (x : RepL H h rs vs) : ∀ (i : Nat) {r : Value} {v : V}, Rep H h r v → RepL H h (rs.set i r) (vs.set i v) :=
  x.ind (M := fun rs vs => ∀ (i : Nat) {r : Value} {v : V}, Rep H h r v → RepL H h (rs.set i r) (vs.set i v)) (fun _ _ _ _ => .nil) fun _ _ _ _ a b ih i _ _ q => Nat.casesOn i (.cons q b) fun n => .cons a (ih n q)
theorem RepL.eraseIdx {H : AH} {h : Heap} {rs : List Value} {vs : List V} (x : RepL H h rs vs) : ∀ (i : Nat), RepL H h (rs.eraseIdx i) (vs.eraseIdx i) :=
  x.ind (M := fun rs vs => ∀ (i : Nat), RepL H h (rs.eraseIdx i) (vs.eraseIdx i)) (fun _ => .nil) fun _ _ _ _ a b ih i => Nat.casesOn i b fun n => .cons a (ih n)

/-- one state is another with a heap and a count of its own -/
inductive Stp (s s' : Shared) : Prop
  | mk (h tk) : s' = { s with heap := h, toks := tk } → Stp s s'
theorem Stp.refl (s : Shared) : Stp s s := ⟨_, _, rfl⟩
theorem Stp.trans {a b c : Shared} (x : Stp a b) (y : Stp b c) : Stp a c := by
  obtain ⟨_, _, rfl⟩ := x; obtain ⟨_, _, rfl⟩ := y; exact ⟨_, _, rfl⟩

/-- how much room is left: n calls -/
structure Rm (A : Around) (n : Nat) : Prop where
  handled : A.handled = none
  depth : A.depth + 4 * n ≤ 900
  units : A.units + 20 * n ≤ 9000

theorem Rm.deeper {A : Around} {n : Nat} (r : Rm A (n + 1)) (env : Env) : Rm (A.deeper env) n :=
  ⟨r.handled, by have := r.depth; show A.depth + 1 + 4 * n ≤ 900; exact lq1 [_, _] (.le 1 (.a (.v 0) (.m 4 (.a (.v 1) (.n 1)))) (.n 900)) 1 (.a (.a (.v 0) (.n 1)) (.m 4 (.v 1))) (.n 900) rfl this, by have := r.units; show A.units + 3 + 20 * n ≤ 9000; exact lq1 [_, _] (.le 1 (.a (.v 0) (.m 20 (.a (.v 1) (.n 1)))) (.n 9000)) 1 (.a (.a (.v 0) (.n 3)) (.m 20 (.v 1))) (.n 9000) rfl this⟩
theorem Rm.lt {A : Around} {n : Nat} (r : Rm A n) : A.units < cLine := by have := r.units; show A.units < 9900; exact lq1 [_, _] (.le 1 (.a (.v 0) (.m 20 (.v 1))) (.n 9000)) 1 (.a (.v 0) (.n 1)) (.n 9900) rfl this
theorem Rm.room {A : Around} {n : Nat} (r : Rm A n) : A.depth < recursionLimit := by have := r.depth; show A.depth < 1000; exact lq1 [_, _] (.le 1 (.a (.v 0) (.m 4 (.v 1))) (.n 900)) 1 (.a (.v 0) (.n 1)) (.n 1000) rfl this

noncomputable def Bad : Value → Shared → Prop := fun _ _ => False

/-- where a tree that came to r stands -/
inductive Post {α β : Type} (R : AH → Heap → α → β → Prop) (C : Cx) (s : Shared) (H : AH) (Q : β → AH → Prop) (r : α) (s' : Shared) : Prop
  | mk (v H') : R H' s'.heap r v → HOk C H' s'.heap → Pres X0 H s.heap H' s'.heap → Stp s s' → Q v H' → Post R C s H Q r s'
/-- the whole of a value's coming to be -/
noncomputable def Fin {α β : Type} (R : AH → Heap → α → β → Prop) (C : Cx) (A : Around) (s : Shared) (H : AH) (t : Sem α) (Q : β → AH → Prop) : Prop :=
  wpAny (model C.prog C.w) A t (Post R C s H Q) Bad s

theorem Post.from {α β : Type} {R : AH → Heap → α → β → Prop} {C : Cx} {s s1 s2 : Shared} {H H1 : AH} {Q : β → AH → Prop} {r : α} (P : Pres X0 H s.heap H1 s1.heap) (T : Stp s s1) (h : Post R C s1 H1 Q r s2) : Post R C s H Q r s2 := by
  obtain ⟨v, H2, a, b, c, d, e⟩ := h
  exact ⟨v, H2, a, b, P.trans c, T.trans d, e⟩


/-- the same, for a tree with a follower (the library's rules have this shape) -/
theorem Fin.seq {α β : Type} {R : AH → Heap → α → β → Prop} {C : Cx} {A : Around} {s : Shared} {H : AH} {t : Sem α} {P : α → Shared → Prop} {E : Value → Shared → Prop} {Q1 : β → AH → Prop}
    (h1 : Fin R C A s H t Q1)
    (h2 : ∀ r v s1 H1, R H1 s1.heap r v → HOk C H1 s1.heap → Pres X0 H s.heap H1 s1.heap → Stp s s1 → Q1 v H1 → P r s1) : wpAny (model C.prog C.w) A t P E s := by
  refine wpAny_mono h1 (fun r s1 h => ?_) fun _ _ x => x.elim
  obtain ⟨v, H1, a, b, c, d, e⟩ := h
  exact h2 r v s1 H1 a b c d e

theorem Fin.cons {α β : Type} {R : AH → Heap → α → β → Prop} {C : Cx} {A : Around} {s : Shared} {H : AH} {t : Sem α} {Q Q' : β → AH → Prop} (h : Fin R C A s H t Q) (hq : ∀ v H', Q v H' → Q' v H') : Fin R C A s H t Q' :=
  wpAny_mono h (fun r s1 h => by obtain ⟨v, H1, a, b, c, d, e⟩ := h; exact ⟨v, H1, a, b, c, d, hq _ _ e⟩) fun _ _ x => x

/-- two steps, joined: what the second starts from -/
theorem Fin.then {γ δ : Type} {R' : AH → Heap → γ → δ → Prop} {C : Cx} {A : Around} {H H1 : AH} {s s1 : Shared} {t : Sem γ} {E : Value → Shared → Prop} {Q : δ → AH → Prop} (P : Pres X0 H s.heap H1 s1.heap) (T : Stp s s1) (h : Fin R' C A s1 H1 t Q) :
    wpAny (model C.prog C.w) A t (Post R' C s H Q) E s1 :=
  wpAny_mono h (fun _ _ h' => h'.from P T) fun _ _ x => x.elim

/- NmB -/
set_option genInjectivity false
theorem Ents.mono {H H' : AH} {h h' : Heap} {es : List DictEntry} {fs : List (Str × V)} (x : Ents H h es fs) (k : KeepF H h H' h') : Ents H' h' es fs := by
  induction x with
  | nil => exact .nil
  | cons a b ih => exact .cons (a.mono k) ih
theorem InstDict.mono {H H' : AH} {h h' : Heap} {dx : Addr} {fs : List (Str × V)} (x : InstDict H h dx fs) (k : KeepF H h H' h') (e : h'.get? dx = h.get? dx) : InstDict H' h' dx fs := by
  obtain ⟨es, n, a, b⟩ := x
  exact ⟨es, n, e.trans a, b.mono k⟩
theorem LstAt.mono {H H' : AH} {h h' : Heap} {a : Addr} {l : List V} (x : LstAt H h a l) (k : KeepF H h H' h') (e : h'.get? a = h.get? a) : LstAt H' h' a l := by
  obtain ⟨i, n, q, r⟩ := x; exact ⟨i, n, e.trans q, r.mono k⟩
theorem ORep.mono {C : Cx} {H H' : AH} {h h' : Heap} {a : Addr} {o : AO} (x : ORep C H h a o) (k : KeepF H h H' h') (e : h'.get? a = h.get? a) (d : ∀ dx fs, o = .inst dx fs → h'.get? dx = h.get? dx) : ORep C H' h' a o := by
  cases o with
  | list l => exact LstAt.mono x k e
  | inst dx fs => exact ⟨e.trans x.1, x.2.mono k (d _ _ rfl)⟩
  | attrs => obtain ⟨i, n, q⟩ := x; exact ⟨i, n, e.trans q⟩
  | sdict n la => obtain ⟨t, o, es, ep, q, r⟩ := x; exact ⟨t, o, es, ep, e.trans q, r⟩
theorem ORep.live {C : Cx} {H : AH} {h : Heap} {a : Addr} {o : AO} (x : ORep C H h a o) : ∃ ob, h.get? a = some ob := by
  cases o with
  | list l => obtain ⟨i, n, q, r⟩ := x; exact ⟨_, q⟩
  | inst dx fs => exact ⟨_, x.1⟩
  | attrs => obtain ⟨i, n, q⟩ := x; exact ⟨_, q⟩
  | sdict n la => obtain ⟨t, o, es, ep, q, r⟩ := x; exact ⟨_, q⟩
theorem InstDict.live {H : AH} {h : Heap} {dx : Addr} {fs : List (Str × V)} (x : InstDict H h dx fs) : ∃ ob, h.get? dx = some ob := by
  obtain ⟨es, n, a, _⟩ := x; exact ⟨_, a⟩

theorem HOk.dom_live {C : Cx} {h : Heap} {H : AH} (S : HOk C H h) {a : Addr} {o : AO} (e : H a = some o) : ∃ ob, h.get? a = some ob := (S.objs a o e).live
theorem HOk.none_of_dead {C : Cx} {h : Heap} {H : AH} (S : HOk C H h) {a : Addr} (e : h.get? a = none) : H a = none := by
  cases q : H a with
  | none => rfl
  | some o => obtain ⟨ob, z⟩ := S.dom_live q; rw [e] at z; cases z
theorem get?_size (h : Heap) : h.get? h.objs.size = none := by
  cases e : h.get? h.objs.size with
  | none => rfl
  | some o => exact absurd (Heap.lt_size e) (Nat.lt_irrefl _)
theorem get?_above (h : Heap) {a : Addr} (l : h.objs.size ≤ a) : h.get? a = none := by
  cases e : h.get? a with
  | none => rfl
  | some o => exact absurd (Heap.lt_size e) (Nat.not_lt.mpr l)
theorem HOk.base_none {C : Cx} {h : Heap} {H : AH} (S : HOk C H h) {a : Addr} (e : h.get? a = none) : C.h0.get? a = none := by
  cases q : C.h0.get? a with
  | none => rfl
  | some o => rw [S.base _ _ q] at e; cases e

theorem HOk.grow {C : Cx} {h h' : Heap} {H : AH} (S : HOk C H h) (k : ∀ b o, h.get? b = some o → h'.get? b = some o) : HOk C H h' := by
  have ke : ∀ b, (∃ o, h.get? b = some o) → h'.get? b = h.get? b := fun b ⟨o, e⟩ => by rw [e]; exact k b o e
  refine ⟨fun b o e => k b o (S.base b o e), fun a o e => ?_, S.apart, S.dict, S.one⟩
  have x := S.objs a o e
  refine x.mono (Pres.grow (X := X0) k).keepF0 (ke _ x.live) fun dx fs q => ?_
  subst q
  exact ke _ x.2.live

/-- a list goes among the fixed ones -/
theorem HOk.del {C : Cx} {h : Heap} {H : AH} (S : HOk C H h) {a : Addr} {l : List V} (e : H a = some (.list l)) : HOk C (H.del a) h := by
  have look : ∀ b o, H.del a b = some o → b ≠ a ∧ H b = some o := fun b o z => by
    by_cases hb : b = a
    · subst hb; rw [AH.del_self] at z; cases z
    · rw [AH.del_ne _ hb] at z; exact ⟨hb, z⟩
  refine ⟨S.base, fun b o z => (S.objs b o (look b o z).2).mono (Pres.del (X := X0) a).keepF0 rfl fun _ _ _ => rfl, fun b o z => S.apart b o (look b o z).2, fun b dx fs z => ?_, fun b b' dx fs fs' z z' => S.one _ _ _ _ _ (look _ _ z).2 (look _ _ z').2⟩
  have := S.dict _ _ _ (look _ _ z).2
  rw [AH.del_ne]
  · exact this
  · rintro rfl; rw [e] at this; cases this
theorem HOk.frozen {C : Cx} {h : Heap} {H : AH} (S : HOk C H h) {a : Addr} {l : List V} (e : H a = some (.list l)) : Rep (H.del a) h (.ref a) (.lst l) := by
  obtain ⟨items, n, x, y⟩ := S.objs _ _ e
  exact .lst x (AH.del_self _ _) (y.mono (Pres.del (X := X0) a).keepF0)

/-- a new list enters -/
theorem HOk.newList {C : Cx} {h h' : Heap} {H : AH} (S : HOk C H h) {a : Addr} {items : Array Value} {n : Nat} {l : List V} (k : ∀ b o, h.get? b = some o → h'.get? b = some o) (f : h.get? a = none)
    (q : IsL h' a items n) (r : RepL H h items.toList l) : HOk C (H.set a (.list l)) h' ∧ Pres X0 H h (H.set a (.list l)) h' := by
  have S' := S.grow k
  have ha := S.none_of_dead f
  have P : Pres X0 H h (H.set a (.list l)) h' := ⟨fun b o _ _ e => k b o e, fun b o e z => (by
    rw [AH.set_ne]
    · exact e
    · rintro rfl; rw [f] at z; cases z), live_of_keep k⟩
  have ke : ∀ b, (∃ o, h.get? b = some o) → h'.get? b = h.get? b := fun b ⟨o, e⟩ => by rw [e]; exact k b o e
  refine ⟨⟨S'.base, fun b o e => ?_, fun b o e => ?_, fun b dx fs e => ?_, fun b b' dx fs fs' e e' => ?_⟩, P⟩
  · by_cases hb : b = a
    · subst hb; rw [AH.set_self] at e; cases e; exact ⟨items, n, q, r.mono P.keepF0⟩
    · rw [AH.set_ne _ _ hb] at e
      have x := S.objs b o e
      refine x.mono P.keepF0 (ke _ x.live) fun dx fs w => ?_
      subst w; exact ke _ x.2.live
  · by_cases hb : b = a
    · subst hb; exact S.base_none f
    · rw [AH.set_ne _ _ hb] at e; exact S.apart b o e
  · by_cases hb : b = a
    · subst hb; rw [AH.set_self] at e; cases e
    · rw [AH.set_ne _ _ hb] at e
      have := S.dict _ _ _ e
      rw [AH.set_ne _ _ fun q => by subst q; rw [ha] at this; cases this]; exact this
  · by_cases hb : b = a
    · subst hb; rw [AH.set_self] at e; cases e
    · by_cases hb' : b' = a
      · subst hb'; rw [AH.set_self] at e'; cases e'
      · rw [AH.set_ne _ _ hb] at e; rw [AH.set_ne _ _ hb'] at e'; exact S.one _ _ _ _ _ e e'

theorem SameBut.live {a : Addr} {h h' : Heap} (sb : Heap.SameBut a h h') (la : h'.get? a ≠ none) : ∀ b, h.get? b ≠ none → h'.get? b ≠ none := fun b n => by
  by_cases hb : b = a
  · subst hb; exact la
  · rw [sb.2 b hb]; exact n

/-- an object of ours turns, and no other -/
theorem Pres.set {C : Cx} {X : Addr → Prop} {h h' : Heap} {H : AH} (S : HOk C H h) {a : Addr} {o o' : AO} (e : H a = some o) (sb : Heap.SameBut a h h') (la : h'.get? a ≠ none) : Pres X H h (H.set a o') h' :=
  ⟨fun b o _ x z => (by
    have : b ≠ a := fun w => by subst w; rw [e] at x; cases x
    exact (sb.2 b this).trans z), fun b o n z => (by
    rw [AH.set_ne]
    · exact n
    · rintro rfl; rw [e] at n; cases n), SameBut.live sb la⟩

/-- a list turns -/
theorem HOk.setList {C : Cx} {h h' : Heap} {H : AH} (S : HOk C H h) {a : Addr} {items : Array Value} {n : Nat} {l l' : List V} (e : H a = some (.list l)) (sb : Heap.SameBut a h h')
    (q : IsL h' a items n) (r : RepL H h items.toList l') : HOk C (H.set a (.list l')) h' ∧ Pres X0 H h (H.set a (.list l')) h' := by
  have P : Pres X0 H h (H.set a (.list l')) h' := Pres.set S e sb (by rw [q]; exact fun z => nomatch z)
  refine ⟨⟨fun b o z => ?_, fun b o z => ?_, fun b o z => ?_, fun b dx fs z => ?_, fun b b' dx fs fs' z z' => ?_⟩, P⟩
  · have : b ≠ a := fun w => by subst w; rw [S.apart _ _ e] at z; cases z
    exact (sb.2 b this).trans (S.base b o z)
  · by_cases hb : b = a
    · subst hb; rw [AH.set_self] at z; cases z; exact ⟨items, n, q, r.mono P.keepF0⟩
    · rw [AH.set_ne _ _ hb] at z
      refine (S.objs b o z).mono P.keepF0 (sb.2 b hb) fun dx fs w => ?_
      subst w
      refine sb.2 dx fun w => ?_
      subst w
      have := S.dict _ _ _ z
      rw [e] at this; cases this
  · by_cases hb : b = a
    · subst hb; exact S.apart _ _ e
    · rw [AH.set_ne _ _ hb] at z; exact S.apart b o z
  · by_cases hb : b = a
    · subst hb; rw [AH.set_self] at z; cases z
    · rw [AH.set_ne _ _ hb] at z
      have := S.dict _ _ _ z
      rw [AH.set_ne _ _ fun q => by subst q; rw [e] at this; cases this]; exact this
  · by_cases hb : b = a
    · subst hb; rw [AH.set_self] at z; cases z
    · by_cases hb' : b' = a
      · subst hb'; rw [AH.set_self] at z'; cases z'
      · rw [AH.set_ne _ _ hb] at z; rw [AH.set_ne _ _ hb'] at z'; exact S.one _ _ _ _ _ z z'


/-- the state's dict turns -/
theorem HOk.setDict {C : Cx} {h h' : Heap} {H : AH} (S : HOk C H h) {a la la' : Addr} {k k' : Int} (e : H a = some (.sdict k la)) (sb : Heap.SameBut a h h')
    (q : ORep C H h' a (.sdict k' la')) : HOk C (H.set a (.sdict k' la')) h' ∧ Pres X0 H h (H.set a (.sdict k' la')) h' := by
  have P : Pres X0 H h (H.set a (.sdict k' la')) h' := Pres.set S e sb (by obtain ⟨o, z⟩ := q.live; rw [z]; exact fun z => nomatch z)
  refine ⟨⟨fun b o z => ?_, fun b o z => ?_, fun b o z => ?_, fun b dx fs z => ?_, fun b b' dx fs fs' z z' => ?_⟩, P⟩
  · have : b ≠ a := fun w => by subst w; rw [S.apart _ _ e] at z; cases z
    exact (sb.2 b this).trans (S.base b o z)
  · by_cases hb : b = a
    · subst hb; rw [AH.set_self] at z; cases z; exact q
    · rw [AH.set_ne _ _ hb] at z
      refine (S.objs b o z).mono P.keepF0 (sb.2 b hb) fun dx fs w => ?_
      subst w
      refine sb.2 dx fun w => ?_
      subst w
      have := S.dict _ _ _ z
      rw [e] at this; cases this
  · by_cases hb : b = a
    · subst hb; exact S.apart _ _ e
    · rw [AH.set_ne _ _ hb] at z; exact S.apart b o z
  · by_cases hb : b = a
    · subst hb; rw [AH.set_self] at z; cases z
    · rw [AH.set_ne _ _ hb] at z
      have := S.dict _ _ _ z
      rw [AH.set_ne _ _ fun q => by subst q; rw [e] at this; cases this]; exact this
  · by_cases hb : b = a
    · subst hb; rw [AH.set_self] at z; cases z
    · by_cases hb' : b' = a
      · subst hb'; rw [AH.set_self] at z'; cases z'
      · rw [AH.set_ne _ _ hb] at z; rw [AH.set_ne _ _ hb'] at z'; exact S.one _ _ _ _ _ z z'

/-- an object's attribute turns -/
theorem HOk.setInst {C : Cx} {h h' : Heap} {H : AH} (S : HOk C H h) {a dx : Addr} {gs gs' : List (Str × V)} (e : H a = some (.inst dx gs)) (sb : Heap.SameBut dx h h')
    (q : KeepF H h (H.set a (.inst dx gs')) h' → InstDict (H.set a (.inst dx gs')) h' dx gs') (lx : h'.get? dx ≠ none) : HOk C (H.set a (.inst dx gs')) h' ∧ Pres X0 H h (H.set a (.inst dx gs')) h' := by
  have ed := S.dict _ _ _ e
  have had : a ≠ dx := fun w => by subst w; rw [e] at ed; cases ed
  have P : Pres X0 H h (H.set a (.inst dx gs')) h' := ⟨fun b o _ x z => (by
    have : b ≠ dx := fun w => by subst w; rw [ed] at x; cases x
    exact (sb.2 b this).trans z), fun b o n z => (by
    rw [AH.set_ne]
    · exact n
    · rintro rfl; rw [e] at n; cases n), SameBut.live sb lx⟩
  have q := q P.keepF0
  refine ⟨⟨fun b o z => ?_, fun b o z => ?_, fun b o z => ?_, fun b dx2 g2 z => ?_, fun b b' dx2 g2 g3 z z' => ?_⟩, P⟩
  · have : b ≠ dx := fun w => by subst w; rw [S.apart _ _ ed] at z; cases z
    exact (sb.2 b this).trans (S.base b o z)
  · by_cases hb : b = a
    · subst hb; rw [AH.set_self] at z; cases z; exact ⟨(sb.2 _ had).trans (S.objs _ _ e).1, q⟩
    · rw [AH.set_ne _ _ hb] at z
      by_cases hbd : b = dx
      · subst hbd
        rw [ed] at z; cases z
        obtain ⟨es, n, x, _⟩ := q
        exact ⟨es, n, x⟩
      · refine (S.objs b o z).mono P.keepF0 (sb.2 b hbd) fun dx2 g2 w => ?_
        subst w
        refine sb.2 dx2 fun w => ?_
        subst w
        exact hb (S.one _ _ _ _ _ z e)
  · by_cases hb : b = a
    · subst hb; exact S.apart _ _ e
    · rw [AH.set_ne _ _ hb] at z; exact S.apart b o z
  · by_cases hb : b = a
    · subst hb; rw [AH.set_self] at z; cases z; rw [AH.set_ne _ _ (Ne.symm had)]; exact ed
    · rw [AH.set_ne _ _ hb] at z
      have := S.dict _ _ _ z
      rw [AH.set_ne _ _ fun q => by subst q; rw [e] at this; cases this]; exact this
  · by_cases hb : b = a
    · subst hb; rw [AH.set_self] at z; cases z
      by_cases hb' : b' = b
      · exact hb'.symm
      · rw [AH.set_ne _ _ hb'] at z'; exact S.one _ _ _ _ _ e z'
    · rw [AH.set_ne _ _ hb] at z
      by_cases hb' : b' = a
      · subst hb'; rw [AH.set_self] at z'; cases z'; exact S.one _ _ _ _ _ z e
      · rw [AH.set_ne _ _ hb'] at z'; exact S.one _ _ _ _ _ z z'

/-- a new object, with its dict -/
theorem HOk.newInst {C : Cx} {h h' : Heap} {H : AH} (S : HOk C H h) {a dx : Addr} {gs : List (Str × V)} (k : ∀ b o, h.get? b = some o → h'.get? b = some o) (fa : h.get? a = none) (fd : h.get? dx = none) (had : a ≠ dx)
    (q : h'.get? a = some (instObj C.piece dx)) (r : InstDict H h' dx gs) : HOk C ((H.set dx .attrs).set a (.inst dx gs)) h' ∧ Pres X0 H h ((H.set dx .attrs).set a (.inst dx gs)) h' := by
  have S' := S.grow k
  have ha := S.none_of_dead fa
  have hd := S.none_of_dead fd
  have look : ∀ b o, ((H.set dx .attrs).set a (.inst dx gs)) b = some o → (b = a ∧ o = .inst dx gs) ∨ (b = dx ∧ o = .attrs) ∨ (b ≠ a ∧ b ≠ dx ∧ H b = some o) := fun b o e => by
    by_cases hb : b = a
    · subst hb; rw [AH.set_self] at e; cases e; exact .inl ⟨rfl, rfl⟩
    · rw [AH.set_ne _ _ hb] at e
      by_cases hb' : b = dx
      · subst hb'; rw [AH.set_self] at e; cases e; exact .inr (.inl ⟨rfl, rfl⟩)
      · rw [AH.set_ne _ _ hb'] at e; exact .inr (.inr ⟨hb, hb', e⟩)
  have dxa : ((H.set dx .attrs).set a (.inst dx gs)) dx = some .attrs := by rw [AH.set_ne _ _ (Ne.symm had), AH.set_self]
  have old : ∀ b, b ≠ a → b ≠ dx → ((H.set dx .attrs).set a (.inst dx gs)) b = H b := fun b x y => by rw [AH.set_ne _ _ x, AH.set_ne _ _ y]
  have P : Pres X0 H h ((H.set dx .attrs).set a (.inst dx gs)) h' := ⟨fun b o _ _ e => k b o e, fun b o e n => (by
    rw [old b (fun w => by subst w; rw [fa] at n; cases n) (fun w => by subst w; rw [fd] at n; cases n)]; exact e), live_of_keep k⟩
  have ke : ∀ b, (∃ o, h.get? b = some o) → h'.get? b = h.get? b := fun b ⟨o, e⟩ => by rw [e]; exact k b o e
  have P' : KeepF H h' ((H.set dx .attrs).set a (.inst dx gs)) h' := fun b o i e n => ⟨n, by
    have nda : b ≠ a := fun w => by subst w; rw [q] at n; cases n; rcases i with ⟨_, _, z⟩ | ⟨_, _, z⟩ <;> cases z
    have ndx : b ≠ dx := fun w => by
      subst w
      obtain ⟨es, m, x, _⟩ := r
      rw [x] at n; cases n; rcases i with ⟨_, _, z⟩ | ⟨_, _, z⟩ <;> cases z
    rw [old b nda ndx]; exact e⟩
  refine ⟨⟨S'.base, fun b o e => ?_, fun b o e => ?_, fun b dx2 g2 e => ?_, fun b b' dx2 g2 g3 e e' => ?_⟩, P⟩
  · rcases look b o e with ⟨rfl, rfl⟩ | ⟨rfl, rfl⟩ | ⟨_, _, e⟩
    · exact ⟨q, r.mono P' rfl⟩
    · obtain ⟨es, n, x, _⟩ := r
      exact ⟨es, n, x⟩
    · have x := S.objs b o e
      refine x.mono P.keepF0 (ke _ x.live) fun dx fs w => ?_
      subst w; exact ke _ x.2.live
  · rcases look b o e with ⟨rfl, rfl⟩ | ⟨rfl, rfl⟩ | ⟨_, _, e⟩
    · exact S.base_none fa
    · exact S.base_none fd
    · exact S.apart b o e
  · rcases look b _ e with ⟨rfl, w⟩ | ⟨rfl, w⟩ | ⟨_, _, e⟩
    · cases w; exact dxa
    · cases w
    · have := S.dict _ _ _ e
      by_cases w : dx2 = dx
      · subst w; exact dxa
      · rw [old _ (fun z => by subst z; rw [ha] at this; cases this) w]; exact this
  · have nn : ∀ c g4, H c = some (.inst dx g4) → False := fun c g4 z => by
      have := S.dict _ _ _ z; rw [hd] at this; cases this
    rcases look b _ e with ⟨x1, w⟩ | ⟨x1, w⟩ | ⟨_, _, e1⟩
    · cases w
      rcases look b' _ e' with ⟨x2, w⟩ | ⟨x2, w⟩ | ⟨_, _, e2⟩
      · rw [x1, x2]
      · cases w
      · exact (nn _ _ e2).elim
    · cases w
    · rcases look b' _ e' with ⟨x2, w⟩ | ⟨x2, w⟩ | ⟨_, _, e2⟩
      · cases w; exact (nn _ _ e1).elim
      · cases w
      · exact S.one _ _ _ _ _ e1 e2

/- NmC -/
noncomputable abbrev Ls := List (Str × V)

structure EnvOk (env : Env) : Prop where
  kind : env.scope.kind = .function
  glob : env.globals = mainGlobals
  blt : env.builtins = builtinsNs

structure CxOk (C : Cx) : Prop where
  kin : C.K.In C.h0
  top : TopRead C.p C.loose C.mg C.mb C.h0
  lim : C.h0.NoLimit

noncomputable def VarOk (env : Env) (H : AH) (h : Heap) (m : Str → Option Value) (x : Str) (v : V) : Prop :=
  (env.kindOf x = some .local ∧ ∃ r, m x = some r ∧ Rep H h r v) ∨
  (env.kindOf x = some .cell ∧ ∃ c r, env.cells.lookup x = some c ∧ h.IsCell c (some r) ∧ Rep H h r v)

structure Sat (C : Cx) (env : Env) (H : AH) (h : Heap) (ls : Ls) : Prop where
  ok : HOk C H h
  own : H env.locals = none
  off : C.h0.get? env.locals = none
  ns : ∃ m, h.Ns env.locals m ∧ ∀ x v, ls.lookup x = some v → VarOk env H h m x v
  cel : ∀ x c, env.cells.lookup x = some c → H c = none ∧ C.h0.get? c = none ∧ c ≠ env.locals ∧ ∃ v, h.IsCell c v
  inj : ∀ x y c, env.cells.lookup x = some c → env.cells.lookup y = some c → x = y

/-- the frame's own places -/
noncomputable def Own (env : Env) (b : Addr) : Prop := b = env.locals ∨ ∃ x, env.cells.lookup x = some b

theorem Ns.live {h : Heap} {a : Addr} {m} (n : h.Ns a m) : h.get? a ≠ none := by
  obtain ⟨o, _, _, e, _⟩ := n; rw [e]; exact fun z => nomatch z
theorem Ns.keepAt {h h' : Heap} {a : Addr} {m} (n : h.Ns a m) (k : ∀ o, h.get? a = some o → h'.get? a = some o) : h'.Ns a m := by
  obtain ⟨o, es, ep, e, r⟩ := n; exact ⟨o, es, ep, k o e, r⟩
theorem IsCell.live {h : Heap} {a : Addr} {v} (n : h.IsCell a v) : h.get? a ≠ none := by
  obtain ⟨o, e, _⟩ := n; rw [e]; exact fun z => nomatch z
theorem IsCell.keepAt {h h' : Heap} {a : Addr} {v} (n : h.IsCell a v) (k : ∀ o, h.get? a = some o → h'.get? a = some o) : h'.IsCell a v := by
  obtain ⟨o, e, r⟩ := n; exact ⟨o, k o e, r⟩
theorem Pres.outL {X : Addr → Prop} {h h' : Heap} {H H' : AH} (P : Pres X H h H' h') {a : Addr} (e : H a = none) (l : h.get? a ≠ none) : H' a = none := by
  cases q : h.get? a with
  | none => exact absurd q l
  | some o => exact P.out a o e q

theorem Own.notImm {C : Cx} {env : Env} {H : AH} {h : Heap} {ls : Ls} (S : Sat C env H h ls) : ∀ a o, Own env a → h.get? a = some o → ¬ Imm o := fun a o q e i => by
  rcases q with rfl | ⟨x, q⟩
  · obtain ⟨m, F, _⟩ := S.ns
    obtain ⟨o', es, ep, e', d, _⟩ := F
    rw [e] at e'; cases e'
    rcases i with ⟨_, _, z⟩ | ⟨_, _, z⟩ <;> rw [d] at z <;> cases z
  · obtain ⟨_, _, _, v, o', e', d⟩ := S.cel x a q
    rw [e] at e'; cases e'
    rcases i with ⟨_, _, z⟩ | ⟨_, _, z⟩ <;> rw [d] at z <;> cases z

theorem Sat.step {C : Cx} {env : Env} {h h' : Heap} {ls : Ls} {H H' : AH} (S : Sat C env H h ls) (S' : HOk C H' h') (P : Pres X0 H h H' h') : Sat C env H' h' ls := by
  obtain ⟨m, F, hv⟩ := S.ns
  have kt := P.keepF0
  refine ⟨S', P.outL S.own (Ns.live F), S.off, ⟨m, Ns.keepAt F fun o e => P.keep _ o (fun x => x) S.own e, fun x v e => ?_⟩, fun x c e => ?_, S.inj⟩
  · rcases hv x v e with ⟨a, r, b, c⟩ | ⟨a, c, r, b, g, i⟩
    · exact .inl ⟨a, r, b, c.mono kt⟩
    · exact .inr ⟨a, c, r, b, IsCell.keepAt g fun o e => P.keep _ o (fun x => x) (S.cel x c b).1 e, i.mono kt⟩
  · obtain ⟨a, b, d, v, g⟩ := S.cel x c e
    exact ⟨P.outL a (IsCell.live g), b, d, v, IsCell.keepAt g fun o e => P.keep _ o (fun x => x) a e⟩
/-- what is not ours turns -/
theorem HOk.other {C : Cx} {h h' : Heap} {H : AH} {a : Addr} (S : HOk C H h) (sb : Heap.SameBut a h h') (ha : H a = none) (hb : C.h0.get? a = none) (kf : KeepF H h H h') : HOk C H h' := by
  refine ⟨fun b o e => (sb.2 b fun q => by subst q; rw [hb] at e; cases e).trans (S.base b o e), fun b o e => ?_, S.apart, S.dict, S.one⟩
  refine (S.objs b o e).mono kf (sb.2 b fun q => by subst q; rw [ha] at e; cases e) fun dx fs w => ?_
  subst w
  exact sb.2 dx fun q => by subst q; have := S.dict _ _ _ e; rw [ha] at this; cases this
/-- fewer facts -/
theorem Sat.sub {C : Cx} {env : Env} {h : Heap} {ls ls' : Ls} {H : AH} (S : Sat C env H h ls) (k : ∀ x v, ls'.lookup x = some v → ls.lookup x = some v) : Sat C env H h ls' := by
  obtain ⟨m, F, hv⟩ := S.ns
  exact ⟨S.ok, S.own, S.off, ⟨m, F, fun x v e => hv x v (k x v e)⟩, S.cel, S.inj⟩

/-- an expression in a frame -/
noncomputable def Ev (C : Cx) (A : Around) (env : Env) (e : Expr) (ls : Ls) (H : AH) (Q : V → AH → Prop) : Prop :=
  ∀ s, Sat C env H s.heap ls → Fin Rep C A s H (eval e env) Q
noncomputable abbrev RB : AH → Heap → Bool → Bool → Prop := fun _ _ a b => a = b
noncomputable def Tr (C : Cx) (A : Around) (env : Env) (e : Expr) (ls : Ls) (H : AH) (Q : Bool → AH → Prop) : Prop :=
  ∀ s, Sat C env H s.heap ls → Fin RB C A s H (isTrue e env (eval e env)) Q
/-- all of them, in turn -/
noncomputable def Evs (C : Cx) (A : Around) (env : Env) : List Expr → Ls → AH → (List V → AH → Prop) → Prop
  | [], _, H, Q => Q [] H
  | e :: es, ls, H, Q => Ev C A env e ls H fun v H1 => Evs C A env es ls H1 fun vs H2 => Q (v :: vs) H2
noncomputable def ConsV (Q : List V → AH → Prop) (v : V) (vs : List V) (H2 : AH) : Prop := Q (v :: vs) H2
noncomputable def EvsQ (C : Cx) (A : Around) (env : Env) (es : List Expr) (ls : Ls) (Q : List V → AH → Prop) (v : V) (H1 : AH) : Prop := Evs C A env es ls H1 (ConsV Q v)
noncomputable def ThenQ (C : Cx) (A : Around) (env : Env) (e : Expr) (ls : Ls) (K : V → V → AH → Prop) (v : V) (H1 : AH) : Prop := Ev C A env e ls H1 (K v)

section
variable {C : Cx} {A : Around} {env : Env} {ls : Ls} {H : AH} {Q : V → AH → Prop} {QB : Bool → AH → Prop} {s : Shared}

theorem Post.here {α β : Type} {R : AH → Heap → α → β → Prop} {r : α} {v : β} {Q : β → AH → Prop} (S : HOk C H s.heap) (tk : Nat) (hr : R H s.heap r v) (hq : Q v H) :
    Post R C s H Q r { s with toks := tk } := ⟨v, H, hr, S, Pres.refl _ _ _, ⟨_, _, rfl⟩, hq⟩
theorem Post.same {α β : Type} {R : AH → Heap → α → β → Prop} {r : α} {v : β} {Q : β → AH → Prop} (S : HOk C H s.heap) (hr : R H s.heap r v) (hq : Q v H) :
    Post R C s H Q r s := ⟨v, H, hr, S, Pres.refl _ _ _, Stp.refl _, hq⟩

theorem Ev.cons {e : Expr} {Q Q' : V → AH → Prop} (h : Ev C A env e ls H Q) (k : ∀ v H', Q v H' → Q' v H') : Ev C A env e ls H Q' := fun s S => (h s S).cons k
theorem Tr.cons {e : Expr} {Q Q' : Bool → AH → Prop} (h : Tr C A env e ls H Q) (k : ∀ v H', Q v H' → Q' v H') : Tr C A env e ls H Q' := fun s S => (h s S).cons k
inductive FixQ (Q : V → AH → Prop) (v : V) (H1 : AH) : Prop
  | mk (a l) : v = .ref a → H1 a = some (.list l) → Q (.lst l) (H1.del a) → FixQ Q v H1
/-- the list that comes is fixed from here on -/
theorem Ev.fix {e : Expr} (h : Ev C A env e ls H (FixQ Q)) : Ev C A env e ls H Q := fun s S => by
  refine wpAny_mono (h s S) (fun r s1 q => ?_) fun _ _ x => x
  obtain ⟨v, H1, x, y, z, w, a, l, rfl, e1, hq⟩ := q
  cases x with
  | ref => exact ⟨.lst l, H1.del a, y.frozen e1, y.del e1, z.trans (Pres.del a), w, hq⟩

theorem Ev_var {x : Str} {pos : Pos} {v : V} (he : EnvOk env) (hx : ls.lookup x = some v) (h : Q v H) (hd : (x == ("__debug__" : Str)) = false := by decide) : Ev C A env (.Name x pos) ls H Q := fun s S => by
  obtain ⟨m, F, hv⟩ := S.ns
  rcases hv x v hx with ⟨a, r, b, c⟩ | ⟨a, c, r, b, g, i⟩
  · exact wpAny_Name (wpAny_loadName_local he.kind a F b (Post.same S.ok c h)) hd
  · exact wpAny_Name (wpAny_loadName_cell he.kind a b g (Post.same S.ok i h)) hd

theorem Ev_glob {x : Str} {pos : Pos} {r : Value} {v : V} (hC : CxOk C) (he : EnvOk env) (hk : env.kindOf x = some .globalImplicit) (e : nsIn C.K mainGlobals x = some (some r)) (hr : ∀ H h, Rep H h r v) (h : Q v H) (hd : (x == ("__debug__" : Str)) = false := by decide) :
    Ev C A env (.Name x pos) ls H Q := fun s S => by
  refine Name_function_global he.kind hk (loadGlobal_global (env := env) (mg := C.mg) (by rw [he.glob]; exact hC.top.g.keeps S.ok.base) (mg_of hC.kin hC.top.g e) (Post.same S.ok (hr _ _) h)) hd
theorem Ev_bi {x : Str} {pos : Pos} {r : Value} {v : V} (hC : CxOk C) (he : EnvOk env) (hk : env.kindOf x = some .globalImplicit) (e : nsIn C.K mainGlobals x = some none) (hb : bootBuiltins x = some r) (hn : x ≠ "__name__") (hr : ∀ H h, Rep H h r v) (h : Q v H) (hd : (x == ("__debug__" : Str)) = false := by decide) :
    Ev C A env (.Name x pos) ls H Q := fun s S => by
  refine Name_function_global he.kind hk (loadGlobal_builtin (env := env) (mg := C.mg) (mb := C.mb) (by rw [he.glob]; exact hC.top.g.keeps S.ok.base) (mg_none_of hC.kin hC.top.g e) (by rw [he.blt]; exact hC.top.b.keeps S.ok.base) ((hC.top.builtins x hn).trans hb) (Post.same S.ok (hr _ _) h)) hd

theorem Ev_int {i : Int} {k pos} (h : Q (.int i) H) : Ev C A env (.Constant (.int i) k pos) ls H Q := fun s S =>
  wpAny_Constant_int (Post.here (R := Rep) S.ok _ (.int i _) h)
theorem Ev_str {x : Str} {k pos} (h : Q (.str x) H) : Ev C A env (.Constant (.str x) k pos) ls H Q := fun s S =>
  Constant_str (Post.here (R := Rep) S.ok _ (.str x _) h)
theorem Ev_bool {b : Bool} {k pos} (h : Q (.bool b) H) : Ev C A env (.Constant (.bool b) k pos) ls H Q := fun s S =>
  Constant_bool (Post.same S.ok (.bool b) h)
theorem Ev_none {k pos} (h : Q .none H) : Ev C A env (.Constant .none k pos) ls H Q := fun s S =>
  Constant_none (Post.same S.ok .none h)

/-- an operator on two values -/
noncomputable def Bo (C : Cx) (A : Around) (f : Value → Value → Sem Value) (a b : V) (H : AH) (Q : V → AH → Prop) : Prop :=
  ∀ s ra rb, HOk C H s.heap → Rep H s.heap ra a → Rep H s.heap rb b → Fin Rep C A s H (f ra rb) Q

noncomputable def BinQ2 (C : Cx) (A : Around) (op : Operator) (a : V) (Q : V → AH → Prop) (b : V) (H2 : AH) : Prop := Bo C A (binaryOp op) a b H2 Q
noncomputable def BinQ (C : Cx) (A : Around) (env : Env) (op : Operator) (r : Expr) (ls : Ls) (Q : V → AH → Prop) (a : V) (H1 : AH) : Prop := Ev C A env r ls H1 (BinQ2 C A op a Q)
noncomputable def CmeQ2 (C : Cx) (A : Around) (op : CmpOp) (a : V) (Q : V → AH → Prop) (b : V) (H2 : AH) : Prop := Bo C A (compareOp op) a b H2 Q
noncomputable def CmeQ (C : Cx) (A : Around) (env : Env) (op : CmpOp) (r : Expr) (ls : Ls) (Q : V → AH → Prop) (a : V) (H1 : AH) : Prop := Ev C A env r ls H1 (CmeQ2 C A op a Q)
theorem Ev_BinOp {l r : Expr} {op pos} (h : Ev C A env l ls H (BinQ C A env op r ls Q)) : Ev C A env (.BinOp l op r pos) ls H Q := fun s S => by
  refine wpAny_BinOp (Fin.seq (h s S) fun ra a s1 H1 x1 S1 P1 T1 h1 => ?_)
  refine Fin.seq (h1 s1 (S.step S1 P1)) fun rb b s2 H2 x2 S2 P2 T2 h2 => ?_
  exact Fin.then (P1.trans P2) (T1.trans T2) (h2 s2 ra rb S2 (x1.mono P2.keepF0) x2)

theorem Ev_Compare {l r : Expr} {op pos} (h : Ev C A env l ls H (CmeQ C A env op r ls Q)) (hm : behindInMarks op r = false := by with_unfolding_all rfl) : Ev C A env (.Compare l [op] [r] pos) ls H Q := fun s S => by
  refine wpAny_Compare1 (Fin.seq (h s S) fun ra a s1 H1 x1 S1 P1 T1 h1 => ?_) hm
  refine Fin.seq (h1 s1 (S.step S1 P1)) fun rb b s2 H2 x2 S2 P2 T2 h2 => ?_
  exact Fin.then (P1.trans P2) (T1.trans T2) (h2 s2 ra rb S2 (x1.mono P2.keepF0) x2)

/-- truth of a value -/
noncomputable def Th (C : Cx) (A : Around) (a : V) (H : AH) (Q : Bool → AH → Prop) : Prop :=
  ∀ s ra, HOk C H s.heap → Rep H s.heap ra a → Fin RB C A s H (truthy ra) Q
theorem Th_bool {b : Bool} (h : QB b H) : Th C A (.bool b) H QB := fun s ra S x => by
  cases x; exact wpAny_truthy_bool (Post.same S rfl h)

noncomputable def ThQ (C : Cx) (A : Around) (QB : Bool → AH → Prop) (c : V) (H3 : AH) : Prop := Th C A c H3 QB
noncomputable def NotQ (QB : Bool → AH → Prop) (b : Bool) (H3 : AH) : Prop := QB (!b) H3
noncomputable def CmpQ2 (C : Cx) (A : Around) (op : CmpOp) (a : V) (QB : Bool → AH → Prop) (b : V) (H2 : AH) : Prop := Bo C A (compareOp op) a b H2 (ThQ C A QB)
noncomputable def CmpQ (C : Cx) (A : Around) (env : Env) (op : CmpOp) (r : Expr) (ls : Ls) (QB : Bool → AH → Prop) (a : V) (H1 : AH) : Prop := Ev C A env r ls H1 (CmpQ2 C A op a QB)
noncomputable def AndQ (C : Cx) (A : Around) (env : Env) (rest : List Expr) (pos : Pos) (ls : Ls) (QB : Bool → AH → Prop) (b : Bool) (H1 : AH) : Prop := bif b then Tr C A env (.BoolOp .And rest pos) ls H1 QB else QB false H1
noncomputable def OrQ (C : Cx) (A : Around) (env : Env) (rest : List Expr) (pos : Pos) (ls : Ls) (QB : Bool → AH → Prop) (b : Bool) (H1 : AH) : Prop := bif b then QB true H1 else Tr C A env (.BoolOp .Or rest pos) ls H1 QB
noncomputable def IfeQ (C : Cx) (A : Around) (env : Env) (b o : Expr) (ls : Ls) (Q : V → AH → Prop) (c : Bool) (H1 : AH) : Prop := bif c then Ev C A env b ls H1 Q else Ev C A env o ls H1 Q
theorem Tr_Compare {l r : Expr} {op pos} (h : Ev C A env l ls H (CmpQ C A env op r ls QB)) (hm : behindInMarks op r = false := by with_unfolding_all rfl) : Tr C A env (.Compare l [op] [r] pos) ls H QB := fun s S => by
  refine wpAny_isTrue_Compare1 (Fin.seq (h s S) fun ra a s1 H1 x1 S1 P1 T1 h1 => ?_) hm
  refine Fin.seq (h1 s1 (S.step S1 P1)) fun rb b s2 H2 x2 S2 P2 T2 h2 => ?_
  refine Fin.seq (h2 s2 ra rb S2 (x1.mono P2.keepF0) x2) fun rc c s3 H3 x3 S3 P3 T3 h3 => ?_
  exact Fin.then ((P1.trans P2).trans P3) ((T1.trans T2).trans T3) (h3 s3 rc S3 x3)

theorem Tr_val {e : Expr} (h : Ev C A env e ls H (ThQ C A QB)) (he : isTrue e env (eval e env) = (do let v ← eval e env; standAt e.pos; holding [v] (truthy v)) := by rfl) : Tr C A env e ls H QB := fun s S => by
  refine isTrue_plain (Fin.seq (h s S) fun ra a s1 H1 x1 S1 P1 T1 h1 => ?_) he
  exact Fin.then P1 T1 (h1 s1 ra S1 x1)
theorem Tr_not {x : Expr} {pos} (h : Tr C A env x ls H (NotQ QB)) : Tr C A env (.UnaryOp .Not x pos) ls H QB := fun s S => by
  refine isTrue_not (Fin.seq (h s S) fun ra a s1 H1 x1 S1 P1 T1 h1 => ?_)
  cases x1
  exact ⟨_, H1, rfl, S1, P1, T1, h1⟩
theorem Tr_and_nil {pos} (h : QB true H) : Tr C A env (.BoolOp .And [] pos) ls H QB := fun s S => isTrue_and_nil (Post.same S.ok rfl h)
theorem Tr_or_nil {pos} (h : QB false H) : Tr C A env (.BoolOp .Or [] pos) ls H QB := fun s S => isTrue_or_nil (Post.same S.ok rfl h)
theorem Tr_and {x : Expr} {rest pos} (h : Tr C A env x ls H (AndQ C A env rest pos ls QB)) : Tr C A env (.BoolOp .And (x :: rest) pos) ls H QB := fun s S => by
  refine isTrue_and (Fin.seq (h s S) fun ra a s1 H1 x1 S1 P1 T1 h1 => ?_)
  cases x1
  cases ra with
  | true => exact Fin.then P1 T1 (h1 s1 (S.step S1 P1))
  | false => exact ⟨_, H1, rfl, S1, P1, T1, h1⟩
theorem Tr_or {x : Expr} {rest pos} (h : Tr C A env x ls H (OrQ C A env rest pos ls QB)) : Tr C A env (.BoolOp .Or (x :: rest) pos) ls H QB := fun s S => by
  refine isTrue_or (Fin.seq (h s S) fun ra a s1 H1 x1 S1 P1 T1 h1 => ?_)
  cases x1
  cases ra with
  | false => exact Fin.then P1 T1 (h1 s1 (S.step S1 P1))
  | true => exact ⟨_, H1, rfl, S1, P1, T1, h1⟩
theorem Ev_IfExp {t b o : Expr} {pos} (h : Tr C A env t ls H (IfeQ C A env b o ls Q)) : Ev C A env (.IfExp t b o pos) ls H Q := fun s S => by
  refine IfExp_ (Fin.seq (h s S) fun ra a s1 H1 x1 S1 P1 T1 h1 => ?_)
  cases x1
  cases ra with
  | false => exact Fin.then P1 T1 (h1 s1 (S.step S1 P1))
  | true => exact Fin.then P1 T1 (h1 s1 (S.step S1 P1))

theorem Evs_mono {es : List Expr} : ∀ {ls H} {Q Q' : List V → AH → Prop}, Evs C A env es ls H Q → (∀ v H', Q v H' → Q' v H') → Evs C A env es ls H Q' := by
  induction es with
  | nil => intro ls H Q Q' h k; exact k _ _ h
  | cons e es ih => intro ls H Q Q' h k; exact Ev.cons h fun v H' q => ih q fun _ _ z => k _ _ z

/-- what a list of trees gives -/
noncomputable def FinL (C : Cx) (A : Around) (s : Shared) (H : AH) (t : Sem (List Value)) (Q : List V → AH → Prop) : Prop := Fin RepL C A s H t Q

theorem Evs_spliced : ∀ {es : List Expr} {ls H} {Q : List V → AH → Prop} {pos : Pos}, Evs C A env es ls H Q → (es.all fun e => match e with | .Starred .. => false | _ => true) = true → ∀ s, Sat C env H s.heap ls → Fin RepL C A s H (spliced (backTo pos (starEach es env))) Q := by
  intro es
  induction es with
  | nil => intro ls H Q pos h hs s S; exact spliced_nil (Post.same S.ok .nil h)
  | cons e es ih =>
    intro ls H Q pos h hs s S
    simp only [List.all_cons, Bool.and_eq_true] at hs
    have q : starEach (e :: es) env = (false, eval e env) :: starEach es env := by
      cases e <;> first | rfl | exact absurd hs.1 Bool.false_ne_true
    rw [q]
    show wpAny _ _ (spliced ((false, if false = true then _ else eval e env) :: backTo pos (starEach es env))) _ _ _
    refine spliced_cons (Fin.seq (h s S) fun ra a s1 H1 x1 S1 P1 T1 h1 => ?_)
    refine Fin.seq (ih h1 hs.2 s1 (S.step S1 P1)) fun rb b s2 H2 x2 S2 P2 T2 h2 => ?_
    exact ⟨_, H2, .cons (x1.mono P2.keepF0) x2, S2, P1.trans P2, T1.trans T2, h2⟩
end

/- NmD -/
noncomputable abbrev ivs (l : List Int) : List V := l.map V.int
/-- a plain instruction, a body, a list of ivs -/
noncomputable abbrev pl (l : List Int) : V := .tup (ivs l)
noncomputable abbrev li (l : List Int) : V := .lst (ivs l)
noncomputable abbrev bd (b : List (List Int)) : V := .lst (b.map pl)

/-- a list's items: fixed, or as they stand -/
noncomputable def Src (H : AH) (v : V) (l : List V) : Prop := v = .lst l ∨ ∃ a, v = .ref a ∧ H a = some (.list l)
theorem Src.f {H : AH} {l : List V} : Src H (.lst l) l := .inl rfl
theorem Src.m {H : AH} {a : Addr} {l : List V} (e : H a = some (.list l)) : Src H (.ref a) l := .inr ⟨a, rfl, e⟩
theorem Src.at {C : Cx} {H : AH} {h : Heap} {v : V} {l : List V} {r : Value} (S : Src H v l) (O : HOk C H h) (x : Rep H h r v) : ∃ a, r = .ref a ∧ LstAt H h a l := by
  rcases S with rfl | ⟨a, rfl, e⟩
  · cases x with
    | lst t n y => exact ⟨_, rfl, _, _, t, y⟩
  · cases x with
    | ref => exact ⟨a, rfl, O.objs _ _ e⟩

section
variable {C : Cx} {A : Around} {H : AH} {Q : V → AH → Prop} {QB : Bool → AH → Prop}

theorem Rep.int_inv {H : AH} {h : Heap} {r : Value} {i : Int} (x : Rep H h r (.int i)) : ∃ t, r = .int i t := by cases x; exact ⟨_, rfl⟩
theorem Rep.str_inv {H : AH} {h : Heap} {r : Value} {i : Str} (x : Rep H h r (.str i)) : ∃ t, r = .str i t := by cases x; exact ⟨_, rfl⟩

theorem Bo_add {a b : Int} (h : Q (.int (a + b)) H) : Bo C A (binaryOp .Add) (.int a) (.int b) H Q := fun s ra rb S x y => by
  obtain ⟨t, rfl⟩ := x.int_inv; obtain ⟨u, rfl⟩ := y.int_inv; exact add_int (Post.here S _ (.int _ _) h)
theorem Bo_sub {a b : Int} (h : Q (.int (a - b)) H) : Bo C A (binaryOp .Sub) (.int a) (.int b) H Q := fun s ra rb S x y => by
  obtain ⟨t, rfl⟩ := x.int_inv; obtain ⟨u, rfl⟩ := y.int_inv; exact sub_int (Post.here S _ (.int _ _) h)
theorem Bo_mod {a b : Int} (hb : 0 < b) (h : Q (.int (a % b)) H) : Bo C A (binaryOp .Mod) (.int a) (.int b) H Q := fun s ra rb S x y => by
  obtain ⟨t, rfl⟩ := x.int_inv; obtain ⟨u, rfl⟩ := y.int_inv
  refine PyProof.Rows.mod_int' (by lia) ?_
  rw [Int.fmod_eq_emod_of_nonneg _ (by lia)]
  exact Post.here S _ (.int _ _) h
theorem Bo_div {a b : Int} (hb : 0 < b) (hs : b < 1073741824) (h : Q (.int (a / b)) H) : Bo C A (binaryOp .FloorDiv) (.int a) (.int b) H Q := fun s ra rb S x y => by
  obtain ⟨t, rfl⟩ := x.int_inv; obtain ⟨u, rfl⟩ := y.int_inv
  refine PyProof.Rows.floordiv_int (by lia) ?_ (.inl (PyProof.noPylong_small (by lia)))
  rw [Int.fdiv_eq_ediv_of_nonneg _ (by lia)]
  exact Post.here S _ (.int _ _) h
theorem Bo_pow {a b : Int} (hb : 0 ≤ b) (hs : (Builtin.Int.intBits a : Int) * b ≤ 2 ^ 27) (h : Q (.int (a ^ b.toNat)) H) : Bo C A (binaryOp .Pow) (.int a) (.int b) H Q := fun s ra rb S x y => by
  obtain ⟨t, rfl⟩ := x.int_inv; obtain ⟨u, rfl⟩ := y.int_inv; exact PyProof.Rows.pow_int hb hs (Post.here S _ (.int _ _) h)
theorem Bo_eq_int {a b : Int} (h : Q (.bool (a == b)) H) : Bo C A (compareOp .Eq) (.int a) (.int b) H Q := fun s ra rb S x y => by
  obtain ⟨t, rfl⟩ := x.int_inv; obtain ⟨u, rfl⟩ := y.int_inv; exact eq_int (Post.same S (.bool _) h)
theorem Bo_ne_int {a b : Int} (h : Q (.bool (a != b)) H) : Bo C A (compareOp .NotEq) (.int a) (.int b) H Q := fun s ra rb S x y => by
  obtain ⟨t, rfl⟩ := x.int_inv; obtain ⟨u, rfl⟩ := y.int_inv; exact ne_int (Post.same S (.bool _) h)
theorem Bo_lt {a b : Int} (h : Q (.bool (decide (a < b))) H) : Bo C A (compareOp .Lt) (.int a) (.int b) H Q := fun s ra rb S x y => by
  obtain ⟨t, rfl⟩ := x.int_inv; obtain ⟨u, rfl⟩ := y.int_inv; exact lt_int (Post.same S (.bool _) h)
theorem Bo_le {a b : Int} (h : Q (.bool (decide (a ≤ b))) H) : Bo C A (compareOp .LtE) (.int a) (.int b) H Q := fun s ra rb S x y => by
  obtain ⟨t, rfl⟩ := x.int_inv; obtain ⟨u, rfl⟩ := y.int_inv; exact le_int (Post.same S (.bool _) h)
theorem Bo_gt {a b : Int} (h : Q (.bool (decide (a > b))) H) : Bo C A (compareOp .Gt) (.int a) (.int b) H Q := fun s ra rb S x y => by
  obtain ⟨t, rfl⟩ := x.int_inv; obtain ⟨u, rfl⟩ := y.int_inv; exact gt_int (Post.same S (.bool _) h)
theorem Bo_ge {a b : Int} (h : Q (.bool (decide (a ≥ b))) H) : Bo C A (compareOp .GtE) (.int a) (.int b) H Q := fun s ra rb S x y => by
  obtain ⟨t, rfl⟩ := x.int_inv; obtain ⟨u, rfl⟩ := y.int_inv; exact ge_int (Post.same S (.bool _) h)
theorem Bo_eq_str {a b : Str} (h : Q (.bool (a == b)) H) : Bo C A (compareOp .Eq) (.str a) (.str b) H Q := fun s ra rb S x y => by
  obtain ⟨t, rfl⟩ := x.str_inv; obtain ⟨u, rfl⟩ := y.str_inv; exact eq_str (Post.same S (.bool _) h)
theorem Bo_ne_str {a b : Str} (h : Q (.bool (!(a == b))) H) : Bo C A (compareOp .NotEq) (.str a) (.str b) H Q := fun s ra rb S x y => by
  obtain ⟨t, rfl⟩ := x.str_inv; obtain ⟨u, rfl⟩ := y.str_inv; exact PySem.EqBoolInt.of_rcne (SeqAt.RcNeAt.str_str _ _ _ _) (Post.same S (.bool _) h)

noncomputable def V.isNone : V → Bool
  | .none => true
  | _ => false
theorem Bo_is_none {a : V} (h : Q (.bool a.isNone) H) (hb : ∀ i, a ≠ .bi i := by intro _ x; cases x) : Bo C A (compareOp .Is) a .none H Q := fun s ra rb S x y => by
  cases y
  cases x with
  | bi i => exact absurd rfl (hb i)
  | _ => refine wpAny_is_plain (by rfl) ?_; exact Post.same S (.bool _) h
theorem Bo_isnot_none {a : V} (h : Q (.bool (!a.isNone)) H) (hb : ∀ i, a ≠ .bi i := by intro _ x; cases x) : Bo C A (compareOp .IsNot) a .none H Q := fun s ra rb S x y => by
  cases y
  cases x with
  | bi i => exact absurd rfl (hb i)
  | _ => refine wpAny_isNot_plain (by rfl) ?_; exact Post.same S (.bool _) h

-- the same as plain data
theorem reads_ivs {H : AH} {h : Heap} : ∀ {rs : List Value} {l : List Int}, RepL H h rs (ivs l) → ∃ as, ReadsAll h rs (l.map PyData.int) as
  | _, [], .nil => ⟨_, .nil⟩
  | _, i :: l, .cons x y => by
    obtain ⟨as, q⟩ := reads_ivs y
    obtain ⟨t, rfl⟩ := x.int_inv
    exact ⟨_, .cons (.int _ _) q⟩
theorem reads_pl {H : AH} {h : Heap} {r : Value} {l : List Int} (x : Rep H h r (pl l)) : ∃ as, Reads h r (.tuple (l.map PyData.int)) as := by
  cases x with
  | tup t n y => obtain ⟨as, q⟩ := reads_ivs y; exact ⟨_, .tuple t rfl rfl q⟩
theorem reads_lat {H : AH} {h : Heap} {a : Addr} {l : List Int} (x : LstAt H h a (ivs l)) : ∃ as, Reads h (.ref a) (.list (l.map PyData.int)) as := by
  obtain ⟨items, n, t, y⟩ := x
  obtain ⟨as, q⟩ := reads_ivs y; exact ⟨_, .list t rfl rfl q⟩
theorem reads_pls {H : AH} {h : Heap} : ∀ {rs : List Value} {b : List (List Int)}, RepL H h rs (b.map pl) → ∃ as, ReadsAll h rs (b.map fun l => .tuple (l.map PyData.int)) as
  | _, [], .nil => ⟨_, .nil⟩
  | _, i :: l, .cons x y => by
    obtain ⟨as, q⟩ := reads_pls y
    obtain ⟨bs, p⟩ := reads_pl x
    exact ⟨_, .cons p q⟩
theorem reads_bat {H : AH} {h : Heap} {a : Addr} {b : List (List Int)} (x : LstAt H h a (b.map pl)) : ∃ as, Reads h (.ref a) (.list (b.map fun l => .tuple (l.map PyData.int))) as := by
  obtain ⟨items, n, t, y⟩ := x
  obtain ⟨as, q⟩ := reads_pls y; exact ⟨_, .list t rfl rfl q⟩

theorem pls_lay : ∀ b : List (List Int), PyData.canLayAll0 (b.map fun l => .tuple (l.map PyData.int)) = true
  | [] => rfl
  | l :: b => by simp only [List.map_cons, PyData.canLayAll0, PyData.canLay0, ke_canLayAll0, pls_lay b, Bool.and_self]
theorem pls_depth : ∀ b : List (List Int), PyData.depthAll (b.map fun l => .tuple (l.map PyData.int)) ≤ 1
  | [] => Nat.zero_le _
  | l :: b => by
    have := pls_depth b
    simp only [List.map_cons, PyData.depthAll, PyData.depth, ke_depthAll]
    lia
theorem shaped_pl (l : List Int) : SeqAt.shaped (.tuple (l.map PyData.int)) = true := by
  simp [SeqAt.shaped, PyData.canLay0, ke_canLayAll0, PyData.depth, ke_depthAll]
theorem shaped_bd (b : List (List Int)) : SeqAt.shaped (.list (b.map fun l => .tuple (l.map PyData.int))) = true := by
  have := pls_depth b
  simp only [SeqAt.shaped, PyData.canLay0, pls_lay, PyData.depth, Bool.true_and]
  exact decide_eq_true (lq1 [_] (.le 1 (.v 0) (.n 1)) 1 (.a (.v 0) (.n 1)) (.n 64) rfl this)
theorem pls_eqv : ∀ a b : List (List Int), PyData.eqvAll (a.map fun l => .tuple (l.map PyData.int)) (b.map fun l => .tuple (l.map PyData.int)) = decide (a = b)
  | [], [] => by simp [PyData.eqvAll]
  | [], _ :: _ => by simp [PyData.eqvAll]
  | _ :: _, [] => by simp [PyData.eqvAll]
  | x :: a, y :: b => by
    simp only [List.map_cons, PyData.eqvAll, PyData.eqv, ked_eqvAll, pls_eqv a b, List.cons.injEq, Bool.decide_and]

theorem Rm.lt64 {n : Nat} (r : Rm A n) : A.units + 64 < cLine := by have := r.units; show A.units + 64 < 9900; exact lq1 [_, _] (.le 1 (.a (.v 0) (.m 20 (.v 1))) (.n 9000)) 1 (.a (.a (.v 0) (.n 64)) (.n 1)) (.n 9900) rfl this

theorem Bo_ne_pl {n : Nat} {a b : List Int} (r : Rm A n) (h : Q (.bool (!decide (a = b))) H) : Bo C A (compareOp .NotEq) (pl a) (pl b) H Q := fun s ra rb S x y => by
  obtain ⟨as, p⟩ := reads_pl x; obtain ⟨bs, q⟩ := reads_pl y
  refine ne_dataH p q (shaped_pl _) (shaped_pl _) r.lt64 ?_
  rw [PyData.eqv, ked_eqvAll]; exact Post.same S (.bool _) h
theorem Bo_eq_li {n : Nat} {v w : V} {a b : List Int} (r : Rm A n) (va : Src H v (ivs a)) (wb : Src H w (ivs b)) (h : Q (.bool (decide (a = b))) H) : Bo C A (compareOp .Eq) v w H Q := fun s ra rb S x y => by
  obtain ⟨_, rfl, x1⟩ := va.at S x; obtain ⟨_, rfl, y1⟩ := wb.at S y
  obtain ⟨as, p⟩ := reads_lat x1; obtain ⟨bs, q⟩ := reads_lat y1
  refine eq_dataH p q (ke_shaped_ints _) (ke_shaped_ints _) r.lt64 ?_
  rw [PyData.eqv, ked_eqvAll]; exact Post.same S (.bool _) h
theorem Bo_ne_li {n : Nat} {v w : V} {a b : List Int} (r : Rm A n) (va : Src H v (ivs a)) (wb : Src H w (ivs b)) (h : Q (.bool (!decide (a = b))) H) : Bo C A (compareOp .NotEq) v w H Q := fun s ra rb S x y => by
  obtain ⟨_, rfl, x1⟩ := va.at S x; obtain ⟨_, rfl, y1⟩ := wb.at S y
  obtain ⟨as, p⟩ := reads_lat x1; obtain ⟨bs, q⟩ := reads_lat y1
  refine ne_dataH p q (ke_shaped_ints _) (ke_shaped_ints _) r.lt64 ?_
  rw [PyData.eqv, ked_eqvAll]; exact Post.same S (.bool _) h
theorem Bo_ne_bd {n : Nat} {v w : V} {a b : List (List Int)} (r : Rm A n) (va : Src H v (a.map pl)) (wb : Src H w (b.map pl)) (h : Q (.bool (!decide (a = b))) H) : Bo C A (compareOp .NotEq) v w H Q := fun s ra rb S x y => by
  obtain ⟨_, rfl, x1⟩ := va.at S x; obtain ⟨_, rfl, y1⟩ := wb.at S y
  obtain ⟨as, p⟩ := reads_bat x1; obtain ⟨bs, q⟩ := reads_bat y1
  refine ne_dataH p q (shaped_bd _) (shaped_bd _) r.lt64 ?_
  rw [PyData.eqv, pls_eqv]; exact Post.same S (.bool _) h

/-- a list against the empty one, whatever it holds -/
theorem Bo_ne_nil {n : Nat} {v w : V} {a : List V} (r : Rm A n) (va : Src H v a) (wb : Src H w []) (h : Q (.bool (!a.isEmpty)) H) : Bo C A (compareOp .NotEq) v w H Q := fun s ra rb S x y => by
  obtain ⟨_, rfl, i, k, x1, lx⟩ := va.at S x; obtain ⟨_, rfl, j, m, y1, ly⟩ := wb.at S y
  have ex := lx.length
  have ey := ly.length
  simp only [List.length_nil, Array.length_toList] at ex ey
  cases a with
  | nil =>
    refine PySem.EqBoolInt.of_rcne (SeqAt.RcNeAt.lists (e := fun _ => true) x1.isList y1.isList (by simp only [List.length_nil] at ex; exact Nat.le_antisymm (lq1 [_, _] (.eq 1 (.v 0) (.n 0)) 1 (.v 0) (.v 1) rfl ex) (lq1 [_, _] (.eq 1 (.v 0) (.n 0)) 1 (.v 0) (.v 1) rfl ey)) r.lt fun j h1 h2 => by simp only [List.length_nil] at ex; lia) ?_
    simp only [List.length_nil] at ex
    rw [ex]; exact Post.same S (.bool _) h
  | cons a l =>
    refine PySem.EqBoolInt.of_rcne (SeqAt.RcNeAt.lists_lengths x1.isList y1.isList (by simp only [List.length_cons] at ex; rw [bne_iff_ne]; lia) r.lt) ?_
    exact Post.same S (.bool _) h
theorem Bo_eq_nil {n : Nat} {v w : V} {a : List V} (r : Rm A n) (va : Src H v a) (wb : Src H w []) (h : Q (.bool a.isEmpty) H) : Bo C A (compareOp .Eq) v w H Q := fun s ra rb S x y => by
  obtain ⟨_, rfl, i, k, x1, lx⟩ := va.at S x; obtain ⟨_, rfl, j, m, y1, ly⟩ := wb.at S y
  have ex := lx.length
  have ey := ly.length
  simp only [List.length_nil, Array.length_toList] at ex ey
  cases a with
  | nil =>
    refine SeqAt.eq_listAt (e := fun _ => true) x1.isList y1.isList (by simp only [List.length_nil] at ex; exact Nat.le_antisymm (lq1 [_, _] (.eq 1 (.v 0) (.n 0)) 1 (.v 0) (.v 1) rfl ex) (lq1 [_, _] (.eq 1 (.v 0) (.n 0)) 1 (.v 0) (.v 1) rfl ey)) r.lt (fun j h1 h2 => by simp only [List.length_nil] at ex; lia) ?_
    simp only [List.length_nil] at ex
    rw [ex]; exact Post.same S (.bool _) h
  | cons a l =>
    refine SeqAt.eq_list_lengthsAt x1.isList y1.isList (by simp only [List.length_cons] at ex; rw [bne_iff_ne]; lia) r.lt ?_
    exact Post.same S (.bool _) h
theorem Bo_ne_none_nil {n : Nat} {w : V} (r : Rm A n) (wb : Src H w []) (h : Q (.bool true) H) : Bo C A (compareOp .NotEq) .none w H Q := fun s ra rb S x y => by
  cases x
  obtain ⟨_, rfl, y1⟩ := wb.at S y
  obtain ⟨bs, q⟩ := reads_lat (l := []) y1
  refine ne_dataH .none q (by decide) (ke_shaped_ints _) r.lt64 ?_
  exact Post.same S (.bool _) h
theorem Bo_eq_none_nil {n : Nat} {w : V} (r : Rm A n) (wb : Src H w []) (h : Q (.bool false) H) : Bo C A (compareOp .Eq) .none w H Q := fun s ra rb S x y => by
  cases x
  obtain ⟨_, rfl, y1⟩ := wb.at S y
  obtain ⟨bs, q⟩ := reads_lat (l := []) y1
  refine eq_dataH .none q (by decide) (ke_shaped_ints _) r.lt64 ?_
  exact Post.same S (.bool _) h

theorem eqv_int (i j : Int) : PyData.eqv (.int j) (.int i) = (j == i) := by rw [PyData.eqv]
theorem any_ivs (i : Int) : ∀ l : List Int, ((l.map PyData.int).any fun y => PyData.eqv y (.int i)) = decide (i ∈ l)
  | [] => rfl
  | j :: l => by
    rw [List.map_cons, List.any_cons, any_ivs i l, eqv_int]
    by_cases h : j = i
    · subst h; simp
    · have h2 : ¬ i = j := fun e => h e.symm
      rw [beq_false_of_ne h, Bool.false_or]
      exact decide_eq_decide.mpr (by simp [List.mem_cons, h2])
theorem Bo_in_li {n : Nat} {w : V} {i : Int} {l : List Int} (r : Rm A n) (wb : Src H w (ivs l)) (h : Q (.bool (decide (i ∈ l))) H) : Bo C A (compareOp .In) (.int i) w H Q := fun s ra rb S x y => by
  obtain ⟨t, rfl⟩ := x.int_inv; obtain ⟨_, rfl, y1⟩ := wb.at S y
  obtain ⟨bs, q⟩ := reads_lat y1
  refine SeqAt.in_list_reads q (.int i t) (ke_canLayAll0 _) rfl (by have := r.units; rw [ke_depthAll]; show A.units + 1 + min 0 _ < 9900; lia) ?_
  rw [any_ivs]; exact Post.same S (.bool _) h
theorem Bo_notin_li {n : Nat} {w : V} {i : Int} {l : List Int} (r : Rm A n) (wb : Src H w (ivs l)) (h : Q (.bool (!decide (i ∈ l))) H) : Bo C A (compareOp .NotIn) (.int i) w H Q := fun s ra rb S x y => by
  obtain ⟨t, rfl⟩ := x.int_inv; obtain ⟨_, rfl, y1⟩ := wb.at S y
  obtain ⟨bs, q⟩ := reads_lat y1
  refine SeqAt.notIn_list_reads q (.int i t) (ke_canLayAll0 _) rfl (by have := r.units; rw [ke_depthAll]; show A.units + 1 + min 0 _ < 9900; lia) ?_
  rw [any_ivs]; exact Post.same S (.bool _) h
theorem Bo_in_pl {n : Nat} {i : Int} {l : List Int} (r : Rm A n) (h : Q (.bool (decide (i ∈ l))) H) : Bo C A (compareOp .In) (.int i) (pl l) H Q := fun s ra rb S x y => by
  obtain ⟨t, rfl⟩ := x.int_inv
  obtain ⟨bs, q⟩ := reads_pl y
  refine SeqAt.in_tuple_reads q (.int i t) (ke_canLayAll0 _) rfl (by have := r.units; rw [ke_depthAll]; show A.units + 1 + min 0 _ < 9900; lia) ?_
  rw [any_ivs]; exact Post.same S (.bool _) h

theorem Th_int {i : Int} (h : QB (i != 0) H) : Th C A (.int i) H QB := fun s ra S x => by
  obtain ⟨t, rfl⟩ := x.int_inv; exact truthy_int (Post.same S rfl h)

/-- what a fresh list may be from here on: fixed, or one that will turn -/
noncomputable def NewL (H : AH) (l : List V) (Q : V → AH → Prop) : Prop := Q (.lst l) H ∨ ∀ a, H a = none → Q (.ref a) (H.set a (.list l))

theorem post_newL {s s' : Shared} {a : Addr} {items : Array Value} {n : Nat} {l : List V} (S : HOk C H s.heap) (k : ∀ b o, s.heap.get? b = some o → s'.heap.get? b = some o) (f : s.heap.get? a = none)
    (q : IsL s'.heap a items n) (r : RepL H s.heap items.toList l) (T : Stp s s') (h : NewL H l Q) : Post Rep C s H Q (.ref a) s' := by
  rcases h with h | h
  · refine ⟨.lst l, H, .lst q (S.none_of_dead f) (r.mono (Pres.grow (X := X0) k).keepF0), S.grow k, Pres.grow k, T, h⟩
  · obtain ⟨S', P'⟩ := S.newList k f q r
    exact ⟨.ref a, _, .ref a, S', P', T, h a (S.none_of_dead f)⟩
theorem post_newT {s s' : Shared} {a : Addr} {items : Array Value} {n : Nat} {l : List V} (S : HOk C H s.heap) (k : ∀ b o, s.heap.get? b = some o → s'.heap.get? b = some o) (f : s.heap.get? a = none)
    (q : IsT s'.heap a items n) (r : RepL H s.heap items.toList l) (T : Stp s s') (h : Q (.tup l) H) : Post Rep C s H Q (.ref a) s' :=
  ⟨.tup l, H, .tup q (S.none_of_dead f) (r.mono (Pres.grow (X := X0) k).keepF0), S.grow k, Pres.grow k, T, h⟩
theorem push_keep (h : Heap) (o : Obj) : ∀ b o', h.get? b = some o' → (h.push o).get? b = some o' := fun _ _ e => Heap.get?_push_of_some o e

theorem Bo_add_list {v w : V} {a b : List V} (va : Src H v a) (wb : Src H w b) (hs : a.length + b.length ≤ sizeLine) (h : NewL H (a ++ b) Q) : Bo C A (binaryOp .Add) v w H Q := fun s ra rb S x y => by
  obtain ⟨_, rfl, i, k, x1, lx⟩ := va.at S x; obtain ⟨_, rfl, j, m, y1, ly⟩ := wb.at S y
  have ex := lx.length
  have ey := ly.length
  simp only [Array.length_toList] at ex ey
  refine P.add_list x1 y1 ?_ (lq3 [_, _, _, _, _] (.le 1 (.a (.v 3) (.v 4)) (.v 2)) (.eq 1 (.v 0) (.v 3)) (.eq 1 (.v 1) (.v 4)) 1 (.a (.v 0) (.v 1)) (.v 2) rfl hs ex ey)
  refine post_newL (items := i ++ j) (n := 0) S (push_keep _ _) (get?_size _) (IsL.new _ _) ?_ ⟨_, _, rfl⟩ h
  rw [Array.toList_append]; exact lx.append ly
end

/- NmE -/
/-- Python's place in a list -/
noncomputable def idx {α : Type} (l : List α) (k : Int) : Option α := if 0 ≤ k then l[k.toNat]? else if 0 ≤ k + l.length then l[(k + l.length).toNat]? else none
/-- Python's cut -/
noncomputable def cut {α : Type} (l : List α) (lo hi : Option Int) : List α := (l.drop (lo.elim 0 (clipAt l.length))).take (hi.elim l.length (clipAt l.length) - lo.elim 0 (clipAt l.length))

theorem seqIndex_of {k : Int} {n j : Nat} (h : (0 ≤ k ∧ j = k.toNat ∧ j < n) ∨ (k < 0 ∧ 0 ≤ k + n ∧ j = (k + n).toNat)) : seqIndex? k n = some j := by
  unfold seqIndex?
  rcases h with ⟨a, rfl, b⟩ | ⟨a, b, rfl⟩
  · have e1 : ¬ k < 0 := by omega
    simp [e1]; omega
  · simp [a]; omega

section
variable {C : Cx} {A : Around} {env : Env} {ls : Ls} {H : AH} {Q : V → AH → Prop} {QB : Bool → AH → Prop} {s : Shared}

theorem Ev_Neg {i : Int} {k p pos} (h : Q (.int (-i)) H) : Ev C A env (.UnaryOp .USub (.Constant (.int i) k p) pos) ls H Q := fun s S =>
  UnaryOp_ (wpAny_Constant_int (neg_int (Post.here (R := Rep) (s := s) S.ok _ (.int _ _) h)))

theorem Evs_len : ∀ {es : List Expr} {ls H} {Q : List V → AH → Prop}, Evs C A env es ls H Q → Evs C A env es ls H fun vs H' => vs.length = es.length ∧ Q vs H'
  | [], ls, H, Q, h => ⟨rfl, h⟩
  | e :: es, ls, H, Q, h => Ev.cons h fun v H1 q => Evs_mono (Evs_len q) fun vs H2 z => ⟨by rw [List.length_cons, List.length_cons, z.1], z.2⟩

noncomputable abbrev noStar (es : List Expr) : Bool := es.all fun e => match e with | .Starred .. => false | _ => true

noncomputable def TupQ (Q : V → AH → Prop) (vs : List V) (H1 : AH) : Prop := Q (.tup vs) H1
noncomputable def LstQ (Q : V → AH → Prop) (vs : List V) (H1 : AH) : Prop := NewL H1 vs Q
theorem Ev_Tuple {es : List Expr} {k pos} (h : Evs C A env es ls H (TupQ Q)) (hs : noStar es = true := by rfl) (hl : es.length ≤ sizeLine := by decide) : Ev C A env (.Tuple es k pos) ls H Q := fun s S => by
  refine Tuple_ (Fin.seq (Evs_spliced (Evs_len h) hs s S) fun rs vs s1 H1 x1 S1 P1 T1 h1 => ?_)
  have ex := x1.length
  refine wpAny_newTuple ?_ (by omega)
  refine Post.from P1 T1 (post_newT (items := rs.toArray) (n := 0) S1 (push_keep _ _) (get?_size _) (Heap.get?_push_size _ rfl) ?_ ⟨_, _, rfl⟩ h1.2)
  simpa using x1
theorem Ev_List {es : List Expr} {pos} (h : Evs C A env es ls H (LstQ Q)) (hs : noStar es = true := by rfl) (hl : es.length ≤ sizeLine := by decide) : Ev C A env (.List es pos) ls H Q := fun s S => by
  refine List_ (Fin.seq (Evs_spliced (Evs_len h) hs s S) fun rs vs s1 H1 x1 S1 P1 T1 h1 => ?_)
  have ex := x1.length
  refine wpAny_newList ?_ (by omega)
  refine Post.from P1 T1 (post_newL (items := rs.toArray) (n := 0) S1 (push_keep _ _) (get?_size _) (Heap.get?_push_size _ rfl) ?_ ⟨_, _, rfl⟩ h1.2)
  simpa using x1

inductive SubLQ (Q : V → AH → Prop) (o i : V) (H2 : AH) : Prop
  | mk (l k x) : Src H2 o l → i = .int k → idx l k = some x → l.length ≤ sizeLine → Q x H2 → SubLQ Q o i H2
inductive SubTQ (Q : V → AH → Prop) (o i : V) (H2 : AH) : Prop
  | mk (l k x) : o = .tup l → i = .int k → idx l k = some x → l.length ≤ sizeLine → Q x H2 → SubTQ Q o i H2
theorem Ev_Sub_list {value slice pos} (h : Ev C A env value ls H (ThenQ C A env slice ls (SubLQ Q)))
    (hs : ∀ a k u, subscripted slice false (.ref a) (.int k u) = operate [.ref a, .int k u] (getItem (.ref a) (.int k u)) := by intro _ _ _; with_unfolding_all rfl) :
    Ev C A env (.Subscript value slice pos) ls H Q := fun s S => by
  refine Subscript_ (Fin.seq (h s S) fun ra a s1 H1 x1 S1 P1 T1 h1 => ?_)
  refine Fin.seq (h1 s1 (S.step S1 P1)) fun rb b s2 H2 x2 S2 P2 T2 h2 => ?_
  obtain ⟨l, k, x, va, rfl, hx, hz, hq⟩ := h2
  obtain ⟨t, rfl⟩ := x2.int_inv
  obtain ⟨p, rfl, items, n, z, lz⟩ := va.at S2 (x1.mono P2.keepF0)
  have ex := lz.length
  simp only [Array.length_toList] at ex
  have z63 : sizeLine = 16777216 := by decide
  have post : ∀ r, Rep H2 s2.heap r x → Post Rep C s H Q r s2 := fun r y => Post.from (P1.trans P2) (T1.trans T2) (Post.same S2 y hq)
  unfold idx at hx
  split at hx
  · obtain ⟨r, e, y⟩ := lz.get hx
    have := (List.getElem?_eq_some_iff.mp hx).1
    exact tail_any z.isList.typeIs slot_list_getitem.lookup (wpAny_getItem_list z.isList (by assumption) (by omega) (by simpa using e) (post r y)) (hs _ _ _)
  · split at hx
    · obtain ⟨r, e, y⟩ := lz.get hx
      exact tail_any z.isList.typeIs slot_list_getitem.lookup (wpAny_getItem_list_neg z.isList (by omega) (by omega) (by omega) (by rw [ex]; simpa using e) (post r y)) (hs _ _ _)
    · cases hx

theorem Ev_Sub_tup {value slice pos} (h : Ev C A env value ls H (ThenQ C A env slice ls (SubTQ Q)))
    (hs : ∀ a k u, subscripted slice false (.ref a) (.int k u) = operate [.ref a, .int k u] (getItem (.ref a) (.int k u)) := by intro _ _ _; with_unfolding_all rfl) :
    Ev C A env (.Subscript value slice pos) ls H Q := fun s S => by
  refine Subscript_ (Fin.seq (h s S) fun ra a s1 H1 x1 S1 P1 T1 h1 => ?_)
  refine Fin.seq (h1 s1 (S.step S1 P1)) fun rb b s2 H2 x2 S2 P2 T2 h2 => ?_
  obtain ⟨l, k, x, rfl, rfl, hx, hz, hq⟩ := h2
  obtain ⟨t, rfl⟩ := x2.int_inv
  have x1' := x1.mono P2.keepF0
  cases x1' with
  | tup z n lz =>
    rename_i p items m
    have ex := lz.length
    simp only [Array.length_toList] at ex
    have z63 : sizeLine = 16777216 := by decide
    have zt : IsTup s2.heap p items := ⟨_, z, rfl, m, rfl⟩
    have post : ∀ r, Rep H2 s2.heap r x → Post Rep C s H Q r s2 := fun r y => Post.from (P1.trans P2) (T1.trans T2) (Post.same S2 y hq)
    unfold idx at hx
    split at hx
    · obtain ⟨r, e, y⟩ := lz.get hx
      have := (List.getElem?_eq_some_iff.mp hx).1
      exact tail_any zt.typeIs slot_tuple_getitem.lookup (PyProof.Rows.getItem_tuple zt (by omega) (by omega) (seqIndex_of (.inl ⟨by assumption, rfl, by omega⟩)) (by simpa using e) (post r y)) (hs _ _ _)
    · split at hx
      · obtain ⟨r, e, y⟩ := lz.get hx
        exact tail_any zt.typeIs slot_tuple_getitem.lookup (PyProof.Rows.getItem_tuple zt (by omega) (by omega) (seqIndex_of (.inr ⟨by omega, by rw [ex]; omega, rfl⟩)) (by rw [ex]; simpa using e) (post r y)) (hs _ _ _)
      · cases hx

inductive PtQ (Q : Option Int → AH → Prop) (v : V) (H1 : AH) : Prop
  | mk (i) : v = .int i → Q (some i) H1 → PtQ Q v H1
inductive CutQ (Q : V → AH → Prop) (o : V) (lo hi : Option Int) (H3 : AH) : Prop
  | mk (l) : Src H3 o l → l.length ≤ sizeLine → NewL H3 (cut l lo hi) Q → CutQ Q o lo hi H3
inductive RevQ (Q : V → AH → Prop) (o : V) (H1 : AH) : Prop
  | mk (l) : Src H1 o l → l.length ≤ sizeLine → NewL H1 l.reverse Q → RevQ Q o H1
inductive CutTQ (Q : V → AH → Prop) (o : V) (H1 : AH) : Prop
  | mk (l) : o = .tup l → 1 ≤ l.length → l.length ≤ sizeLine → Q (.tup (l.drop 1)) H1 → CutTQ Q o H1
/-- a part of a cut -/
noncomputable def Pt (C : Cx) (A : Around) (env : Env) (e : Option Expr) (ls : Ls) (H : AH) (Q : Option Int → AH → Prop) : Prop :=
  match e with
  | none => Q none H
  | some e => Ev C A env e ls H (PtQ Q)
theorem Pt.run {e : Option Expr} {Q : Option Int → AH → Prop} (h : Pt C A env e ls H Q) (S : Sat C env H s.heap ls) : Fin (fun _ _ => IsPart) C A s H (evalPart e env) Q := by
  cases e with
  | none => rw [evalPart_none]; exact wpAny_pure (Post.same S.ok .none h)
  | some e =>
    refine wpAny_mono (h s S) (fun r s1 q => ?_) fun _ _ x => x
    obtain ⟨v, H1, x, a, b, c, i, rfl, hq⟩ := q
    obtain ⟨t, rfl⟩ := x.int_inv
    exact ⟨_, H1, .int i t, a, b, c, hq⟩

noncomputable def CutP2 (C : Cx) (A : Around) (env : Env) (upper : Option Expr) (ls : Ls) (Q : V → AH → Prop) (o : V) (lo : Option Int) (H2 : AH) : Prop := Pt C A env upper ls H2 (CutQ Q o lo)
noncomputable def CutP (C : Cx) (A : Around) (env : Env) (lower upper : Option Expr) (ls : Ls) (Q : V → AH → Prop) (o : V) (H1 : AH) : Prop := Pt C A env lower ls H1 (CutP2 C A env upper ls Q o)
theorem Ev_Cut {value lower upper p pos} (h : Ev C A env value ls H (CutP C A env lower upper ls Q))
    (hs : ∀ a k, subscripted (.Slice lower upper none p) false (.ref a) (.ref k) = operate [.ref k, .ref a] (getItem (.ref a) (.ref k)) := by intro _ _; with_unfolding_all rfl) :
    Ev C A env (.Subscript value (.Slice lower upper none p) pos) ls H Q := fun s S => by
  refine Subscript_ (Fin.seq (h s S) fun ra a s1 H1 x1 S1 P1 T1 h1 => ?_)
  refine wpAny_Slice (Fin.seq (h1.run (S.step S1 P1)) fun rl lo s2 H2 x2 S2 P2 T2 h2 => ?_)
  refine Fin.seq (h2.run ((S.step S1 P1).step S2 P2)) fun ru hi s3 H3 x3 S3 P3 T3 h3 => ?_
  rw [evalPart_none]
  refine wpAny_pure ?_
  obtain ⟨l, va, hz, hq⟩ := h3
  obtain ⟨q, rfl, items, n, z, lz⟩ := va.at S3 ((x1.mono P2.keepF0).mono P3.keepF0)
  have ex := lz.length
  simp only [Array.length_toList] at ex
  refine tail_any (s := { s3 with heap := s3.heap.push _ }) (z.push _).isList.typeIs list_getitem_lookup
    (wpAny_getItem_list_slice (z.push _).isList (Heap.IsSliceOf.new ..) x2 x3 .none (by simp) ?_ (by omega)) (hs _ _)
  refine Post.from ((P1.trans P2).trans P3) ((T1.trans T2).trans T3) ?_
  refine post_newL (s := s3) (items := slicePick items lo hi none) (n := 0) S3 (fun b o e => push_keep _ _ _ _ (push_keep _ _ _ _ e)) (get?_above _ (by simp)) (IsL.new _ _) ?_ ⟨_, _, rfl⟩ hq
  rw [slicePick_plain]
  unfold cut
  rw [ex]
  exact (lz.drop _).take _

theorem Ev_Rev {value p pos} {k p1 p2} (h : Ev C A env value ls H (RevQ Q))
    (hs : ∀ a k, subscripted (.Slice none none (some (.UnaryOp .USub (.Constant (.int 1) k p1) p2)) p) false (.ref a) (.ref k) = operate [.ref a, .ref k] (getItem (.ref a) (.ref k)) := by intro _ _; with_unfolding_all rfl) :
    Ev C A env (.Subscript value (.Slice none none (some (.UnaryOp .USub (.Constant (.int 1) k p1) p2)) p) pos) ls H Q := fun s S => by
  refine Subscript_ (Fin.seq (h s S) fun ra a s1 H1 x1 S1 P1 T1 h1 => ?_)
  refine wpAny_Slice ?_
  rw [evalPart_none]
  refine wpAny_pure (wpAny_pure ?_)
  show wpAny _ _ (eval (.UnaryOp .USub (.Constant (.int 1) k p1) p2) env) _ _ _
  refine UnaryOp_ (wpAny_Constant_int (neg_int ?_))
  obtain ⟨l, va, hz, hq⟩ := h1
  obtain ⟨q, rfl, items, n, z, lz⟩ := va.at S1 x1
  have ex := lz.length
  simp only [Array.length_toList] at ex
  refine tail_any (s := { s1 with heap := s1.heap.push _, toks := _ }) (z.push _).isList.typeIs list_getitem_lookup
    (wpAny_getItem_list_slice (z.push _).isList (Heap.IsSliceOf.new ..) .none .none (.int _ _) (by simp) ?_ (by omega)) (hs _ _)
  refine Post.from P1 T1 ?_
  refine post_newL (s := s1) (items := slicePick items none none (some (-1))) (n := 0) S1 (fun b o e => push_keep _ _ _ _ (push_keep _ _ _ _ e)) (get?_above _ (by simp)) (IsL.new _ _) ?_ ⟨_, _, rfl⟩ hq
  rw [krv_pick]
  exact lz.reverse

theorem Ev_CutTup {value p pos} {i : Int} {k p1} (h : Ev C A env value ls H (CutTQ Q))
    (hs : ∀ a k', subscripted (.Slice (some (.Constant (.int 1) k p1)) none none p) false (.ref a) (.ref k') = operate [.ref k', .ref a] (getItem (.ref a) (.ref k')) := by intro _ _; with_unfolding_all rfl) :
    Ev C A env (.Subscript value (.Slice (some (.Constant (.int 1) k p1)) none none p) pos) ls H Q := fun s S => by
  refine Subscript_ (Fin.seq (h s S) fun ra a s1 H1 x1 S1 P1 T1 h1 => ?_)
  refine wpAny_Slice ?_
  show wpAny _ _ (eval (.Constant (.int 1) k p1) env) _ _ _
  refine wpAny_Constant_int ?_
  rw [evalPart_none]
  refine wpAny_pure (wpAny_pure ?_)
  obtain ⟨l, rfl, h1l, hz, hq⟩ := h1
  cases x1 with
  | tup z n lz =>
    rename_i q items m
    have ex := lz.length
    simp only [Array.length_toList] at ex
    have zt : IsTup (s1.heap.push { cls := .type "slice", data := .fields #[.int ((1 : Nat) : Int) s1.toks, .none, .none] }) q items := ⟨_, Heap.get?_push_of_some _ z, rfl, m, rfl⟩
    refine tail_any (s := { s1 with heap := s1.heap.push _, toks := _ }) zt.typeIs slot_tuple_getitem.lookup
      (getItem_tuple_from (a := 1) zt (Heap.IsSliceOf.new ..) (Nat.le_refl _) (by omega) ?_ (by omega)) (hs _ _)
    refine Post.from P1 T1 ?_
    refine post_newT (s := s1) (items := (items.toList.drop 1).toArray) (n := 0) S1 (fun b o e => push_keep _ _ _ _ (push_keep _ _ _ _ e)) (get?_above _ (by simp)) (Heap.get?_push_size _ rfl) ?_ ⟨_, _, rfl⟩ hq
    simpa using lz.drop 1

noncomputable def ChT5 (C : Cx) (A : Around) (op : CmpOp) (b : V) (QB : Bool → AH → Prop) (c : V) (H1 : AH) : Prop := Bo C A (compareOp op) b c H1 (ThQ C A QB)
noncomputable def ChT4 (C : Cx) (A : Around) (env : Env) (r2 : Expr) (op2 : CmpOp) (pos : Pos) (ls : Ls) (QB : Bool → AH → Prop) (b : V) (t : Bool) (H4 : AH) : Prop :=
  bif t then (∀ s rb, Sat C env H4 s.heap ls → Rep H4 s.heap rb b → Fin RB C A s H4 (testChain pos rb [op2] [eval r2 env]) QB) else QB false H4
noncomputable def ChT2 (C : Cx) (A : Around) (env : Env) (r2 : Expr) (op1 op2 : CmpOp) (pos : Pos) (ls : Ls) (QB : Bool → AH → Prop) (a b : V) (H2 : AH) : Prop := Bo C A (compareOp op1) a b H2 (ThQ C A (ChT4 C A env r2 op2 pos ls QB b))
theorem Tr_Chain {l r1 r2 : Expr} {op1 op2 pos} (h : Ev C A env l ls H (ThenQ C A env r1 ls (ChT2 C A env r2 op1 op2 pos ls QB)))
    (hm : lastMarks [op1, op2] [r1, r2] = false := by with_unfolding_all rfl) : Tr C A env (.Compare l [op1, op2] [r1, r2] pos) ls H QB := fun s S => by
  refine isTrue_chain (Fin.seq (h s S) fun ra a s1 H1 x1 S1 P1 T1 h1 => test_link ?_) hm
  refine Fin.seq (h1 s1 (S.step S1 P1)) fun rb b s2 H2 x2 S2 P2 T2 h2 => ?_
  refine Fin.seq (h2 s2 ra rb S2 (x1.mono P2.keepF0) x2) fun rc c s3 H3 x3 S3 P3 T3 h3 => ?_
  refine Fin.seq (h3 s3 rc S3 x3) fun rd d s4 H4 x4 S4 P4 T4 h4 => ?_
  cases x4
  have PP := ((P1.trans P2).trans P3).trans P4
  have TT := ((T1.trans T2).trans T3).trans T4
  cases rd with
  | true => exact Fin.then PP TT (h4 s4 rb (S.step S4 PP) ((x2.mono P3.keepF0).mono P4.keepF0))
  | false => exact ⟨_, H4, rfl, S4, PP, TT, h4⟩
noncomputable def ChE4 (C : Cx) (A : Around) (env : Env) (r2 : Expr) (op2 : CmpOp) (pos : Pos) (ls : Ls) (Q : V → AH → Prop) (b c : V) (t : Bool) (H4 : AH) : Prop :=
  bif t then (∀ s rb, Sat C env H4 s.heap ls → Rep H4 s.heap rb b → Fin Rep C A s H4 (compareChain pos rb [op2] [eval r2 env]) Q) else Q c H4
noncomputable def ChE3 (C : Cx) (A : Around) (env : Env) (r2 : Expr) (op2 : CmpOp) (pos : Pos) (ls : Ls) (Q : V → AH → Prop) (b c : V) (H3 : AH) : Prop := Th C A c H3 (ChE4 C A env r2 op2 pos ls Q b c)
noncomputable def ChE2 (C : Cx) (A : Around) (env : Env) (r2 : Expr) (op1 op2 : CmpOp) (pos : Pos) (ls : Ls) (Q : V → AH → Prop) (a b : V) (H2 : AH) : Prop := Bo C A (compareOp op1) a b H2 (ChE3 C A env r2 op2 pos ls Q b)
theorem Ev_Chain {l r1 r2 : Expr} {op1 op2 pos} (h : Ev C A env l ls H (ThenQ C A env r1 ls (ChE2 C A env r2 op1 op2 pos ls Q)))
    (hm : lastMarks [op1, op2] [r1, r2] = false := by with_unfolding_all rfl) : Ev C A env (.Compare l [op1, op2] [r1, r2] pos) ls H Q := fun s S => by
  refine Compare_chain (Fin.seq (h s S) fun ra a s1 H1 x1 S1 P1 T1 h1 => chain_link ?_) hm
  refine Fin.seq (h1 s1 (S.step S1 P1)) fun rb b s2 H2 x2 S2 P2 T2 h2 => ?_
  refine Fin.seq (h2 s2 ra rb S2 (x1.mono P2.keepF0) x2) fun rc c s3 H3 x3 S3 P3 T3 h3 => ?_
  refine Fin.seq (h3 s3 rc S3 x3) fun rd d s4 H4 x4 S4 P4 T4 h4 => ?_
  cases x4
  have PP := ((P1.trans P2).trans P3).trans P4
  have TT := ((T1.trans T2).trans T3).trans T4
  cases rd with
  | true => exact Fin.then PP TT (h4 s4 rb (S.step S4 PP) ((x2.mono P3.keepF0).mono P4.keepF0))
  | false => exact ⟨_, H4, x3.mono P4.keepF0, S4, PP, TT, h4⟩
theorem chain_end_T {r2 : Expr} {op2 pos} {b : V} (h : Ev C A env r2 ls H (ChT5 C A op2 b QB)) : ∀ s rb, Sat C env H s.heap ls → Rep H s.heap rb b → Fin RB C A s H (testChain pos rb [op2] [eval r2 env]) QB := fun s rb S x => by
  refine test_last (Fin.seq (h s S) fun rc c s1 H1 x1 S1 P1 T1 h1 => ?_)
  refine Fin.seq (h1 s1 rb rc S1 (x.mono P1.keepF0) x1) fun rd d s2 H2 x2 S2 P2 T2 h2 => ?_
  exact Fin.then (P1.trans P2) (T1.trans T2) (h2 s2 rd S2 x2)
theorem chain_end_E {r2 : Expr} {op2 pos} {b : V} (h : Ev C A env r2 ls H (CmeQ2 C A op2 b Q)) : ∀ s rb, Sat C env H s.heap ls → Rep H s.heap rb b → Fin Rep C A s H (compareChain pos rb [op2] [eval r2 env]) Q := fun s rb S x => by
  refine chain_last (Fin.seq (h s S) fun rc c s1 H1 x1 S1 P1 T1 h1 => ?_)
  exact Fin.then P1 T1 (h1 s1 rb rc S1 (x.mono P1.keepF0) x1)
end

/- NmF -/
inductive RetP (C : Cx) (env : Env) (s : Shared) (H : AH) (R : V → AH → Prop) (r : Value) (s' : Shared) : Prop
  | mk (v H') : Rep H' s'.heap r v → HOk C H' s'.heap → Pres (Own env) H s.heap H' s'.heap → Stp s s' → R v H' → RetP C env s H R r s'
inductive NextP (C : Cx) (env : Env) (s : Shared) (H : AH) (N : Ls → AH → Prop) (s' : Shared) : Prop
  | mk (ls' H') : Sat C env H' s'.heap ls' → Pres (Own env) H s.heap H' s'.heap → Stp s s' → N ls' H' → NextP C env s H N s'
/-- how a suite may end -/
noncomputable def ExPost (C : Cx) (env : Env) (s : Shared) (H : AH) (R : V → AH → Prop) (N : Ls → AH → Prop) (fl : Flow) (s' : Shared) : Prop :=
  match fl with
  | .ret r => RetP C env s H R r s'
  | .next => NextP C env s H N s'
  | _ => False
/-- a suite; one statement -/
noncomputable def Ex (C : Cx) (A : Around) (env : Env) (ss : List Stmt) (ls : Ls) (H : AH) (R : V → AH → Prop) (N : Ls → AH → Prop) : Prop :=
  ∀ s, Sat C env H s.heap ls → wpAny (model C.prog C.w) A (execs ss env) (ExPost C env s H R N) Bad s
noncomputable def E1 (C : Cx) (A : Around) (env : Env) (st : Stmt) (ls : Ls) (H : AH) (R : V → AH → Prop) (N : Ls → AH → Prop) : Prop :=
  ∀ s, Sat C env H s.heap ls → wpAny (model C.prog C.w) A (exec st env) (ExPost C env s H R N) Bad s

section
variable {C : Cx} {A : Around} {env : Env} {ls : Ls} {H : AH} {R : V → AH → Prop} {N : Ls → AH → Prop} {s : Shared}

theorem Pres.own0 {h h' : Heap} {H H' : AH} (P : Pres X0 H h H' h') : Pres (Own env) H h H' h' := P.weak fun _ x => x.elim

theorem ExPost.from {s s1 s2 : Shared} {H1 : AH} {fl : Flow} (P : Pres (Own env) H s.heap H1 s1.heap) (T : Stp s s1) (h : ExPost C env s1 H1 R N fl s2) : ExPost C env s H R N fl s2 := by
  cases fl with
  | ret r => obtain ⟨v, H', a, b, c, d, e⟩ := h; exact ⟨v, H', a, b, P.trans c, T.trans d, e⟩
  | next => obtain ⟨v, H', b, c, d, e⟩ := h; exact ⟨v, H', b, P.trans c, T.trans d, e⟩
  | brk => exact h
  | cont => exact h
theorem ExPost.mono {R' : V → AH → Prop} {N' : Ls → AH → Prop} {s' : Shared} {fl : Flow} (h : ExPost C env s H R N fl s') (r : ∀ v H', R v H' → R' v H') (n : ∀ l H', N l H' → N' l H') : ExPost C env s H R' N' fl s' := by
  cases fl with
  | ret x => obtain ⟨v, H', a, b, c, d, e⟩ := h; exact ⟨v, H', a, b, c, d, r _ _ e⟩
  | next => obtain ⟨v, H', b, c, d, e⟩ := h; exact ⟨v, H', b, c, d, n _ _ e⟩
  | brk => exact h
  | cont => exact h

theorem E1.mono {st : Stmt} {R' : V → AH → Prop} {N' : Ls → AH → Prop} (h : E1 C A env st ls H R N) (r : ∀ v H', R v H' → R' v H') (n : ∀ l H', N l H' → N' l H') : E1 C A env st ls H R' N' :=
  fun s S => wpAny_mono (h s S) (fun _ _ q => q.mono r n) fun _ _ x => x

theorem Ex_nil (h : N ls H) : Ex C A env [] ls H R N := fun s S => wpAny_execs_nil ⟨ls, H, S, Pres.refl _ _ _, Stp.refl _, h⟩
noncomputable def SeqQ (C : Cx) (A : Around) (env : Env) (ss : List Stmt) (R : V → AH → Prop) (N : Ls → AH → Prop) (ls' : Ls) (H' : AH) : Prop := Ex C A env ss ls' H' R N
noncomputable def IfQ (C : Cx) (A : Around) (env : Env) (body orelse : List Stmt) (ls : Ls) (R : V → AH → Prop) (N : Ls → AH → Prop) (b : Bool) (H1 : AH) : Prop := bif b then Ex C A env body ls H1 R N else Ex C A env orelse ls H1 R N
theorem Ex_cons {st : Stmt} {ss : List Stmt} (h : E1 C A env st ls H R (SeqQ C A env ss R N)) : Ex C A env (st :: ss) ls H R N := fun s S => by
  refine wpAny_execs_cons (wpAny_mono (h s S) (fun fl s1 q => ?_) fun _ _ x => x)
  cases fl with
  | next =>
    obtain ⟨ls', H', a, b, c, d⟩ := q
    exact wpAny_mono (d s1 a) (fun _ _ z => z.from b c) fun _ _ x => x
  | ret r => exact q
  | brk => exact q.elim
  | cont => exact q.elim
/-- fewer facts of the names -/
theorem Ex.sub {ss : List Stmt} {ls' : Ls} (h : Ex C A env ss ls' H R N) (k : ∀ x v, ls'.lookup x = some v → ls.lookup x = some v) : Ex C A env ss ls H R N := fun s S => h s (S.sub k)


/-- a list of the frame's goes among the fixed ones -/
theorem Ex_fix {ss : List Stmt} {x : Str} {a : Addr} {l : List V} (hx : ls.lookup x = some (.ref a)) (hH : H a = some (.list l)) (h : Ex C A env ss ((x, .lst l) :: ls) (H.del a) R N) : Ex C A env ss ls H R N := fun s S => by
  have P : Pres X0 H s.heap (H.del a) s.heap := Pres.del a
  have S' := S.step (S.ok.del hH) P
  have fz := S.ok.frozen hH
  refine wpAny_mono (h s ⟨S'.ok, S'.own, S'.off, ?_, S'.cel, S'.inj⟩) (fun _ _ q => q.from P.own0 (Stp.refl _)) fun _ _ x => x
  obtain ⟨m, F, hv⟩ := S'.ns
  refine ⟨m, F, fun y v e => ?_⟩
  rw [List.lookup_cons] at e
  cases q : y == x with
  | false => rw [q] at e; exact hv y v e
  | true =>
    rw [q] at e; cases e
    have q := eq_of_beq q; subst q
    rcases hv _ _ hx with ⟨k, r, b, c⟩ | ⟨k, c, r, b, g, i⟩
    · cases c with
      | ref => exact .inl ⟨k, _, b, fz⟩
    · cases i with
      | ref => exact .inr ⟨k, c, _, b, g, fz⟩
theorem Ex_drop {ss : List Stmt} {a : Addr} {l : List V} (hH : H a = some (.list l)) (h : Ex C A env ss ls (H.del a) R N) : Ex C A env ss ls H R N := fun s S => by
  have P : Pres X0 H s.heap (H.del a) s.heap := Pres.del a
  exact wpAny_mono (h s (S.step (S.ok.del hH) P)) (fun _ _ q => q.from P.own0 (Stp.refl _)) fun _ _ x => x

theorem E1_Return {e : Expr} {pos} (h : Ev C A env e ls H R) : E1 C A env (.Return (some e) pos) ls H R N := fun s S => by
  refine wpAny_Return_some (wpAny_mono (h s S) (fun r s1 q => ?_) fun _ _ x => x)
  obtain ⟨v, H1, a, b, c, d, e⟩ := q
  exact ⟨v, H1, a, b, c.own0, d, e⟩
theorem E1_If {t : Expr} {body orelse : List Stmt} {pos} (h : Tr C A env t ls H (IfQ C A env body orelse ls R N)) : E1 C A env (.If t body orelse pos) ls H R N := fun s S => by
  refine wpAny_If (Fin.seq (h s S) fun r b s1 H1 x1 S1 P1 T1 h1 => ?_)
  cases x1
  cases r with
  | true => exact wpAny_mono (h1 s1 (S.step S1 P1)) (fun _ _ q => q.from P1.own0 T1) fun _ _ x => x
  | false => exact wpAny_mono (h1 s1 (S.step S1 P1)) (fun _ _ q => q.from P1.own0 T1) fun _ _ x => x

/-- a name is stored -/
theorem store_name' {x : Str} {v : V} {r : Value} {P : Shared → Prop} {E : Value → Shared → Prop} (he : EnvOk env) (S : Sat C env H s.heap ls) (hr : Rep H s.heap r v) (hk : env.kindOf x = some .local)
    (h : ∀ s', Sat C env H s'.heap ((x, v) :: ls) → Pres (Own env) H s.heap H s'.heap → Stp s s' → Heap.SameBut env.locals s.heap s'.heap → P s') : wpAny (model C.prog C.w) A (storeName env x r) (fun _ s' => P s') E s := by
  obtain ⟨m, F, hv⟩ := S.ns
  refine wpAny_storeName_local hk F (fun h' n sb => ?_) (by rw [he.kind]; rfl)
  have Pr : Pres (Own env) H s.heap H h' := ⟨fun b o nx _ e => (sb.2 b fun q => nx (.inl q)).trans e, fun _ _ n _ => n, SameBut.live sb (Ns.live n)⟩
  have kf : KeepF H s.heap H h' := Pr.keepF (Own.notImm S)
  refine h _ ⟨S.ok.other sb S.own S.off kf, S.own, S.off, ⟨_, n, fun y w e => ?_⟩, fun y c e => ?_, S.inj⟩ Pr ⟨_, _, rfl⟩ sb
  · rw [List.lookup_cons] at e
    cases q : y == x with
    | true =>
      rw [q] at e; cases e
      have q := eq_of_beq q; subst q
      exact .inl ⟨hk, r, if_pos rfl, hr.mono kf⟩
    | false =>
      rw [q] at e
      have ne : y ≠ x := fun z => by subst z; rw [beq_self_eq_true] at q; cases q
      rcases hv y w e with ⟨k, r', b, c⟩ | ⟨k, c, r', b, g, i⟩
      · exact .inl ⟨k, r', (if_neg ne).trans b, c.mono kf⟩
      · exact .inr ⟨k, c, r', b, IsCell.keepAt g fun o z => (sb.2 c (S.cel y c b).2.2.1).trans z, i.mono kf⟩
  · obtain ⟨a, b, d, w, g⟩ := S.cel y c e
    exact ⟨a, b, d, w, IsCell.keepAt g fun o z => (sb.2 c d).trans z⟩
theorem store_name {x : Str} {v : V} {r : Value} {P : Shared → Prop} {E : Value → Shared → Prop} (he : EnvOk env) (S : Sat C env H s.heap ls) (hr : Rep H s.heap r v) (hk : env.kindOf x = some .local)
    (h : ∀ s', Sat C env H s'.heap ((x, v) :: ls) → Pres (Own env) H s.heap H s'.heap → Stp s s' → P s') : wpAny (model C.prog C.w) A (storeName env x r) (fun _ s' => P s') E s :=
  store_name' he S hr hk fun s' a b c _ => h s' a b c
theorem store_cell {x : Str} {v : V} {r : Value} {P : Shared → Prop} {E : Value → Shared → Prop} {c : Addr} (he : EnvOk env) (S : Sat C env H s.heap ls) (hr : Rep H s.heap r v) (hk : env.kindOf x = some .cell) (hc : env.cells.lookup x = some c)
    (h : ∀ s', Sat C env H s'.heap ((x, v) :: ls) → Pres (Own env) H s.heap H s'.heap → Stp s s' → P s') : wpAny (model C.prog C.w) A (storeName env x r) (fun _ s' => P s') E s := by
  obtain ⟨m, F, hv⟩ := S.ns
  obtain ⟨ca, cb, cd, w0, cg⟩ := S.cel x c hc
  refine wpAny_storeName_cell he.kind hk hc cg fun h' n sb => ?_
  have Pr : Pres (Own env) H s.heap H h' := ⟨fun b o nx _ e => (sb.2 b fun q => nx (.inr ⟨x, q ▸ hc⟩)).trans e, fun _ _ n _ => n, SameBut.live sb (IsCell.live n)⟩
  have kf : KeepF H s.heap H h' := Pr.keepF (Own.notImm S)
  refine h _ ⟨S.ok.other sb ca cb kf, S.own, S.off, ⟨m, Ns.keepAt F fun o z => (sb.2 _ (Ne.symm cd)).trans z, fun y w e => ?_⟩, fun y c' e => ?_, S.inj⟩ Pr ⟨_, _, rfl⟩
  · rw [List.lookup_cons] at e
    cases q : y == x with
    | true =>
      rw [q] at e; cases e
      have q := eq_of_beq q; subst q
      exact .inr ⟨hk, c, r, hc, n, hr.mono kf⟩
    | false =>
      rw [q] at e
      have ne : y ≠ x := fun z => by subst z; rw [beq_self_eq_true] at q; cases q
      rcases hv y w e with ⟨k, r', b, c⟩ | ⟨k, c', r', b, g, i⟩
      · exact .inl ⟨k, r', b, c.mono kf⟩
      · have : c' ≠ c := fun z => by subst z; exact ne (S.inj _ _ _ b hc)
        exact .inr ⟨k, c', r', b, IsCell.keepAt g fun o z => (sb.2 c' this).trans z, i.mono kf⟩
  · obtain ⟨a, b, d, w, g⟩ := S.cel y c' e
    by_cases z : c' = c
    · subst z; exact ⟨a, b, d, _, n⟩
    · exact ⟨a, b, d, w, IsCell.keepAt g fun o y => (sb.2 c' z).trans y⟩

noncomputable def NonQ (Q : V → AH → Prop) (_ : Ls) (H1 : AH) : Prop := Q .none H1
noncomputable def AsgQ (x : Str) (ls : Ls) (N : Ls → AH → Prop) (v : V) (H1 : AH) : Prop := N ((x, v) :: ls) H1
noncomputable def ExpQ (ls : Ls) (N : Ls → AH → Prop) (_ : V) (H1 : AH) : Prop := N ls H1
noncomputable def SwpQ (names : List Str) (ls : Ls) (N : Ls → AH → Prop) (ws : List V) (H1 : AH) : Prop := N (names.zip ws ++ ls) H1
theorem E1_Assign {x : Str} {e : Expr} {p pos} (he : EnvOk env) (hk : env.kindOf x = some .local) (h : Ev C A env e ls H (AsgQ x ls N)) (hs : swapsWith e (some (.Name x p)) pos.line env = pure false := by rfl) : E1 C A env (.Assign [.Name x p] e pos) ls H R N := fun s S => by
  refine wpAny_Assign_Name (Fin.seq (h s S) fun r v s1 H1 x1 S1 P1 T1 h1 => ?_) hs
  exact store_name he (S.step S1 P1) x1 hk fun s2 S2 P2 T2 => ⟨_, H1, S2, P1.own0.trans P2, T1.trans T2, h1⟩
theorem E1_Expr {e : Expr} {pos} (h : Ev C A env e ls H (ExpQ ls N)) (hi : interactive env = false := by rfl) (hs : swapsWith e none pos.line env = pure false := by rfl) : E1 C A env (.Expr e pos) ls H R N := fun s S => by
  refine wpAny_Expr_any (Fin.seq (h s S) fun r v s1 H1 x1 S1 P1 T1 h1 => ?_) hi hs
  exact ⟨_, H1, S.step S1 P1, P1.own0, T1, h1⟩

/-- names, in their order -/
theorem store_all (he : EnvOk env) (xs : List Str) : ∀ (vs : List V) (rs : List Value) (ls : Ls) (s : Shared) (P : Shared → Prop) (E : Value → Shared → Prop), Sat C env H s.heap ls → RepL H s.heap rs vs → xs.length = vs.length → (∀ x ∈ xs, env.kindOf x = some .local) →
    (∀ s', Sat C env H s'.heap ((xs.zip vs).reverse ++ ls) → Pres (Own env) H s.heap H s'.heap → Stp s s' → P s') → wpAny (model C.prog C.w) A (assignInOrder (xs.map fun n => bindName env n) rs) (fun _ s' => P s') E s := by
  induction xs with
  | nil =>
    intro vs rs ls s P E S x hl hk h
    cases x with
    | nil => exact wpAny_pure (h s S (Pres.refl _ _ _) (Stp.refl _))
    | cons _ _ => cases hl
  | cons y xs ih =>
    intro vs rs ls s P E S x hl hk h
    cases x with
    | nil => cases hl
    | cons a b =>
      rename_i r v rs vs
      show wpAny _ _ (do holding rs (bindName env y r); assignInOrder (xs.map fun n => bindName env n) rs) _ _ _
      refine wpAny_bind (wpAny_holding (wpAny_bindName (store_name he S a (hk y (.head _)) fun s1 S1 P1 T1 => ?_)))
      refine ih vs rs _ s1 P E S1 (b.mono (P1.keepF (Own.notImm S))) (by simpa using hl) (fun z m => hk z (.tail _ m)) fun s2 S2 P2 T2 => ?_
      refine h s2 ?_ (P1.trans P2) (T1.trans T2)
      have e : ((y :: xs).zip (v :: vs)).reverse ++ ls = (xs.zip vs).reverse ++ (y, v) :: ls := by simp
      rw [e]; exact S2

theorem E1_Swap {ts vs : List Expr} {k tp k2 vp pos} {names : List Str} (he : EnvOk env) (ha : A.handled = none) (hw : swappedStores [.Tuple ts k tp] (.Tuple vs k2 vp) env = pure (some names)) (hn : names.length = vs.length) (hk : ∀ x ∈ names, env.kindOf x = some .local)
    (h : Evs C A env vs ls H (SwpQ names ls N)) (hs : noStar vs = true := by rfl) (hl : vs.length ≤ sizeLine := by decide) : E1 C A env (.Assign [.Tuple ts k tp] (.Tuple vs k2 vp) pos) ls H R N := fun s S => by
  refine Assign_Tuple_swapped (names := names) (Tuple_ (Fin.seq (Evs_spliced (Evs_len h) hs s S) fun rs ws s1 H1 x1 S1 P1 T1 h1 => ?_)) rfl hw
  have ex := x1.length
  refine wpAny_newTuple ?_ (by omega)
  have S2 := (S.step S1 P1).step (S1.grow (push_keep s1.heap { cls := .type "tuple", data := .seq rs.toArray })) (Pres.grow (push_keep s1.heap _))
  have x2 := x1.mono (Pres.grow (X := X0) (H := H1) (push_keep s1.heap { cls := .type "tuple", data := .seq rs.toArray })).keepF0
  rw [show names.length = rs.toArray.size from by rw [List.size_toArray]; omega]
  refine wpAny_unpackItems_tuple (items := rs.toArray) ha ⟨_, Heap.get?_push_size _ rfl, rfl, 0, rfl⟩ fun h' ext => ?_
  have kk : ∀ b o, (s1.heap.push { cls := .type "tuple", data := .seq rs.toArray }).get? b = some o → h'.get? b = some o := fun b o e => ext b o (Nat.ne_of_lt (Heap.lt_size e)) e
  have S3 := S2.step (S2.ok.grow kk) (Pres.grow kk)
  have x3 := x2.mono (Pres.grow (X := X0) (H := H1) kk).keepF0
  refine store_all he names.reverse ws.reverse _ _ _ _ _ S3 (by simpa using x3.reverse) (by simp; omega) (fun x m => hk x (by simpa using m)) fun s4 S4 P4 T4 => ?_
  refine ⟨_, H1, S4, ?_, ?_, ?_⟩
  · exact ((P1.own0.trans (Pres.grow (push_keep _ _))).trans (Pres.grow kk)).trans P4
  · exact T1.trans (Stp.trans ⟨_, _, rfl⟩ T4)
  · have e : (names.reverse.zip ws.reverse).reverse = names.zip ws := by
      unfold List.zip
      rw [List.reverse_zipWith (by simp; omega), List.reverse_reverse, List.reverse_reverse]
    rw [e]; exact h1.2
end

/- NmG -/
noncomputable def Sub (l l' : Ls) : Prop := ∀ x v, l.lookup x = some v → l'.lookup x = some v
theorem Sub.nil (l : Ls) : Sub [] l := fun _ _ e => nomatch e
theorem Sub.cons {x : Str} {v : V} {l l' : Ls} (h : l'.lookup x = some v) (k : Sub l l') : Sub ((x, v) :: l) l' := fun y w e => by
  rw [List.lookup_cons] at e
  cases q : y == x with
  | true => rw [q] at e; cases e; rw [eq_of_beq q]; exact h
  | false => rw [q] at e; exact k y w e

noncomputable def rngV (n : Nat) : List V := (List.range n).map fun k : Nat => .int k
/-- what may be walked, and its items -/
inductive ItSrc (H : AH) : V → List V → Prop
  | lst (l : List V) : ItSrc H (.lst l) l
  | tup (l : List V) : ItSrc H (.tup l) l
  | ref {a : Addr} {l : List V} : H a = some (.list l) → ItSrc H (.ref a) l
  | rng (n : Nat) : n ≤ 1000000 → ItSrc H (.rng n) (rngV n)

/-- an iterator over it, at its i-th item -/
inductive ItK (H : AH) (h : Heap) (it : Addr) : V → List V → Nat → Prop
  | lf {a items n l i} : h.IsListIter it a i → IsL h a items n → H a = none → RepL H h items.toList l → ItK H h it (.lst l) l i
  | lm {a l i} : h.IsListIter it a i → H a = some (.list l) → ItK H h it (.ref a) l i
  | tp {a items n l i} : h.IsTupleIter it a i → IsT h a items n → H a = none → RepL H h items.toList l → ItK H h it (.tup l) l i
  | rg {n i : Nat} : IsRangeIter h it i ((n : Int) - i) 1 → ItK H h it (.rng n) (rngV n) i

theorem IsListIter.at' {h h' : Heap} {a l i} (x : h.IsListIter a l i) (e : ∀ o, h.get? a = some o → h'.get? a = some o) : h'.IsListIter a l i := let ⟨o, ho, r⟩ := x; ⟨o, e _ ho, r⟩
theorem IsTupleIter.at' {h h' : Heap} {a l i} (x : h.IsTupleIter a l i) (e : ∀ o, h.get? a = some o → h'.get? a = some o) : h'.IsTupleIter a l i := let ⟨o, ho, r⟩ := x; ⟨o, e _ ho, r⟩
theorem ItK.mono {H H' : AH} {h h' : Heap} {it : Addr} {v : V} {l : List V} {i : Nat} (x : ItK H h it v l i) (e : ∀ o, h.get? it = some o → h'.get? it = some o) (k : KeepF H h H' h') (s : ItSrc H' v l) : ItK H' h' it v l i := by
  cases x with
  | lf a b c d => exact .lf (IsListIter.at' a e) (k _ _ (.inl ⟨_, _, rfl⟩) c b).1 (k _ _ (.inl ⟨_, _, rfl⟩) c b).2 (d.mono k)
  | lm a b => cases s with | ref s => exact .lm (IsListIter.at' a e) s
  | tp a b c d => exact .tp (IsTupleIter.at' a e) (k _ _ (.inl ⟨_, _, rfl⟩) c b).1 (k _ _ (.inl ⟨_, _, rfl⟩) c b).2 (d.mono k)
  | rg a => exact .rg (e _ a)
/-- the iterator's object, and what it is no part of -/
theorem ItK.obj {H : AH} {h : Heap} {it : Addr} {v : V} {l : List V} {i : Nat} (x : ItK H h it v l i) : ∃ o, h.get? it = some o ∧ ¬ Imm o := by
  cases x with
  | lf a b c d => obtain ⟨o, e, f, g⟩ := a; exact ⟨o, e, fun z => by rcases z with ⟨_, _, z⟩ | ⟨z, _⟩; (rw [g] at z; cases z); (rw [f] at z; exact absurd z (by decide))⟩
  | lm a b => obtain ⟨o, e, f, g⟩ := a; exact ⟨o, e, fun z => by rcases z with ⟨_, _, z⟩ | ⟨z, _⟩; (rw [g] at z; cases z); (rw [f] at z; exact absurd z (by decide))⟩
  | tp a b c d => obtain ⟨o, e, f, g⟩ := a; exact ⟨o, e, fun z => by rcases z with ⟨_, _, z⟩ | ⟨z, _⟩; (rw [g] at z; cases z); (rw [f] at z; exact absurd z (by decide))⟩
  | rg a => exact ⟨_, a, fun z => by rcases z with ⟨_, _, z⟩ | ⟨z, _⟩; (cases z); exact absurd (Value.type.inj z) (by decide)⟩
theorem keepF_but {H : AH} {h h' : Heap} {a : Addr} (sb : Heap.ExtBut a h h') (i : ∀ o, h.get? a = some o → ¬ Imm o) : KeepF H h H h' := fun b o m n e => ⟨sb b o (fun q => by subst q; exact i o e m) e, n⟩

section
variable {C : Cx} {A : Around} {env : Env} {ls : Ls} {H : AH} {R : V → AH → Prop} {N : Ls → AH → Prop} {s : Shared}

theorem HOk.ext {h h' : Heap} {a : Addr} (S : HOk C H h) (sb : Heap.ExtBut a h h') (ha : H a = none) (hb : C.h0.get? a = none) (kf : KeepF H h H h') : HOk C H h' := by
  have ke : ∀ b, b ≠ a → (∃ o, h.get? b = some o) → h'.get? b = h.get? b := fun b n ⟨o, e⟩ => by rw [e]; exact sb b o n e
  refine ⟨fun b o e => sb b o (fun q => by subst q; rw [hb] at e; cases e) (S.base b o e), fun b o e => ?_, S.apart, S.dict, S.one⟩
  have x := S.objs b o e
  refine x.mono kf (ke b (fun q => by subst q; rw [ha] at e; cases e) x.live) fun dx fs w => ?_
  subst w
  exact ke dx (fun q => by subst q; have := S.dict _ _ _ e; rw [ha] at this; cases this) x.2.live
theorem Sat.ext {h h' : Heap} {a : Addr} (S : Sat C env H h ls) (sb : Heap.ExtBut a h h') (ha : H a = none) (hb : C.h0.get? a = none) (kf : KeepF H h H h') (hl : a ≠ env.locals) (hc : ∀ x, env.cells.lookup x ≠ some a) : Sat C env H h' ls := by
  obtain ⟨m, F, hv⟩ := S.ns
  refine ⟨S.ok.ext sb ha hb kf, S.own, S.off, ⟨m, Ns.keepAt F fun o e => sb _ o (Ne.symm hl) e, fun x v e => ?_⟩, fun x c e => ?_, S.inj⟩
  · rcases hv x v e with ⟨a1, r, b, c⟩ | ⟨a1, c, r, b, g, i⟩
    · exact .inl ⟨a1, r, b, c.mono kf⟩
    · exact .inr ⟨a1, c, r, b, IsCell.keepAt g fun o e => sb _ o (fun q => by subst q; exact hc _ b) e, i.mono kf⟩
  · obtain ⟨a1, b, d, v, g⟩ := S.cel x c e
    exact ⟨a1, b, d, v, IsCell.keepAt g fun o z => sb _ o (fun q => by subst q; exact hc _ e) z⟩

theorem rangeSize_1 (n : Nat) : Builtin.Range.rangeSize 0 (n : Int) 1 = n := by
  unfold Builtin.Range.rangeSize
  simp
  lia

/-- an iterator is made -/
theorem it_new {v : V} {r : Value} {l : List V} {P : Value → Shared → Prop} {E : Value → Shared → Prop} (S : HOk C H s.heap) (x : Rep H s.heap r v) (si : ItSrc H v l)
    (h : ∀ it s', (∀ b o, s.heap.get? b = some o → s'.heap.get? b = some o) → s.heap.get? it = none → Stp s s' → ItK H s'.heap it v l 0 → P (.ref it) s') : wpAny (model C.prog C.w) A (pyIter r) P E s := by
  have k := fun o => push_keep s.heap o
  cases si with
  | lst l =>
    cases x with
    | lst t n y => exact wpAny_pyIter_list t.isList (h _ _ (k _) (get?_size _) ⟨_, _, rfl⟩ (.lf ⟨_, Heap.get?_push_size _ rfl, rfl, rfl⟩ (k _ _ _ t) n (y.mono (Pres.grow (X := X0) (k _)).keepF0)))
  | tup l =>
    cases x with
    | tup t n y => exact wpAny_pyIter_tuple ⟨_, t, rfl, _, rfl⟩ (h _ _ (k _) (get?_size _) ⟨_, _, rfl⟩ (.tp ⟨_, Heap.get?_push_size _ rfl, rfl, rfl⟩ (k _ _ _ t) n (y.mono (Pres.grow (X := X0) (k _)).keepF0)))
  | ref e =>
    cases x with
    | ref =>
      obtain ⟨items, n, t, y⟩ := S.objs _ _ e
      exact wpAny_pyIter_list t.isList (h _ _ (k _) (get?_size _) ⟨_, _, rfl⟩ (.lm ⟨_, Heap.get?_push_size _ rfl, rfl, rfl⟩ e))
  | rng n hn =>
    cases x with
    | rng t m =>
      refine wpAny_pyIter_range t ?_ (h _ _ (k _) (get?_size _) ⟨_, _, rfl⟩ (.rg ?_))
      · unfold Builtin.Range.small Builtin.Range.rangeFitsLong
        rw [rangeSize_1]
        simp
        lia
      · rw [rangeSize_1]
        have := Heap.get?_push_size s.heap (o := { cls := .type "range_iterator", data := .fields #[rawInt 0, rawInt n, rawInt 1] }) rfl
        simpa using this

/-- the next item -/
theorem it_next {v : V} {it : Addr} {l : List V} {i : Nat} {w : V} {P : Option Value → Shared → Prop} {E : Value → Shared → Prop} (S : HOk C H s.heap) (x : ItK H s.heap it v l i) (ni : H it = none) (hw : l[i]? = some w) (si : ItSrc H v l)
    (h : ∀ r s', Heap.SameBut it s.heap s'.heap → Stp s s' → KeepF H s.heap H s'.heap → ItK H s'.heap it v l (i + 1) → Rep H s'.heap r w → P (some r) s') : wpAny (model C.prog C.w) A (pyNext (.ref it)) P E s := by
  obtain ⟨o, eo, io⟩ := x.obj
  have kf : ∀ h', Heap.SameBut it s.heap h' → KeepF H s.heap H h' := fun h' sb => keepF_but sb.extBut fun o' e => by rw [eo] at e; cases e; exact io
  cases x with
  | lf a b c d =>
    obtain ⟨r, e, y⟩ := d.get hw
    exact wpAny_pyNext_list_item a b.isList (by simpa using e) fun h' a' sb => h r _ sb ⟨_, _, rfl⟩ (kf h' sb) (.lf a' (kf h' sb _ _ (.inl ⟨_, _, rfl⟩) c b).1 c (d.mono (kf h' sb))) (y.mono (kf h' sb))
  | lm a b =>
    obtain ⟨items, n, t, d⟩ := S.objs _ _ b
    obtain ⟨r, e, y⟩ := d.get hw
    exact wpAny_pyNext_list_item a t.isList (by simpa using e) fun h' a' sb => h r _ sb ⟨_, _, rfl⟩ (kf h' sb) (.lm a' b) (y.mono (kf h' sb))
  | tp a b c d =>
    obtain ⟨r, e, y⟩ := d.get hw
    exact wpAny_pyNext_tuple_item a ⟨_, b, rfl, _, rfl⟩ (by simpa using e) fun h' a' sb => h r _ sb ⟨_, _, rfl⟩ (kf h' sb) (.tp a' (kf h' sb _ _ (.inl ⟨_, _, rfl⟩) c b).1 c (d.mono (kf h' sb))) (y.mono (kf h' sb))
  | rg a =>
    rename_i n
    have hi : i < n := by have := (List.getElem?_eq_some_iff.mp hw).1; simpa [rngV] using this
    have ew : w = .int i := by simp [rngV, hi] at hw; exact hw.symm
    subst ew
    refine wpAny_pyNext_range_item a (by lia) fun h' a' sb => h _ _ sb ⟨_, _, rfl⟩ (kf h' sb) (.rg ?_) (.int _ _)
    have e1 : (i : Int) + 1 = ((i + 1 : Nat) : Int) := by lia
    have e2 : (n : Int) - i - 1 = (n : Int) - ((i + 1 : Nat) : Int) := by lia
    rw [e1, e2] at a'
    exact a'
theorem it_end {v : V} {it : Addr} {l : List V} {i : Nat} {P : Option Value → Shared → Prop} {E : Value → Shared → Prop} (ha : A.handled = none) (S : HOk C H s.heap) (x : ItK H s.heap it v l i) (ni : H it = none) (hw : l.length ≤ i)
    (h : ∀ s', Heap.ExtBut it s.heap s'.heap → Stp s s' → KeepF H s.heap H s'.heap → P none s') : wpAny (model C.prog C.w) A (pyNext (.ref it)) P E s := by
  obtain ⟨o, eo, io⟩ := x.obj
  have kf : ∀ h', Heap.ExtBut it s.heap h' → KeepF H s.heap H h' := fun h' sb => keepF_but sb fun o' e => by rw [eo] at e; cases e; exact io
  cases x with
  | lf a b c d =>
    have := d.length
    exact wpAny_pyNext_list_end ha a b.isList (by simp at this ⊢; exact lq2 [_, _, _] (.le 1 (.v 2) (.v 1)) (.eq 1 (.v 0) (.v 2)) 1 (.v 0) (.v 1) rfl hw this) fun h' sb => h _ sb ⟨_, _, rfl⟩ (kf h' sb)
  | lm a b =>
    obtain ⟨items, n, t, d⟩ := S.objs _ _ b
    have := d.length
    exact wpAny_pyNext_list_end ha a t.isList (by simp at this ⊢; exact lq2 [_, _, _] (.le 1 (.v 2) (.v 1)) (.eq 1 (.v 0) (.v 2)) 1 (.v 0) (.v 1) rfl hw this) fun h' sb => h _ sb ⟨_, _, rfl⟩ (kf h' sb)
  | tp a b c d =>
    have := d.length
    exact wpAny_pyNext_tuple_end ha a ⟨_, b, rfl, _, rfl⟩ (by simp at this ⊢; exact lq2 [_, _, _] (.le 1 (.v 2) (.v 1)) (.eq 1 (.v 0) (.v 2)) 1 (.v 0) (.v 1) rfl hw this) fun h' sb => h _ sb ⟨_, _, rfl⟩ (kf h' sb)
  | rg a =>
    simp [rngV] at hw
    exact wpAny_pyNext_range_end ha a (by lia) fun h' sb => h _ sb ⟨_, _, rfl⟩ (kf h' sb)

inductive SubW (I : Nat → Ls → AH → Prop) (n : Nat) (ls2 : Ls) (H2 : AH) : Prop
  | mk (m ls3) : m < n → Sub ls3 ls2 → I m ls3 H2 → SubW I n ls2 H2
inductive SubN (J : Ls → AH → Prop) (ls2 : Ls) (H2 : AH) : Prop
  | mk (ls3) : Sub ls3 ls2 → J ls3 H2 → SubN J ls2 H2
inductive WhSt (C : Cx) (env : Env) (H : AH) (s : Shared) (I : Nat → Ls → AH → Prop) (n : Nat) (s' : Shared) : Prop
  | mk (ls' H') : Sat C env H' s'.heap ls' → Pres (Own env) H s.heap H' s'.heap → Stp s s' → I n ls' H' → WhSt C env H s I n s'
noncomputable def WhQ (C : Cx) (A : Around) (env : Env) (body : List Stmt) (ls : Ls) (R : V → AH → Prop) (N : Ls → AH → Prop) (I : Nat → Ls → AH → Prop) (n : Nat) (b : Bool) (H1 : AH) : Prop := bif b then Ex C A env body ls H1 R (SubW I n) else N ls H1
theorem E1_While {test : Expr} {body : List Stmt} {pos} (I : Nat → Ls → AH → Prop) (n : Nat) (h0 : I n ls H)
    (turn : ∀ n ls H, I n ls H → Tr C A env test ls H (WhQ C A env body ls R N I n)) : E1 C A env (.While test body [] pos) ls H R N := fun s S => by
  refine wpAny_While (codeAny_whileLoop (WhSt C env H s I) (fun n s1 q => ?_) n ⟨ls, H, S, Pres.refl _ _ _, Stp.refl _, h0⟩)
  obtain ⟨ls1, H1, S1, P1, T1, i1⟩ := q
  refine Fin.seq (turn n ls1 H1 i1 s1 S1) fun r b s2 H2 x2 S2 P2 T2 h2 => ?_
  cases x2
  cases r with
  | true =>
    refine wpAny_mono (h2 s2 (S1.step S2 P2)) (fun fl s3 q => ?_) fun _ _ x => x.elim
    cases fl with
    | next =>
      obtain ⟨ls3, H3, S3, P3, T3, m, ls4, lt, sub, i4⟩ := q
      exact ⟨m, lt, ls4, H3, S3.sub sub, (P1.trans P2.own0).trans P3, (T1.trans T2).trans T3, i4⟩
    | ret r =>
      obtain ⟨v, H3, a, b, P3, T3, h3⟩ := q
      exact ⟨v, H3, a, b, (P1.trans P2.own0).trans P3, (T1.trans T2).trans T3, h3⟩
    | brk => exact q.elim
    | cont => exact q.elim
  | false =>
    refine wpAny_execs_nil ?_
    exact ⟨ls1, H2, S1.step S2 P2, P1.trans P2.own0, T1.trans T2, h2⟩

inductive ForI (C : Cx) (A : Around) (env : Env) (body : List Stmt) (D : V → Ls → Ls) (W : V → Prop) (R : V → AH → Prop) (N : Ls → AH → Prop) (ls : Ls) (v : V) (H1 : AH) : Prop
  | mk (l) (I : Nat → Ls → AH → Prop) : I 0 ls H1 → (∀ w ∈ l, W w) → (∀ i ls' H', I i ls' H' → ItSrc H' v l) →
      (∀ i w ls' H', l[i]? = some w → I i ls' H' → Ex C A env body (D w ls') H' R (SubN (I (i + 1)))) → (∀ ls' H', I l.length ls' H' → N ls' H') → ForI C A env body D W R N ls v H1
inductive ForX (C : Cx) (A : Around) (env : Env) (body : List Stmt) (x : Str) (R : V → AH → Prop) (N : Ls → AH → Prop) (ls : Ls) (v : V) (H1 : AH) : Prop
  | mk (l) (I : Nat → Ls → AH → Prop) : I 0 ls H1 → (∀ i ls' H', I i ls' H' → ItSrc H' v l) →
      (∀ i w ls' H', l[i]? = some w → I i ls' H' → Ex C A env body ((x, w) :: ls') H' R (SubN (I (i + 1)))) → (∀ ls' H', I l.length ls' H' → N ls' H') → ForX C A env body x R N ls v H1
inductive ForSt (C : Cx) (env : Env) (H : AH) (s : Shared) (it : Addr) (v : V) (l : List V) (I : Nat → Ls → AH → Prop) (i : Nat) (s' : Shared) : Prop
  | mk (ls' H') : i ≤ l.length → Sat C env H' s'.heap ls' → Pres (Own env) H s.heap H' s'.heap → Stp s s' → H' it = none → ItK H' s'.heap it v l i → I i ls' H' → ForSt C env H s it v l I i s'
/-- a for; the target's storing apart -/
theorem for_core {target iter : Expr} {body : List Stmt} {pos} (ha : A.handled = none) (D : V → Ls → Ls) (W : V → Prop)
    (asg : ∀ it r w (ls' : Ls) H' (s' : Shared) (P : Shared → Prop) (E : Value → Shared → Prop), W w → Sat C env H' s'.heap ls' → Rep H' s'.heap r w → H' it = none → (∃ v l i, ItK H' s'.heap it v l i) →
      (∀ s'', Sat C env H' s''.heap (D w ls') → Pres (Own env) H' s'.heap H' s''.heap → Stp s' s'' → P s'') →
      wpAny (model C.prog C.w) A (letOwnedTupleGo target (.ref it) r) (fun _ s₁' => wpAny (model C.prog C.w) A (assign target env r) (fun _ s'' => P s'') E s₁') E s')
    (h : Ev C A env iter ls H (ForI C A env body D W R N ls))
    (hs : ∀ x, foldedSetIterable iter env x = pure x := by intro _; rfl) : E1 C A env (.For target iter body [] pos) ls H R N := fun s S => by
  refine wpAny_For (Fin.seq (h s S) fun r v s1 H1 x1 S1 P1 T1 h1 => ?_) hs
  obtain ⟨l, I, i0, hW, src, turn, fin⟩ := h1
  refine it_new S1 x1 (src 0 _ _ i0) fun it s2 k2 f2 T2 x2 => ?_
  have S2 : Sat C env H1 s2.heap ls := (S.step S1 P1).step (S1.grow k2) (Pres.grow k2)
  have itn : H1 it = none := S1.none_of_dead f2
  have it0 : s.heap.get? it = none := by
    cases e : s.heap.get? it with
    | none => rfl
    | some o => exact absurd f2 (P1.live it (by rw [e]; exact fun z => nomatch z))
  have itb : C.h0.get? it = none := S1.base_none f2
  have nol : it ≠ env.locals := fun q => by
    obtain ⟨m, F, _⟩ := (S.step S1 P1).ns
    exact Ns.live F (q ▸ f2)
  have noc : ∀ x, env.cells.lookup x ≠ some it := fun x q => by
    obtain ⟨_, _, _, v, g⟩ := (S.step S1 P1).cel x it q
    exact IsCell.live g f2
  refine codeAny_forLoop_any (fun n s' => ∃ i, n = l.length - i ∧ ForSt C env H s it v l I i s') (fun n s3 q => ?_) l.length
    ⟨0, rfl, ls, H1, Nat.zero_le _, S2, P1.own0.trans (Pres.grow k2), T1.trans T2, itn, x2, i0⟩
  obtain ⟨i, rfl, ls3, H3, hi, S3, P3, T3, n3, x3, i3⟩ := q
  have si := src _ _ _ i3
  by_cases hlt : i < l.length
  · have hw : l[i]? = some l[i] := by simp [hlt]
    refine it_next S3.ok x3 n3 hw si fun r4 s4 sb4 T4 kf4 x4 y4 => ?_
    have S4 : Sat C env H3 s4.heap ls3 := S3.ext sb4.extBut n3 itb kf4 nol noc
    have P4 : Pres (Own env) H s.heap H3 s4.heap := ⟨fun b o no nn e => sb4.extBut b o (fun q => by subst q; rw [it0] at e; cases e) (P3.keep b o no nn e), P3.out, fun b e => by
      by_cases q : b = it
      · subst q; exact absurd it0 e
      · rw [sb4.2 b q]; exact P3.live b e⟩
    refine asg it r4 _ ls3 H3 s4 _ _ (hW _ (List.mem_of_getElem? hw)) S4 y4 n3 ⟨_, _, _, x4⟩ fun s5 S5 P5 T5 => ?_
    have x5 : ItK H3 s5.heap it v l (i + 1) := x4.mono (fun o e => P5.keep it o (fun q => by rcases q with q | ⟨x, q⟩; exact nol q; exact noc _ q) n3 e) (P5.keepF (Own.notImm S4)) si
    refine wpAny_mono (turn i _ ls3 H3 hw i3 s5 S5) (fun fl s6 q => ?_) fun _ _ x => x.elim
    cases fl with
    | next =>
      obtain ⟨ls6, H6, S6, P6, T6, ls7, sub, i7⟩ := q
      obtain ⟨o5, e5, _⟩ := x5.obj
      refine ⟨_, ?_, i + 1, rfl, ls7, H6, hlt, S6.sub sub, (P4.trans P5).trans P6, ((T3.trans T4).trans T5).trans T6, P6.out it o5 n3 e5, ?_, i7⟩
      · lia
      · exact x5.mono (fun o e => P6.keep it o (fun q => by rcases q with q | ⟨x, q⟩; exact nol q; exact noc _ q) n3 e) (P6.keepF (Own.notImm S5)) (src _ _ _ i7)
    | ret r =>
      obtain ⟨v, H6, a, b, P6, T6, h6⟩ := q
      exact ⟨v, H6, a, b, (P4.trans P5).trans P6, ((T3.trans T4).trans T5).trans T6, h6⟩
    | brk => exact q.elim
    | cont => exact q.elim
  · have e : i = l.length := (Nat.le_antisymm (lq1 [_, _] (.le 1 (.v 0) (.v 1)) 1 (.v 0) (.v 1) rfl hi) (lq1 [_, _] (.nl 1 (.a (.v 1) (.n 1)) (.v 0)) 1 (.v 0) (.v 1) rfl hlt))
    subst e
    refine it_end ha S3.ok x3 n3 (Nat.le_refl _) fun s4 sb4 T4 kf4 => wpAny_execs_nil ?_
    refine ⟨ls3, H3, S3.ext sb4 n3 itb kf4 nol noc, ⟨fun b o no nn e => sb4 b o (fun q => by subst q; rw [it0] at e; cases e) (P3.keep b o no nn e), P3.out, fun b e => ?_⟩, T3.trans T4, fin _ _ i3⟩
    have l3 := P3.live b e
    cases q : s3.heap.get? b with
    | none => exact absurd q l3
    | some o =>
      rw [sb4 b o (fun q => by subst q; exact absurd it0 e) q]; exact fun z => nomatch z

theorem E1_For {x : Str} {iter : Expr} {body : List Stmt} {p pos} (he : EnvOk env) (ha : A.handled = none) (hk : env.kindOf x = some .local)
    (h : Ev C A env iter ls H (ForX C A env body x R N ls))
    (hs : ∀ x, foldedSetIterable iter env x = pure x := by intro _; rfl) : E1 C A env (.For (.Name x p) iter body [] pos) ls H R N := by
  refine for_core ha (fun w ls' => (x, w) :: ls') (fun _ => True) (fun it r w ls' H' s' P E _ S' x' n' _ k => ?_) (Ev.cons h fun v H1 q => ?_) hs
  rotate_left
  · obtain ⟨l, I, a, b, c, d⟩ := q
    exact ⟨l, I, a, fun _ _ => trivial, b, c, d⟩
  exact wpAny_pure (wpAny_assign_Name (store_name he S' x' hk k))
end

/- NmH -/
/-- a call of a value on values -/
noncomputable def Cl (C : Cx) (A : Around) (f : Value) (vs : List V) (H : AH) (Q : V → AH → Prop) : Prop :=
  ∀ s rs, HOk C H s.heap → RepL H s.heap rs vs → Fin Rep C A s H (call f rs) Q

/-- the same of a call's code -/
noncomputable def Cc (C : Cx) (A : Around) (f : Value) (vs : List V) (H : AH) (Q : V → AH → Prop) : Prop :=
  ∀ s rs, HOk C H s.heap → RepL H s.heap rs vs → codeAny (model C.prog C.w) A (.call f ⟨rs, []⟩) (fun r s' => match r with | .ok (.ret v) => Post Rep C s H Q v s' | .ok _ => False | .error e => Bad e s') s
theorem Cc.cl {C : Cx} {A : Around} {f : Value} {vs : List V} {H : AH} {Q : V → AH → Prop} (h : Cc C A f vs H Q) : Cl C A f vs H Q := fun s rs S x => wpAny_call (h s rs S x)
theorem Rm.in1 {A : Around} {n : Nat} (r : Rm A (n + 1)) : Rm A.in1 n := ⟨r.handled, by have := r.depth; show A.depth + 4 * n ≤ 900; exact lq1 [_, _] (.le 1 (.a (.v 0) (.m 4 (.a (.v 1) (.n 1)))) (.n 900)) 1 (.a (.v 0) (.m 4 (.v 1))) (.n 900) rfl this, by have := r.units; show A.units + 1 + 20 * n ≤ 9000; exact lq1 [_, _] (.le 1 (.a (.v 0) (.m 20 (.a (.v 1) (.n 1)))) (.n 9000)) 1 (.a (.a (.v 0) (.n 1)) (.m 20 (.v 1))) (.n 9000) rfl this⟩
theorem Rm.le {A : Around} {n m : Nat} (r : Rm A n) (h : m ≤ n) : Rm A m := ⟨r.handled, by have := r.depth; exact lq2 [_, _, _] (.le 4 (.v 1) (.v 2)) (.le 1 (.a (.v 0) (.m 4 (.v 2))) (.n 900)) 1 (.a (.v 0) (.m 4 (.v 1))) (.n 900) rfl h this, by have := r.units; exact lq2 [_, _, _] (.le 20 (.v 1) (.v 2)) (.le 1 (.a (.v 0) (.m 20 (.v 2))) (.n 9000)) 1 (.a (.v 0) (.m 20 (.v 1))) (.n 9000) rfl h this⟩

/-- the def at an address of the top -/
noncomputable def fdOf (K : Frag) (a : Addr) : FuncData := match K.lookup a with
  | some ⟨_, _, .func fd, _⟩ => fd
  | _ => default
noncomputable def isFd (K : Frag) (a : Addr) : Bool := match K.lookup a with
  | some ⟨_, _, .func fd, _⟩ => codeIn K fd.code fd.qualname
  | _ => false
noncomputable def bodyOf (fd : FuncData) : List Stmt := match fd.body with
  | .stmts b => b
  | _ => []
noncomputable def isStmts (fd : FuncData) : Bool := match fd.body with
  | .stmts _ => true
  | _ => false
theorem fd_at {K : Frag} {h : Heap} {a : Addr} (X : K.In h) (e : isFd K a = true) : ∃ o, h.get? a = some o ∧ o.data = .func (fdOf K a) ∧ h.CodeRec (fdOf K a).code (fdOf K a).qualname := by
  unfold isFd at e
  split at e
  · rename_i fd _ q
    have q' : fdOf K a = fd := by unfold fdOf; rw [q]
    rw [q']
    exact ⟨_, X _ _ q, rfl, codeRec_of X e⟩
  · cases e

theorem lookup_zip_mem {α : Type} : ∀ {xs : List Str} {vs : List α} {x : Str} {v : α}, (xs.zip vs).lookup x = some v → x ∈ xs
  | [], _, _, _, e => by simp at e
  | _ :: _, [], _, _, e => by simp at e
  | y :: xs, w :: vs, x, v, e => by
    rw [List.zip_cons_cons, List.lookup_cons] at e
    cases q : x == y with
    | true => rw [eq_of_beq q]; exact .head _
    | false => rw [q] at e; exact .tail _ (lookup_zip_mem e)

theorem bindL_other {k : Str → Option NameKind} {y : Str} : ∀ (bs : List (Str × Value)) (m : Str → Option Value), (∀ p ∈ bs, p.1 ≠ y) → bindL k bs m y = m y
  | [], m, _ => rfl
  | (n, v) :: r, m, h => by
    rw [bindL, bindL_other r _ fun p q => h p (.tail _ q)]
    have := h (n, v) (.head _)
    split
    · exact if_neg (Ne.symm this)
    · rfl
theorem bindC_other {k : Str → Option NameKind} {y : Str} : ∀ (bs : List (Str × Value)) (m : Str → Option Value), (∀ p ∈ bs, p.1 ≠ y) → bindC k bs m y = m y
  | [], m, _ => rfl
  | (n, v) :: r, m, h => by
    rw [bindC, bindC_other r _ fun p q => h p (.tail _ q)]
    have := h (n, v) (.head _)
    split
    · rfl
    · exact if_neg (Ne.symm this)

theorem binds_rep {k : Str → Option NameKind} {H : AH} {h : Heap} {rs : List Value} {vs : List V} (x0 : RepL H h rs vs) : ∀ {xs : List Str}, xs.Nodup → (∀ x ∈ xs, k x = some .local ∨ k x = some .cell) → ∀ (m cm : Str → Option Value) {x : Str} {v : V}, (xs.zip vs).lookup x = some v →
    (k x = some .local ∧ ∃ r, bindL k (xs.zip rs) m x = some r ∧ Rep H h r v) ∨ (k x = some .cell ∧ ∃ r, bindC k (xs.zip rs) cm x = some r ∧ Rep H h r v) := by
  refine x0.ind (M := fun rs vs => ∀ {xs : List Str}, xs.Nodup → (∀ x ∈ xs, k x = some .local ∨ k x = some .cell) → ∀ (m cm : Str → Option Value) {x : Str} {v : V}, (xs.zip vs).lookup x = some v → (k x = some .local ∧ ∃ r, bindL k (xs.zip rs) m x = some r ∧ Rep H h r v) ∨ (k x = some .cell ∧ ∃ r, bindC k (xs.zip rs) cm x = some r ∧ Rep H h r v)) (fun _ _ _ _ _ _ e => ?_) fun r w rs vs a b ih xs nd hk m cm x v e => ?_
  · rw [List.zip_nil_right] at e; cases e
  · cases xs with
    | nil => cases e
    | cons y xs =>
    rw [List.zip_cons_cons, List.lookup_cons] at e
    have nd' := List.nodup_cons.mp nd
    cases q : x == y with
    | true =>
      rw [q] at e; cases e
      have q := eq_of_beq q; subst q
      have nz : ∀ p ∈ xs.zip rs, p.1 ≠ x := fun p hp z => by
        have := (List.of_mem_zip (a := p.1) (b := p.2) hp).1
        rw [z] at this; exact nd'.1 this
      rcases hk x (.head _) with l | l
      · refine .inl ⟨l, r, ?_, a⟩
        rw [List.zip_cons_cons, bindL, bindL_other _ _ nz, if_pos l]; exact if_pos rfl
      · refine .inr ⟨l, r, ?_, a⟩
        rw [List.zip_cons_cons, bindC, bindC_other _ _ nz, if_neg (by rw [l]; exact fun z => nomatch z)]; exact if_pos rfl
    | false =>
      rw [q] at e
      rcases ih nd'.2 (fun z hz => hk z (.tail _ hz)) _ _ e with ⟨l, r', p, s⟩ | ⟨l, r', p, s⟩
      · exact .inl ⟨l, r', by rw [List.zip_cons_cons, bindL]; exact p, s⟩
      · exact .inr ⟨l, r', by rw [List.zip_cons_cons, bindC]; exact p, s⟩

theorem mem_of_lookup' {xs : List (Str × Addr)} {x : Str} {c : Addr} (e : xs.lookup x = some c) : (x, c) ∈ xs := by
  induction xs with
  | nil => simp at e
  | cons p xs ih =>
    obtain ⟨y, d⟩ := p
    rw [List.lookup_cons] at e
    cases q : x == y with
    | true => rw [q] at e; cases e; rw [eq_of_beq q]; exact .head _
    | false => rw [q] at e; exact .tail _ (ih e)
theorem apart_inj : ∀ {xs : List (Str × Addr)}, (xs.Pairwise fun x y => x.2 ≠ y.2) → ∀ {x y : Str} {c : Addr}, (x, c) ∈ xs → (y, c) ∈ xs → x = y
  | [], _, _, _, _, h, _ => nomatch h
  | p :: xs, a, x, y, c, hx, hy => by
    have a' := List.pairwise_cons.mp a
    cases hx with
    | head => cases hy with
      | head => rfl
      | tail _ hy => exact absurd rfl (a'.1 (y, c) hy)
    | tail _ hx => cases hy with
      | head => exact absurd rfl (a'.1 (x, c) hx)
      | tail _ hy => exact apart_inj a'.2 hx hy

section
variable {C : Cx} {A : Around} {H : AH} {Q : V → AH → Prop}

noncomputable abbrev parNames (fd : FuncData) : List Str := fd.params.args.map (·.arg)

/-- what a def wants to be called so -/
structure FdOk (K : Frag) (a : Addr) : Prop where
  isFd : isFd K a = true
  stmts : isStmts (fdOf K a) = true
  co : (fdOf K a).scope.isCoroutine = false
  gen : (fdOf K a).scope.isGenerator = false
  kind : (fdOf K a).scope.kind = .function
  clos : (fdOf K a).closure = []
  glob : (fdOf K a).globals = mainGlobals
  blt : (fdOf K a).builtins = builtinsNs

theorem FdOk.envOk {K : Frag} {a : Addr} (F : FdOk K a) (L : Addr) : EnvOk (callEnvC (fdOf K a) L a) := ⟨F.kind, F.glob, F.blt⟩

theorem Cc_defG {a : Addr} {n : Nat} {vs vs' : List V} {ns : List Str} (hC : CxOk C) (F : FdOk C.K a) (r : Rm A (n + 1))
    (hb : ∀ (s : Shared) rs, HOk C H s.heap → RepL H s.heap rs vs → ∃ rs', RepL H s.heap rs' vs' ∧ BindsTo s (fdOf C.K a) ⟨rs, []⟩ (ns.zip rs')) (nd : ns.Nodup)
    (hk : ∀ m, ∀ x ∈ ns, (fdOf C.K a).scope.names.lookup x = some .local ∨ ((fdOf C.K a).scope.names.lookup x = some .cell ∧ ((cellsFrom m (fdOf C.K a).scope.names []).lookup x).isSome = true))
    (h : ∀ L, Ex C (A.deeper (callEnvC (fdOf C.K a) L a)) (callEnvC (fdOf C.K a) L a) (bodyOf (fdOf C.K a)) (ns.zip vs') H Q (NonQ Q)) :
    Cc C A (.ref a) vs H Q := fun s rs S x => by
  have X := hC.kin.keeps S.base
  obtain ⟨o, ho, hd, hcd⟩ := fd_at X F.isFd
  have hbody : (fdOf C.K a).body = .stmts (bodyOf (fdOf C.K a)) := by
    have := F.stmts
    unfold isStmts at this
    unfold bodyOf
    split at this
    · rename_i e; rw [e]
    · cases this
  refine codeAny_call_function r.room ho hd F.co F.gen hbody hcd ?_
  obtain ⟨rs', x, hbind⟩ := hb s rs S x
  refine hbind _ _ _ _ ?_
  rw [F.clos, F.blt]
  refine wpAny_newFunctionEnv_cells F.kind (fun y hy => hk _ y.1 (List.of_mem_zip (a := y.1) (b := y.2) hy).1) fun env he s' ic => ?_
  have he' : env = callEnvC (fdOf C.K a) s.heap.objs.size a := by rw [he]; unfold callEnvC; rw [F.blt]
  subst he'
  have k1 := ic.toInCall.keep
  refine ⟨(hC.lim.keeps S.base).keeps k1, codeAny_func ?_⟩
  obtain ⟨h1, tk, e1⟩ := ic.toInCall.same
  have S1 := S.grow k1
  have x1 := x.mono (Pres.grow (X := X0) (H := H) k1).keepF0
  have Sa : Sat C (callEnvC (fdOf C.K a) s.heap.objs.size a) H s'.heap (ns.zip vs') := by
    refine ⟨S1, S.none_of_dead (get?_size _), S.base_none (get?_size _), ⟨_, ic.toInCall.ns, fun y v e => ?_⟩, fun y c e => ?_, fun y z c e1 e2 => apart_inj ic.apart (mem_of_lookup' e1) (mem_of_lookup' e2)⟩
    · rcases binds_rep (k := (callEnvC (fdOf C.K a) s.heap.objs.size a).kindOf) x1 nd (fun z hz => (hk s.heap.objs.size z hz).imp id And.left) (fun _ => none) (fun _ => none) e with ⟨l, r, p, q⟩ | ⟨l, r, p, q⟩
      · exact .inl ⟨l, r, p, q⟩
      · rcases hk (s.heap.objs.size + 1) y (lookup_zip_mem e) with l' | ⟨_, l'⟩
        · have : some NameKind.cell = some NameKind.local := l.symm.trans l'
          cases this
        · obtain ⟨c, hc⟩ := Option.isSome_iff_exists.mp l'
          exact .inr ⟨l, c, r, hc, by rw [← p]; exact ic.cell y c hc, q⟩
    · have ab := ic.above y c (mem_of_lookup' e)
      have dead : s.heap.get? c = none := get?_above _ (Nat.le_of_lt ab)
      exact ⟨S.none_of_dead dead, S.base_none dead, (Nat.ne_of_lt ab).symm, _, ic.cell y c e⟩
  have fr : ∀ b, Own (callEnvC (fdOf C.K a) s.heap.objs.size a) b → s.heap.get? b = none := fun b q => by
    rcases q with rfl | ⟨y, q⟩
    · exact get?_size _
    · exact get?_above _ (Nat.le_of_lt (ic.above y b (mem_of_lookup' q)))
  have fin : ∀ (s'' : Shared) (v : V) H', Pres (Own (callEnvC (fdOf C.K a) s.heap.objs.size a)) H s'.heap H' s''.heap → Pres X0 H s.heap H' s''.heap := fun s'' v H' P => by
    have P0 : Pres (Own (callEnvC (fdOf C.K a) s.heap.objs.size a)) H s.heap H s'.heap := Pres.grow k1
    exact (P0.trans P).fresh fr
  refine wpAny_mono (h _ s' Sa) (fun fl s'' q => ?_) fun _ _ z => z.elim
  have T0 : Stp s s' := ⟨h1, tk, e1⟩
  cases fl with
  | ret r =>
    obtain ⟨v, H', p, q, P, T, hq⟩ := q
    exact ⟨v, H', p, q, fin s'' v H' P, T0.trans T, hq⟩
  | next =>
    obtain ⟨ls', H', S', P, T, hq⟩ := q
    exact ⟨.none, H', .none, S'.ok, fin s'' .none H' P, T0.trans T, hq⟩
  | brk => exact q.elim
  | cont => exact q.elim

theorem Cc_def {a : Addr} {n : Nat} {vs : List V} {ns : List Str} (hC : CxOk C) (F : FdOk C.K a) (r : Rm A (n + 1))
    (hb : ∀ rs : List Value, rs.length = ns.length → bindArgs (fdOf C.K a) ⟨rs, []⟩ = pure (ns.zip rs)) (nd : ns.Nodup) (hl : ns.length = vs.length)
    (hk : ∀ m, ∀ x ∈ ns, (fdOf C.K a).scope.names.lookup x = some .local ∨ ((fdOf C.K a).scope.names.lookup x = some .cell ∧ ((cellsFrom m (fdOf C.K a).scope.names []).lookup x).isSome = true))
    (h : ∀ L, EnvOk (callEnvC (fdOf C.K a) L a) → Rm (A.deeper (callEnvC (fdOf C.K a) L a)) n → Ex C (A.deeper (callEnvC (fdOf C.K a) L a)) (callEnvC (fdOf C.K a) L a) (bodyOf (fdOf C.K a)) (ns.zip vs) H Q (NonQ Q)) :
    Cc C A (.ref a) vs H Q :=
  Cc_defG hC F r (fun s rs S x => ⟨rs, x, BindsTo.of_eq (hb rs (by rw [x.length]; exact hl.symm))⟩) nd hk fun L => h L (F.envOk L) (r.deeper _)

variable {env : Env} {ls : Ls}

theorem evalArgs_evs {f : Value} {args : List Expr} {pos : Pos} {P : Args → Shared → Prop} {E : Value → Shared → Prop} {s : Shared} {Q : List V → AH → Prop} (h : Evs C A env args ls H Q) (hs : noStar args = true) (S : Sat C env H s.heap ls)
    (k : ∀ rs vs s1 H1, RepL H1 s1.heap rs vs → HOk C H1 s1.heap → Pres X0 H s.heap H1 s1.heap → Stp s s1 → Q vs H1 → P ⟨rs, []⟩ s1) : wpAny (model C.prog C.w) A (evalArgs f true (backTo pos (starEach args env)) []) P E s := by
  cases args with
  | nil => exact PySem.evalArgs_none (k [] [] s H .nil S.ok (Pres.refl _ _ _) (Stp.refl _) h)
  | cons e es =>
    have q : starEach (e :: es) env = (false, eval e env) :: starEach es env := by
      simp only [noStar, List.all_cons, Bool.and_eq_true] at hs
      cases e <;> first | rfl | exact absurd hs.1 Bool.false_ne_true
    have z := Evs_spliced (pos := pos) h hs s S
    rw [q] at z ⊢
    exact Calls.evalArgs_plain (Fin.seq z k)

noncomputable def ClQ (C : Cx) (A : Around) (f : Value) (Q : V → AH → Prop) (vs : List V) (H1 : AH) : Prop := Cl C A f vs H1 Q
theorem Ev_Call_def {x : Str} {p pos : Pos} {args : List Expr} {a : Addr} (hC : CxOk C) (he : EnvOk env) (F : FdOk C.K a) (hk : env.kindOf x = some .globalImplicit) (e : nsIn C.K mainGlobals x = some (some (.ref a)))
    (h : Evs C A env args ls H (ClQ C A (.ref a) Q)) (hs : noStar args = true := by rfl) (hd : (x == ("__debug__" : Str)) = false := by decide) :
    Ev C A env (.Call (.Name x p) args [] pos) ls H Q := fun s S => by
  refine Call_Name rfl (Fin.seq (Ev_glob (Q := fun v H1 => v = .ref a ∧ H1 = H) hC he hk e (fun _ _ => .ref a) ⟨rfl, rfl⟩ hd s S) fun r v s1 H1 x1 S1 P1 T1 h1 => ?_)
  obtain ⟨rfl, rfl⟩ := h1
  cases x1
  obtain ⟨o, ho, hd, hcd⟩ := fd_at (hC.kin.keeps S1.base) F.isFd
  refine Calls.callWith_function (o := o) (fd := fdOf C.K a) (evalArgs_evs h hs (S.step S1 P1) fun rs vs s2 H2 x2 S2 P2 T2 h2 => ?_)
  obtain ⟨o', ho', hd', _⟩ := fd_at (hC.kin.keeps S2.base) F.isFd
  have eo : s2.heap.get? a = some o := by
    unfold isFd at *
    have := F.isFd
    unfold isFd at this
    split at this
    · rename_i q
      have e1 := (hC.kin.keeps S1.base) _ _ q
      have e2 := (hC.kin.keeps S2.base) _ _ q
      rw [ho] at e1; rw [e2, e1]
    · cases this
  exact ⟨⟨eo, hd⟩, Fin.then (P1.trans P2) (T1.trans T2) (h2 s2 rs S2 x2)⟩

theorem Ev_Call_bi {x : Str} {p pos : Pos} {args : List Expr} {id : String} (hC : CxOk C) (he : EnvOk env) (hk : env.kindOf x = some .globalImplicit) (e : nsIn C.K mainGlobals x = some none) (hb : bootBuiltins x = some (.builtin id)) (hn : x ≠ "__name__")
    (h : Evs C A env args ls H (ClQ C A (.builtin id) Q)) (hs : noStar args = true := by rfl) (ha : (backTo pos (starEach args env)).any (·.1) = false := by rfl) (hd : (x == ("__debug__" : Str)) = false := by decide) :
    Ev C A env (.Call (.Name x p) args [] pos) ls H Q := fun s S => by
  refine Call_Name rfl (Fin.seq (Ev_bi (Q := fun v H1 => v = .bi id ∧ H1 = H) hC he hk e hb hn (fun _ _ => .bi id) ⟨rfl, rfl⟩ hd s S) fun r v s1 H1 x1 S1 P1 T1 h1 => ?_)
  obtain ⟨rfl, rfl⟩ := h1
  cases x1
  refine Calls.callWith_builtin ha (evalArgs_evs h hs (S.step S1 P1) fun rs vs s2 H2 x2 S2 P2 T2 h2 => ?_)
  exact Fin.then (P1.trans P2) (T1.trans T2) (h2 s2 rs S2 x2)
theorem Ev_Call_ty {x : Str} {p pos : Pos} {args : List Expr} {id : String} (hC : CxOk C) (he : EnvOk env) (hk : env.kindOf x = some .globalImplicit) (e : nsIn C.K mainGlobals x = some none) (hb : bootBuiltins x = some (.type id)) (hn : x ≠ "__name__")
    (h : Evs C A env args ls H (ClQ C A (.type id) Q)) (hs : noStar args = true := by rfl) (ha : (backTo pos (starEach args env)).any (·.1) = false := by rfl) (hd : (x == ("__debug__" : Str)) = false := by decide) :
    Ev C A env (.Call (.Name x p) args [] pos) ls H Q := fun s S => by
  refine Call_Name rfl (Fin.seq (Ev_bi (Q := fun v H1 => v = .ty id ∧ H1 = H) hC he hk e hb hn (fun _ _ => .ty id) ⟨rfl, rfl⟩ hd s S) fun r v s1 H1 x1 S1 P1 T1 h1 => ?_)
  obtain ⟨rfl, rfl⟩ := h1
  cases x1
  refine PyProof.Rows.callWith_type ha (evalArgs_evs h hs (S.step S1 P1) fun rs vs s2 H2 x2 S2 P2 T2 h2 => ?_)
  exact Fin.then (P1.trans P2) (T1.trans T2) (h2 s2 rs S2 x2)
end

/- NmI -/
theorem z24 : sizeLine = 16777216 := by decide

section
variable {C : Cx} {A : Around} {H : AH} {Q : V → AH → Prop} {env : Env} {ls : Ls} {s : Shared}

theorem RepL.one {h : Heap} {rs : List Value} {v : V} (x : RepL H h rs [v]) : ∃ r, rs = [r] ∧ Rep H h r v := by
  cases x with | cons a b => cases b; exact ⟨_, rfl, a⟩
theorem RepL.two {h : Heap} {rs : List Value} {v w : V} (x : RepL H h rs [v, w]) : ∃ r r', rs = [r, r'] ∧ Rep H h r v ∧ Rep H h r' w := by
  cases x with | cons a b => obtain ⟨r', rfl, c⟩ := b.one; exact ⟨_, _, rfl, a, c⟩

theorem Cl_len {v : V} {l : List V} (sv : Src H v l) (hz : l.length ≤ sizeLine) (h : Q (.int l.length) H) : Cl C A (.builtin "len") [v] H Q := fun s rs S xs => by
  obtain ⟨r, rfl, x⟩ := xs.one
  obtain ⟨a, rfl, items, n, t, y⟩ := sv.at S x
  have e := y.length
  simp only [Array.length_toList] at e
  refine call_len_list t.isList (by have := z24; lia) ?_
  rw [e]
  exact Post.here S _ (.int _ _) h
theorem Cl_len_tup {l : List V} (hz : l.length ≤ sizeLine) (h : Q (.int l.length) H) : Cl C A (.builtin "len") [.tup l] H Q := fun s rs S xs => by
  obtain ⟨r, rfl, x⟩ := xs.one
  cases x with
  | tup t n y =>
    have e := y.length
    simp only [Array.length_toList] at e
    refine len_tuple ⟨_, t, rfl, _, rfl⟩ (by have := z24; lia) ?_
    rw [e]
    exact Post.here S _ (.int _ _) h
theorem Cl_list {v : V} {l : List V} (sv : Src H v l) (hz : l.length ≤ sizeLine) (h : NewL H l Q) : Cl C A (.type "list") [v] H Q := fun s rs S xs => by
  obtain ⟨r, rfl, x⟩ := xs.one
  obtain ⟨a, rfl, items, n, t, y⟩ := sv.at S x
  have e := y.length
  simp only [Array.length_toList] at e
  refine call_list_seq (hsz := (lq2 [_, _, _] (.le 1 (.v 2) (.v 1)) (.eq 1 (.v 0) (.v 2)) 1 (.v 0) (.v 1) rfl hz e)) a (.inl rfl) t rfl rfl fun h' c' k hD => ?_
  exact post_newL (s' := { s with heap := h' }) S k (get?_size _) hD y ⟨_, _, rfl⟩ h
theorem Cl_tuple {v : V} {l : List V} (sv : Src H v l) (hz : l.length ≤ sizeLine) (h : Q (.tup l) H) : Cl C A (.type "tuple") [v] H Q := fun s rs S xs => by
  obtain ⟨r, rfl, x⟩ := xs.one
  obtain ⟨a, rfl, items, n, t, y⟩ := sv.at S x
  have e := y.length
  simp only [Array.length_toList] at e
  refine call_tuple_list t.isList (fun h' k => ?_) (lq2 [_, _, _] (.le 1 (.v 2) (.v 1)) (.eq 1 (.v 0) (.v 2)) 1 (.v 0) (.v 1) rfl hz e)
  refine post_newT (s' := { s with heap := h'.push _ }) (items := items) (n := 0) S (fun b o z => push_keep _ _ _ _ (k b o z)) ?_ (Heap.get?_push_size _ rfl) y ⟨_, _, rfl⟩ h
  cases q : s.heap.get? h'.objs.size with
  | none => rfl
  | some o => exact absurd (k _ _ q) (by rw [get?_size]; exact fun z => nomatch z)
theorem Cl_range {n : Nat} (h : Q (.rng n) H) : Cl C A (.type "range") [.int n] H Q := fun s rs S xs => by
  obtain ⟨r, rfl, x⟩ := xs.one
  obtain ⟨t, rfl⟩ := x.int_inv
  refine call_range_1 ?_
  have k := push_keep s.heap { cls := .type "range", data := .fields #[.int 0 s.toks, .int n t, .int 1 (s.toks + 1)] }
  exact ⟨.rng n, H, .rng (Heap.get?_push_size _ rfl) (S.none_of_dead (get?_size _)), S.grow k, Pres.grow k, ⟨_, _, rfl⟩, h⟩
theorem Cl_max {a b : Int} (ha : A.handled = none) (h : Q (.int (if a < b then b else a)) H) : Cl C A (.builtin "max") [.int a, .int b] H Q := fun s rs S xs => by
  obtain ⟨r, r', rfl, x, y⟩ := xs.two
  obtain ⟨t, rfl⟩ := x.int_inv
  obtain ⟨u, rfl⟩ := y.int_inv
  refine PySem.Flt.max_two_num ha (.int _ _) (.int _ _) fun h' tk k => ?_
  refine ⟨_, H, ?_, S.grow k, Pres.grow k, ⟨_, _, rfl⟩, h⟩
  show Rep H h' (if decide (a < b) = true then _ else _) _
  by_cases q : a < b
  · rw [if_pos (decide_eq_true q), if_pos q]; exact .int _ _
  · rw [if_neg (by simpa using q), if_neg q]; exact .int _ _
theorem Cl_min {a b : Int} (ha : A.handled = none) (h : Q (.int (if b < a then b else a)) H) : Cl C A (.builtin "min") [.int a, .int b] H Q := fun s rs S xs => by
  obtain ⟨r, r', rfl, x, y⟩ := xs.two
  obtain ⟨t, rfl⟩ := x.int_inv
  obtain ⟨u, rfl⟩ := y.int_inv
  refine PySem.Flt.min_two_num ha (.int _ _) (.int _ _) fun h' tk k => ?_
  refine ⟨_, H, ?_, S.grow k, Pres.grow k, ⟨_, _, rfl⟩, h⟩
  show Rep H h' (if decide (b < a) = true then _ else _) _
  by_cases q : b < a
  · rw [if_pos (decide_eq_true q), if_pos q]; exact .int _ _
  · rw [if_neg (by simpa using q), if_neg q]; exact .int _ _
theorem Cl_int_bool {b : Bool} (h : Q (.int (if b then 1 else 0)) H) : Cl C A (.type "int") [.bool b] H Q := fun s rs S xs => by
  obtain ⟨r, rfl, x⟩ := xs.one
  cases x
  exact call_int_bool (Post.here S _ (.int _ _) h)

/-- the list's part in a method's call -/
theorem HOk.isL {h : Heap} {a : Addr} {l : List V} (S : HOk C H h) (e : H a = some (.list l)) : LstAt H h a l := S.objs _ _ e
theorem post_set {s s' : Shared} {a : Addr} {items : Array Value} {n : Nat} {l l' : List V} {r : Value} {v : V} (S : HOk C H s.heap) (e : H a = some (.list l)) (sb : Heap.SameBut a s.heap s'.heap)
    (q : IsL s'.heap a items n) (rl : RepL H s.heap items.toList l') (rv : Rep H s.heap r v) (T : Stp s s') (h : Q v (H.set a (.list l'))) : Post Rep C s H Q r s' := by
  obtain ⟨S', P'⟩ := S.setList e sb q rl
  exact ⟨v, _, rv.mono P'.keepF0, S', P', T, h⟩

inductive AppQ2 (Q : V → AH → Prop) (a : Addr) (w : V) (H2 : AH) : Prop
  | mk (l) : H2 a = some (.list l) → l.length ≤ sizeLine → Q .none (H2.set a (.list (l ++ [w]))) → AppQ2 Q a w H2
inductive AppQ (C : Cx) (A : Around) (env : Env) (e : Expr) (ls : Ls) (Q : Addr → V → AH → Prop) (v : V) (H1 : AH) : Prop
  | mk (a l1) : v = .ref a → H1 a = some (.list l1) → Ev C A env e ls H1 (Q a) → AppQ C A env e ls Q v H1
theorem Ev_append {o e : Expr} {apos pos : Pos} (h : Ev C A env o ls H (AppQ C A env e ls (AppQ2 Q)))
    (hbase : attributeBase o "append" env (eval o env) = eval o env := by rfl) (hline : (apos.endLine == pos.line) = true := by rfl) (hfew : ((backTo pos (starEach [e] env)).all (fun x => !x.1)) = true := by rfl)
    (he : backTo pos (starEach [e] env) = [(false, eval e env)] := by rfl) :
    Ev C A env (.Call (.Attribute o "append" apos) [e] [] pos) ls H Q := fun s S => by
  refine wpAny_Call_method hbase (by rw [hfew]; rfl) hline F.plainAttrs_list F.slot_list_append F.type_list_append (Fin.seq (h s S) fun r v s1 H1 x1 S1 P1 T1 h1 => ?_)
  obtain ⟨a, l1, rfl, e1, h1⟩ := h1
  cases x1
  obtain ⟨i1, n1, q1, _⟩ := S1.isL e1
  refine ⟨⟨_, q1, rfl⟩, fun b z => by cases z; exact ⟨_, q1, rfl⟩, ?_⟩
  rw [he]
  refine P.append_list (Fin.seq (h1 s1 (S.step S1 P1)) fun r v s2 H2 x2 S2 P2 T2 h2 => ?_)
  obtain ⟨l, e2, hz, hq⟩ := h2
  obtain ⟨i2, n2, q2, y2⟩ := S2.isL e2
  have el := y2.length
  simp only [Array.length_toList] at el
  refine ⟨i2, n2, (lq2 [_, _, _] (.le 1 (.v 2) (.v 1)) (.eq 1 (.v 0) (.v 2)) 1 (.v 0) (.v 1) rfl hz el), q2, Post.from (P1.trans P2) (T1.trans T2) ?_⟩
  refine post_set (s := s2) S2 e2 (Heap.SameBut.update ..) (IsL.update q2 _) ?_ .none ⟨_, _, rfl⟩ hq
  rw [Array.toList_push]
  exact y2.append (.cons x2 .nil)

inductive PopQ (f : List V → V → List V) (Q : V → AH → Prop) (v : V) (H1 : AH) : Prop
  | mk (a l w) : v = .ref a → H1 a = some (.list (f l w)) → l.length < sizeLine → Q w (H1.set a (.list l)) → PopQ f Q v H1
theorem Ev_pop {o : Expr} {apos pos : Pos} (h : Ev C A env o ls H (PopQ (fun l w => l ++ [w]) Q))
    (hbase : attributeBase o "pop" env (eval o env) = eval o env := by rfl) (hline : (apos.endLine == pos.line) = true := by rfl) :
    Ev C A env (.Call (.Attribute o "pop" apos) [] [] pos) ls H Q := fun s S => by
  refine wpAny_Call_method hbase rfl hline F.plainAttrs_list F.slot_list_pop F.type_list_pop (Fin.seq (h s S) fun r v s1 H1 x1 S1 P1 T1 h1 => ?_)
  obtain ⟨a, l, w, rfl, e1, hz, hq⟩ := h1
  cases x1
  obtain ⟨i1, n1, q1, y1⟩ := S1.isL e1
  refine ⟨⟨_, q1, rfl⟩, fun b z => by cases z; exact ⟨_, q1, rfl⟩, ?_⟩
  have el := y1.length
  simp only [Array.length_toList, List.length_append, List.length_singleton] at el
  obtain ⟨r, er, yr⟩ := y1.get (i := l.length) (v := w) (by simp)
  refine P.pop_list (y := r) q1 (by rw [el]; simpa using er) ?_ (lq2 [_, _, _] (.le 1 (.a (.v 2) (.n 1)) (.v 1)) (.eq 1 (.v 0) (.a (.v 2) (.n 1))) 1 (.v 0) (.v 1) rfl hz el)
  refine Post.from P1 T1 (post_set (s := s1) S1 e1 (Heap.SameBut.update ..) (IsL.update q1 _) ?_ yr ⟨_, _, rfl⟩ hq)
  have := y1.take l.length
  have e2 : (i1.eraseIdxIfInBounds (i1.size - 1)).toList = i1.toList.take l.length := by
    rw [Array.eraseIdxIfInBounds, dif_pos (by lia), Array.toList_eraseIdx, List.eraseIdx_eq_take_drop_succ]
    rw [List.drop_eq_nil_of_le (by simp; lia), List.append_nil]
    congr 1; lia
  rw [e2]
  simpa using this

theorem Ev_pop0 {o : Expr} {apos pos : Pos} {k p} (h : Ev C A env o ls H (PopQ (fun l w => w :: l) Q))
    (hbase : attributeBase o "pop" env (eval o env) = eval o env := by rfl) (hline : (apos.endLine == pos.line) = true := by rfl) :
    Ev C A env (.Call (.Attribute o "pop" apos) [.Constant (.int 0) k p] [] pos) ls H Q := fun s S => by
  refine wpAny_Call_method hbase rfl hline F.plainAttrs_list F.slot_list_pop F.type_list_pop (Fin.seq (h s S) fun r v s1 H1 x1 S1 P1 T1 h1 => ?_)
  obtain ⟨a, l, w, rfl, e1, hz, hq⟩ := h1
  cases x1
  obtain ⟨i1, n1, q1, y1⟩ := S1.isL e1
  refine ⟨⟨_, q1, rfl⟩, fun b z => by cases z; exact ⟨_, q1, rfl⟩, ?_⟩
  have el := y1.length
  simp only [Array.length_toList, List.length_cons] at el
  obtain ⟨r, er, yr⟩ := y1.get (i := 0) (v := w) (by simp)
  show wpAny _ _ (callWith pos (.builtin "list.pop") [.ref a] [(false, eval (.Constant (.int 0) k p) env)] []) _ _ _
  refine P.pop_at_list (wpAny_Constant_int ⟨i1, n1, 0, s1.toks, 0, r, (lq2 [_, _, _] (.le 1 (.a (.v 2) (.n 1)) (.v 1)) (.eq 1 (.v 0) (.a (.v 2) (.n 1))) 1 (.v 0) (.v 1) rfl hz el), rfl, q1, by decide, seqIndex_of (.inl ⟨by lia, rfl, (lq1 [_, _] (.qe 1 (.v 0) (.a (.v 1) (.n 1))) 1 (.a (.n 0) (.n 1)) (.v 0) rfl el)⟩), by simpa using er, ?_⟩)
  refine Post.from P1 T1 (post_set (s := s1) S1 e1 (Heap.SameBut.update ..) (IsL.update q1 _) ?_ yr ⟨_, _, rfl⟩ hq)
  have e2 : (i1.eraseIdxIfInBounds 0).toList = i1.toList.eraseIdx 0 := by
    rw [Array.eraseIdxIfInBounds, dif_pos (by lia), Array.toList_eraseIdx]
  rw [e2]
  exact y1.eraseIdx 0

inductive ExtQ2 (Q : V → AH → Prop) (a : Addr) (w : V) (H2 : AH) : Prop
  | mk (l l2) : H2 a = some (.list l) → Src H2 w l2 → l.length + l2.length ≤ sizeLine → Q .none (H2.set a (.list (l ++ l2))) → ExtQ2 Q a w H2
theorem Ev_extend {o e : Expr} {apos pos : Pos} (h : Ev C A env o ls H (AppQ C A env e ls (ExtQ2 Q)))
    (hbase : attributeBase o "extend" env (eval o env) = eval o env := by rfl) (hline : (apos.endLine == pos.line) = true := by rfl) (hfew : ((backTo pos (starEach [e] env)).all (fun x => !x.1)) = true := by rfl)
    (he : backTo pos (starEach [e] env) = [(false, eval e env)] := by rfl) :
    Ev C A env (.Call (.Attribute o "extend" apos) [e] [] pos) ls H Q := fun s S => by
  refine wpAny_Call_method hbase (by rw [hfew]; rfl) hline F.plainAttrs_list F.slot_list_extend F.type_list_extend (Fin.seq (h s S) fun r v s1 H1 x1 S1 P1 T1 h1 => ?_)
  obtain ⟨a, l1, rfl, e1, h1⟩ := h1
  cases x1
  obtain ⟨i1, n1, q1, _⟩ := S1.isL e1
  refine ⟨⟨_, q1, rfl⟩, fun b z => by cases z; exact ⟨_, q1, rfl⟩, ?_⟩
  rw [he]
  refine P.extend_list (Fin.seq (h1 s1 (S.step S1 P1)) fun r v s2 H2 x2 S2 P2 T2 h2 => ?_)
  obtain ⟨l, l2, e2, sw, hz, hq⟩ := h2
  obtain ⟨i2, n2, q2, y2⟩ := S2.isL e2
  obtain ⟨b, rfl, j2, m2, q3, y3⟩ := sw.at S2 x2
  have el := y2.length
  have em := y3.length
  simp only [Array.length_toList] at el em
  refine ⟨b, i2, j2, n2, m2, (lq2 [_, _, _, _] (.le 1 (.a (.v 2) (.v 3)) (.v 1)) (.eq 1 (.v 0) (.v 2)) 1 (.v 0) (.v 1) rfl hz el), (lq3 [_, _, _, _, _] (.le 1 (.a (.v 3) (.v 4)) (.v 2)) (.eq 1 (.v 0) (.v 3)) (.eq 1 (.v 1) (.v 4)) 1 (.a (.v 0) (.v 1)) (.a (.v 2) (.n 1)) rfl hz el em), ?_, rfl, q2, q3, Post.from (P1.trans P2) (T1.trans T2) ?_⟩
  · intro z
    have : Builtin.List.listTooLong (i2.size + j2.size) = false := decide_eq_false (fun e_ => fq4 [_, _, _, _, _] (.le 1 (.a (.v 3) (.v 4)) (.v 0)) (.eq 1 (.v 1) (.v 3)) (.eq 1 (.v 2) (.v 4)) (.le 1 (.a (.v 0) (.n 1)) (.a (.v 1) (.v 2))) rfl hz el em e_)
    rw [this, Bool.and_false] at z; cases z
  · refine post_set (s := s2) S2 e2 (Heap.SameBut.update ..) (IsL.update q2 _) ?_ .none ⟨_, _, rfl⟩ hq
    rw [Array.toList_append]
    exact y2.append y3

theorem find_int {h : Heap} : ∀ {rs : List Value} {l : List Int}, RepL H h rs (ivs l) → ∀ (i : Int) (j : Nat), l[j]? = some i → (∀ m, m < j → l[m]? ≠ some i) →
    (∀ y ∈ rs, ∃ k t, y = .int k t) ∧ (∃ t, rs[j]? = some (.int i t)) ∧ ∀ m, m < j → ∃ k t, rs[m]? = some (.int k t) ∧ k ≠ i := fun {rs l} x i j e hn => by
  refine ⟨fun y hy => ?_, ?_, fun m hm => ?_⟩
  · obtain ⟨m, hm, rfl⟩ := List.mem_iff_getElem.mp hy
    have el := x.length
    simp only [ivs, List.length_map] at el
    obtain ⟨r, er, yr⟩ := x.get (i := m) (v := .int (l[m]'(by lia))) (by simp)
    obtain ⟨t, rfl⟩ := yr.int_inv
    rw [List.getElem?_eq_getElem hm] at er
    exact ⟨_, t, Option.some.inj er⟩
  · obtain ⟨r, er, yr⟩ := x.get (i := j) (v := .int i) (by simp [e])
    obtain ⟨t, rfl⟩ := yr.int_inv
    exact ⟨t, er⟩
  · have hj := (List.getElem?_eq_some_iff.mp e).1
    obtain ⟨r, er, yr⟩ := x.get (i := m) (v := .int (l[m]'(by lia))) (by simp)
    obtain ⟨t, rfl⟩ := yr.int_inv
    refine ⟨_, t, er, fun z => hn m hm ?_⟩
    rw [List.getElem?_eq_getElem (by lia), z]

inductive IdxQ2 (Q : V → AH → Prop) (v w : V) (H2 : AH) : Prop
  | mk (l i j) : Src H2 v (ivs l) → w = .int i → l[j]? = some i → (∀ m, m < j → l[m]? ≠ some i) → l.length ≤ sizeLine → Q (.int (j : Nat)) H2 → IdxQ2 Q v w H2
inductive IdxQ (C : Cx) (A : Around) (env : Env) (e : Expr) (ls : Ls) (Q : V → AH → Prop) (v : V) (H1 : AH) : Prop
  | mk (l0) : Src H1 v l0 → Ev C A env e ls H1 (IdxQ2 Q v) → IdxQ C A env e ls Q v H1
theorem Ev_index {o e : Expr} {apos pos : Pos} (h : Ev C A env o ls H (IdxQ C A env e ls Q))
    (hbase : attributeBase o "index" env (eval o env) = eval o env := by rfl) (hline : (apos.endLine == pos.line) = true := by rfl) (hfew : ((backTo pos (starEach [e] env)).all (fun x => !x.1)) = true := by rfl)
    (he : backTo pos (starEach [e] env) = [(false, eval e env)] := by rfl) :
    Ev C A env (.Call (.Attribute o "index" apos) [e] [] pos) ls H Q := fun s S => by
  refine wpAny_Call_method hbase (by rw [hfew]; rfl) hline F.plainAttrs_list F.slot_list_index F.type_list_index (Fin.seq (h s S) fun r v s1 H1 x1 S1 P1 T1 h1 => ?_)
  obtain ⟨l0, sv, h1⟩ := h1
  obtain ⟨a, rfl, i1, n1, q1, _⟩ := sv.at S1 x1
  refine ⟨⟨_, q1, rfl⟩, fun b z => by cases z; exact ⟨_, q1, rfl⟩, ?_⟩
  rw [he]
  refine P.index_list (Fin.seq (h1 s1 (S.step S1 P1)) fun r w s2 H2 x2 S2 P2 T2 h2 => ?_)
  obtain ⟨l, i, j, sv2, rfl, ej, hn, hz, hq⟩ := h2
  obtain ⟨u, rfl⟩ := x2.int_inv
  obtain ⟨b, z, i2, n2, q2, y2⟩ := sv2.at S2 (x1.mono P2.keepF0)
  cases z
  have el := y2.length
  simp only [Array.length_toList, ivs, List.length_map] at el
  obtain ⟨f1, ⟨t2, f2⟩, f3⟩ := find_int y2 i j ej hn
  have hj := (List.getElem?_eq_some_iff.mp ej).1
  refine ⟨i2, n2, fun y => match y with | .int k _ => k == i | _ => false, j, (lq2 [_, _, _] (.qe 1 (.v 1) (.v 2)) (.le 1 (.a (.v 0) (.n 1)) (.v 2)) 1 (.a (.v 0) (.n 1)) (.v 1) rfl el hj), q2, fun y hy => ?_, by have := z24; lia, ?_, fun m hm lt => ?_, Post.from (P1.trans P2) (T1.trans T2) (Post.here S2 _ (.int _ _) hq)⟩
  · obtain ⟨k, t, rfl⟩ := f1 y (by simpa using hy)
    exact MeetsSeq.EqGives.int _ _ _ _
  · have : i2[j]'(lq2 [_, _, _] (.qe 1 (.v 1) (.v 2)) (.le 1 (.a (.v 0) (.n 1)) (.v 2)) 1 (.a (.v 0) (.n 1)) (.v 1) rfl el hj) = .int i t2 := by
      rw [Array.getElem?_toList] at f2
      exact (Array.getElem?_eq_some_iff.mp f2).2
    rw [this]; simp
  · obtain ⟨k, t, e3, ne⟩ := f3 m lt
    have : i2[m] = .int k t := by
      rw [Array.getElem?_toList] at e3
      exact (Array.getElem?_eq_some_iff.mp e3).2
    rw [this]; simpa using ne
end

/- NmJ -/
section
variable {prog : Program} {w : World} {A : Around} {E : Value → Shared → Prop} {s : Shared}
theorem setItem_L {l : Addr} {items : Array Value} {n : Nat} {k : Int} {t : Tok} {v : Value} {Q : Unit → Shared → Prop} (hl : IsL s.heap l items n)
    (h0 : 0 ≤ k) (hfit : k < 2 ^ 63) (hn : k < items.size)
    (hQ : ∀ h' n', IsL h' l (items.setIfInBounds k.toNat v) n' → Heap.SameBut l s.heap h' → Q () { s with heap := h' }) :
    wpAny (model prog w) A (setItem (.ref l) (.int k t) v) Q E s := by
  unfold setItem
  try with_reducible refine wpAny_holding ?_
  first | refine wpAny_bind (wpAny_pure ?_) | skip
  refine wpAny_bind (wpAny_sequenceKey hl.isList.typeIs (by decide) ?_)
  refine wpAny_bind (wpAny_callSpecial?_slot (name := Str.ofString "__setitem__") hl.isList.typeIs slot_list_setitem
    (wpAny_call_entry slot_list_setitem hl.isList.typeIs entry_list_setitem ?_ (args_list_setitem _ _ _)))
  show wpAny _ _ (Builtin.List.listSubscript? (.int k t) >>= _) _ _ s
  refine wpAny_bind (wpAny_listSubscript_int (fitsIndex_of h0 hfit) ?_)
  clear hfit
  obtain ⟨j, rfl⟩ := Int.eq_ofNat_of_zero_le h0
  have hj : j < items.size := by lia
  have hx' : items[j]? = some items[j] := Array.getElem?_eq_getElem hj
  show wpAny _ _ ((seqItemAt l j >>= fun r => pure (r.map (j, ·))) >>= _) _ _ s
  refine wpAny_bind (wpAny_bind (wpAny_seqItemAt hl rfl (wpAny_pure ?_)))
  rw [hx']
  show wpAny _ _ (setSeqItemAt l j v >>= _) _ _ s
  refine wpAny_bind (wpAny_setSeqItemAt hl rfl ?_)
  first
    | exact wpAny_bind (wpAny_pure (wpAny_pure ⟨.none, rfl, wpAny_pure (hQ _ _ (IsL.update hl _) (Heap.SameBut.update ..))⟩))
    | exact wpAny_pure ⟨.none, rfl, wpAny_pure (hQ _ _ (IsL.update hl _) (Heap.SameBut.update ..))⟩

theorem setItem_all {l b sl : Addr} {items items2 : Array Value} {n n2 : Nat} {Q : Unit → Shared → Prop} (hl : IsL s.heap l items n) (hb : IsL s.heap b items2 n2) (hs : s.heap.IsSliceOf sl .none .none .none)
    (hne : l ≠ b) (hz : items.size + items2.size ≤ sizeLine)
    (hQ : ∀ h' n', IsL h' l items2 n' → Heap.SameBut l s.heap h' → Q () { s with heap := h' }) :
    wpAny (model prog w) A (setItem (.ref l) (.ref sl) (.ref b)) Q E s := by
  obtain ⟨os, hos, hcs, hds⟩ := id hs
  have hTs : s.TypeIs (.ref sl) "slice" := ⟨os, hos, hcs⟩
  unfold setItem
  try with_reducible refine wpAny_holding ?_
  first | refine wpAny_bind (wpAny_pure ?_) | skip
  refine wpAny_bind (wpAny_sequenceKey hl.isList.typeIs (by decide) ?_)
  refine wpAny_bind (wpAny_callSpecial?_slot (name := Str.ofString "__setitem__") hl.isList.typeIs slot_list_setitem
    (wpAny_call_entry slot_list_setitem hl.isList.typeIs entry_list_setitem ?_ (args_list_setitem _ _ _)))
  show wpAny _ _ (Builtin.List.listSubscript? (.ref sl) >>= _) _ _ s
  refine wpAny_bind ?_
  unfold Builtin.List.listSubscript?
  refine wpAny_bind (wpAny_specialOf hTs slice_no_index ?_)
  simp only [Option.isNone_none, if_true]
  refine wpAny_pure ?_
  show wpAny _ _ (typeOf (.ref sl) >>= _) _ _ s
  refine wpAny_bind (wpAny_typeOf hTs ?_)
  rw [if_neg (by decide)]
  rw [listSliceParts_eq]
  refine wpAny_bind (wpAny_bind (wpAny_field hos hds (x := .none) rfl (wpAny_bind (wpAny_listPart .none ?_))))
  rw [if_neg (show ¬ ((rawPart none == rawInt 0) = true) from Bool.false_ne_true)]
  refine wpAny_bind (wpAny_field hos hds (x := .none) rfl (wpAny_bind (wpAny_listPart .none ?_)))
  refine wpAny_bind (wpAny_field hos hds (x := .none) rfl (wpAny_bind (wpAny_listPart .none (wpAny_pure ?_))))
  rw [if_neg (show ¬ (Builtin.List.listSameRef (.ref l) (.ref b) = true) from by simpa [Builtin.List.listSameRef] using hne)]
  refine wpAny_bind ?_
  unfold Builtin.List.listAllItems
  refine wpAny_bind (wpAny_typeOf hb.isList.typeIs ?_)
  rw [if_pos (by decide)]
  unfold Builtin.List.listItems
  refine wpAny_bind (wpAny_seqItems hb rfl (wpAny_pure ?_))
  refine wpAny_bind (m := Builtin.List.listItems (.ref l)) ?_
  unfold Builtin.List.listItems
  refine wpAny_bind (wpAny_seqItems hl rfl (wpAny_pure ?_))
  refine wpAny_bind (wpAny_of_eq (sliceIndices_raw none none none items.size (by simp)) ?_)
  have eb : sliceBounds none none none items.size = (0, (items.size : Int), 1) := by simp [sliceBounds]
  rw [eb]
  dsimp only
  rw [if_pos (by decide)]
  refine wpAny_bind (wpAny_rule ?_)
  rw [if_neg (by
    have : Builtin.List.listTooLong (items.size + items2.size) = false := decide_eq_false (fun e_ => fq2 [_, _, _] (.le 1 (.a (.v 1) (.v 2)) (.v 0)) (.le 1 (.a (.v 0) (.n 1)) (.a (.v 1) (.v 2))) rfl hz e_)
    rw [this]; exact Bool.false_ne_true)]
  have ef : items.extract 0 (0 : Int).toNat ++ items2 ++ items.extract (max 0 (items.size : Int)).toNat = items2 := by simp
  refine wpAny_bind (m := updateSeq l _) ?_
  refine wpAny_updateSeq hl rfl ?_ (hz := (lq1 [_, _, _] (.le 1 (.a (.v 0) (.v 2)) (.v 1)) 1 (.v 0) (.v 1) rfl hz)) (_hz' := by rw [ef]; exact lq1 [_, _, _] (.le 1 (.a (.v 2) (.v 0)) (.v 1)) 1 (.v 0) (.a (.v 1) (.n 1)) rfl hz)
  refine wpAny_bind (wpAny_letGo ?_)
  have q := IsL.update hl fun xs => xs.extract 0 (0 : Int).toNat ++ items2 ++ xs.extract (max 0 (items.size : Int)).toNat xs.size
  rw [ef] at q
  exact wpAny_pure ⟨.none, rfl, wpAny_pure (hQ _ _ q (Heap.SameBut.update ..))⟩
end

/- NmK -/
section
variable {C : Cx} {A : Around} {H : AH} {Q : V → AH → Prop} {env : Env} {ls : Ls} {s : Shared} {R : V → AH → Prop} {N : Ls → AH → Prop}

/-- places[k] = v -/
inductive SetIQ (N : Ls → AH → Prop) (ls : Ls) (v ov iv : V) (H3 : AH) : Prop
  | mk (a l k) : ov = .ref a → H3 a = some (.list l) → iv = .int k → 0 ≤ k → k < l.length → l.length ≤ sizeLine → N ls (H3.set a (.list (l.set k.toNat v))) → SetIQ N ls v ov iv H3
inductive SetAQ (N : Ls → AH → Prop) (ls : Ls) (v ov : V) (H2 : AH) : Prop
  | mk (a l l2) : ov = .ref a → H2 a = some (.list l) → Src H2 v l2 → v ≠ .ref a → l.length + l2.length ≤ sizeLine → N ls (H2.set a (.list l2)) → SetAQ N ls v ov H2
inductive BlksQ (Q : V → AH → Prop) (v : V) (H1 : AH) : Prop
  | mk (a n la) : v = .ref a → H1 a = some (.sdict n la) → Q (.int n) H1 → BlksQ Q v H1
inductive LoopQ (Q : V → AH → Prop) (v : V) (H1 : AH) : Prop
  | mk (a n la) : v = .ref a → H1 a = some (.sdict n la) → Q (.ref la) H1 → LoopQ Q v H1
inductive SetBQ2 (N : Ls → AH → Prop) (ls : Ls) (i : Int) (ov : V) (H2 : AH) : Prop
  | mk (a n la) : ov = .ref a → H2 a = some (.sdict n la) → N ls (H2.set a (.sdict i la)) → SetBQ2 N ls i ov H2
inductive SetBQ (C : Cx) (A : Around) (env : Env) (o : Expr) (N : Ls → AH → Prop) (ls : Ls) (v : V) (H1 : AH) : Prop
  | mk (i) : v = .int i → Ev C A env o ls H1 (SetBQ2 N ls i) → SetBQ C A env o N ls v H1
noncomputable def SetIQ1 (C : Cx) (A : Around) (env : Env) (i : Expr) (N : Ls → AH → Prop) (ls : Ls) (v ov : V) (H2 : AH) : Prop := Ev C A env i ls H2 (SetIQ N ls v ov)
theorem E1_SetInt {o i value : Expr} {p pos} (h : Ev C A env value ls H (ThenQ C A env o ls (SetIQ1 C A env i N ls)))
    (hs : swapsWith value (some (.Subscript o i p)) pos.line env = pure false := by rfl) : E1 C A env (.Assign [.Subscript o i p] value pos) ls H R N := fun s S => by
  refine wpAny_Assign_Subscript (Fin.seq (h s S) fun r v s1 H1 x1 S1 P1 T1 h1 => ?_) hs
  refine Fin.seq (h1 s1 (S.step S1 P1)) fun r2 ov s2 H2 x2 S2 P2 T2 h2 => ?_
  refine Fin.seq (h2 s2 ((S.step S1 P1).step S2 P2)) fun r3 iv s3 H3 x3 S3 P3 T3 h3 => ?_
  obtain ⟨a, l, k, rfl, e, rfl, h0, hk, hz, hn⟩ := h3
  cases x2
  obtain ⟨t, rfl⟩ := x3.int_inv
  obtain ⟨items, n, q, y⟩ := S3.isL e
  have el := y.length
  simp only [Array.length_toList] at el
  have := z24
  refine setItem_L q h0 (by lia) (by lia) fun h' n' q' sb => ?_
  obtain ⟨S', P'⟩ := S3.setList e sb q' (l' := l.set k.toNat v) (by rw [Array.toList_setIfInBounds]; exact y.set _ ((x1.mono P2.keepF0).mono P3.keepF0))
  have PP := ((P1.trans P2).trans P3).trans P'
  exact ⟨ls, _, S.step S' PP, PP.own0, ((T1.trans T2).trans T3).trans ⟨_, _, rfl⟩, hn⟩
/-- pieces[:] = found -/
theorem E1_SetAll {o value : Expr} {p pos sp} (h : Ev C A env value ls H (ThenQ C A env o ls (SetAQ N ls)))
    (hs : swapsWith value (some (.Subscript o (.Slice none none none sp) p)) pos.line env = pure false := by rfl) : E1 C A env (.Assign [.Subscript o (.Slice none none none sp) p] value pos) ls H R N := fun s S => by
  refine wpAny_Assign_Subscript (Fin.seq (h s S) fun r v s1 H1 x1 S1 P1 T1 h1 => ?_) hs
  refine Fin.seq (h1 s1 (S.step S1 P1)) fun r2 ov s2 H2 x2 S2 P2 T2 h2 => ?_
  obtain ⟨a, l, l2, rfl, e, sv, hne, hz, hn⟩ := h2
  cases x2
  refine wpAny_Slice ?_
  rw [evalPart_none]
  refine wpAny_pure (wpAny_pure (wpAny_pure ?_))
  obtain ⟨items, n, q, y⟩ := S2.isL e
  have x1' := x1.mono P2.keepF0
  obtain ⟨b, rfl, items2, n2, q2, y2⟩ := sv.at S2 x1'
  have el := y.length
  have el2 := y2.length
  simp only [Array.length_toList] at el el2
  have hab : a ≠ b := fun z => by
    subst z
    rcases sv with rfl | ⟨c, rfl, e'⟩
    · cases x1' with
      | lst _ m _ => rw [e] at m; cases m
    · cases x1'; exact hne rfl
  have k := push_keep s2.heap { cls := .type "slice", data := .fields #[.none, .none, .none] }
  have Pk : Pres X0 H2 s2.heap H2 (s2.heap.push { cls := .type "slice", data := .fields #[.none, .none, .none] }) := Pres.grow k
  refine setItem_all (s := { s2 with heap := s2.heap.push _ }) (k _ _ q) (k _ _ q2) (Heap.IsSliceOf.new ..) hab (lq3 [_, _, _, _, _] (.le 1 (.a (.v 3) (.v 4)) (.v 2)) (.eq 1 (.v 0) (.v 3)) (.eq 1 (.v 1) (.v 4)) 1 (.a (.v 0) (.v 1)) (.v 2) rfl hz el el2) fun h' n' q' sb => ?_
  obtain ⟨S', P'⟩ := (S2.grow k).setList e sb q' (l' := l2) (y2.mono Pk.keepF0)
  have PP := ((P1.trans P2).trans Pk).trans P'
  exact ⟨ls, _, S.step S' PP, PP.own0, ((T1.trans T2)).trans ⟨_, _, rfl⟩, hn⟩

/-- state['blocks'], state['loops'] -/
theorem Ev_Blocks {value : Expr} {k p pos} (h : Ev C A env value ls H (BlksQ Q))
    (hs : ∀ a k u, subscripted (.Constant (.str "blocks") k p) false (.ref a) (.str "blocks" u) = operate [.ref a, .str "blocks" u] (getItem (.ref a) (.str "blocks" u)) := by intro _ _ _; with_unfolding_all rfl) :
    Ev C A env (.Subscript value (.Constant (.str "blocks") k p) pos) ls H Q := fun s S => by
  refine Subscript_ (Fin.seq (h s S) fun ra a s1 H1 x1 S1 P1 T1 h1 => Constant_str ?_)
  obtain ⟨a, n, la, rfl, e, hq⟩ := h1
  cases x1
  obtain ⟨t, D⟩ := S1.objs _ _ e
  refine tail_any (s := { s1 with toks := _ }) D.mapOf.typeIs slot_dict_getitem.lookup (wpAny_getItem_of (PySem.strKind_is C.prog C.w _ _) D.mapOf (v := .int n t) rfl ?_) (hs _ k _)
  exact Post.from P1 T1 (Post.here S1 _ (.int _ _) hq)
theorem Ev_Loops {value : Expr} {k p pos} (h : Ev C A env value ls H (LoopQ Q))
    (hs : ∀ a k u, subscripted (.Constant (.str "loops") k p) false (.ref a) (.str "loops" u) = operate [.ref a, .str "loops" u] (getItem (.ref a) (.str "loops" u)) := by intro _ _ _; with_unfolding_all rfl) :
    Ev C A env (.Subscript value (.Constant (.str "loops") k p) pos) ls H Q := fun s S => by
  refine Subscript_ (Fin.seq (h s S) fun ra a s1 H1 x1 S1 P1 T1 h1 => Constant_str ?_)
  obtain ⟨a, n, la, rfl, e, hq⟩ := h1
  cases x1
  obtain ⟨t, D⟩ := S1.objs _ _ e
  refine tail_any (s := { s1 with toks := _ }) D.mapOf.typeIs slot_dict_getitem.lookup (wpAny_getItem_of (PySem.strKind_is C.prog C.w _ _) D.mapOf (v := .ref la) rfl ?_) (hs _ k _)
  exact Post.from P1 T1 (Post.here S1 _ (.ref _) hq)
theorem E1_SetBlocks {o value : Expr} {p pos k sp} (h : Ev C A env value ls H (SetBQ C A env o N ls))
    (hs : swapsWith value (some (.Subscript o (.Constant (.str "blocks") k sp) p)) pos.line env = pure false := by rfl) : E1 C A env (.Assign [.Subscript o (.Constant (.str "blocks") k sp) p] value pos) ls H R N := fun s S => by
  refine wpAny_Assign_Subscript (Fin.seq (h s S) fun r v s1 H1 x1 S1 P1 T1 h1 => ?_) hs
  obtain ⟨i, rfl, h1⟩ := h1
  obtain ⟨t, rfl⟩ := x1.int_inv
  refine Fin.seq (h1 s1 (S.step S1 P1)) fun r2 ov s2 H2 x2 S2 P2 T2 h2 => ?_
  obtain ⟨a, n, la, rfl, e, hn⟩ := h2
  cases x2
  refine Constant_str ?_
  obtain ⟨t', D⟩ := S2.objs _ _ e
  refine wpAny_setItem_pairs (s := { s2 with toks := _ }) (PySem.strKind_is C.prog C.w _ _) D (fun h' D' sb => ?_) (by show 2 ≤ sizeLine; decide)
  obtain ⟨S', P'⟩ := S2.setDict (k' := i) (la' := la) e sb ⟨t, D'⟩
  have PP := (P1.trans P2).trans P'
  exact ⟨ls, _, S.step S' PP, PP.own0, (T1.trans T2).trans ⟨_, _, rfl⟩, hn⟩
theorem HOk.adopt {h h' : Heap} {a la : Addr} {k : Int} (S : HOk C H h) (sb : Heap.SameBut a h h') (ha : H a = none) (hb : C.h0.get? a = none) (ni : ∀ o, h.get? a = some o → ¬ Imm o) (q : ∀ H', ORep C H' h' a (.sdict k la)) :
    HOk C (H.set a (.sdict k la)) h' ∧ KeepF H h (H.set a (.sdict k la)) h' := by
  have kf : KeepF H h (H.set a (.sdict k la)) h' := fun b o i n e => by
    have hne : b ≠ a := fun z => by subst z; exact ni o e i
    exact ⟨(sb.2 b hne).trans e, by rw [AH.set_ne _ _ hne]; exact n⟩
  refine ⟨⟨fun b o e => (sb.2 b fun z => by subst z; rw [hb] at e; cases e).trans (S.base b o e), fun b o e => ?_, fun b o e => ?_, fun b dx fs e => ?_, fun b b' dx fs fs' e e' => ?_⟩, kf⟩
  · by_cases z : b = a
    · subst z; rw [AH.set_self] at e; cases e; exact q _
    · rw [AH.set_ne _ _ z] at e
      refine (S.objs b o e).mono kf (sb.2 b z) fun dx fs w => ?_
      subst w
      exact sb.2 dx fun y => by subst y; have := S.dict _ _ _ e; rw [ha] at this; cases this
  · by_cases z : b = a
    · subst z; exact hb
    · rw [AH.set_ne _ _ z] at e; exact S.apart b o e
  · by_cases z : b = a
    · subst z; rw [AH.set_self] at e; cases e
    · rw [AH.set_ne _ _ z] at e
      have := S.dict _ _ _ e
      rw [AH.set_ne]
      · exact this
      · rintro rfl; rw [ha] at this; cases this
  · by_cases z : b = a
    · subst z; rw [AH.set_self] at e; cases e
    · by_cases z' : b' = a
      · subst z'; rw [AH.set_self] at e'; cases e'
      · rw [AH.set_ne _ _ z] at e; rw [AH.set_ne _ _ z'] at e'; exact S.one _ _ _ _ _ e e'
/-- {'blocks': 0, 'loops': []} -/
theorem Ev_StateDict {k1 p1 k2 p2 k3 p3 p4 pos} (h : ∀ a la, H a = none → H la = none → a ≠ la → Q (.ref a) ((H.set la (.list [])).set a (.sdict 0 la))) :
    Ev C A env (.Dict [some (.Constant (.str "blocks") k1 p1), some (.Constant (.str "loops") k2 p2)] [.Constant (.int 0) k3 p3, .List [] p4] pos) ls H Q := fun s S => by
  show wpAny (model C.prog C.w) A _ _ _ s
  with_reducible refine wpAny_Dict_walk (knd := PySem.strKind C.prog C.w) ?_ ?_ ?_ ?_ ?_
  · rfl
  · rfl
  · simp
  · show 2 ≤ 15; decide
  have kD := push_keep s.heap emptyDict
  refine evalPairs_cons (Constant_str (wpAny_bind (wpAny_Constant_int (wpAny_bind (wpAny_standAt (wpAny_pure ?_))))))
  refine evalPairs_cons (Constant_str (wpAny_bind (List_ (spliced_nil (wpAny_newList ?_ (by decide))))))
  refine wpAny_bind (wpAny_standAt (wpAny_pure ?_))
  refine evalPairs_nil ?_
  have hz : (s.heap.push { cls := .type "dict", data := .dict #[] }).objs.size = s.heap.objs.size + 1 := Heap.size_push ..
  refine ⟨[("blocks", _), ("loops", _)], ⟨PySem.strKind_is C.prog C.w _ _, rfl, PySem.strKind_is C.prog C.w _ _, rfl, trivial⟩, ?_, fun h' D' sb => ?_⟩
  · refine ⟨emptyDict, #[], 0, Heap.get?_push_of_some _ (Heap.get?_push_size _ rfl), ⟨rfl, rfl, rfl⟩, rfl, fun e he => by simp at he, ?_, by simp⟩
    exact .nil
  · dsimp only at sb D' ⊢
    rw [hz] at D'
    replace D' : h'.DictOf (PySem.strKind C.prog C.w) s.heap.objs.size [("blocks", .int 0 _), ("loops", .ref (s.heap.objs.size + 1))] := D'
    have da : s.heap.get? s.heap.objs.size = none := get?_size _
    have dl : s.heap.get? (s.heap.objs.size + 1) = none := get?_above _ (Nat.le_succ _)
    have ne : s.heap.objs.size ≠ s.heap.objs.size + 1 := Nat.ne_of_lt (Nat.lt_succ_self _)
    have k2 : ∀ b o, s.heap.get? b = some o → ((s.heap.push emptyDict).push { cls := .type "list", data := .seq ([] : List Value).toArray }).get? b = some o := fun b o e => push_keep _ _ _ _ (kD b o e)
    have ql : IsL ((s.heap.push emptyDict).push { cls := .type "list", data := .seq ([] : List Value).toArray }) (s.heap.objs.size + 1) #[] 0 := by
      have := Heap.get?_push_size (s.heap.push emptyDict) (o := { cls := .type "list", data := .seq ([] : List Value).toArray }) rfl
      rw [Heap.size_push] at this
      exact this
    obtain ⟨S1, P1⟩ := S.ok.newList k2 dl ql (l := []) .nil
    have a1 : (H.set (s.heap.objs.size + 1) (.list [])) s.heap.objs.size = none := by rw [AH.set_ne _ _ ne]; exact S.ok.none_of_dead da
    obtain ⟨S2, kf⟩ := S1.adopt (h' := h') (k := 0) (la := s.heap.objs.size + 1) sb a1 (S.ok.base_none da) (fun o e i => by
      have q : ((s.heap.push emptyDict).push { cls := .type "list", data := .seq ([] : List Value).toArray }).get? s.heap.objs.size = some emptyDict := Heap.get?_push_of_some _ (Heap.get?_push_size _ rfl)
      rw [q] at e; cases e
      rcases i with ⟨_, _, z⟩ | ⟨_, _, z⟩ <;> cases z) (fun H' => ⟨_, D'⟩)
    refine ⟨_, _, .ref _, S2, ⟨fun b o x n e => ?_, fun b o n e => ?_, fun b n => ?_⟩, ⟨_, _, rfl⟩, h _ _ (S.ok.none_of_dead da) (S.ok.none_of_dead dl) ne⟩
    · exact (sb.2 b fun z => by subst z; rw [da] at e; cases e).trans (P1.keep b o x n e)
    · rw [AH.set_ne _ _ fun z => by subst z; rw [da] at e; cases e]; exact P1.out b o n e
    · have := P1.live b n
      rw [sb.2 b fun z => by subst z; exact n da]; exact this
end

/- NmL -/
theorem Ents.noRef {H : AH} {h : Heap} {es : List DictEntry} {fs : List (Str × V)} (x : Ents H h es fs) : es.any (·.refKey) = false := by
  induction x with
  | nil => rfl
  | cons a b ih => rw [List.any_cons, ih]; rfl
theorem Ents.get {H : AH} {h : Heap} {es : List DictEntry} {fs : List (Str × V)} (x : Ents H h es fs) {n : Str} {v : V} (e : fs.lookup n = some v) : ∃ r, getL n es = some (some r) ∧ Rep H h r v := by
  induction x with
  | nil => simp at e
  | cons a b ih =>
    rename_i hs y t r w es fs
    rw [List.lookup_cons] at e
    unfold getL
    rw [List.find?_cons]
    cases q : n == y with
    | true =>
      rw [q] at e; cases e
      have : (Value.str y t).isStr n = true := by rw [eq_of_beq q]; exact beq_self_eq_true y
      rw [this]
      exact ⟨r, rfl, a⟩
    | false =>
      rw [q] at e
      have : (Value.str y t).isStr n = false := by
        show (y == n) = false
        cases z : y == n with
        | false => rfl
        | true => rw [eq_of_beq z, beq_self_eq_true] at q; cases q
      rw [this]
      obtain ⟨r', g, z⟩ := ih e
      refine ⟨r', ?_, z⟩
      unfold getL at g
      rw [List.any_cons]
      exact g
theorem Ents.miss {H : AH} {h : Heap} {es : List DictEntry} {fs : List (Str × V)} (x : Ents H h es fs) {n : Str} (e : fs.lookup n = none) : getL n es = some none := by
  have nr := x.noRef
  unfold getL
  rw [nr]
  have : es.find? (·.key.isStr n) = none := by
    induction x with
    | nil => rfl
    | cons a b ih =>
      rename_i hs y t r w es fs
      rw [List.lookup_cons] at e
      cases q : n == y with
      | true => rw [q] at e; cases e
      | false =>
        rw [q] at e
        have : (Value.str y t).isStr n = false := by
          show (y == n) = false
          cases z : y == n with
          | false => rfl
          | true => rw [eq_of_beq z, beq_self_eq_true] at q; cases q
        rw [List.find?_cons, this]
        exact ih e b.noRef
  rw [this]; rfl
/-- a name is put among them -/
noncomputable def putF (n : Str) (v : V) : List (Str × V) → List (Str × V)
  | [] => [(n, v)]
  | (x, w) :: r => if x == n then (x, v) :: r else (x, w) :: putF n v r
theorem Ents.put {H : AH} {h : Heap} {es : List DictEntry} {fs : List (Str × V)} (x : Ents H h es fs) {n : Str} {v : V} {r : Value} (hs : Int) (t : Tok) (hr : Rep H h r v) : Ents H h (putL n hs (.str n t) r es) (putF n v fs) := by
  induction x with
  | nil => exact .cons hr .nil
  | cons a b ih =>
    rename_i hs' y t' r' w es fs
    unfold putL putF
    show Ents H h (if (y == n) = true then _ else _) _
    cases q : y == n with
    | true => exact .cons hr b
    | false => exact .cons a ih
theorem putF_len (n : Str) (v : V) : ∀ fs : List (Str × V), (putF n v fs).length ≤ fs.length + 1
  | [] => Nat.le_refl _
  | (x, w) :: r => by
    unfold putF
    have := putF_len n v r
    split <;> simp only [List.length_cons] <;> lia
theorem Ents.length {H : AH} {h : Heap} {es : List DictEntry} {fs : List (Str × V)} (x : Ents H h es fs) : es.length = fs.length := by
  induction x with
  | nil => rfl
  | cons a b ih => rw [List.length_cons, List.length_cons, ih]

/-- what the class says -/
structure PieceOk (C : Cx) : Prop where
  own : ∀ n ∈ (["plain", "first", "second"] : List Str), ∀ od v, lookIn n od = some (some v) → findObj C.K C.piece (some od) n = some (.value v)
  ga : findIn C.K (.ref C.piece) "__getattribute__" = some (some (.builtin "object.__getattribute__"))
  gat : findIn C.K (.ref C.piece) "__getattr__" = some none
  sa : findIn C.K (.ref C.piece) "__setattr__" = some (some (.builtin "object.__setattr__"))
  plain : plainOver C.K C.piece = true
  taker : ∀ n ∈ (["plain", "first", "second"] : List Str), takerIn C.K C.piece n = some none
  hasDict : (clsIn C.K C.piece).any (·.hasDict) = true
  makes : makesIn C.K C.piece = true
  keep : keepIn C.K (.ref C.piece) = true
  glob : nsIn C.K mainGlobals "Piece" = some (some (.ref C.piece))

section
variable {prog : Program} {w : World} {A : Around} {s : Shared} {K : Frag} {x C : Addr} {R : Result → Shared → Prop}
theorem osa_raw {ox : Obj} {dx : Addr} {name : Str} {tk : Tok} {v : Value} {es : List DictEntry} {n : Nat} (X : K.In s.heap) (D : s.heap.get? dx = some (dictOf es n))
    (I : InstAt s.heap x ox C (some (dictOf es n))) (hd : ox.dict = some dx) (hp : plainOver K C = true) (ht : takerIn K C name = some none) (hh : (clsIn K C).any (·.hasDict) = true)
    (nr : es.any (·.refKey) = false) (hz : (putL name (PyData.keyHash w.params name) (.str name s.toks) v es).length ≤ 1000)
    (h : R (.ok (.ret .none)) { s with heap := s.heap.update dx (Obj.putName name (PyData.keyHash w.params name) (.str name s.toks) v), toks := s.toks + 1 }) :
    codeAny (model prog w) A (.call (.builtin "object.__setattr__") ⟨[.ref x, .str name tk, v], []⟩) R s := by
  refine osa_open X I hp ht fun b => ?_
  obtain ⟨cd, hc, hd'⟩ := any_some hh
  have upd := Heap.get?_update_self (h := s.heap) (Obj.putName name (PyData.keyHash w.params name) (.str name s.toks) v) D (by rw [putName_dict]; rfl)
  rw [putName_dict] at upd
  obtain ⟨hx, hcl, hn, -⟩ := I
  obtain ⟨oc, odi, oda, osl⟩ := ox
  dsimp only at hcl hd
  subst hcl hd
  refine wpAny_bind (wpAny_pure (wpAny_bind (wpAny_bind (wpAny_loadPart hx (wpAny_bind ((looks_clsIn X hc).here ?_))))))
  rw [hd']
  refine wpAny_pure (a := some dx) (wpAny_bind (wpAny_pure (wpAny_bind ?_)))
  unfold nsSet
  refine wpAny_bind (wpAny_bind (wpAny_askSetting (wpAny_pure (wpAny_bind (wpAny_mkText (wpAny_bind (wpAny_loadPart D ?_)))))))
  dsimp only
  have c : (!es.toArray.any (·.key.isStr name) && es.toArray.any (·.refKey)) = false := by
    have q : es.toArray.any (·.refKey) = false := by simpa using nr
    rw [q, Bool.and_false]
  rw [aRefKeyMayBeTheName_at, c]
  refine wpAny_updatePart D ?_
  refine wpAny_bind (wpAny_lookBehind (o := dictOf _ _) upd (pastItsLine_dict (by rw [List.size_toArray, sizeLine_eq]; exact lq1 [_] (.le 1 (.v 0) (.n 1000)) 1 (.v 0) (.a (.n 16777216) (.n 1)) rfl hz)) ?_)
  exact wpAny_pure h
end

section
variable {C : Cx} {A : Around} {H : AH} {Q : V → AH → Prop} {env : Env} {ls : Ls} {s : Shared} {R : V → AH → Prop} {N : Ls → AH → Prop}

theorem HOk.inst {h : Heap} {x dx : Addr} {fs : List (Str × V)} (S : HOk C H h) (e : H x = some (.inst dx fs)) : ∃ es n, h.get? dx = some (dictOf es n) ∧ Ents H h es fs ∧ InstAt h x (instObj C.piece dx) C.piece (some (dictOf es n)) := by
  obtain ⟨a, es, n, b, c⟩ := S.objs _ _ e
  exact ⟨es, n, b, c, a, rfl, rfl, b⟩

inductive AttQ (attr : Str) (Q : V → AH → Prop) (v : V) (H1 : AH) : Prop
  | mk (a dx fs w) : v = .ref a → H1 a = some (.inst dx fs) → fs.lookup attr = some w → (∀ i, w ≠ .bi i) → Q w H1 → AttQ attr Q v H1
inductive SetTQ (attr : Str) (N : Ls → AH → Prop) (ls : Ls) (v ov : V) (H2 : AH) : Prop
  | mk (a dx fs) : ov = .ref a → H2 a = some (.inst dx fs) → fs.length ≤ 5 → N ls (H2.set a (.inst dx (putF attr v fs))) → SetTQ attr N ls v ov H2
inductive MetQ (C : Cx) (A : Around) (name : Str) (f : Addr) (Q : V → AH → Prop) (v : V) (H1 : AH) : Prop
  | mk (a dx fs) : v = .ref a → H1 a = some (.inst dx fs) → fs.lookup name = none → Cl C A (.ref f) [.ref a] H1 Q → MetQ C A name f Q v H1
inductive ProQ (C : Cx) (A : Around) (name : Str) (f : Addr) (Q : V → AH → Prop) (v : V) (H1 : AH) : Prop
  | mk (a dx fs) : v = .ref a → H1 a = some (.inst dx fs) → fs.lookup name = none → Cc C A.in1 (.ref f) [.ref a] H1 (fun w H2 => (∀ i, w ≠ .bi i) ∧ Q w H2) → ProQ C A name f Q v H1
theorem Ev_Attr {x attr : Str} {np pos : Pos} (hC : CxOk C) (hP : PieceOk C) (hm : attr ∈ (["plain", "first", "second"] : List Str))
    (h : Ev C A env (.Name x np) ls H (AttQ attr Q)) : Ev C A env (.Attribute (.Name x np) attr pos) ls H Q := fun s S => by
  refine Attribute_name (Fin.seq (h s S) fun r v s1 H1 x1 S1 P1 T1 h1 => ?_)
  obtain ⟨a, dx, fs, w, rfl, e, el, nb, hq⟩ := h1
  cases x1
  obtain ⟨es, n, d, z, I⟩ := S1.inst e
  obtain ⟨r, g, y⟩ := z.get el
  have X := hC.kin.keeps S1.base
  refine get_value X I hP.ga (hP.own attr hm _ _ (by rw [lookIn_dict]; exact g)) ?_ (Post.from P1 T1 (Post.here S1 _ y hq))
  cases y with
  | bi i => exact absurd rfl (nb i)
  | _ => rfl

theorem E1_SetAttr {x attr : Str} {np p pos : Pos} {value : Expr} (hC : CxOk C) (hP : PieceOk C) (hm : attr ∈ (["plain", "first", "second"] : List Str))
    (h : Ev C A env value ls H (ThenQ C A env (.Name x np) ls (SetTQ attr N ls)))
    (hs : swapsWith value (some (.Attribute (.Name x np) attr p)) pos.line env = pure false := by rfl) : E1 C A env (.Assign [.Attribute (.Name x np) attr p] value pos) ls H R N := fun s S => by
  refine plainObj_wpAny_Assign_Attribute (Fin.seq (h s S) fun r v s1 H1 x1 S1 P1 T1 h1 => ?_) hs
  refine Fin.seq (h1 s1 (S.step S1 P1)) fun r2 ov s2 H2 x2 S2 P2 T2 h2 => ?_
  obtain ⟨a, dx, fs, rfl, e, hl, hn⟩ := h2
  cases x2
  obtain ⟨es, n, D, z, I⟩ := S2.inst e
  have X := hC.kin.keeps S2.base
  have z' := z.put (n := attr) (PyData.keyHash C.w.params attr) (s2.toks + 1) (x1.mono P2.keepF0)
  have upd := Heap.get?_update_self (h := s2.heap) (Obj.putName attr (PyData.keyHash C.w.params attr) (.str attr (s2.toks + 1)) r) D (by rw [putName_dict]; rfl)
  rw [putName_dict] at upd
  refine set_plain X I hP.sa (osa_raw (s := { s2 with toks := s2.toks + 1 }) X D I rfl hP.plain (hP.taker attr hm) hP.hasDict z.noRef ?_ ?_)
  · exact Nat.le_trans (Nat.le_of_eq z'.length) (by have := putF_len attr v fs; exact lq2 [_, _] (.le 1 (.v 1) (.n 5)) (.le 1 (.v 0) (.a (.v 1) (.n 1))) 1 (.v 0) (.n 1000) rfl hl this)
  obtain ⟨S', P'⟩ := S2.setInst (gs' := putF attr v fs) e (Heap.SameBut.update s2.heap dx (Obj.putName attr (PyData.keyHash C.w.params attr) (.str attr (s2.toks + 1)) r)) (fun kf => ⟨_, _, upd, z'.mono kf⟩) (by rw [upd]; exact fun z => nomatch z)
  have PP := (P1.trans P2).trans P'
  exact ⟨ls, _, S.step S' PP, PP.own0, (T1.trans T2).trans ⟨_, _, rfl⟩, hn⟩

theorem lookIn_none {h : Heap} {es : List DictEntry} {fs : List (Str × V)} {n : Nat} {name : Str} (z : Ents H h es fs) (e : fs.lookup name = none) : lookIn name (dictOf es n) = some none := by rw [lookIn_dict]; exact z.miss e

/-- a method without arguments -/
theorem Ev_Meth0 {x name : Str} {np apos pos : Pos} {f : Addr} (hC : CxOk C) (hP : PieceOk C) (hf : findIn C.K (.ref C.piece) name = some (some (.ref f))) (ht : typeIn C.K (.ref f) = some (.type "function")) (hk : keepIn C.K (.ref f) = true)
    (h : Ev C A env (.Name x np) ls H (MetQ C A name f Q))
    (hline : (apos.endLine == pos.line) = true := by rfl) (hb : attributeBase (.Name x np) name env (eval (.Name x np) env) = eval (.Name x np) env := by rfl) : Ev C A env (.Call (.Attribute (.Name x np) name apos) [] [] pos) ls H Q := fun s S => by
  rw [arm_eval_Call, hb]
  refine wpAny_bind (Fin.seq (h s S) fun r v s1 H1 x1 S1 P1 T1 h1 => ?_)
  obtain ⟨a, dx, fs, rfl, e, el, hq⟩ := h1
  cases x1
  obtain ⟨es, n, d, z, I⟩ := S1.inst e
  have X := hC.kin.keeps S1.base
  refine wpAny_bind (wpAny_standAt ?_)
  unfold methodCall calleeOf methodCallPos
  have hform : methodCallForm (([] : List Expr).length + ([] : List Keyword).length) (backTo pos (starEach [] env)) (backToKw pos (keywordEach [] env)) = true := rfl
  simp only [hform, hline, if_true, Bool.not_true, Bool.or_true]
  refine wpAny_bind (wpAny_holding (method_fn X I hP.ga hP.gat hf ht (by unfold shadowIn; simp only [lookIn_none z el]; rfl) ?_))
  refine wpAny_bind (wpAny_pure ?_)
  refine callWith_K0 X hk ?_
  exact Fin.then P1 T1 (hq s1 [.ref a] S1 (.cons (.ref a) .nil))

/-- a property -/
theorem Ev_Prop {x name : Str} {np pos : Pos} {p f : Addr} {rest : List Value} (hC : CxOk C) (hP : PieceOk C) (hf : ∀ od, lookIn name od = some none → findObj C.K C.piece (some od) name = some (.bind (.builtin "property.__get__") (.ref p))) (hp : recIn C.K p "property" = some (.ref f :: rest))
    (h : Ev C A env (.Name x np) ls H (ProQ C A name f Q)) : Ev C A env (.Attribute (.Name x np) name pos) ls H Q := fun s S => by
  refine Attribute_name (Fin.seq (h s S) fun r v s1 H1 x1 S1 P1 T1 h1 => ?_)
  obtain ⟨a, dx, fs, rfl, e, el, hq⟩ := h1
  cases x1
  obtain ⟨es, n, d, z, I⟩ := S1.inst e
  have X := hC.kin.keeps S1.base
  refine get_bind X I hP.ga (hf _ (lookIn_none z el)) hP.gat (wpAny_call (prop_get (s := { s1 with toks := s1.toks + 1 }) X hp (codeAny_mono (hq { s1 with toks := s1.toks + 1 } [.ref a] S1 (.cons (.ref a) .nil)) fun r s2 q => ?_)))
  rcases r with e | (_ | _ | _ | w)
  · exact q.elim
  · exact q
  · exact q
  · exact q
  · obtain ⟨v, H2, y, S2, P2, T2, nb, h2⟩ := q
    have hh : handedIn w = true := by
      cases y with
      | bi i => exact absurd rfl (nb i)
      | _ => rfl
    show wpAny _ _ (handedOut w) _ _ _
    rw [handedOut_of hh]
    exact wpAny_pure ⟨v, H2, y, S2, P1.trans P2, T1.trans (Stp.trans ⟨_, _, rfl⟩ T2), h2⟩

/-- a new piece -/
theorem Cc_make {vs : List V} {fI : Addr} (hC : CxOk C) (hP : PieceOk C) (hi : findIn C.K (.ref C.piece) "__init__" = some (some (.ref fI))) (hf : typeIn C.K (.ref fI) = some (.type "function"))
    (h : ∀ rs x dx, H x = none → H dx = none → x ≠ dx → Cc C (A.under (.builtin "type.__call__" ⟨.ref C.piece :: rs, []⟩)) (.ref fI) (.ref x :: vs) ((H.set dx .attrs).set x (.inst dx [])) fun v H' => v = .none ∧ Q (.ref x) H') : Cc C A (.ref C.piece) vs H Q := fun s rs S x => by
  have X := hC.kin.keeps S.base
  obtain ⟨hh, g, d, t, os⟩ := s
  refine make_core (makes_of X hP.makes) (looks_findIn X hi) (fun self => bind_fn X self hf) (.inl rfl) ?_
  have da : hh.get? hh.objs.size = none := get?_size _
  have db : hh.get? (hh.objs.size + 1) = none := get?_above _ (Nat.le_succ _)
  have ne : hh.objs.size + 1 ≠ hh.objs.size := Nat.succ_ne_self _
  have k : ∀ b o, hh.get? b = some o → ((hh.push emptyDict).push (instObj C.piece hh.objs.size)).get? b = some o := fun b o e => push_keep _ _ _ _ (push_keep _ _ _ _ e)
  have q1 : ((hh.push emptyDict).push (instObj C.piece hh.objs.size)).get? (hh.objs.size + 1) = some (instObj C.piece hh.objs.size) := by
    have := Heap.get?_push_size (hh.push emptyDict) (o := instObj C.piece hh.objs.size) rfl
    rw [Heap.size_push] at this; exact this
  have q2 : ((hh.push emptyDict).push (instObj C.piece hh.objs.size)).get? hh.objs.size = some (dictOf [] 0) := Heap.get?_push_of_some _ (Heap.get?_push_size _ rfl)
  obtain ⟨S', P'⟩ := S.newInst (gs := []) k db da ne q1 ⟨_, _, q2, .nil⟩
  refine codeAny_mono (h rs _ _ (S.none_of_dead db) (S.none_of_dead da) ne ⟨_, g, d, t, os⟩ (.ref (hh.objs.size + 1) :: rs) S' (.cons (.ref _) (x.mono P'.keepF0))) fun r s2 q => ?_
  rcases r with e | (_ | _ | _ | w)
  · exact q.elim
  · exact q
  · exact q
  · exact q
  · obtain ⟨v, H2, y, S2, P2, T2, rfl, h2⟩ := q
    cases y
    refine ⟨rfl, .ref _, H2, .ref _, S2, P'.trans P2, ?_, h2⟩
    obtain ⟨h3, tk3, rfl⟩ := T2
    exact ⟨_, _, rfl⟩
noncomputable def CcQ (C : Cx) (A : Around) (f : Value) (Q : V → AH → Prop) (vs : List V) (H1 : AH) : Prop := Cc C A f vs H1 Q
theorem Ev_Call_Piece {p pos : Pos} {e0 : Expr} {es : List Expr} (hC : CxOk C) (hP : PieceOk C) (he : EnvOk env) (hk : env.kindOf "Piece" = some .globalImplicit)
    (h : Evs C A env (e0 :: es) ls H (CcQ C A (.ref C.piece) Q)) (hs : noStar (e0 :: es) = true := by rfl) (hs1 : starEach (e0 :: es) env = (false, eval e0 env) :: starEach es env := by rfl) (hs2 : (backTo pos (starEach es env)).any (·.1) = false := by rfl) :
    Ev C A env (.Call (.Name "Piece" p) (e0 :: es) [] pos) ls H Q := fun s S => by
  refine Call_Name rfl (Fin.seq (Ev_glob (Q := fun v H1 => v = .ref C.piece ∧ H1 = H) hC he hk hP.glob (fun _ _ => .ref _) ⟨rfl, rfl⟩ (by decide) s S) fun r v s1 H1 x1 S1 P1 T1 h1 => ?_)
  obtain ⟨rfl, rfl⟩ := h1
  cases x1
  refine callWith_K (hC.kin.keeps S1.base) hP.keep (Fin.seq (Evs_spliced h hs s1 (S.step S1 P1)) fun rs vs s2 H2 x2 S2 P2 T2 h2 => ?_) hs1 hs2
  exact ⟨hC.kin.keeps S2.base, Fin.then (P1.trans P2) (T1.trans T2) (Cc.cl h2 s2 rs S2 x2)⟩
end

/- NmM -/
/-- the tests of a comprehension: none, or one -/
noncomputable def Test (C : Cx) (A : Around) (env : Env) (ifs : List Expr) (ls : Ls) (H : AH) (Q : Bool → AH → Prop) : Prop :=
  match ifs with
  | [] => Q true H
  | [c] => Tr C A env c ls H Q
  | _ => False

structure CapOk (scope : Scope) (cl : List (Str × Addr)) (env : Env) (cls ls : Ls) : Prop where
  clos : closureFor scope env = pure cl
  cells : ∀ p ∈ cl, env.cells.lookup p.1 = some p.2
  vars : ∀ y v, cls.lookup y = some v → ls.lookup y = some v ∧ env.kindOf y = some .cell ∧ (compEnvC scope cl 0 env).kindOf y = some .cell ∧ cl.lookup y = env.cells.lookup y

section
variable {prog : Program} {w : World} {A : Around} {E : Value → Shared → Prop} {s : Shared}
theorem append_L {l : Addr} {items : Array Value} {n : Nat} {x : Value} {Q : Value → Shared → Prop} (hl : IsL s.heap l items n)
    (hQ : ∀ h' n', IsL h' l (items.push x) n' → Heap.SameBut l s.heap h' → Q .none { s with heap := h' }) (hsz : items.size ≤ sizeLine) :
    wpAny (model prog w) A (call (.builtin "list.append") [.ref l, x]) Q E s := by
  refine wpAny_call_entry slot_list_append hl.isList.typeIs entry_list_append ?_ (args_list_append _ _)
  show wpAny _ _ (updateSeq l (·.push x) >>= fun _ => ret .none) _ _ s
  refine wpAny_bind ?_
  refine wpAny_updateSeq hl rfl (wpAny_pure ⟨.none, rfl, hQ _ _ (IsL.update hl _) (Heap.SameBut.update ..)⟩)
end

section
variable {C : Cx} {A : Around} {H : AH} {Q : V → AH → Prop} {env : Env} {ls : Ls} {s : Shared} {R : V → AH → Prop} {N : Ls → AH → Prop}

theorem Test.run {ifs : List Expr} {QB : Bool → AH → Prop} (h : Test C A env ifs ls H QB) (S : Sat C env H s.heap ls) :
    Fin RB C A s H (forIn ifs true fun c r => if r = true then do let ok ← isTrue c env (eval c env); pure (ForInStep.yield ok) else pure (ForInStep.yield r)) QB := by
  match ifs, h with
  | [], h => rw [List.forIn_nil]; exact wpAny_pure (Post.same S.ok rfl h)
  | [c], h =>
    rw [List.forIn_cons]
    refine wpAny_bind ?_
    rw [if_pos rfl]
    refine wpAny_bind (wpAny_mono (h s S) (fun r s1 q => wpAny_pure ?_) fun _ _ x => x)
    show wpAny _ _ (forIn [] r _) _ _ _
    rw [List.forIn_nil]
    exact wpAny_pure q

theorem it_self {v : V} {it : Addr} {l : List V} {i : Nat} {h : Heap} {P : Value → Shared → Prop} {E : Value → Shared → Prop} (x : ItK H s.heap it v l i) (k : P (.ref it) s) : wpAny (model C.prog C.w) A (pyIter (.ref it)) P E s := by
  cases x with
  | lf a b c d => exact wpAny_pyIter_listiter a k
  | lm a b => exact wpAny_pyIter_listiter a k
  | tp a b c d => exact wpAny_pyIter_tupleiter a k
  | rg a => exact wpAny_pyIter_rangeiter a k

inductive CompN (D : Addr) (acc : List V) (J : AH → Prop) (H2 : AH) : Prop
  | mk (H4) : H2 = H4.set D (.list acc) → H4 D = none → J H4 → CompN D acc J H2
noncomputable def CompV (D : Addr) (I : List V → AH → Prop) (acc : List V) (y : V) (H2 : AH) : Prop := CompN D acc (I (acc ++ [y])) H2
noncomputable def CompB (C : Cx) (A : Around) (env : Env) (elt : Expr) (ls : Ls) (D : Addr) (I : List V → AH → Prop) (acc : List V) (b : Bool) (H2 : AH) : Prop :=
  bif b then Ev C A env elt ls H2 (CompV D I acc) else CompN D acc (I acc) H2
inductive CompI (C : Cx) (A : Around) (env : Env) (elt : Expr) (ifs : List Expr) (x : Str) (scope : Scope) (cl : List (Str × Addr)) (cls : Ls) (F : List V → AH → Prop) (v : V) (H1 : AH) : Prop
  | mk (l) (I : Nat → List V → AH → Prop) : l.length ≤ sizeLine → I 0 [] H1 → (∀ i acc H', I i acc H' → ItSrc H' v l) →
      (∀ i w acc H' C' D, EnvOk (compEnvC scope cl C' env) → l[i]? = some w → I i acc H' → H' D = none → Test C A (compEnvC scope cl C' env) ifs ((x, w) :: cls) (H'.set D (.list acc)) (CompB C A (compEnvC scope cl C' env) elt ((x, w) :: cls) D (I (i + 1)) acc)) →
      (∀ acc H', I l.length acc H' → F acc H') → CompI C A env elt ifs x scope cl cls F v H1
inductive CompSt (C : Cx) (env : Env) (ls : Ls) (H : AH) (s : Shared) (it D : Addr) (v : V) (l : List V) (I : Nat → List V → AH → Prop) (i : Nat) (s' : Shared) : Prop
  | mk (acc H' m) : i ≤ l.length → acc.length ≤ i → Sat C env (H'.set D (.list acc)) s'.heap ls → s'.heap.Ns (D + 1) m → Pres X0 H s.heap (H'.set D (.list acc)) s'.heap → Stp s s' → H' D = none → H' it = none → H' (D + 1) = none →
      ItK (H'.set D (.list acc)) s'.heap it v l i → I i acc H' → CompSt C env ls H s it D v l I i s'
theorem comp_core {elt iter : Expr} {x : Str} {px : Pos} {ifs : List Expr} {scope : Scope} {cl : List (Str × Addr)} {pos fpos : Pos} {use : Option (Value → Sem Unit)} {P : Value → Shared → Prop} {F : List V → AH → Prop} {cls : Ls}
    (he : EnvOk env) (ha : A.handled = none) (cap : CapOk scope cl env cls ls) (hcell : ∀ y ∈ scope.names, y.2 ≠ .cell) (hkind : scope.kind = .function)
    (hnames : ∀ y ∈ scope.names, y.2 = .local → scope.names.lookup y.1 = some .local) (hx : scope.names.lookup x = some .local)
    (h : Ev C A env iter ls H (CompI C A env elt ifs x scope cl cls F))
    (S : Sat C env H s.heap ls)
    (fin : ∀ D C' acc H' s' m, Sat C env (H'.set D (.list acc)) s'.heap ls → H' D = none → Pres X0 H s.heap (H'.set D (.list acc)) s'.heap → Stp s s' → F acc H' → s'.heap.Ns C' m →
      s.heap.get? C' = none → (H'.set D (.list acc)) C' = none → C.h0.get? C' = none → C' ≠ env.locals → (∀ y, env.cells.lookup y ≠ some C') → s.heap.get? D = none → compPost (model C.prog C.w) A Bad use P (.ref D) C' (.ok .next) s')
    (hs : ∀ x, foldedSetIterable iter env x = pure x := by intro _; rfl) :
    wpAny (model C.prog C.w) A (comprehension (.ListComp elt [⟨.Name x px, iter, ifs, 0⟩] scope pos) scope env fpos (newList []) false (eval iter env) use) P Bad s := by
  refine wpAny_comprehension_free (g := ⟨.Name x px, iter, ifs, 0⟩) (gs := []) rfl hs cap.clos hkind hnames (Fin.seq (h s S) fun r v s1 H1 x1 S1 P1 T1 h1 => ?_)
  obtain ⟨l, I, hz, i0, src, turn, last⟩ := h1
  have Sa := S.step S1 P1
  refine it_new S1 x1 (src 0 _ _ i0) fun it s2 k2 f2 T2 x2 => ?_
  refine wpAny_newList ?_ (by decide)
  refine wpAny_newFunctionEnv hcell (by intro y hy; simp at hy) (fun h4 ns4 sb4 => ?_) hkind
  dsimp only at ns4 sb4 ⊢
  -- the places
  have itf : s1.heap.get? it = none := f2
  have dead : ∀ b, s1.heap.get? b = none → s.heap.get? b = none := fun b e => by
    cases q : s.heap.get? b with
    | none => rfl
    | some o => exact absurd e (P1.live b (by rw [q]; exact fun z => nomatch z))
  have D1 : s1.heap.get? s2.heap.objs.size = none := by
    cases q : s1.heap.get? s2.heap.objs.size with
    | none => rfl
    | some o => have := k2 _ _ q; rw [get?_size] at this; cases this
  have sz : (s2.heap.push { cls := .type "list", data := .seq ([] : List Value).toArray }).objs.size = s2.heap.objs.size + 1 := Heap.size_push ..
  generalize hD : s2.heap.objs.size = D at D1 sz sb4 ns4 ⊢
  have C1 : s1.heap.get? (D + 1) = none := by
    cases q : s1.heap.get? (D + 1) with
    | none => rfl
    | some o => have := k2 _ _ q; rw [get?_above _ (by lia)] at this; cases this
  rw [sz] at sb4 ns4 ⊢
  clear sz
  have hDC : D ≠ D + 1 := Nat.ne_of_lt (Nat.lt_succ_self _)
  have itlt : it < D := by obtain ⟨o, e, _⟩ := x2.obj; rw [← hD]; exact Heap.lt_size e
  have k4 : ∀ b o, s1.heap.get? b = some o → h4.get? b = some o := fun b o e => by
    refine sb4.extBut b o (fun z => by subst z; rw [C1] at e; cases e) (push_keep _ _ _ _ (push_keep _ _ _ _ (k2 b o e)))
  have qD : IsL h4 D #[] 0 := by
    refine sb4.extBut _ _ hDC (push_keep _ _ _ _ ?_)
    rw [← hD]; exact Heap.get?_push_size _ rfl
  obtain ⟨Sx, Px⟩ := S1.newList k4 D1 qD (l := []) .nil
  have itn : H1 it = none := S1.none_of_dead f2
  have nD : H1 D = none := S1.none_of_dead D1
  have nC : H1 (D + 1) = none := S1.none_of_dead C1
  have bC : C.h0.get? (D + 1) = none := S1.base_none C1
  have bI : C.h0.get? it = none := S1.base_none f2
  have Lne : ∀ b, s1.heap.get? b = none → b ≠ env.locals := fun b e q => by
    obtain ⟨m, F, _⟩ := Sa.ns
    exact Ns.live F (q ▸ e)
  have Cne : ∀ b, s1.heap.get? b = none → ∀ x, env.cells.lookup x ≠ some b := fun b e x q => by
    obtain ⟨_, _, _, v, g⟩ := Sa.cel x b q
    exact IsCell.live g e
  -- the frame of the comprehension
  have kx : ∀ y, (compEnvC scope cl 0 env).kindOf y = (compEnvC scope cl (D + 1) env).kindOf y := fun _ => rfl
  have hxl : (compEnvC scope cl (D + 1) env).kindOf x = some .local := lookup_relabel_local hx
  have he' : EnvOk (compEnvC scope cl (D + 1) env) := ⟨hkind, he.glob, he.blt⟩
  have clc : ∀ y c, cl.lookup y = some c → env.cells.lookup y = some c := fun y c e => cap.cells (y, c) (mem_of_lookup' e)
  have mk : ∀ {H' : AH} {h' : Heap} {m}, Sat C env H' h' ls → H' (D + 1) = none → h'.Ns (D + 1) m → Sat C (compEnvC scope cl (D + 1) env) H' h' cls := fun {H' h' m} S' n' ns' => by
    obtain ⟨m0, F0, hv⟩ := S'.ns
    refine ⟨S'.ok, n', bC, ⟨m, ns', fun y v e => ?_⟩, fun y c e => ?_, fun y z c e1 e2 => S'.inj y z c (clc _ _ e1) (clc _ _ e2)⟩
    · obtain ⟨e1, e2, e3, e4⟩ := cap.vars y v e
      rcases hv y v e1 with ⟨a, _⟩ | ⟨a, c, r, b, g, i⟩
      · rw [a] at e2; cases e2
      · exact .inr ⟨e3, c, r, e4.trans b, g, i⟩
    · obtain ⟨a, b, d, v, g⟩ := S'.cel y c (clc y c e)
      exact ⟨a, b, fun z => Cne _ C1 y (by rw [clc y c e]; exact congrArg some z), v, g⟩
  have it4 : ItK (H1.set D (.list [])) h4 it v l 0 := by
    have kk : ∀ b o, s2.heap.get? b = some o → h4.get? b = some o := fun b o e => by
      exact sb4.extBut b o (Nat.ne_of_lt (Nat.lt_succ_of_lt (hD ▸ Heap.lt_size e))) (push_keep _ _ _ _ (push_keep _ _ _ _ e))
    refine x2.mono (kk it) (fun b o i n e => ⟨kk b o e, ?_⟩) ?_
    · rw [AH.set_ne]
      · exact n
      · exact Nat.ne_of_lt (hD ▸ Heap.lt_size e)
    · have := src 0 _ _ i0
      cases this with
      | lst => exact .lst _
      | tup => exact .tup _
      | ref q => exact .ref (by rw [AH.set_ne]; exact q; intro z; subst z; rw [nD] at q; cases q)
      | rng n hn => exact .rng n hn
  have itD : it ≠ D := Nat.ne_of_lt itlt
  have itC : it ≠ D + 1 := Nat.ne_of_lt (Nat.lt_succ_of_lt itlt)
  have srcD : ∀ {H' : AH} {acc : List V}, ItSrc H' v l → H' D = none → ItSrc (H'.set D (.list acc)) v l := fun q n => by
    cases q with
    | lst => exact .lst _
    | tup => exact .tup _
    | ref q => exact .ref (by rw [AH.set_ne]; exact q; intro z; subst z; rw [n] at q; cases q)
    | rng n hn => exact .rng n hn
  -- the loop
  have P4 : Pres X0 H s.heap (H1.set D (.list [])) h4 := P1.trans Px
  have loop : codeAny (model C.prog C.w) A (.compLoop (.ListComp elt [⟨.Name x px, iter, ifs, 0⟩] scope pos) 0 (.ref it) (.ref D) (compEnvC scope cl (D + 1) env)) (compPost (model C.prog C.w) A Bad use P (.ref D) (D + 1)) { s2 with heap := h4, toks := s2.toks + ([] : List (Str × Value)).length } := by
    refine codeAny_compLoop_tests (fun n s' => ∃ i, n = l.length - i ∧ CompSt C env ls H s it D v l I i s')
      (fun n s5 q => ?_) l.length ⟨0, rfl, [], H1, _, Nat.zero_le _, Nat.le_refl _, S.step Sx P4, ns4, P4, T1.trans (T2.trans ⟨_, _, rfl⟩), nD, itn, nC, it4, i0⟩
    obtain ⟨i, rfl, acc, H5, m5, hi, hacc, S5, ns5, P5, T5, n5, i5, c5, x5, I5⟩ := q
    have it5 : (H5.set D (.list acc)) it = none := by rw [AH.set_ne _ _ itD]; exact i5
    have cc5 : (H5.set D (.list acc)) (D + 1) = none := by rw [AH.set_ne _ _ (Ne.symm hDC)]; exact c5
    have src5 : ItSrc (H5.set D (.list acc)) v l := by
      have := src _ _ _ I5
      cases this with
      | lst => exact .lst _
      | tup => exact .tup _
      | ref q => exact .ref (by rw [AH.set_ne]; exact q; intro z; subst z; rw [n5] at q; cases q)
      | rng n hn => exact .rng n hn
    by_cases hlt : i < l.length
    · have hw : l[i]? = some l[i] := by simp [hlt]
      refine it_next S5.ok x5 it5 hw src5 fun r6 s6 sb6 T6 kf6 x6 y6 => ?_
      have S6 : Sat C env (H5.set D (.list acc)) s6.heap ls := S5.ext sb6.extBut it5 bI kf6 (Lne _ itf) (Cne _ itf)
      have P6 : Pres X0 H s.heap (H5.set D (.list acc)) s6.heap := ⟨fun b o no nn e => sb6.extBut b o (fun q => by subst q; rw [dead _ itf] at e; cases e) (P5.keep b o no nn e), P5.out, fun b e => by
        by_cases q : b = it
        · subst q; exact absurd (dead _ itf) e
        · rw [sb6.2 b q]; exact P5.live b e⟩
      have ns6 : s6.heap.Ns (D + 1) m5 := Ns.keepAt ns5 fun o e => sb6.extBut _ o (Ne.symm itC) e
      have SC6 := mk S6 cc5 ns6
      refine wpAny_assign_Name (store_name' he' SC6 y6 hxl fun s7 SC7 P7 T7 sb7 => ?_)
      have niC : ∀ o, s6.heap.get? (D + 1) = some o → ¬ Imm o := fun o e i => Own.notImm SC6 (D + 1) o (.inl rfl) e i
      have S7 : Sat C env (H5.set D (.list acc)) s7.heap ls := S6.ext sb7.extBut cc5 bC (keepF_but sb7.extBut niC) (Lne _ C1) (Cne _ C1)
      have P7' : Pres X0 H s.heap (H5.set D (.list acc)) s7.heap := ⟨fun b o no nn e => sb7.extBut b o (fun q => by have q : b = D + 1 := q; subst q; rw [dead _ C1] at e; cases e) (P6.keep b o no nn e), P6.out, fun b e => by
        by_cases q : b = D + 1
        · subst q; exact absurd (dead _ C1) e
        · have := sb7.2 b q
          rw [this]; exact P6.live b e⟩
      obtain ⟨m7, ns7, _⟩ := SC7.ns
      have x7 : ItK (H5.set D (.list acc)) s7.heap it v l (i + 1) := x6.mono (fun o e => sb7.extBut it o itC e) (keepF_but sb7.extBut niC) src5
      have tr := turn i _ acc H5 (D + 1) D he' hw I5 n5
      refine Fin.seq (tr.run SC7) fun b b' s8 H8 x8 S8 P8 T8 h8 => ?_
      cases x8
      have ns8 : s8.heap.Ns (D + 1) m7 := Ns.keepAt ns7 fun o e => P8.keep _ o (fun z => z) cc5 e
      have obj7 := x7.obj
      have fresh8 : ∀ {H9 : AH} {s9 : Shared}, Pres X0 (H5.set D (.list acc)) s7.heap H9 s9.heap → H9 it = none ∧ H9 (D + 1) = none := fun P9 => by
        obtain ⟨o, e, _⟩ := obj7
        exact ⟨P9.out it o it5 e, P9.outL cc5 (Ns.live ns7)⟩
      cases b with
      | false =>
        obtain ⟨H9, rfl, d9, i9⟩ := h8
        rw [if_neg Bool.false_ne_true]
        have fr := fresh8 P8
        refine ⟨_, ?_, i + 1, rfl, acc, H9, m7, hlt, (lq1 [_, _] (.le 1 (.v 0) (.v 1)) 1 (.v 0) (.a (.v 1) (.n 1)) rfl hacc), S7.step S8 P8, ns8, P7'.trans P8, ((T5.trans T6).trans T7).trans T8, d9, ?_, ?_, x7.mono (fun o e => P8.keep it o (fun z => z) it5 e) P8.keepF0 (srcD (src _ _ _ i9) d9), i9⟩
        · lia
        · have := fr.1; rwa [AH.set_ne _ _ itD] at this
        · have := fr.2; rwa [AH.set_ne _ _ (Ne.symm hDC)] at this
      | true =>
        rw [if_pos rfl]
        refine Fin.seq (h8 s8 (SC7.step S8 P8)) fun r9 y s9 H9 x9 S9 P9 T9 h9 => ?_
        obtain ⟨HA, rfl, dA, iA⟩ := h9
        have P79 := P8.trans P9
        have fr := fresh8 P79
        have ns9 : s9.heap.Ns (D + 1) m7 := Ns.keepAt ns8 fun o e => P9.keep _ o (fun z => z) (fresh8 P8).2 e
        have x9' : ItK (HA.set D (.list acc)) s9.heap it v l (i + 1) := x7.mono (fun o e => P79.keep it o (fun z => z) it5 e) P79.keepF0 (srcD (src _ _ _ iA) dA)
        obtain ⟨itemsD, nD9, qD9, yD9⟩ := S9.isL (AH.set_self HA D (.list acc))
        have lD := yD9.length
        simp only [Array.length_toList] at lD
        refine append_L qD9 (fun hB nB qB sbB => ?_) (lq4 [_, _, _, _, _] (.le 1 (.v 2) (.v 1)) (.le 1 (.v 3) (.v 2)) (.le 1 (.v 4) (.v 3)) (.eq 1 (.v 0) (.v 4)) 1 (.v 0) (.v 1) rfl hz hi hacc lD)
        obtain ⟨SB, PB⟩ := S9.setList (l' := acc ++ [y]) (AH.set_self HA D (.list acc)) sbB qB (by rw [Array.toList_push]; exact yD9.append (.cons x9 .nil))
        rw [AH.set_set] at SB PB
        have PA := P79.trans PB
        obtain ⟨o9, e9, _⟩ := x9'.obj
        refine ⟨l.length - (i + 1), ?_, i + 1, rfl, acc ++ [y], HA, m7, hlt, by simp; exact lq1 [_, _] (.le 1 (.v 0) (.v 1)) 1 (.v 0) (.v 1) rfl hacc, S7.step SB PA, Ns.keepAt ns9 fun o e => PB.keep _ o (fun z => z) fr.2 e, P7'.trans PA, (((T5.trans T6).trans T7).trans T8).trans (T9.trans ⟨_, _, rfl⟩), dA, ?_, ?_, ?_, iA⟩
        · lia
        · have := fr.1; rwa [AH.set_ne _ _ itD] at this
        · have := fr.2; rwa [AH.set_ne _ _ (Ne.symm hDC)] at this
        · exact x9'.mono (fun o e => PB.keep it o (fun z => z) fr.1 e) PB.keepF0 (srcD (src _ _ _ iA) dA)
    · have e : i = l.length := (Nat.le_antisymm (lq1 [_, _] (.le 1 (.v 0) (.v 1)) 1 (.v 0) (.v 1) rfl hi) (lq1 [_, _] (.nl 1 (.a (.v 1) (.n 1)) (.v 0)) 1 (.v 0) (.v 1) rfl hlt))
      subst e
      refine it_end ha S5.ok x5 it5 (Nat.le_refl _) fun s6 sb6 T6 kf6 => ?_
      refine fin D (D + 1) acc H5 s6 m5 (S5.ext sb6 it5 bI kf6 (Lne _ itf) (Cne _ itf)) n5 ⟨fun b o no nn e => sb6 b o (fun q => by subst q; rw [dead _ itf] at e; cases e) (P5.keep b o no nn e), P5.out, fun b e => ?_⟩ (T5.trans T6) (last _ _ I5) (Ns.keepAt ns5 fun o e => sb6 _ o (Ne.symm itC) e) (dead _ C1) cc5 bC (Lne _ C1) (Cne _ C1) (dead _ D1)
      have l5 := P5.live b e
      cases q : s5.heap.get? b with
      | none => exact absurd q l5
      | some o => rw [sb6 b o (fun z => by subst z; exact absurd (dead _ itf) e) q]; exact fun z => nomatch z
  exact codeAny_compStart_list loop (it_self (h := h4) it4 loop)

theorem NewL.pick {l : List V} {D : Addr} {h : Heap} {P : V → AH → Prop} (n : NewL H l P) (d : H D = none) (S : HOk C (H.set D (.list l)) h) : ∃ v H', Rep H' h (.ref D) v ∧ HOk C H' h ∧ Pres X0 (H.set D (.list l)) h H' h ∧ P v H' := by
  rcases n with n | n
  · have e := AH.set_self H D (.list l)
    refine ⟨.lst l, H, ?_, ?_, ?_, n⟩
    · have := S.frozen e; rwa [AH.del_set _ d] at this
    · have := S.del e; rwa [AH.del_set _ d] at this
    · have := Pres.del (X := X0) (H := H.set D (.list l)) (h := h) D; rwa [AH.del_set _ d] at this
  · exact ⟨.ref D, _, .ref D, S, Pres.refl _ _ _, n D d⟩

theorem Ev_Comp {elt iter : Expr} {x : Str} {px : Pos} {ifs : List Expr} {scope : Scope} {pos : Pos} (cl : List (Str × Addr)) (cls : Ls)
    (he : EnvOk env) (ha : A.handled = none) (cap : CapOk scope cl env cls ls)
    (h : Ev C A env iter ls H (CompI C A env elt ifs x scope cl cls (LstQ Q)))
    (hcell : ∀ y ∈ scope.names, y.2 ≠ .cell := by decide) (hkind : scope.kind = .function := by rfl)
    (hnames : ∀ y ∈ scope.names, y.2 = .local → scope.names.lookup y.1 = some .local := by decide) (hx : scope.names.lookup x = some .local := by decide)
    (hs : ∀ x, foldedSetIterable iter env x = pure x := by intro _; rfl) : Ev C A env (.ListComp elt [⟨.Name x px, iter, ifs, 0⟩] scope pos) ls H Q := fun s S => by
  show wpAny _ _ (eval _ env) _ _ _
  rw [eval_ListComp]
  refine comp_core (F := (LstQ Q)) he ha cap hcell hkind hnames hx h S (fun D C' acc H' s' m S' d P' T' n ns c1 c2 c3 c4 c5 c6 => ?_) hs
  refine ⟨m, ns, fun h' sb => ?_⟩
  obtain ⟨v, H2, rv, S2, P2, hq⟩ := n.pick d S'.ok
  have c7 : H2 C' = none := P2.outL c2 (Ns.live ns)
  have ni : ∀ o, s'.heap.get? C' = some o → ¬ Imm o := fun o e i => by
    obtain ⟨o', es, ep, e', dd, _⟩ := ns
    rw [e] at e'; cases e'
    rcases i with ⟨_, _, z⟩ | ⟨_, _, z⟩ <;> rw [dd] at z <;> cases z
  have kf : KeepF H2 s'.heap H2 h' := keepF_but sb.extBut ni
  have PP := P'.trans P2
  exact ⟨v, H2, rv.mono kf, S2.other sb c7 c3 kf, ⟨fun b o x n e => (sb.2 b fun z => by subst z; rw [c1] at e; cases e).trans (PP.keep b o x n e), PP.out, fun b e => by
    rw [sb.2 b fun z => by subst z; exact e c1]; exact PP.live b e⟩, T'.trans ⟨_, _, rfl⟩, hq⟩

theorem E1_AssignComp {elt iter : Expr} {x y : Str} {px py : Pos} {ifs : List Expr} {scope : Scope} {pos spos : Pos} (cl : List (Str × Addr)) (cls : Ls)
    (he : EnvOk env) (ha : A.handled = none) (hy : env.kindOf y = some .local) (cap : CapOk scope cl env cls ls)
    (h : Ev C A env iter ls H (CompI C A env elt ifs x scope cl cls (LstQ (AsgQ y ls N))))
    (hsw : swapsWith (.ListComp elt [⟨.Name x px, iter, ifs, 0⟩] scope pos) (some (.Name y py)) spos.line env = pure true)
    (hcell : ∀ y ∈ scope.names, y.2 ≠ .cell := by decide) (hkind : scope.kind = .function := by rfl)
    (hnames : ∀ y ∈ scope.names, y.2 = .local → scope.names.lookup y.1 = some .local := by decide) (hx : scope.names.lookup x = some .local := by decide)
    (hs : ∀ x, foldedSetIterable iter env x = pure x := by intro _; rfl) : E1 C A env (.Assign [.Name y py] (.ListComp elt [⟨.Name x px, iter, ifs, 0⟩] scope pos) spos) ls H R N := fun s S => by
  rw [exec_Assign_Name_used _ _ _ _ hsw]
  refine wpAny_bind (wpAny_standAt (wpAny_bind ?_))
  show wpAny _ A (do let _ ← comprehension (.ListComp elt [⟨.Name x px, iter, ifs, 0⟩] scope pos) scope env _ (newList []) false (eval iter env) (some (assign (.Name y py) env))) _ _ s
  refine wpAny_bind (wpAny_mono (comp_core (use := some (assign (.Name y py) env)) (P := fun _ s' => ExPost C env s H R N .next s') (F := (LstQ (AsgQ y ls N))) he ha cap hcell hkind hnames hx h S (fun D C' acc H' s' m S' d P' T' n ns c1 c2 c3 c4 c5 c6 => ?_) hs) (fun _ s' hq => wpAny_pure (wpAny_pure hq)) fun _ _ e => e)
  obtain ⟨v, H2, rv, S2, P2, hq⟩ := n.pick d S'.ok
  have c7 : H2 C' = none := P2.outL c2 (Ns.live ns)
  show wpAny _ A (assign (.Name y py) env (.ref D)) _ _ _
  refine wpAny_assign_Name (store_name he (S'.step S2 P2) rv hy fun s3 S3 P3 T3 => ?_)
  have ns3 : s3.heap.Ns C' m := Ns.keepAt ns fun o e => P3.keep _ o (fun z => by rcases z with z | ⟨x, z⟩; exact c4 z; exact c5 x z) c7 e
  refine ⟨m, ns3, fun h' sb => ?_⟩
  have ni : ∀ o, s3.heap.get? C' = some o → ¬ Imm o := fun o e i => by
    obtain ⟨o', es, ep, e', dd, _⟩ := ns3
    rw [e] at e'; cases e'
    rcases i with ⟨_, _, z⟩ | ⟨_, _, z⟩ <;> rw [dd] at z <;> cases z
  have PP := (P'.trans P2).own0.trans P3
  exact ⟨_, H2, S3.ext sb.extBut c7 c3 (keepF_but sb.extBut ni) c4 c5, ⟨fun b o x n e => (sb.2 b fun z => by subst z; rw [c1] at e; cases e).trans (PP.keep b o x n e), PP.out, fun b e => by
    rw [sb.2 b fun z => by subst z; exact e c1]; exact PP.live b e⟩, (T'.trans T3).trans ⟨_, _, rfl⟩, hq⟩
end

/- NmN -/
noncomputable def namesOf : List Expr → Option (List Str)
  | [] => some []
  | .Name x _ :: es => (namesOf es).map (x :: ·)
  | _ => none

noncomputable def pairsOf : List (Option Expr) → List Expr → Option (List (Int × Int))
  | [], [] => some []
  | some (.Constant (.int k) _ _) :: ks, .Constant (.int v) _ _ :: vs => (pairsOf ks vs).map ((k, v) :: ·)
  | _, _ => none

section
variable {C : Cx} {A : Around} {H : AH} {Q : V → AH → Prop} {env : Env} {ls : Ls} {s : Shared} {R : V → AH → Prop} {N : Ls → AH → Prop}

theorem store_any {x : Str} {v : V} {r : Value} {P : Shared → Prop} {E : Value → Shared → Prop} (he : EnvOk env) (S : Sat C env H s.heap ls) (hr : Rep H s.heap r v) (hk : env.kindOf x = some .local ∨ (env.kindOf x = some .cell ∧ ∃ c, env.cells.lookup x = some c))
    (h : ∀ s', Sat C env H s'.heap ((x, v) :: ls) → Pres (Own env) H s.heap H s'.heap → Stp s s' → P s') : wpAny (model C.prog C.w) A (storeName env x r) (fun _ s' => P s') E s := by
  rcases hk with hk | ⟨hk, c, hc⟩
  · exact store_name he S hr hk h
  · exact store_cell he S hr hk hc h

theorem store_targets (he : EnvOk env) (es : List Expr) : ∀ (names : List Str) (vs : List V) (rs : List Value) (ls : Ls) (s : Shared) (P : Shared → Prop) (E : Value → Shared → Prop), namesOf es = some names → Sat C env H s.heap ls → RepL H s.heap rs vs → names.length = vs.length →
    (∀ x ∈ names, env.kindOf x = some .local ∨ (env.kindOf x = some .cell ∧ ∃ c, env.cells.lookup x = some c)) →
    (∀ s', Sat C env H s'.heap ((names.zip vs).reverse ++ ls) → Pres (Own env) H s.heap H s'.heap → Stp s s' → P s') → wpAny (model C.prog C.w) A (assignInOrder ((assignEach es env).map (·.2)) rs) (fun _ s' => P s') E s := by
  induction es with
  | nil =>
    intro names vs rs ls s P E hn S x hl hk h
    cases hn
    cases x with
    | nil => exact wpAny_pure (h s S (Pres.refl _ _ _) (Stp.refl _))
    | cons _ _ => cases hl
  | cons e es ih =>
    intro names vs rs ls s P E hn S x hl hk h
    cases e <;> try (cases hn; done)
    rename_i y p
    simp only [namesOf, Option.map_eq_some_iff] at hn
    obtain ⟨ns, hn, rfl⟩ := hn
    cases x with
    | nil => cases hl
    | cons a b =>
      rename_i r v rs vs
      show wpAny _ _ (do holding rs (assign (.Name y p) env r); assignInOrder ((assignEach es env).map (·.2)) rs) _ _ _
      refine wpAny_bind (wpAny_holding (wpAny_assign_Name (store_any he S a (hk y (.head _)) fun s1 S1 P1 T1 => ?_)))
      refine ih ns vs rs _ s1 P E hn S1 (b.mono (P1.keepF (Own.notImm S))) (by simpa using hl) (fun z m => hk z (.tail _ m)) fun s2 S2 P2 T2 => ?_
      refine h s2 ?_ (P1.trans P2) (T1.trans T2)
      have e : ((y :: ns).zip (v :: vs)).reverse ++ ls = (ns.zip vs).reverse ++ (y, v) :: ls := by simp
      rw [e]; exact S2

theorem namesOf_each {es : List Expr} : ∀ {names : List Str}, namesOf es = some names → (assignEach es env).length = names.length ∧ (assignEach es env).findIdx? (·.1) = none := by
  induction es with
  | nil => intro names hn; cases hn; exact ⟨rfl, rfl⟩
  | cons e es ih =>
    intro names hn
    cases e <;> try (cases hn; done)
    simp only [namesOf, Option.map_eq_some_iff] at hn
    obtain ⟨ns, hn, rfl⟩ := hn
    obtain ⟨a, b⟩ := ih hn
    constructor
    · show _ + 1 = _ + 1
      rw [a]
    · rw [show assignEach (Expr.Name _ _ :: es) env = (false, _) :: assignEach es env from rfl, List.findIdx?_cons]
      simp only [Bool.false_eq_true, if_false, b]
      rfl

/-- a tuple's value, to names -/
theorem assign_tup {es : List Expr} {k tp} {names : List Str} {ws : List V} {r : Value} {P : Shared → Prop} {E : Value → Shared → Prop} (he : EnvOk env) (ha : A.handled = none) (hn : namesOf es = some names) (hl : names.length = ws.length)
    (hk : ∀ x ∈ names, env.kindOf x = some .local ∨ (env.kindOf x = some .cell ∧ ∃ c, env.cells.lookup x = some c)) (S : Sat C env H s.heap ls) (x : Rep H s.heap r (.tup ws))
    (h : ∀ s', Sat C env H s'.heap ((names.zip ws).reverse ++ ls) → Pres (Own env) H s.heap H s'.heap → Stp s s' → P s') : wpAny (model C.prog C.w) A (assign (.Tuple es k tp) env r) (fun _ s' => P s') E s := by
  cases x with
  | tup t n y =>
    rename_i a items m
    have el := y.length
    simp only [Array.length_toList] at el
    obtain ⟨n1, n2⟩ := namesOf_each (env := env) hn
    refine wpAny_assign_Tuple ha ⟨_, t, rfl, _, rfl⟩ (by rw [n1]; exact Nat.le_antisymm (lq2 [_, _, _] (.eq 1 (.v 0) (.v 2)) (.qe 1 (.v 1) (.v 2)) 1 (.v 0) (.v 1) rfl hl el) (lq2 [_, _, _] (.qe 1 (.v 1) (.v 2)) (.eq 1 (.v 0) (.v 2)) 1 (.v 0) (.v 1) rfl hl el)) n2 fun h' ext => ?_
    have kk : ∀ b o, s.heap.get? b = some o → h'.get? b = some o := fun b o e => ext b o (Nat.ne_of_lt (Heap.lt_size e)) e
    have S3 := S.step (S.ok.grow kk) (Pres.grow kk)
    refine store_targets he es names ws _ _ _ P E hn S3 (y.mono (Pres.grow (X := X0) (H := H) kk).keepF0) hl hk fun s4 S4 P4 T4 => ?_
    exact h s4 S4 ((Pres.grow kk).trans P4) (Stp.trans ⟨_, _, rfl⟩ T4)

inductive UnpQ (names : List Str) (N : Ls → AH → Prop) (ls : Ls) (v : V) (H1 : AH) : Prop
  | mk (ws) : v = .tup ws → names.length = ws.length → N ((names.zip ws).reverse ++ ls) H1 → UnpQ names N ls v H1
inductive ForT (C : Cx) (A : Around) (env : Env) (body : List Stmt) (names : List Str) (R : V → AH → Prop) (N : Ls → AH → Prop) (ls : Ls) (v : V) (H1 : AH) : Prop
  | mk (l : List (List V)) (I : Nat → Ls → AH → Prop) : v = .lst (l.map .tup) → I 0 ls H1 → (∀ ws ∈ l, names.length = ws.length) →
      (∀ i ws ls' H', l[i]? = some ws → I i ls' H' → Ex C A env body ((names.zip ws).reverse ++ ls') H' R (SubN (I (i + 1)))) → (∀ ls' H', I l.length ls' H' → N ls' H') → ForT C A env body names R N ls v H1
inductive DicQ (Q : V → AH → Prop) (i : V) (H1 : AH) : Prop
  | mk (k w) : i = .int k → ([(4, 13), (5, 14), (6, 12)] : List (Int × Int)).lookup k = some w → Q (.int w) H1 → DicQ Q i H1
theorem E1_Unpack {es : List Expr} {k tp pos} {value : Expr} {names : List Str} (he : EnvOk env) (ha : A.handled = none) (hn : namesOf es = some names)
    (hk : ∀ x ∈ names, env.kindOf x = some .local ∨ (env.kindOf x = some .cell ∧ ∃ c, env.cells.lookup x = some c)) (h : Ev C A env value ls H (UnpQ names N ls))
    (hw : swappedStores [.Tuple es k tp] value env = pure none) (hs : swapsWithSole [.Tuple es k tp] value pos.line env = pure false := by rfl) : E1 C A env (.Assign [.Tuple es k tp] value pos) ls H R N := fun s S => by
  refine Assign_Tuple (Fin.seq (h s S) fun r v s1 H1 x1 S1 P1 T1 h1 => ?_) hs hw
  obtain ⟨ws, rfl, hl, hq⟩ := h1
  refine assign_tup he ha hn hl hk (S.step S1 P1) x1 fun s2 S2 P2 T2 => ?_
  exact ⟨_, H1, S2, P1.own0.trans P2, T1.trans T2, hq⟩

theorem letGo_iter {v : V} {it : Addr} {l : List V} {i : Nat} {target : Expr} {r : Value} {P : Unit → Shared → Prop} {E : Value → Shared → Prop} (x : ItK H s.heap it v l i) (h : P () s) : wpAny (model C.prog C.w) A (letOwnedTupleGo target (.ref it) r) P E s := by
  have base : ∀ (o : Obj) (n : String), s.heap.get? it = some o → o.cls = .type n → (["enumerate", "zip", "dict_itemiterator", "dict_reverseitemiterator", "odict_iterator", "itertools.zip_longest", "itertools.pairwise"] : List String).contains n = false →
      wpAny (model C.prog C.w) A (letOwnedTupleGo target (.ref it) r) P E s := fun o n e ec nc => by
    obtain ⟨c, d, dt, sl⟩ := o
    dsimp only at ec
    subst ec
    have body : ∀ a, wpAny (model C.prog C.w) A (load it >>= fun o => match o.cls, o.data with
        | .type n, .fields vs => (if (["enumerate", "zip", "dict_itemiterator", "dict_reverseitemiterator", "odict_iterator", "itertools.zip_longest", "itertools.pairwise"] : List String).contains n && vs[0]? == some (rawInt a) then (do rule "for.unpacks-the-owned-tuple"; updateField it 0 .none) else pure ())
        | _, _ => pure ()) P E s := fun a => by
      refine wpAny_bind (wpAny_load e ?_)
      dsimp only
      cases dt with
      | fields vs => dsimp only; rw [nc, Bool.false_and, if_neg Bool.false_ne_true]; exact wpAny_pure h
      | _ => exact wpAny_pure h
    unfold letOwnedTupleGo
    cases target with
    | Tuple =>
      cases r with
      | ref a => exact body a
      | _ => exact wpAny_pure h
    | List =>
      cases r with
      | ref a => exact body a
      | _ => exact wpAny_pure h
    | _ => exact wpAny_pure h
  cases x with
  | lf a b c d => obtain ⟨o, e, f, g⟩ := a; exact base o _ e f (by decide)
  | lm a b => obtain ⟨o, e, f, g⟩ := a; exact base o _ e f (by decide)
  | tp a b c d => obtain ⟨o, e, f, g⟩ := a; exact base o _ e f (by decide)
  | rg a => exact base _ _ a rfl (by decide)

/-- a for whose target is a tuple of names, over tuples -/
theorem E1_ForTup {es : List Expr} {k tp} {iter : Expr} {body : List Stmt} {pos} {names : List Str} (he : EnvOk env) (ha : A.handled = none) (hn : namesOf es = some names) (hk : ∀ x ∈ names, env.kindOf x = some .local)
    (h : Ev C A env iter ls H (ForT C A env body names R N ls))
    (hs : ∀ x, foldedSetIterable iter env x = pure x := by intro _; rfl) : E1 C A env (.For (.Tuple es k tp) iter body [] pos) ls H R N := by
  refine for_core ha (fun w ls' => match w with | .tup ws => (names.zip ws).reverse ++ ls' | _ => ls') (fun w => ∃ ws, w = .tup ws ∧ names.length = ws.length) (fun it r w ls' H' s' P E hw S' x' n' hx k => ?_) (Ev.cons h fun v H1 q => ?_) hs
  · obtain ⟨ws, rfl, hl⟩ := hw
    obtain ⟨v, l, i, x⟩ := hx
    exact letGo_iter x (assign_tup he ha hn hl (fun x m => .inl (hk x m)) S' x' k)
  · obtain ⟨l, I, rfl, i0, hl, turn, fin⟩ := q
    refine ⟨l.map .tup, I, i0, fun w m => ?_, fun i ls' H' _ => .lst _, fun i w ls' H' e iI => ?_, fun ls' H' iI => fin ls' H' (by simpa using iI)⟩
    · obtain ⟨ws, mm, rfl⟩ := List.mem_map.mp m
      exact ⟨ws, rfl, hl ws mm⟩
    · rw [List.getElem?_map, Option.map_eq_some_iff] at e
      obtain ⟨ws, e, rfl⟩ := e
      exact turn i ws ls' H' e iI

set_option maxHeartbeats 4000000 in
/-- {4: 13, 5: 14, 6: 12}[..] -/
theorem Ev_Dict456 {slice : Expr} {p pos : Pos} {a1 a2 a3 b1 b2 b3 : Nat} {p1 p2 p3 q1 q2 q3 : Pos}
    (h : Ev C A env slice ls H (DicQ Q))
    (hs : ∀ a k u, subscripted slice false (.ref a) (.int k u) = operate [.ref a, .int k u] (getItem (.ref a) (.int k u)) := by intro _ _ _; with_unfolding_all rfl) :
    Ev C A env (.Subscript (.Dict [some (.Constant (.int 4) a1 p1), some (.Constant (.int 5) a2 p2), some (.Constant (.int 6) a3 p3)] [.Constant (.int 13) b1 q1, .Constant (.int 14) b2 q2, .Constant (.int 12) b3 q3] p) slice pos) ls H Q := fun s S => by
  show wpAny (model C.prog C.w) A _ _ _ s
  with_reducible refine Subscript_ ?_
  with_reducible refine wpAny_Dict_walk (knd := PySem.intKind C.prog C.w) ?_ ?_ ?_ ?_ ?_
  · rfl
  · rfl
  · simp
  · show 3 ≤ 15; decide
  refine evalPairs_cons (wpAny_Constant_int (wpAny_bind (wpAny_Constant_int (wpAny_bind (wpAny_standAt (wpAny_pure ?_))))))
  refine evalPairs_cons (wpAny_Constant_int (wpAny_bind (wpAny_Constant_int (wpAny_bind (wpAny_standAt (wpAny_pure ?_))))))
  refine evalPairs_cons (wpAny_Constant_int (wpAny_bind (wpAny_Constant_int (wpAny_bind (wpAny_standAt (wpAny_pure ?_))))))
  refine evalPairs_nil ?_
  refine ⟨[(4, _), (5, _), (6, _)], ⟨PySem.intKind_is C.prog C.w _ _, rfl, PySem.intKind_is C.prog C.w _ _, rfl, PySem.intKind_is C.prog C.w _ _, rfl, trivial⟩, ?_, fun h' D' sb => ?_⟩
  · exact ⟨emptyDict, #[], 0, Heap.get?_push_size _ rfl, ⟨rfl, rfl, rfl⟩, rfl, fun e he => by simp at he, .nil, by simp⟩
  · have k : ∀ b o, s.heap.get? b = some o → h'.get? b = some o := fun b o e => (sb.2 b fun z => by subst z; rw [get?_size] at e; cases e).trans (push_keep _ _ _ _ e)
    have S1 := S.step (S.ok.grow k) (Pres.grow k)
    refine Fin.seq (h ⟨h', s.gens, s.drawn, _, s.os⟩ S1) fun r i s2 H2 x2 S2 P2 T2 h2 => ?_
    obtain ⟨k2, w, rfl, hl, hq⟩ := h2
    obtain ⟨t, rfl⟩ := x2.int_inv
    have nd : H s.heap.objs.size = none := S.ok.none_of_dead (get?_size _)
    obtain ⟨t1, t2, t3, D1⟩ : ∃ t1 t2 t3, h'.DictOf (PySem.intKind C.prog C.w) s.heap.objs.size [(4, .int 13 t1), (5, .int 14 t2), (6, .int 12 t3)] := ⟨_, _, _, D'⟩
    have D2 : s2.heap.DictOf (PySem.intKind C.prog C.w) s.heap.objs.size [(4, .int 13 t1), (5, .int 14 t2), (6, .int 12 t3)] := by
      obtain ⟨o, es, ep, q, r⟩ := D1
      exact ⟨o, es, ep, P2.keep _ o (fun z => z) nd q, r⟩
    have fin : ∀ u, Post Rep C s H Q (.int w u) { s2 with toks := s2.toks + 1 } := fun u => Post.from ((Pres.grow k).trans P2) (Stp.trans ⟨_, _, rfl⟩ T2) (Post.here S2 _ (.int _ _) hq)
    refine tail_any D2.mapOf.typeIs slot_dict_getitem.lookup ?_ (hs _ _ _)
    have cases3 : (k2 = 4 ∧ w = 13) ∨ (k2 = 5 ∧ w = 14) ∨ (k2 = 6 ∧ w = 12) := by
      simp only [List.lookup_cons, List.lookup_nil] at hl
      by_cases e4 : k2 = 4
      · subst e4; simp at hl; exact .inl ⟨rfl, hl.symm⟩
      · by_cases e5 : k2 = 5
        · subst e5; simp at hl; exact .inr (.inl ⟨rfl, hl.symm⟩)
        · by_cases e6 : k2 = 6
          · subst e6; simp at hl; exact .inr (.inr ⟨rfl, hl.symm⟩)
          · have f4 : (k2 == 4) = false := beq_false_of_ne e4
            have f5 : (k2 == 5) = false := beq_false_of_ne e5
            have f6 : (k2 == 6) = false := beq_false_of_ne e6
            rw [f4, f5, f6] at hl; cases hl
    rcases cases3 with ⟨rfl, rfl⟩ | ⟨rfl, rfl⟩ | ⟨rfl, rfl⟩
    · exact wpAny_getItem_of (PySem.intKind_is C.prog C.w _ _) D2.mapOf (by rfl) (fin _)
    · exact wpAny_getItem_of (PySem.intKind_is C.prog C.w _ _) D2.mapOf (by rfl) (fin _)
    · exact wpAny_getItem_of (PySem.intKind_is C.prog C.w _ _) D2.mapOf (by rfl) (fin _)

/-- two tuples joined, neither empty -/
theorem Bo_add_tup {a b : List V} (ha : a ≠ []) (hb : b ≠ []) (hz : a.length + b.length ≤ sizeLine) (h : Q (.tup (a ++ b)) H) : Bo C A (binaryOp .Add) (.tup a) (.tup b) H Q := fun s ra rb S x y => by
  cases x with
  | tup t n xa =>
    cases y with
    | tup t' n' xb =>
      rename_i p1 i1 m1 p2 i2 m2
      have e1 := xa.length
      have e2 := xb.length
      simp only [Array.length_toList] at e1 e2
      have l1 : a.length ≠ 0 := fun z => ha (List.length_eq_zero_iff.mp z)
      have l2 : b.length ≠ 0 := fun z => hb (List.length_eq_zero_iff.mp z)
      refine P.add_tuple t t' (by simp [Array.isEmpty_iff]; intro z; subst z; simp at e1; lia) (by simp [Array.isEmpty_iff]; intro z; subst z; simp at e2; lia) ?_ (lq3 [_, _, _, _, _] (.le 1 (.a (.v 3) (.v 4)) (.v 2)) (.eq 1 (.v 0) (.v 3)) (.eq 1 (.v 1) (.v 4)) 1 (.a (.v 0) (.v 1)) (.v 2) rfl hz e1 e2)
      refine post_newT (s' := { s with heap := s.heap.push _ }) (items := i1 ++ i2) (n := 0) S (push_keep _ _) (get?_size _) (Heap.get?_push_size _ rfl) ?_ ⟨_, _, rfl⟩ h
      rw [Array.toList_append]; exact xa.append xb
end

/- NmO -/
section
variable {C : Cx} {A : Around} {H : AH} {Q : V → AH → Prop} {env : Env} {ls : Ls} {s : Shared} {R : V → AH → Prop} {N : Ls → AH → Prop}

/-- two places of the loop's own turn -/
theorem keepF_but2 {h h' : Heap} {a b : Addr} (k : ∀ c o, c ≠ a → c ≠ b → h.get? c = some o → h'.get? c = some o) (ia : ∀ o, h.get? a = some o → ¬ Imm o) (ib : ∀ o, h.get? b = some o → ¬ Imm o) : KeepF H h H h' := fun c o m n e =>
  ⟨k c o (fun q => by subst q; exact ia o e m) (fun q => by subst q; exact ib o e m) e, n⟩
theorem HOk.ext2 {h h' : Heap} {a a2 : Addr} (S : HOk C H h) (sb : ∀ c o, c ≠ a → c ≠ a2 → h.get? c = some o → h'.get? c = some o) (ha : H a = none) (ha2 : H a2 = none) (hb : C.h0.get? a = none) (hb2 : C.h0.get? a2 = none) (kf : KeepF H h H h') : HOk C H h' := by
  have ke : ∀ b, b ≠ a → b ≠ a2 → (∃ o, h.get? b = some o) → h'.get? b = h.get? b := fun b n n2 ⟨o, e⟩ => by rw [e]; exact sb b o n n2 e
  refine ⟨fun b o e => sb b o (fun q => by subst q; rw [hb] at e; cases e) (fun q => by subst q; rw [hb2] at e; cases e) (S.base b o e), fun b o e => ?_, S.apart, S.dict, S.one⟩
  have x := S.objs b o e
  refine x.mono kf (ke b (fun q => by subst q; rw [ha] at e; cases e) (fun q => by subst q; rw [ha2] at e; cases e) x.live) fun dx fs w => ?_
  subst w
  exact ke dx (fun q => by subst q; have := S.dict _ _ _ e; rw [ha] at this; cases this) (fun q => by subst q; have := S.dict _ _ _ e; rw [ha2] at this; cases this) x.2.live
theorem Sat.ext2 {h h' : Heap} {a a2 : Addr} (S : Sat C env H h ls) (sb : ∀ c o, c ≠ a → c ≠ a2 → h.get? c = some o → h'.get? c = some o) (ha : H a = none) (ha2 : H a2 = none) (hb : C.h0.get? a = none) (hb2 : C.h0.get? a2 = none) (kf : KeepF H h H h')
    (hl : a ≠ env.locals) (hl2 : a2 ≠ env.locals) (hc : ∀ x, env.cells.lookup x ≠ some a) (hc2 : ∀ x, env.cells.lookup x ≠ some a2) : Sat C env H h' ls := by
  obtain ⟨m, F, hv⟩ := S.ns
  refine ⟨S.ok.ext2 sb ha ha2 hb hb2 kf, S.own, S.off, ⟨m, Ns.keepAt F fun o e => sb _ o (Ne.symm hl) (Ne.symm hl2) e, fun x v e => ?_⟩, fun x c e => ?_, S.inj⟩
  · rcases hv x v e with ⟨a1, r, b, c⟩ | ⟨a1, c, r, b, g, i⟩
    · exact .inl ⟨a1, r, b, c.mono kf⟩
    · exact .inr ⟨a1, c, r, b, IsCell.keepAt g fun o e => sb _ o (fun q => by subst q; exact hc _ b) (fun q => by subst q; exact hc2 _ b) e, i.mono kf⟩
  · obtain ⟨a1, b, d, v, g⟩ := S.cel x c e
    exact ⟨a1, b, d, v, IsCell.keepAt g fun o z => sb _ o (fun q => by subst q; exact hc _ e) (fun q => by subst q; exact hc2 _ e) z⟩

inductive EnuI (C : Cx) (A : Around) (env : Env) (body : List Stmt) (x y : Str) (R : V → AH → Prop) (N : Ls → AH → Prop) (ls : Ls) (v : V) (H1 : AH) : Prop
  | mk (l) (I : Nat → Ls → AH → Prop) : v = .lst l → I 0 ls H1 →
      (∀ i w ls' H', l[i]? = some w → I i ls' H' → Ex C A env body ((y, w) :: (x, .int i) :: ls') H' R (SubN (I (i + 1)))) → (∀ ls' H', I l.length ls' H' → N ls' H') → EnuI C A env body x y R N ls v H1
inductive EnuSt (C : Cx) (env : Env) (H : AH) (s : Shared) (it a : Addr) (items : Array Value) (m : Nat) (l : List V) (I : Nat → Ls → AH → Prop) (i : Nat) (s' : Shared) : Prop
  | mk (ls' H' old) : i ≤ l.length → Sat C env H' s'.heap ls' → Pres (Own env) H s.heap H' s'.heap → Stp s s' → H' it = none → H' (it + 1) = none → H' a = none → IsEnum s'.heap (it + 1) it i old → s'.heap.IsListIter it a i → IsL s'.heap a items m →
      RepL H' s'.heap items.toList l → I i ls' H' → EnuSt C env H s it a items m l I i s'
/-- for i, x in enumerate(..): a list that stays -/
theorem E1_ForEnum {x y : Str} {px py tp p pos cpos : Pos} {k : Nat} {arg : Expr} {body : List Stmt} (hC : CxOk C) (he : EnvOk env) (ha : A.handled = none) (hx : env.kindOf x = some .local) (hy : env.kindOf y = some .local)
    (hk : env.kindOf "enumerate" = some .globalImplicit) (hg : nsIn C.K mainGlobals "enumerate" = some none) (hb : bootBuiltins "enumerate" = some (.type "enumerate"))
    (h : Ev C A env arg ls H (EnuI C A env body x y R N ls))
    (hs0 : noStar [arg] = true := by rfl) (ha0 : (backTo cpos (starEach [arg] env)).any (·.1) = false := by rfl)
    (hs : ∀ z, foldedSetIterable (.Call (.Name "enumerate" p) [arg] [] cpos) env z = pure z := by intro _; rfl) :
    E1 C A env (.For (.Tuple [.Name x px, .Name y py] k tp) (.Call (.Name "enumerate" p) [arg] [] cpos) body [] pos) ls H R N := fun s S => by
  refine wpAny_For (Call_Name rfl (Fin.seq (Ev_bi (Q := fun v H1 => v = .ty "enumerate" ∧ H1 = H) hC he hk hg hb (by decide) (fun _ _ => .ty _) ⟨rfl, rfl⟩ (by decide) s S) fun r v s0 H0 x0 S0 P0 T0 h0 => ?_)) hs
  obtain ⟨rfl, rfl⟩ := h0
  cases x0
  refine PyProof.Rows.callWith_type ha0 (evalArgs_evs (Q := fun vs H1 => ∃ v, vs = [v] ∧ EnuI C A env body x y R N ls v H1) (Ev.cons h fun v H1 q => ⟨v, rfl, q⟩) hs0 (S.step S0 P0) fun rs vs s1 H1 xx S1 P1 T1 h1 => ?_)
  obtain ⟨v, rfl, l, I, rfl, i0, turn, fin⟩ := h1
  obtain ⟨r, rfl, x1⟩ := xx.one
  cases x1 with
  | lst tl nl yl =>
  rename_i a items m
  have P1 := P0.trans P1
  have T1 := T0.trans T1
  have Sa := S.step S1 P1
  refine call_enumerate_list tl.isList fun h2 en2 it2 sz2 k2 => ?_
  generalize hE : s1.heap.objs.size = it at en2 it2
  have itf : s1.heap.get? it = none := by rw [← hE]; exact get?_size _
  have ef : s1.heap.get? (it + 1) = none := by rw [← hE]; exact get?_above _ (Nat.le_succ _)
  have ne : it + 1 ≠ it := Nat.succ_ne_self _
  refine wpAny_pyIter_enum (s := { s1 with heap := h2 }) en2 ?_
  have S2 : Sat C env H1 h2 ls := Sa.step (S1.grow k2) (Pres.grow k2)
  have itn : H1 it = none := S1.none_of_dead itf
  have en : H1 (it + 1) = none := S1.none_of_dead ef
  have bI : C.h0.get? it = none := S1.base_none itf
  have bE : C.h0.get? (it + 1) = none := S1.base_none ef
  have dead : ∀ b, s1.heap.get? b = none → s.heap.get? b = none := fun b e => by
    cases q : s.heap.get? b with
    | none => rfl
    | some o => exact absurd e (P1.live b (by rw [q]; exact fun z => nomatch z))
  have Lne : ∀ b, s1.heap.get? b = none → b ≠ env.locals := fun b e q => by
    obtain ⟨m, F, _⟩ := Sa.ns
    exact Ns.live F (q ▸ e)
  have Cne : ∀ b, s1.heap.get? b = none → ∀ x, env.cells.lookup x ≠ some b := fun b e x q => by
    obtain ⟨_, _, _, v, g⟩ := Sa.cel x b q
    exact IsCell.live g e
  have noOwn : ∀ b, s1.heap.get? b = none → ¬ Own env b := fun b e q => by
    rcases q with q | ⟨x, q⟩
    · exact Lne b e q
    · exact Cne b e x q
  have hal : a ≠ it := fun z => by subst z; rw [tl] at itf; cases itf
  have hae : a ≠ it + 1 := fun z => by subst z; rw [tl] at ef; cases ef
  have ll := yl.length
  simp only [Array.length_toList] at ll
  refine codeAny_forLoop_any (fun n s' => ∃ i, n = l.length - i ∧ EnuSt C env H0 s it a items m l I i s') (fun n s3 q => ?_) l.length
    ⟨0, rfl, ls, H1, .none, Nat.zero_le _, S2, P1.own0.trans (Pres.grow k2), T1.trans ⟨_, _, rfl⟩, itn, en, nl, en2, it2, k2 _ _ tl, yl.mono (Pres.grow (X := X0) k2).keepF0, i0⟩
  obtain ⟨i, rfl, ls3, H3, old, hi, S3, P3, T3, n3, e3, a3, en3, it3, tl3, yl3, I3⟩ := q
  have ie : ∀ o, s3.heap.get? (it + 1) = some o → ¬ Imm o := fun o e z => by
    rw [en3] at e; cases e
    rcases z with ⟨_, _, z⟩ | ⟨z, _⟩
    · cases z
    · exact absurd (Value.type.inj z) (by decide)
  have ii : ∀ o, s3.heap.get? it = some o → ¬ Imm o := fun o e z => by
    obtain ⟨o', e', f, g⟩ := it3
    rw [e] at e'; cases e'
    rcases z with ⟨_, _, z⟩ | ⟨z, _⟩
    · rw [g] at z; cases z
    · rw [f] at z; exact absurd (Value.type.inj z) (by decide)
  by_cases hlt : i < l.length
  · have hw : l[i]? = some l[i] := by simp [hlt]
    obtain ⟨r, er, yr⟩ := yl3.get hw
    refine wpAny_pyNext_enum_item en3 it3 tl3.isList (by simpa using er) ne fun h4 en4 it4 tp4 sz4 k4 => ?_
    have k4' : ∀ c o, c ≠ it → c ≠ it + 1 → s3.heap.get? c = some o → h4.get? c = some o := fun c o c1 c2 e => k4 c o c2 c1 e
    have kf4 : KeepF H3 s3.heap H3 h4 := keepF_but2 k4' ii ie
    have S4 : Sat C env H3 h4 ls3 := S3.ext2 k4' n3 e3 bI bE kf4 (Lne _ itf) (Lne _ ef) (Cne _ itf) (Cne _ ef)
    have P4 : Pres (Own env) H0 s.heap H3 h4 := ⟨fun b o no nn e => k4' b o (fun q => by subst q; rw [dead _ itf] at e; cases e) (fun q => by subst q; rw [dead _ ef] at e; cases e) (P3.keep b o no nn e), P3.out, fun b e => by
      have l3 := P3.live b e
      cases q : s3.heap.get? b with
      | none => exact absurd q l3
      | some o => rw [k4' b o (fun z => by subst z; exact e (dead _ itf)) (fun z => by subst z; exact e (dead _ ef)) q]; exact fun z => nomatch z⟩
    have d3 : s3.heap.get? s3.heap.objs.size = none := get?_size _
    refine wpAny_letOwnedTupleGo_enum en4 fun h5 en5 sb5 => ?_
    dsimp only at sb5
    have ie4 : ∀ o, h4.get? (it + 1) = some o → ¬ Imm o := fun o e z => by
      rw [en4] at e; cases e
      rcases z with ⟨_, _, z⟩ | ⟨z, _⟩
      · cases z
      · exact absurd (Value.type.inj z) (by decide)
    have kf5 : KeepF H3 h4 H3 h5 := keepF_but sb5.extBut ie4
    have S5 : Sat C env H3 h5 ls3 := S4.ext sb5.extBut e3 bE kf5 (Lne _ ef) (Cne _ ef)
    have P5 : Pres (Own env) H0 s.heap H3 h5 := ⟨fun b o no nn e => sb5.extBut b o (fun q => by subst q; rw [dead _ ef] at e; cases e) (P4.keep b o no nn e), P4.out, fun b e => by
      by_cases q : b = it + 1
      · subst q; exact absurd (dead _ ef) e
      · rw [sb5.2 b q]; exact P4.live b e⟩
    have tne : s3.heap.objs.size ≠ it + 1 := fun z => by rw [z] at d3; rw [en3] at d3; cases d3
    have tp5 : IsT h5 s3.heap.objs.size #[.int i s3.toks, r] 0 := sb5.extBut _ _ tne tp4
    have hT : Rep H3 h5 (.ref s3.heap.objs.size) (.tup [.int i, l[i]]) := .tup tp5 (S3.ok.none_of_dead d3) (.cons (.int _ _) (.cons ((yr.mono kf4).mono kf5) .nil))
    refine assign_tup (s := ⟨h5, s3.gens, s3.drawn, s3.toks + 1, s3.os⟩) (names := [x, y]) he ha rfl rfl (by intro z hz; simp at hz; rcases hz with rfl | rfl; exact .inl hx; exact .inl hy) S5 hT fun s6 S6 P6 T6 => ?_
    have en6 : IsEnum s6.heap (it + 1) it ((i : Int) + 1) r := P6.keep _ _ (noOwn _ ef) e3 en5
    have it5 : h5.IsListIter it a (i + 1) := IsListIter.at' it4 fun o e => sb5.extBut _ o (Ne.symm ne) e
    have it6 : s6.heap.IsListIter it a (i + 1) := IsListIter.at' it5 fun o e => P6.keep _ o (noOwn _ itf) n3 e
    have kf6 := P6.keepF (Own.notImm S5)
    have tl6 : IsL s6.heap a items m := (kf6 a _ (.inl ⟨_, _, rfl⟩) a3 (kf5 a _ (.inl ⟨_, _, rfl⟩) a3 (kf4 a _ (.inl ⟨_, _, rfl⟩) a3 tl3).1).1).1
    have yl6 := ((yl3.mono kf4).mono kf5).mono kf6
    refine wpAny_mono (turn i _ ls3 H3 hw I3 s6 S6) (fun fl s7 q => ?_) fun _ _ x => x.elim
    cases fl with
    | next =>
      obtain ⟨ls7, H7, S7, P7, T7, ls8, sub, i8⟩ := q
      obtain ⟨oi, ei, _⟩ := it6
      have kf7 := P7.keepF (Own.notImm S6)
      have q7 := kf7 a _ (.inl ⟨_, _, rfl⟩) a3 tl6
      refine ⟨l.length - (i + 1), by omega, i + 1, rfl, ls8, H7, r, hlt, S7.sub sub, (P5.trans P6).trans P7, (T3.trans (Stp.trans ⟨_, _, rfl⟩ T6)).trans T7, P7.out _ _ n3 ei, P7.out _ _ e3 en6, q7.2, ?_, IsListIter.at' ⟨oi, ei, ‹_›⟩ fun o e => P7.keep _ o (noOwn _ itf) n3 e, q7.1, yl6.mono kf7, i8⟩
      have := P7.keep _ _ (noOwn _ ef) e3 en6
      push_cast
      exact this
    | ret r =>
      obtain ⟨v, H7, a7, b7, P7, T7, h7⟩ := q
      exact ⟨v, H7, a7, b7, (P5.trans P6).trans P7, (T3.trans (Stp.trans ⟨_, _, rfl⟩ T6)).trans T7, h7⟩
    | brk => exact q.elim
    | cont => exact q.elim
  · have e : i = l.length := by omega
    subst e
    refine wpAny_pyNext_enum_end ha en3 it3 tl3.isList (by simp; omega) fun h4 sb4 => wpAny_execs_nil ?_
    refine ⟨ls3, H3, S3.ext sb4 n3 bI (keepF_but sb4 ii) (Lne _ itf) (Cne _ itf), ⟨fun b o no nn e => sb4 b o (fun q => by subst q; rw [dead _ itf] at e; cases e) (P3.keep b o no nn e), P3.out, fun b e => ?_⟩, T3.trans ⟨_, _, rfl⟩, fin _ _ I3⟩
    have l3 := P3.live b e
    cases q : s3.heap.get? b with
    | none => exact absurd q l3
    | some o => rw [sb4 b o (fun z => by subst z; exact e (dead _ itf)) q]; exact fun z => nomatch z
end

/- NmP -/
structure Bs where
  prog : Program
  w : World
  p : Program
  loose : List Str
  mg : Str → Option Value
  mb : Str → Option Value
  h0 : Heap

noncomputable abbrev cx (b : Bs) : Cx := ⟨b.prog, b.w, hd.heap_1 b.w.params, b.p, b.loose, b.mg, b.mb, b.h0, 52⟩

section
variable {b : Bs}

theorem fd_pieces_of : FdOk (cx b).K 63 := ⟨by rfl, by rfl, by rfl, by rfl, by rfl, by rfl, by rfl, by rfl⟩
theorem fd_put_pieces : FdOk (cx b).K 70 := ⟨by rfl, by rfl, by rfl, by rfl, by rfl, by rfl, by rfl, by rfl⟩
theorem fd_body_of : FdOk (cx b).K 77 := ⟨by rfl, by rfl, by rfl, by rfl, by rfl, by rfl, by rfl, by rfl⟩
theorem fd_is_named : FdOk (cx b).K 84 := ⟨by rfl, by rfl, by rfl, by rfl, by rfl, by rfl, by rfl, by rfl⟩
theorem fd_lower_labels : FdOk (cx b).K 89 := ⟨by rfl, by rfl, by rfl, by rfl, by rfl, by rfl, by rfl, by rfl⟩
theorem fd_cut_empty : FdOk (cx b).K 96 := ⟨by rfl, by rfl, by rfl, by rfl, by rfl, by rfl, by rfl, by rfl⟩
theorem fd_open_blocks : FdOk (cx b).K 103 := ⟨by rfl, by rfl, by rfl, by rfl, by rfl, by rfl, by rfl, by rfl⟩
theorem fd_law_next : FdOk (cx b).K 110 := ⟨by rfl, by rfl, by rfl, by rfl, by rfl, by rfl, by rfl, by rfl⟩
theorem fd_law_op : FdOk (cx b).K 117 := ⟨by rfl, by rfl, by rfl, by rfl, by rfl, by rfl, by rfl, by rfl⟩
theorem fd_law_output : FdOk (cx b).K 124 := ⟨by rfl, by rfl, by rfl, by rfl, by rfl, by rfl, by rfl, by rfl⟩
theorem fd_law_branch : FdOk (cx b).K 129 := ⟨by rfl, by rfl, by rfl, by rfl, by rfl, by rfl, by rfl, by rfl⟩
theorem fd_law_block : FdOk (cx b).K 136 := ⟨by rfl, by rfl, by rfl, by rfl, by rfl, by rfl, by rfl, by rfl⟩
theorem fd_law_list : FdOk (cx b).K 143 := ⟨by rfl, by rfl, by rfl, by rfl, by rfl, by rfl, by rfl, by rfl⟩
theorem fd_law_flat : FdOk (cx b).K 148 := ⟨by rfl, by rfl, by rfl, by rfl, by rfl, by rfl, by rfl, by rfl⟩
theorem fd_law_goals : FdOk (cx b).K 155 := ⟨by rfl, by rfl, by rfl, by rfl, by rfl, by rfl, by rfl, by rfl⟩
theorem fd_law_opened : FdOk (cx b).K 162 := ⟨by rfl, by rfl, by rfl, by rfl, by rfl, by rfl, by rfl, by rfl⟩
theorem fd_law_two : FdOk (cx b).K 169 := ⟨by rfl, by rfl, by rfl, by rfl, by rfl, by rfl, by rfl, by rfl⟩
theorem fd_law_emptied : FdOk (cx b).K 174 := ⟨by rfl, by rfl, by rfl, by rfl, by rfl, by rfl, by rfl, by rfl⟩
theorem fd_law_behind : FdOk (cx b).K 181 := ⟨by rfl, by rfl, by rfl, by rfl, by rfl, by rfl, by rfl, by rfl⟩
theorem fd_law_do : FdOk (cx b).K 188 := ⟨by rfl, by rfl, by rfl, by rfl, by rfl, by rfl, by rfl, by rfl⟩
theorem fd_law_goal : FdOk (cx b).K 195 := ⟨by rfl, by rfl, by rfl, by rfl, by rfl, by rfl, by rfl, by rfl⟩
theorem fd_law_run : FdOk (cx b).K 202 := ⟨by rfl, by rfl, by rfl, by rfl, by rfl, by rfl, by rfl, by rfl⟩
theorem fd_law_passed : FdOk (cx b).K 209 := ⟨by rfl, by rfl, by rfl, by rfl, by rfl, by rfl, by rfl, by rfl⟩
theorem fd_law : FdOk (cx b).K 214 := ⟨by rfl, by rfl, by rfl, by rfl, by rfl, by rfl, by rfl, by rfl⟩
theorem fd_init : FdOk (cx b).K 29 := ⟨by rfl, by rfl, by rfl, by rfl, by rfl, by rfl, by rfl, by rfl⟩
theorem fd_code : FdOk (cx b).K 36 := ⟨by rfl, by rfl, by rfl, by rfl, by rfl, by rfl, by rfl, by rfl⟩
theorem fd_parts : FdOk (cx b).K 42 := ⟨by rfl, by rfl, by rfl, by rfl, by rfl, by rfl, by rfl, by rfl⟩
theorem fd_labels : FdOk (cx b).K 49 := ⟨by rfl, by rfl, by rfl, by rfl, by rfl, by rfl, by rfl, by rfl⟩
theorem gl_pieces_of : nsIn (cx b).K mainGlobals "pieces_of" = some (some (.ref 63)) := by rfl
theorem gl_put_pieces : nsIn (cx b).K mainGlobals "put_pieces" = some (some (.ref 70)) := by rfl
theorem gl_body_of : nsIn (cx b).K mainGlobals "body_of" = some (some (.ref 77)) := by rfl
theorem gl_is_named : nsIn (cx b).K mainGlobals "is_named" = some (some (.ref 84)) := by rfl
theorem gl_lower_labels : nsIn (cx b).K mainGlobals "lower_labels" = some (some (.ref 89)) := by rfl
theorem gl_cut_empty : nsIn (cx b).K mainGlobals "cut_empty" = some (some (.ref 96)) := by rfl
theorem gl_open_blocks : nsIn (cx b).K mainGlobals "open_blocks" = some (some (.ref 103)) := by rfl
theorem gl_law_next : nsIn (cx b).K mainGlobals "_law_next" = some (some (.ref 110)) := by rfl
theorem gl_law_op : nsIn (cx b).K mainGlobals "_law_op" = some (some (.ref 117)) := by rfl
theorem gl_law_output : nsIn (cx b).K mainGlobals "_law_output" = some (some (.ref 124)) := by rfl
theorem gl_law_branch : nsIn (cx b).K mainGlobals "_law_branch" = some (some (.ref 129)) := by rfl
theorem gl_law_block : nsIn (cx b).K mainGlobals "_law_block" = some (some (.ref 136)) := by rfl
theorem gl_law_list : nsIn (cx b).K mainGlobals "_law_list" = some (some (.ref 143)) := by rfl
theorem gl_law_flat : nsIn (cx b).K mainGlobals "_law_flat" = some (some (.ref 148)) := by rfl
theorem gl_law_goals : nsIn (cx b).K mainGlobals "_law_goals" = some (some (.ref 155)) := by rfl
theorem gl_law_opened : nsIn (cx b).K mainGlobals "_law_opened" = some (some (.ref 162)) := by rfl
theorem gl_law_two : nsIn (cx b).K mainGlobals "_law_two" = some (some (.ref 169)) := by rfl
theorem gl_law_emptied : nsIn (cx b).K mainGlobals "_law_emptied" = some (some (.ref 174)) := by rfl
theorem gl_law_behind : nsIn (cx b).K mainGlobals "_law_behind" = some (some (.ref 181)) := by rfl
theorem gl_law_do : nsIn (cx b).K mainGlobals "_law_do" = some (some (.ref 188)) := by rfl
theorem gl_law_goal : nsIn (cx b).K mainGlobals "_law_goal" = some (some (.ref 195)) := by rfl
theorem gl_law_run : nsIn (cx b).K mainGlobals "_law_run" = some (some (.ref 202)) := by rfl
theorem gl_law_passed : nsIn (cx b).K mainGlobals "_law_passed" = some (some (.ref 209)) := by rfl
theorem gl_law : nsIn (cx b).K mainGlobals "law" = some (some (.ref 214)) := by rfl
theorem gi_NOP : ∃ t, nsIn (cx b).K mainGlobals "NOP" = some (some (.int 1 t)) := ⟨_, by rfl⟩
theorem gi_BLOCK : ∃ t, nsIn (cx b).K mainGlobals "BLOCK" = some (some (.int 2 t)) := ⟨_, by rfl⟩
theorem gi_LOOP : ∃ t, nsIn (cx b).K mainGlobals "LOOP" = some (some (.int 3 t)) := ⟨_, by rfl⟩
theorem gi_IF : ∃ t, nsIn (cx b).K mainGlobals "IF" = some (some (.int 4 t)) := ⟨_, by rfl⟩
theorem gi_ELSE : ∃ t, nsIn (cx b).K mainGlobals "ELSE" = some (some (.int 5 t)) := ⟨_, by rfl⟩
theorem gi_END : ∃ t, nsIn (cx b).K mainGlobals "END" = some (some (.int 11 t)) := ⟨_, by rfl⟩
theorem gi_BR : ∃ t, nsIn (cx b).K mainGlobals "BR" = some (some (.int 12 t)) := ⟨_, by rfl⟩
theorem gi_BR_IF : ∃ t, nsIn (cx b).K mainGlobals "BR_IF" = some (some (.int 13 t)) := ⟨_, by rfl⟩
theorem gi_BR_TABLE : ∃ t, nsIn (cx b).K mainGlobals "BR_TABLE" = some (some (.int 14 t)) := ⟨_, by rfl⟩
theorem gi_DROP : ∃ t, nsIn (cx b).K mainGlobals "DROP" = some (some (.int 26 t)) := ⟨_, by rfl⟩
theorem gi_I32_EQZ : ∃ t, nsIn (cx b).K mainGlobals "I32_EQZ" = some (some (.int 69 t)) := ⟨_, by rfl⟩
theorem gb_len : nsIn (cx b).K mainGlobals "len" = some none := by rfl
theorem bb_len : bootBuiltins "len" = some (.builtin "len") := by rfl
theorem gb_list : nsIn (cx b).K mainGlobals "list" = some none := by rfl
theorem bb_list : bootBuiltins "list" = some (.type "list") := by rfl
theorem gb_tuple : nsIn (cx b).K mainGlobals "tuple" = some none := by rfl
theorem bb_tuple : bootBuiltins "tuple" = some (.type "tuple") := by rfl
theorem gb_range : nsIn (cx b).K mainGlobals "range" = some none := by rfl
theorem bb_range : bootBuiltins "range" = some (.type "range") := by rfl
theorem gb_max : nsIn (cx b).K mainGlobals "max" = some none := by rfl
theorem bb_max : bootBuiltins "max" = some (.builtin "max") := by rfl
theorem gb_min : nsIn (cx b).K mainGlobals "min" = some none := by rfl
theorem bb_min : bootBuiltins "min" = some (.builtin "min") := by rfl
theorem gb_int : nsIn (cx b).K mainGlobals "int" = some none := by rfl
theorem bb_int : bootBuiltins "int" = some (.type "int") := by rfl
theorem gb_enumerate : nsIn (cx b).K mainGlobals "enumerate" = some none := by rfl
theorem bb_enumerate : bootBuiltins "enumerate" = some (.type "enumerate") := by rfl
end

/- NmS -/
section
variable {b : Bs} {A : Around} {H : AH} {Q : V → AH → Prop} {env : Env} {ls : Ls} {n : Nat}
theorem ite_both {b : Bool} {X Y : Prop} (h1 : b = true → X) (h2 : b = false → Y) : bif b then X else Y := by
  cases b
  · exact h2 rfl
  · exact h1 rfl

theorem all1 {α : Type} {P : List α → Prop} (h : ∀ x0, P [x0]) : ∀ rs : List α, rs.length = 1 → P rs := by
  intro rs e
  cases rs with
  | nil => cases e
  | cons a0 rs =>
  replace e := Nat.succ.inj e
  cases rs with
  | nil => exact h a0
  | cons => cases e
theorem am1 {α : Type} {P : α → Prop} {x0 : α} (h0 : P x0) : ∀ x ∈ [x0], P x := fun x h => (List.mem_singleton.mp h).symm ▸ h0
theorem all2 {α : Type} {P : List α → Prop} (h : ∀ x0 x1, P [x0, x1]) : ∀ rs : List α, rs.length = 2 → P rs := by
  intro rs e
  cases rs with
  | nil => cases e
  | cons a0 rs =>
  replace e := Nat.succ.inj e
  cases rs with
  | nil => cases e
  | cons a1 rs =>
  replace e := Nat.succ.inj e
  cases rs with
  | nil => exact h a0 a1
  | cons => cases e
theorem am2 {α : Type} {P : α → Prop} {x0 x1 : α} (h0 : P x0) (h1 : P x1) : ∀ x ∈ [x0, x1], P x := List.forall_mem_cons.mpr ⟨h0, am1 h1⟩
theorem all3 {α : Type} {P : List α → Prop} (h : ∀ x0 x1 x2, P [x0, x1, x2]) : ∀ rs : List α, rs.length = 3 → P rs := by
  intro rs e
  cases rs with
  | nil => cases e
  | cons a0 rs =>
  replace e := Nat.succ.inj e
  cases rs with
  | nil => cases e
  | cons a1 rs =>
  replace e := Nat.succ.inj e
  cases rs with
  | nil => cases e
  | cons a2 rs =>
  replace e := Nat.succ.inj e
  cases rs with
  | nil => exact h a0 a1 a2
  | cons => cases e
theorem am3 {α : Type} {P : α → Prop} {x0 x1 x2 : α} (h0 : P x0) (h1 : P x1) (h2 : P x2) : ∀ x ∈ [x0, x1, x2], P x := List.forall_mem_cons.mpr ⟨h0, am2 h1 h2⟩
theorem all4 {α : Type} {P : List α → Prop} (h : ∀ x0 x1 x2 x3, P [x0, x1, x2, x3]) : ∀ rs : List α, rs.length = 4 → P rs := by
  intro rs e
  cases rs with
  | nil => cases e
  | cons a0 rs =>
  replace e := Nat.succ.inj e
  cases rs with
  | nil => cases e
  | cons a1 rs =>
  replace e := Nat.succ.inj e
  cases rs with
  | nil => cases e
  | cons a2 rs =>
  replace e := Nat.succ.inj e
  cases rs with
  | nil => cases e
  | cons a3 rs =>
  replace e := Nat.succ.inj e
  cases rs with
  | nil => exact h a0 a1 a2 a3
  | cons => cases e
theorem am4 {α : Type} {P : α → Prop} {x0 x1 x2 x3 : α} (h0 : P x0) (h1 : P x1) (h2 : P x2) (h3 : P x3) : ∀ x ∈ [x0, x1, x2, x3], P x := List.forall_mem_cons.mpr ⟨h0, am3 h1 h2 h3⟩
theorem all5 {α : Type} {P : List α → Prop} (h : ∀ x0 x1 x2 x3 x4, P [x0, x1, x2, x3, x4]) : ∀ rs : List α, rs.length = 5 → P rs := by
  intro rs e
  cases rs with
  | nil => cases e
  | cons a0 rs =>
  replace e := Nat.succ.inj e
  cases rs with
  | nil => cases e
  | cons a1 rs =>
  replace e := Nat.succ.inj e
  cases rs with
  | nil => cases e
  | cons a2 rs =>
  replace e := Nat.succ.inj e
  cases rs with
  | nil => cases e
  | cons a3 rs =>
  replace e := Nat.succ.inj e
  cases rs with
  | nil => cases e
  | cons a4 rs =>
  replace e := Nat.succ.inj e
  cases rs with
  | nil => exact h a0 a1 a2 a3 a4
  | cons => cases e
theorem am5 {α : Type} {P : α → Prop} {x0 x1 x2 x3 x4 : α} (h0 : P x0) (h1 : P x1) (h2 : P x2) (h3 : P x3) (h4 : P x4) : ∀ x ∈ [x0, x1, x2, x3, x4], P x := List.forall_mem_cons.mpr ⟨h0, am4 h1 h2 h3 h4⟩
theorem Ev_ig {x : Str} {pos : Pos} {i : Int} (hC : CxOk (cx b)) (he : EnvOk env) (hk : env.kindOf x = some .globalImplicit) (e : ∃ t, nsIn (cx b).K mainGlobals x = some (some (.int i t))) (h : Q (.int i) H) (hd : (x == ("__debug__" : Str)) = false := by decide) :
    Ev (cx b) A env (.Name x pos) ls H Q := by
  obtain ⟨t, e⟩ := e
  exact Ev_glob hC he hk e (fun _ _ => .int _ _) h hd
noncomputable abbrev env_pieces_of (b : Bs) (L : Addr) : Env := callEnvC (fdOf (cx b).K 63) L 63
theorem bd_pieces_of (r0 : Value) : bindArgs (fdOf (cx b).K 63) ⟨[r0], []⟩ = pure ((["body"] : List Str).zip [r0]) := by kernel_rfl
theorem def_pieces_of {v0 : V} (hC : CxOk (cx b)) (r : Rm A (n + 1))
    (h : ∀ L, EnvOk (env_pieces_of b L) → Rm (A.deeper (env_pieces_of b L)) n → Ex (cx b) (A.deeper (env_pieces_of b L)) (env_pieces_of b L) (bodyOf (fdOf (cx b).K 63)) [("body", v0)] H Q (NonQ Q)) :
    Cc (cx b) A (.ref 63) [v0] H Q := by
  refine Cc_def (ns := ["body"]) hC fd_pieces_of r (all1 bd_pieces_of) (by decide) rfl (fun m => am1 ?_) ?_
  all_goals first | assumption | exact .inl (by rfl) | exact .inr ⟨by rfl, by rfl⟩
noncomputable abbrev env_put_pieces (b : Bs) (L : Addr) : Env := callEnvC (fdOf (cx b).K 70) L 70
theorem bd_put_pieces (r0 r1 : Value) : bindArgs (fdOf (cx b).K 70) ⟨[r0, r1], []⟩ = pure ((["pieces", "body"] : List Str).zip [r0, r1]) := by kernel_rfl
theorem def_put_pieces {v0 v1 : V} (hC : CxOk (cx b)) (r : Rm A (n + 1))
    (h : ∀ L, EnvOk (env_put_pieces b L) → Rm (A.deeper (env_put_pieces b L)) n → Ex (cx b) (A.deeper (env_put_pieces b L)) (env_put_pieces b L) (bodyOf (fdOf (cx b).K 70)) [("pieces", v0), ("body", v1)] H Q (NonQ Q)) :
    Cc (cx b) A (.ref 70) [v0, v1] H Q := by
  refine Cc_def (ns := ["pieces", "body"]) hC fd_put_pieces r (all2 bd_put_pieces) (by decide) rfl (fun m => am2 ?_ ?_) ?_
  all_goals first | assumption | exact .inl (by rfl) | exact .inr ⟨by rfl, by rfl⟩
noncomputable abbrev env_body_of (b : Bs) (L : Addr) : Env := callEnvC (fdOf (cx b).K 77) L 77
theorem bd_body_of (r0 : Value) : bindArgs (fdOf (cx b).K 77) ⟨[r0], []⟩ = pure ((["pieces"] : List Str).zip [r0]) := by kernel_rfl
theorem def_body_of {v0 : V} (hC : CxOk (cx b)) (r : Rm A (n + 1))
    (h : ∀ L, EnvOk (env_body_of b L) → Rm (A.deeper (env_body_of b L)) n → Ex (cx b) (A.deeper (env_body_of b L)) (env_body_of b L) (bodyOf (fdOf (cx b).K 77)) [("pieces", v0)] H Q (NonQ Q)) :
    Cc (cx b) A (.ref 77) [v0] H Q := by
  refine Cc_def (ns := ["pieces"]) hC fd_body_of r (all1 bd_body_of) (by decide) rfl (fun m => am1 ?_) ?_
  all_goals first | assumption | exact .inl (by rfl) | exact .inr ⟨by rfl, by rfl⟩
noncomputable abbrev env_is_named (b : Bs) (L : Addr) : Env := callEnvC (fdOf (cx b).K 84) L 84
theorem bd_is_named (r0 r1 : Value) : bindArgs (fdOf (cx b).K 84) ⟨[r0, r1], []⟩ = pure ((["pieces", "depth"] : List Str).zip [r0, r1]) := by kernel_rfl
theorem def_is_named {v0 v1 : V} (hC : CxOk (cx b)) (r : Rm A (n + 1))
    (h : ∀ L, EnvOk (env_is_named b L) → Rm (A.deeper (env_is_named b L)) n → Ex (cx b) (A.deeper (env_is_named b L)) (env_is_named b L) (bodyOf (fdOf (cx b).K 84)) [("pieces", v0), ("depth", v1)] H Q (NonQ Q)) :
    Cc (cx b) A (.ref 84) [v0, v1] H Q := by
  refine Cc_def (ns := ["pieces", "depth"]) hC fd_is_named r (all2 bd_is_named) (by decide) rfl (fun m => am2 ?_ ?_) ?_
  all_goals first | assumption | exact .inl (by rfl) | exact .inr ⟨by rfl, by rfl⟩
noncomputable abbrev env_lower_labels (b : Bs) (L : Addr) : Env := callEnvC (fdOf (cx b).K 89) L 89
theorem bd_lower_labels (r0 r1 : Value) : bindArgs (fdOf (cx b).K 89) ⟨[r0, r1], []⟩ = pure ((["pieces", "depth"] : List Str).zip [r0, r1]) := by kernel_rfl
theorem def_lower_labels {v0 v1 : V} (hC : CxOk (cx b)) (r : Rm A (n + 1))
    (h : ∀ L, EnvOk (env_lower_labels b L) → Rm (A.deeper (env_lower_labels b L)) n → Ex (cx b) (A.deeper (env_lower_labels b L)) (env_lower_labels b L) (bodyOf (fdOf (cx b).K 89)) [("pieces", v0), ("depth", v1)] H Q (NonQ Q)) :
    Cc (cx b) A (.ref 89) [v0, v1] H Q := by
  refine Cc_def (ns := ["pieces", "depth"]) hC fd_lower_labels r (all2 bd_lower_labels) (by decide) rfl (fun m => am2 ?_ ?_) ?_
  all_goals first | assumption | exact .inl (by rfl) | exact .inr ⟨by rfl, by rfl⟩
noncomputable abbrev env_cut_empty (b : Bs) (L : Addr) : Env := callEnvC (fdOf (cx b).K 96) L 96
theorem bd_cut_empty (r0 : Value) : bindArgs (fdOf (cx b).K 96) ⟨[r0], []⟩ = pure ((["pieces"] : List Str).zip [r0]) := by kernel_rfl
theorem def_cut_empty {v0 : V} (hC : CxOk (cx b)) (r : Rm A (n + 1))
    (h : ∀ L, EnvOk (env_cut_empty b L) → Rm (A.deeper (env_cut_empty b L)) n → Ex (cx b) (A.deeper (env_cut_empty b L)) (env_cut_empty b L) (bodyOf (fdOf (cx b).K 96)) [("pieces", v0)] H Q (NonQ Q)) :
    Cc (cx b) A (.ref 96) [v0] H Q := by
  refine Cc_def (ns := ["pieces"]) hC fd_cut_empty r (all1 bd_cut_empty) (by decide) rfl (fun m => am1 ?_) ?_
  all_goals first | assumption | exact .inl (by rfl) | exact .inr ⟨by rfl, by rfl⟩
noncomputable abbrev env_open_blocks (b : Bs) (L : Addr) : Env := callEnvC (fdOf (cx b).K 103) L 103
theorem bd_open_blocks (r0 : Value) : bindArgs (fdOf (cx b).K 103) ⟨[r0], []⟩ = pure ((["pieces"] : List Str).zip [r0]) := by kernel_rfl
theorem def_open_blocks {v0 : V} (hC : CxOk (cx b)) (r : Rm A (n + 1))
    (h : ∀ L, EnvOk (env_open_blocks b L) → Rm (A.deeper (env_open_blocks b L)) n → Ex (cx b) (A.deeper (env_open_blocks b L)) (env_open_blocks b L) (bodyOf (fdOf (cx b).K 103)) [("pieces", v0)] H Q (NonQ Q)) :
    Cc (cx b) A (.ref 103) [v0] H Q := by
  refine Cc_def (ns := ["pieces"]) hC fd_open_blocks r (all1 bd_open_blocks) (by decide) rfl (fun m => am1 ?_) ?_
  all_goals first | assumption | exact .inl (by rfl) | exact .inr ⟨by rfl, by rfl⟩
noncomputable abbrev env_law_next (b : Bs) (L : Addr) : Env := callEnvC (fdOf (cx b).K 110) L 110
theorem bd_law_next (r0 : Value) : bindArgs (fdOf (cx b).K 110) ⟨[r0], []⟩ = pure ((["tape"] : List Str).zip [r0]) := by kernel_rfl
theorem def_law_next {v0 : V} (hC : CxOk (cx b)) (r : Rm A (n + 1))
    (h : ∀ L, EnvOk (env_law_next b L) → Rm (A.deeper (env_law_next b L)) n → Ex (cx b) (A.deeper (env_law_next b L)) (env_law_next b L) (bodyOf (fdOf (cx b).K 110)) [("tape", v0)] H Q (NonQ Q)) :
    Cc (cx b) A (.ref 110) [v0] H Q := by
  refine Cc_def (ns := ["tape"]) hC fd_law_next r (all1 bd_law_next) (by decide) rfl (fun m => am1 ?_) ?_
  all_goals first | assumption | exact .inl (by rfl) | exact .inr ⟨by rfl, by rfl⟩
noncomputable abbrev env_law_op (b : Bs) (L : Addr) : Env := callEnvC (fdOf (cx b).K 117) L 117
theorem bd_law_op (r0 r1 : Value) : bindArgs (fdOf (cx b).K 117) ⟨[r0, r1], []⟩ = pure ((["code", "about"] : List Str).zip [r0, r1]) := by kernel_rfl
theorem def_law_op {v0 v1 : V} (hC : CxOk (cx b)) (r : Rm A (n + 1))
    (h : ∀ L, EnvOk (env_law_op b L) → Rm (A.deeper (env_law_op b L)) n → Ex (cx b) (A.deeper (env_law_op b L)) (env_law_op b L) (bodyOf (fdOf (cx b).K 117)) [("code", v0), ("about", v1)] H Q (NonQ Q)) :
    Cc (cx b) A (.ref 117) [v0, v1] H Q := by
  refine Cc_def (ns := ["code", "about"]) hC fd_law_op r (all2 bd_law_op) (by decide) rfl (fun m => am2 ?_ ?_) ?_
  all_goals first | assumption | exact .inl (by rfl) | exact .inr ⟨by rfl, by rfl⟩
noncomputable abbrev env_law_output (b : Bs) (L : Addr) : Env := callEnvC (fdOf (cx b).K 124) L 124
theorem bd_law_output (r0 : Value) : bindArgs (fdOf (cx b).K 124) ⟨[r0], []⟩ = pure ((["number"] : List Str).zip [r0]) := by kernel_rfl
theorem def_law_output {v0 : V} (hC : CxOk (cx b)) (r : Rm A (n + 1))
    (h : ∀ L, EnvOk (env_law_output b L) → Rm (A.deeper (env_law_output b L)) n → Ex (cx b) (A.deeper (env_law_output b L)) (env_law_output b L) (bodyOf (fdOf (cx b).K 124)) [("number", v0)] H Q (NonQ Q)) :
    Cc (cx b) A (.ref 124) [v0] H Q := by
  refine Cc_def (ns := ["number"]) hC fd_law_output r (all1 bd_law_output) (by decide) rfl (fun m => am1 ?_) ?_
  all_goals first | assumption | exact .inl (by rfl) | exact .inr ⟨by rfl, by rfl⟩
noncomputable abbrev env_law_branch (b : Bs) (L : Addr) : Env := callEnvC (fdOf (cx b).K 129) L 129
theorem bd_law_branch (r0 r1 r2 r3 : Value) : bindArgs (fdOf (cx b).K 129) ⟨[r0, r1, r2, r3], []⟩ = pure ((["state", "opened", "rest", "way"] : List Str).zip [r0, r1, r2, r3]) := by kernel_rfl
theorem def_law_branch {v0 v1 v2 v3 : V} (hC : CxOk (cx b)) (r : Rm A (n + 1))
    (h : ∀ L, EnvOk (env_law_branch b L) → Rm (A.deeper (env_law_branch b L)) n → Ex (cx b) (A.deeper (env_law_branch b L)) (env_law_branch b L) (bodyOf (fdOf (cx b).K 129)) [("state", v0), ("opened", v1), ("rest", v2), ("way", v3)] H Q (NonQ Q)) :
    Cc (cx b) A (.ref 129) [v0, v1, v2, v3] H Q := by
  refine Cc_def (ns := ["state", "opened", "rest", "way"]) hC fd_law_branch r (all4 bd_law_branch) (by decide) rfl (fun m => am4 ?_ ?_ ?_ ?_) ?_
  all_goals first | assumption | exact .inl (by rfl) | exact .inr ⟨by rfl, by rfl⟩
noncomputable abbrev env_law_block (b : Bs) (L : Addr) : Env := callEnvC (fdOf (cx b).K 136) L 136
theorem bd_law_block (r0 r1 r2 r3 r4 : Value) : bindArgs (fdOf (cx b).K 136) ⟨[r0, r1, r2, r3, r4], []⟩ = pure ((["tape", "state", "opened", "code", "has_else"] : List Str).zip [r0, r1, r2, r3, r4]) := by kernel_rfl
theorem def_law_block {v0 v1 v2 v3 v4 : V} (hC : CxOk (cx b)) (r : Rm A (n + 1))
    (h : ∀ L, EnvOk (env_law_block b L) → Rm (A.deeper (env_law_block b L)) n → Ex (cx b) (A.deeper (env_law_block b L)) (env_law_block b L) (bodyOf (fdOf (cx b).K 136)) [("tape", v0), ("state", v1), ("opened", v2), ("code", v3), ("has_else", v4)] H Q (NonQ Q)) :
    Cc (cx b) A (.ref 136) [v0, v1, v2, v3, v4] H Q := by
  refine Cc_def (ns := ["tape", "state", "opened", "code", "has_else"]) hC fd_law_block r (all5 bd_law_block) (by decide) rfl (fun m => am5 ?_ ?_ ?_ ?_ ?_) ?_
  all_goals first | assumption | exact .inl (by rfl) | exact .inr ⟨by rfl, by rfl⟩
noncomputable abbrev env_law_list (b : Bs) (L : Addr) : Env := callEnvC (fdOf (cx b).K 143) L 143
theorem bd_law_list (r0 r1 r2 r3 : Value) : bindArgs (fdOf (cx b).K 143) ⟨[r0, r1, r2, r3], []⟩ = pure ((["tape", "state", "opened", "many"] : List Str).zip [r0, r1, r2, r3]) := by kernel_rfl
theorem def_law_list {v0 v1 v2 v3 : V} (hC : CxOk (cx b)) (r : Rm A (n + 1))
    (h : ∀ L, EnvOk (env_law_list b L) → Rm (A.deeper (env_law_list b L)) n → Ex (cx b) (A.deeper (env_law_list b L)) (env_law_list b L) (bodyOf (fdOf (cx b).K 143)) [("tape", v0), ("state", v1), ("opened", v2), ("many", v3)] H Q (NonQ Q)) :
    Cc (cx b) A (.ref 143) [v0, v1, v2, v3] H Q := by
  refine Cc_def (ns := ["tape", "state", "opened", "many"]) hC fd_law_list r (all4 bd_law_list) (by decide) rfl (fun m => am4 ?_ ?_ ?_ ?_) ?_
  all_goals first | assumption | exact .inl (by rfl) | exact .inr ⟨by rfl, by rfl⟩
noncomputable abbrev env_law_flat (b : Bs) (L : Addr) : Env := callEnvC (fdOf (cx b).K 148) L 148
theorem bd_law_flat (r0 r1 : Value) : bindArgs (fdOf (cx b).K 148) ⟨[r0, r1], []⟩ = pure ((["nodes", "opened"] : List Str).zip [r0, r1]) := by kernel_rfl
theorem def_law_flat {v0 v1 : V} (hC : CxOk (cx b)) (r : Rm A (n + 1))
    (h : ∀ L, EnvOk (env_law_flat b L) → Rm (A.deeper (env_law_flat b L)) n → Ex (cx b) (A.deeper (env_law_flat b L)) (env_law_flat b L) (bodyOf (fdOf (cx b).K 148)) [("nodes", v0), ("opened", v1)] H Q (NonQ Q)) :
    Cc (cx b) A (.ref 148) [v0, v1] H Q := by
  refine Cc_def (ns := ["nodes", "opened"]) hC fd_law_flat r (all2 bd_law_flat) (by decide) rfl (fun m => am2 ?_ ?_) ?_
  all_goals first | assumption | exact .inl (by rfl) | exact .inr ⟨by rfl, by rfl⟩
noncomputable abbrev env_law_goals (b : Bs) (L : Addr) : Env := callEnvC (fdOf (cx b).K 155) L 155
theorem bd_law_goals (r0 : Value) : bindArgs (fdOf (cx b).K 155) ⟨[r0], []⟩ = pure ((["nodes"] : List Str).zip [r0]) := by kernel_rfl
theorem def_law_goals {v0 : V} (hC : CxOk (cx b)) (r : Rm A (n + 1))
    (h : ∀ L, EnvOk (env_law_goals b L) → Rm (A.deeper (env_law_goals b L)) n → Ex (cx b) (A.deeper (env_law_goals b L)) (env_law_goals b L) (bodyOf (fdOf (cx b).K 155)) [("nodes", v0)] H Q (NonQ Q)) :
    Cc (cx b) A (.ref 155) [v0] H Q := by
  refine Cc_def (ns := ["nodes"]) hC fd_law_goals r (all1 bd_law_goals) (by decide) rfl (fun m => am1 ?_) ?_
  all_goals first | assumption | exact .inl (by rfl) | exact .inr ⟨by rfl, by rfl⟩
noncomputable abbrev env_law_opened (b : Bs) (L : Addr) : Env := callEnvC (fdOf (cx b).K 162) L 162
theorem bd_law_opened (r0 r1 : Value) : bindArgs (fdOf (cx b).K 162) ⟨[r0, r1], []⟩ = pure ((["nodes", "meant"] : List Str).zip [r0, r1]) := by kernel_rfl
theorem def_law_opened {v0 v1 : V} (hC : CxOk (cx b)) (r : Rm A (n + 1))
    (h : ∀ L, EnvOk (env_law_opened b L) → Rm (A.deeper (env_law_opened b L)) n → Ex (cx b) (A.deeper (env_law_opened b L)) (env_law_opened b L) (bodyOf (fdOf (cx b).K 162)) [("nodes", v0), ("meant", v1)] H Q (NonQ Q)) :
    Cc (cx b) A (.ref 162) [v0, v1] H Q := by
  refine Cc_def (ns := ["nodes", "meant"]) hC fd_law_opened r (all2 bd_law_opened) (by decide) rfl (fun m => am2 ?_ ?_) ?_
  all_goals first | assumption | exact .inl (by rfl) | exact .inr ⟨by rfl, by rfl⟩
noncomputable abbrev env_law_two (b : Bs) (L : Addr) : Env := callEnvC (fdOf (cx b).K 169) L 169
theorem bd_law_two (r0 r1 : Value) : bindArgs (fdOf (cx b).K 169) ⟨[r0, r1], []⟩ = pure ((["one", "other"] : List Str).zip [r0, r1]) := by kernel_rfl
theorem def_law_two {v0 v1 : V} (hC : CxOk (cx b)) (r : Rm A (n + 1))
    (h : ∀ L, EnvOk (env_law_two b L) → Rm (A.deeper (env_law_two b L)) n → Ex (cx b) (A.deeper (env_law_two b L)) (env_law_two b L) (bodyOf (fdOf (cx b).K 169)) [("one", v0), ("other", v1)] H Q (NonQ Q)) :
    Cc (cx b) A (.ref 169) [v0, v1] H Q := by
  refine Cc_def (ns := ["one", "other"]) hC fd_law_two r (all2 bd_law_two) (by decide) rfl (fun m => am2 ?_ ?_) ?_
  all_goals first | assumption | exact .inl (by rfl) | exact .inr ⟨by rfl, by rfl⟩
noncomputable abbrev env_law_emptied (b : Bs) (L : Addr) : Env := callEnvC (fdOf (cx b).K 174) L 174
theorem bd_law_emptied (r0 : Value) : bindArgs (fdOf (cx b).K 174) ⟨[r0], []⟩ = pure ((["body"] : List Str).zip [r0]) := by kernel_rfl
theorem def_law_emptied {v0 : V} (hC : CxOk (cx b)) (r : Rm A (n + 1))
    (h : ∀ L, EnvOk (env_law_emptied b L) → Rm (A.deeper (env_law_emptied b L)) n → Ex (cx b) (A.deeper (env_law_emptied b L)) (env_law_emptied b L) (bodyOf (fdOf (cx b).K 174)) [("body", v0)] H Q (NonQ Q)) :
    Cc (cx b) A (.ref 174) [v0] H Q := by
  refine Cc_def (ns := ["body"]) hC fd_law_emptied r (all1 bd_law_emptied) (by decide) rfl (fun m => am1 ?_) ?_
  all_goals first | assumption | exact .inl (by rfl) | exact .inr ⟨by rfl, by rfl⟩
noncomputable abbrev env_law_behind (b : Bs) (L : Addr) : Env := callEnvC (fdOf (cx b).K 181) L 181
theorem bd_law_behind (r0 r1 r2 : Value) : bindArgs (fdOf (cx b).K 181) ⟨[r0, r1, r2], []⟩ = pure ((["body", "at", "is_else"] : List Str).zip [r0, r1, r2]) := by kernel_rfl
theorem def_law_behind {v0 v1 v2 : V} (hC : CxOk (cx b)) (r : Rm A (n + 1))
    (h : ∀ L, EnvOk (env_law_behind b L) → Rm (A.deeper (env_law_behind b L)) n → Ex (cx b) (A.deeper (env_law_behind b L)) (env_law_behind b L) (bodyOf (fdOf (cx b).K 181)) [("body", v0), ("at", v1), ("is_else", v2)] H Q (NonQ Q)) :
    Cc (cx b) A (.ref 181) [v0, v1, v2] H Q := by
  refine Cc_def (ns := ["body", "at", "is_else"]) hC fd_law_behind r (all3 bd_law_behind) (by decide) rfl (fun m => am3 ?_ ?_ ?_) ?_
  all_goals first | assumption | exact .inl (by rfl) | exact .inr ⟨by rfl, by rfl⟩
noncomputable abbrev env_law_do (b : Bs) (L : Addr) : Env := callEnvC (fdOf (cx b).K 188) L 188
theorem bd_law_do (r0 r1 r2 r3 : Value) : bindArgs (fdOf (cx b).K 188) ⟨[r0, r1, r2, r3], []⟩ = pure ((["plain", "stack", "places", "told"] : List Str).zip [r0, r1, r2, r3]) := by kernel_rfl
theorem def_law_do {v0 v1 v2 v3 : V} (hC : CxOk (cx b)) (r : Rm A (n + 1))
    (h : ∀ L, EnvOk (env_law_do b L) → Rm (A.deeper (env_law_do b L)) n → Ex (cx b) (A.deeper (env_law_do b L)) (env_law_do b L) (bodyOf (fdOf (cx b).K 188)) [("plain", v0), ("stack", v1), ("places", v2), ("told", v3)] H Q (NonQ Q)) :
    Cc (cx b) A (.ref 188) [v0, v1, v2, v3] H Q := by
  refine Cc_def (ns := ["plain", "stack", "places", "told"]) hC fd_law_do r (all4 bd_law_do) (by decide) rfl (fun m => am4 ?_ ?_ ?_ ?_) ?_
  all_goals first | assumption | exact .inl (by rfl) | exact .inr ⟨by rfl, by rfl⟩
noncomputable abbrev env_law_goal (b : Bs) (L : Addr) : Env := callEnvC (fdOf (cx b).K 195) L 195
theorem bd_law_goal (r0 r1 : Value) : bindArgs (fdOf (cx b).K 195) ⟨[r0, r1], []⟩ = pure ((["plain", "stack"] : List Str).zip [r0, r1]) := by kernel_rfl
theorem def_law_goal {v0 v1 : V} (hC : CxOk (cx b)) (r : Rm A (n + 1))
    (h : ∀ L, EnvOk (env_law_goal b L) → Rm (A.deeper (env_law_goal b L)) n → Ex (cx b) (A.deeper (env_law_goal b L)) (env_law_goal b L) (bodyOf (fdOf (cx b).K 195)) [("plain", v0), ("stack", v1)] H Q (NonQ Q)) :
    Cc (cx b) A (.ref 195) [v0, v1] H Q := by
  refine Cc_def (ns := ["plain", "stack"]) hC fd_law_goal r (all2 bd_law_goal) (by decide) rfl (fun m => am2 ?_ ?_) ?_
  all_goals first | assumption | exact .inl (by rfl) | exact .inr ⟨by rfl, by rfl⟩
noncomputable abbrev env_law_run (b : Bs) (L : Addr) : Env := callEnvC (fdOf (cx b).K 202) L 202
theorem bd_law_run (r0 r1 : Value) : bindArgs (fdOf (cx b).K 202) ⟨[r0, r1], []⟩ = pure ((["body", "places"] : List Str).zip [r0, r1]) := by kernel_rfl
theorem def_law_run {v0 v1 : V} (hC : CxOk (cx b)) (r : Rm A (n + 1))
    (h : ∀ L, EnvOk (env_law_run b L) → Rm (A.deeper (env_law_run b L)) n → Ex (cx b) (A.deeper (env_law_run b L)) (env_law_run b L) (bodyOf (fdOf (cx b).K 202)) [("body", v0), ("places", v1)] H Q (NonQ Q)) :
    Cc (cx b) A (.ref 202) [v0, v1] H Q := by
  refine Cc_def (ns := ["body", "places"]) hC fd_law_run r (all2 bd_law_run) (by decide) rfl (fun m => am2 ?_ ?_) ?_
  all_goals first | assumption | exact .inl (by rfl) | exact .inr ⟨by rfl, by rfl⟩
noncomputable abbrev env_law_passed (b : Bs) (L : Addr) : Env := callEnvC (fdOf (cx b).K 209) L 209
theorem bd_law_passed (r0 r1 : Value) : bindArgs (fdOf (cx b).K 209) ⟨[r0, r1], []⟩ = pure ((["body", "is_empty"] : List Str).zip [r0, r1]) := by kernel_rfl
theorem def_law_passed {v0 v1 : V} (hC : CxOk (cx b)) (r : Rm A (n + 1))
    (h : ∀ L, EnvOk (env_law_passed b L) → Rm (A.deeper (env_law_passed b L)) n → Ex (cx b) (A.deeper (env_law_passed b L)) (env_law_passed b L) (bodyOf (fdOf (cx b).K 209)) [("body", v0), ("is_empty", v1)] H Q (NonQ Q)) :
    Cc (cx b) A (.ref 209) [v0, v1] H Q := by
  refine Cc_def (ns := ["body", "is_empty"]) hC fd_law_passed r (all2 bd_law_passed) (by decide) rfl (fun m => am2 ?_ ?_) ?_
  all_goals first | assumption | exact .inl (by rfl) | exact .inr ⟨by rfl, by rfl⟩
noncomputable abbrev env_law (b : Bs) (L : Addr) : Env := callEnvC (fdOf (cx b).K 214) L 214
theorem bd_law (r0 : Value) : bindArgs (fdOf (cx b).K 214) ⟨[r0], []⟩ = pure ((["script"] : List Str).zip [r0]) := by kernel_rfl
theorem def_law {v0 : V} (hC : CxOk (cx b)) (r : Rm A (n + 1))
    (h : ∀ L, EnvOk (env_law b L) → Rm (A.deeper (env_law b L)) n → Ex (cx b) (A.deeper (env_law b L)) (env_law b L) (bodyOf (fdOf (cx b).K 214)) [("script", v0)] H Q (NonQ Q)) :
    Cc (cx b) A (.ref 214) [v0] H Q := by
  refine Cc_def (ns := ["script"]) hC fd_law r (all1 bd_law) (by decide) rfl (fun m => am1 ?_) ?_
  all_goals first | assumption | exact .inl (by rfl) | exact .inr ⟨by rfl, by rfl⟩
noncomputable abbrev env_code (b : Bs) (L : Addr) : Env := callEnvC (fdOf (cx b).K 36) L 36
theorem bd_code (r0 : Value) : bindArgs (fdOf (cx b).K 36) ⟨[r0], []⟩ = pure ((["self"] : List Str).zip [r0]) := by kernel_rfl
theorem def_code {v0 : V} (hC : CxOk (cx b)) (r : Rm A (n + 1))
    (h : ∀ L, EnvOk (env_code b L) → Rm (A.deeper (env_code b L)) n → Ex (cx b) (A.deeper (env_code b L)) (env_code b L) (bodyOf (fdOf (cx b).K 36)) [("self", v0)] H Q (NonQ Q)) :
    Cc (cx b) A (.ref 36) [v0] H Q := by
  refine Cc_def (ns := ["self"]) hC fd_code r (all1 bd_code) (by decide) rfl (fun m => am1 ?_) ?_
  all_goals first | assumption | exact .inl (by rfl) | exact .inr ⟨by rfl, by rfl⟩
noncomputable abbrev env_parts (b : Bs) (L : Addr) : Env := callEnvC (fdOf (cx b).K 42) L 42
theorem bd_parts (r0 : Value) : bindArgs (fdOf (cx b).K 42) ⟨[r0], []⟩ = pure ((["self"] : List Str).zip [r0]) := by kernel_rfl
theorem def_parts {v0 : V} (hC : CxOk (cx b)) (r : Rm A (n + 1))
    (h : ∀ L, EnvOk (env_parts b L) → Rm (A.deeper (env_parts b L)) n → Ex (cx b) (A.deeper (env_parts b L)) (env_parts b L) (bodyOf (fdOf (cx b).K 42)) [("self", v0)] H Q (NonQ Q)) :
    Cc (cx b) A (.ref 42) [v0] H Q := by
  refine Cc_def (ns := ["self"]) hC fd_parts r (all1 bd_parts) (by decide) rfl (fun m => am1 ?_) ?_
  all_goals first | assumption | exact .inl (by rfl) | exact .inr ⟨by rfl, by rfl⟩
noncomputable abbrev env_labels (b : Bs) (L : Addr) : Env := callEnvC (fdOf (cx b).K 49) L 49
theorem bd_labels (r0 : Value) : bindArgs (fdOf (cx b).K 49) ⟨[r0], []⟩ = pure ((["self"] : List Str).zip [r0]) := by kernel_rfl
theorem def_labels {v0 : V} (hC : CxOk (cx b)) (r : Rm A (n + 1))
    (h : ∀ L, EnvOk (env_labels b L) → Rm (A.deeper (env_labels b L)) n → Ex (cx b) (A.deeper (env_labels b L)) (env_labels b L) (bodyOf (fdOf (cx b).K 49)) [("self", v0)] H Q (NonQ Q)) :
    Cc (cx b) A (.ref 49) [v0] H Q := by
  refine Cc_def (ns := ["self"]) hC fd_labels r (all1 bd_labels) (by decide) rfl (fun m => am1 ?_) ?_
  all_goals first | assumption | exact .inl (by rfl) | exact .inr ⟨by rfl, by rfl⟩
theorem call_pieces_of {args : List Expr} {p pos : Pos} (hC : CxOk (cx b)) (he : EnvOk env) (h : Evs (cx b) A env args ls H (ClQ (cx b) A (.ref 63) Q)) (hk : env.kindOf "pieces_of" = some .globalImplicit := by rfl) (hs : noStar args = true := by rfl) :
    Ev (cx b) A env (.Call (.Name "pieces_of" p) args [] pos) ls H Q := Ev_Call_def hC he fd_pieces_of hk gl_pieces_of h hs
theorem call_put_pieces {args : List Expr} {p pos : Pos} (hC : CxOk (cx b)) (he : EnvOk env) (h : Evs (cx b) A env args ls H (ClQ (cx b) A (.ref 70) Q)) (hk : env.kindOf "put_pieces" = some .globalImplicit := by rfl) (hs : noStar args = true := by rfl) :
    Ev (cx b) A env (.Call (.Name "put_pieces" p) args [] pos) ls H Q := Ev_Call_def hC he fd_put_pieces hk gl_put_pieces h hs
theorem call_body_of {args : List Expr} {p pos : Pos} (hC : CxOk (cx b)) (he : EnvOk env) (h : Evs (cx b) A env args ls H (ClQ (cx b) A (.ref 77) Q)) (hk : env.kindOf "body_of" = some .globalImplicit := by rfl) (hs : noStar args = true := by rfl) :
    Ev (cx b) A env (.Call (.Name "body_of" p) args [] pos) ls H Q := Ev_Call_def hC he fd_body_of hk gl_body_of h hs
theorem call_is_named {args : List Expr} {p pos : Pos} (hC : CxOk (cx b)) (he : EnvOk env) (h : Evs (cx b) A env args ls H (ClQ (cx b) A (.ref 84) Q)) (hk : env.kindOf "is_named" = some .globalImplicit := by rfl) (hs : noStar args = true := by rfl) :
    Ev (cx b) A env (.Call (.Name "is_named" p) args [] pos) ls H Q := Ev_Call_def hC he fd_is_named hk gl_is_named h hs
theorem call_lower_labels {args : List Expr} {p pos : Pos} (hC : CxOk (cx b)) (he : EnvOk env) (h : Evs (cx b) A env args ls H (ClQ (cx b) A (.ref 89) Q)) (hk : env.kindOf "lower_labels" = some .globalImplicit := by rfl) (hs : noStar args = true := by rfl) :
    Ev (cx b) A env (.Call (.Name "lower_labels" p) args [] pos) ls H Q := Ev_Call_def hC he fd_lower_labels hk gl_lower_labels h hs
theorem call_cut_empty {args : List Expr} {p pos : Pos} (hC : CxOk (cx b)) (he : EnvOk env) (h : Evs (cx b) A env args ls H (ClQ (cx b) A (.ref 96) Q)) (hk : env.kindOf "cut_empty" = some .globalImplicit := by rfl) (hs : noStar args = true := by rfl) :
    Ev (cx b) A env (.Call (.Name "cut_empty" p) args [] pos) ls H Q := Ev_Call_def hC he fd_cut_empty hk gl_cut_empty h hs
theorem call_open_blocks {args : List Expr} {p pos : Pos} (hC : CxOk (cx b)) (he : EnvOk env) (h : Evs (cx b) A env args ls H (ClQ (cx b) A (.ref 103) Q)) (hk : env.kindOf "open_blocks" = some .globalImplicit := by rfl) (hs : noStar args = true := by rfl) :
    Ev (cx b) A env (.Call (.Name "open_blocks" p) args [] pos) ls H Q := Ev_Call_def hC he fd_open_blocks hk gl_open_blocks h hs
theorem call_law_next {args : List Expr} {p pos : Pos} (hC : CxOk (cx b)) (he : EnvOk env) (h : Evs (cx b) A env args ls H (ClQ (cx b) A (.ref 110) Q)) (hk : env.kindOf "_law_next" = some .globalImplicit := by rfl) (hs : noStar args = true := by rfl) :
    Ev (cx b) A env (.Call (.Name "_law_next" p) args [] pos) ls H Q := Ev_Call_def hC he fd_law_next hk gl_law_next h hs
theorem call_law_op {args : List Expr} {p pos : Pos} (hC : CxOk (cx b)) (he : EnvOk env) (h : Evs (cx b) A env args ls H (ClQ (cx b) A (.ref 117) Q)) (hk : env.kindOf "_law_op" = some .globalImplicit := by rfl) (hs : noStar args = true := by rfl) :
    Ev (cx b) A env (.Call (.Name "_law_op" p) args [] pos) ls H Q := Ev_Call_def hC he fd_law_op hk gl_law_op h hs
theorem call_law_output {args : List Expr} {p pos : Pos} (hC : CxOk (cx b)) (he : EnvOk env) (h : Evs (cx b) A env args ls H (ClQ (cx b) A (.ref 124) Q)) (hk : env.kindOf "_law_output" = some .globalImplicit := by rfl) (hs : noStar args = true := by rfl) :
    Ev (cx b) A env (.Call (.Name "_law_output" p) args [] pos) ls H Q := Ev_Call_def hC he fd_law_output hk gl_law_output h hs
theorem call_law_branch {args : List Expr} {p pos : Pos} (hC : CxOk (cx b)) (he : EnvOk env) (h : Evs (cx b) A env args ls H (ClQ (cx b) A (.ref 129) Q)) (hk : env.kindOf "_law_branch" = some .globalImplicit := by rfl) (hs : noStar args = true := by rfl) :
    Ev (cx b) A env (.Call (.Name "_law_branch" p) args [] pos) ls H Q := Ev_Call_def hC he fd_law_branch hk gl_law_branch h hs
theorem call_law_block {args : List Expr} {p pos : Pos} (hC : CxOk (cx b)) (he : EnvOk env) (h : Evs (cx b) A env args ls H (ClQ (cx b) A (.ref 136) Q)) (hk : env.kindOf "_law_block" = some .globalImplicit := by rfl) (hs : noStar args = true := by rfl) :
    Ev (cx b) A env (.Call (.Name "_law_block" p) args [] pos) ls H Q := Ev_Call_def hC he fd_law_block hk gl_law_block h hs
theorem call_law_list {args : List Expr} {p pos : Pos} (hC : CxOk (cx b)) (he : EnvOk env) (h : Evs (cx b) A env args ls H (ClQ (cx b) A (.ref 143) Q)) (hk : env.kindOf "_law_list" = some .globalImplicit := by rfl) (hs : noStar args = true := by rfl) :
    Ev (cx b) A env (.Call (.Name "_law_list" p) args [] pos) ls H Q := Ev_Call_def hC he fd_law_list hk gl_law_list h hs
theorem call_law_flat {args : List Expr} {p pos : Pos} (hC : CxOk (cx b)) (he : EnvOk env) (h : Evs (cx b) A env args ls H (ClQ (cx b) A (.ref 148) Q)) (hk : env.kindOf "_law_flat" = some .globalImplicit := by rfl) (hs : noStar args = true := by rfl) :
    Ev (cx b) A env (.Call (.Name "_law_flat" p) args [] pos) ls H Q := Ev_Call_def hC he fd_law_flat hk gl_law_flat h hs
theorem call_law_goals {args : List Expr} {p pos : Pos} (hC : CxOk (cx b)) (he : EnvOk env) (h : Evs (cx b) A env args ls H (ClQ (cx b) A (.ref 155) Q)) (hk : env.kindOf "_law_goals" = some .globalImplicit := by rfl) (hs : noStar args = true := by rfl) :
    Ev (cx b) A env (.Call (.Name "_law_goals" p) args [] pos) ls H Q := Ev_Call_def hC he fd_law_goals hk gl_law_goals h hs
theorem call_law_opened {args : List Expr} {p pos : Pos} (hC : CxOk (cx b)) (he : EnvOk env) (h : Evs (cx b) A env args ls H (ClQ (cx b) A (.ref 162) Q)) (hk : env.kindOf "_law_opened" = some .globalImplicit := by rfl) (hs : noStar args = true := by rfl) :
    Ev (cx b) A env (.Call (.Name "_law_opened" p) args [] pos) ls H Q := Ev_Call_def hC he fd_law_opened hk gl_law_opened h hs
theorem call_law_two {args : List Expr} {p pos : Pos} (hC : CxOk (cx b)) (he : EnvOk env) (h : Evs (cx b) A env args ls H (ClQ (cx b) A (.ref 169) Q)) (hk : env.kindOf "_law_two" = some .globalImplicit := by rfl) (hs : noStar args = true := by rfl) :
    Ev (cx b) A env (.Call (.Name "_law_two" p) args [] pos) ls H Q := Ev_Call_def hC he fd_law_two hk gl_law_two h hs
theorem call_law_emptied {args : List Expr} {p pos : Pos} (hC : CxOk (cx b)) (he : EnvOk env) (h : Evs (cx b) A env args ls H (ClQ (cx b) A (.ref 174) Q)) (hk : env.kindOf "_law_emptied" = some .globalImplicit := by rfl) (hs : noStar args = true := by rfl) :
    Ev (cx b) A env (.Call (.Name "_law_emptied" p) args [] pos) ls H Q := Ev_Call_def hC he fd_law_emptied hk gl_law_emptied h hs
theorem call_law_behind {args : List Expr} {p pos : Pos} (hC : CxOk (cx b)) (he : EnvOk env) (h : Evs (cx b) A env args ls H (ClQ (cx b) A (.ref 181) Q)) (hk : env.kindOf "_law_behind" = some .globalImplicit := by rfl) (hs : noStar args = true := by rfl) :
    Ev (cx b) A env (.Call (.Name "_law_behind" p) args [] pos) ls H Q := Ev_Call_def hC he fd_law_behind hk gl_law_behind h hs
theorem call_law_do {args : List Expr} {p pos : Pos} (hC : CxOk (cx b)) (he : EnvOk env) (h : Evs (cx b) A env args ls H (ClQ (cx b) A (.ref 188) Q)) (hk : env.kindOf "_law_do" = some .globalImplicit := by rfl) (hs : noStar args = true := by rfl) :
    Ev (cx b) A env (.Call (.Name "_law_do" p) args [] pos) ls H Q := Ev_Call_def hC he fd_law_do hk gl_law_do h hs
theorem call_law_goal {args : List Expr} {p pos : Pos} (hC : CxOk (cx b)) (he : EnvOk env) (h : Evs (cx b) A env args ls H (ClQ (cx b) A (.ref 195) Q)) (hk : env.kindOf "_law_goal" = some .globalImplicit := by rfl) (hs : noStar args = true := by rfl) :
    Ev (cx b) A env (.Call (.Name "_law_goal" p) args [] pos) ls H Q := Ev_Call_def hC he fd_law_goal hk gl_law_goal h hs
theorem call_law_run {args : List Expr} {p pos : Pos} (hC : CxOk (cx b)) (he : EnvOk env) (h : Evs (cx b) A env args ls H (ClQ (cx b) A (.ref 202) Q)) (hk : env.kindOf "_law_run" = some .globalImplicit := by rfl) (hs : noStar args = true := by rfl) :
    Ev (cx b) A env (.Call (.Name "_law_run" p) args [] pos) ls H Q := Ev_Call_def hC he fd_law_run hk gl_law_run h hs
theorem call_law_passed {args : List Expr} {p pos : Pos} (hC : CxOk (cx b)) (he : EnvOk env) (h : Evs (cx b) A env args ls H (ClQ (cx b) A (.ref 209) Q)) (hk : env.kindOf "_law_passed" = some .globalImplicit := by rfl) (hs : noStar args = true := by rfl) :
    Ev (cx b) A env (.Call (.Name "_law_passed" p) args [] pos) ls H Q := Ev_Call_def hC he fd_law_passed hk gl_law_passed h hs
theorem ev_NOP {pos : Pos} (hC : CxOk (cx b)) (he : EnvOk env) (h : Q (.int 1) H) (hk : env.kindOf "NOP" = some .globalImplicit := by rfl) : Ev (cx b) A env (.Name "NOP" pos) ls H Q := Ev_ig hC he hk gi_NOP h
theorem ev_BLOCK {pos : Pos} (hC : CxOk (cx b)) (he : EnvOk env) (h : Q (.int 2) H) (hk : env.kindOf "BLOCK" = some .globalImplicit := by rfl) : Ev (cx b) A env (.Name "BLOCK" pos) ls H Q := Ev_ig hC he hk gi_BLOCK h
theorem ev_LOOP {pos : Pos} (hC : CxOk (cx b)) (he : EnvOk env) (h : Q (.int 3) H) (hk : env.kindOf "LOOP" = some .globalImplicit := by rfl) : Ev (cx b) A env (.Name "LOOP" pos) ls H Q := Ev_ig hC he hk gi_LOOP h
theorem ev_IF {pos : Pos} (hC : CxOk (cx b)) (he : EnvOk env) (h : Q (.int 4) H) (hk : env.kindOf "IF" = some .globalImplicit := by rfl) : Ev (cx b) A env (.Name "IF" pos) ls H Q := Ev_ig hC he hk gi_IF h
theorem ev_ELSE {pos : Pos} (hC : CxOk (cx b)) (he : EnvOk env) (h : Q (.int 5) H) (hk : env.kindOf "ELSE" = some .globalImplicit := by rfl) : Ev (cx b) A env (.Name "ELSE" pos) ls H Q := Ev_ig hC he hk gi_ELSE h
theorem ev_END {pos : Pos} (hC : CxOk (cx b)) (he : EnvOk env) (h : Q (.int 11) H) (hk : env.kindOf "END" = some .globalImplicit := by rfl) : Ev (cx b) A env (.Name "END" pos) ls H Q := Ev_ig hC he hk gi_END h
theorem ev_BR {pos : Pos} (hC : CxOk (cx b)) (he : EnvOk env) (h : Q (.int 12) H) (hk : env.kindOf "BR" = some .globalImplicit := by rfl) : Ev (cx b) A env (.Name "BR" pos) ls H Q := Ev_ig hC he hk gi_BR h
theorem ev_BR_IF {pos : Pos} (hC : CxOk (cx b)) (he : EnvOk env) (h : Q (.int 13) H) (hk : env.kindOf "BR_IF" = some .globalImplicit := by rfl) : Ev (cx b) A env (.Name "BR_IF" pos) ls H Q := Ev_ig hC he hk gi_BR_IF h
theorem ev_BR_TABLE {pos : Pos} (hC : CxOk (cx b)) (he : EnvOk env) (h : Q (.int 14) H) (hk : env.kindOf "BR_TABLE" = some .globalImplicit := by rfl) : Ev (cx b) A env (.Name "BR_TABLE" pos) ls H Q := Ev_ig hC he hk gi_BR_TABLE h
theorem ev_DROP {pos : Pos} (hC : CxOk (cx b)) (he : EnvOk env) (h : Q (.int 26) H) (hk : env.kindOf "DROP" = some .globalImplicit := by rfl) : Ev (cx b) A env (.Name "DROP" pos) ls H Q := Ev_ig hC he hk gi_DROP h
theorem ev_I32_EQZ {pos : Pos} (hC : CxOk (cx b)) (he : EnvOk env) (h : Q (.int 69) H) (hk : env.kindOf "I32_EQZ" = some .globalImplicit := by rfl) : Ev (cx b) A env (.Name "I32_EQZ" pos) ls H Q := Ev_ig hC he hk gi_I32_EQZ h
theorem call_len {args : List Expr} {p pos : Pos} (hC : CxOk (cx b)) (he : EnvOk env) (h : Evs (cx b) A env args ls H (ClQ (cx b) A (.builtin "len") Q)) (hk : env.kindOf "len" = some .globalImplicit := by rfl) (hs : noStar args = true := by rfl) (ha : (backTo pos (starEach args env)).any (·.1) = false := by rfl) :
    Ev (cx b) A env (.Call (.Name "len" p) args [] pos) ls H Q := Ev_Call_bi hC he hk gb_len bb_len (by decide) h hs ha
theorem call_list {args : List Expr} {p pos : Pos} (hC : CxOk (cx b)) (he : EnvOk env) (h : Evs (cx b) A env args ls H (ClQ (cx b) A (.type "list") Q)) (hk : env.kindOf "list" = some .globalImplicit := by rfl) (hs : noStar args = true := by rfl) (ha : (backTo pos (starEach args env)).any (·.1) = false := by rfl) :
    Ev (cx b) A env (.Call (.Name "list" p) args [] pos) ls H Q := Ev_Call_ty hC he hk gb_list bb_list (by decide) h hs ha
theorem call_tuple {args : List Expr} {p pos : Pos} (hC : CxOk (cx b)) (he : EnvOk env) (h : Evs (cx b) A env args ls H (ClQ (cx b) A (.type "tuple") Q)) (hk : env.kindOf "tuple" = some .globalImplicit := by rfl) (hs : noStar args = true := by rfl) (ha : (backTo pos (starEach args env)).any (·.1) = false := by rfl) :
    Ev (cx b) A env (.Call (.Name "tuple" p) args [] pos) ls H Q := Ev_Call_ty hC he hk gb_tuple bb_tuple (by decide) h hs ha
theorem call_range {args : List Expr} {p pos : Pos} (hC : CxOk (cx b)) (he : EnvOk env) (h : Evs (cx b) A env args ls H (ClQ (cx b) A (.type "range") Q)) (hk : env.kindOf "range" = some .globalImplicit := by rfl) (hs : noStar args = true := by rfl) (ha : (backTo pos (starEach args env)).any (·.1) = false := by rfl) :
    Ev (cx b) A env (.Call (.Name "range" p) args [] pos) ls H Q := Ev_Call_ty hC he hk gb_range bb_range (by decide) h hs ha
theorem call_max {args : List Expr} {p pos : Pos} (hC : CxOk (cx b)) (he : EnvOk env) (h : Evs (cx b) A env args ls H (ClQ (cx b) A (.builtin "max") Q)) (hk : env.kindOf "max" = some .globalImplicit := by rfl) (hs : noStar args = true := by rfl) (ha : (backTo pos (starEach args env)).any (·.1) = false := by rfl) :
    Ev (cx b) A env (.Call (.Name "max" p) args [] pos) ls H Q := Ev_Call_bi hC he hk gb_max bb_max (by decide) h hs ha
theorem call_min {args : List Expr} {p pos : Pos} (hC : CxOk (cx b)) (he : EnvOk env) (h : Evs (cx b) A env args ls H (ClQ (cx b) A (.builtin "min") Q)) (hk : env.kindOf "min" = some .globalImplicit := by rfl) (hs : noStar args = true := by rfl) (ha : (backTo pos (starEach args env)).any (·.1) = false := by rfl) :
    Ev (cx b) A env (.Call (.Name "min" p) args [] pos) ls H Q := Ev_Call_bi hC he hk gb_min bb_min (by decide) h hs ha
theorem call_int {args : List Expr} {p pos : Pos} (hC : CxOk (cx b)) (he : EnvOk env) (h : Evs (cx b) A env args ls H (ClQ (cx b) A (.type "int") Q)) (hk : env.kindOf "int" = some .globalImplicit := by rfl) (hs : noStar args = true := by rfl) (ha : (backTo pos (starEach args env)).any (·.1) = false := by rfl) :
    Ev (cx b) A env (.Call (.Name "int" p) args [] pos) ls H Q := Ev_Call_ty hC he hk gb_int bb_int (by decide) h hs ha
theorem own1 {n : Str} {od : Obj} {v : Value} (h : findObj (cx b).K 52 (some od) n = (lookIn n od).bind fun own => match own with | some v => some (.value v) | none => some .missing) (e : lookIn n od = some (some v)) : findObj (cx b).K 52 (some od) n = some (.value v) := by
  rw [h, e]
  rfl
theorem pieceOk : PieceOk (cx b) := by
  refine ⟨?_, by rfl, by rfl, by rfl, by rfl, ?_, by rfl, by rfl, by rfl, by rfl⟩
  · intro n hn od v e
    simp only [List.mem_cons, List.not_mem_nil, or_false] at hn
    rcases hn with rfl | rfl | rfl
    · exact own1 (by kernel_rfl) e
    · exact own1 (by kernel_rfl) e
    · exact own1 (by kernel_rfl) e
  · intro n hn
    simp only [List.mem_cons, List.not_mem_nil, or_false] at hn
    rcases hn with rfl | rfl | rfl <;> rfl
end

/- NmS2 -/
theorem evs_cons {C : Cx} {A : Around} {env : Env} {e : Expr} {es : List Expr} {ls : Ls} {H : AH} {Q : List V → AH → Prop} (h : Ev C A env e ls H (EvsQ C A env es ls Q)) : Evs C A env (e :: es) ls H Q := h
theorem evs_nil {C : Cx} {A : Around} {env : Env} {ls : Ls} {H : AH} {Q : List V → AH → Prop} (h : Q [] H) : Evs C A env [] ls H Q := h
theorem test_nil {C : Cx} {A : Around} {env : Env} {ls : Ls} {H : AH} {Q : Bool → AH → Prop} (h : Q true H) : Test C A env [] ls H Q := h
theorem test_one {C : Cx} {A : Around} {env : Env} {c : Expr} {ls : Ls} {H : AH} {Q : Bool → AH → Prop} (h : Tr C A env c ls H Q) : Test C A env [c] ls H Q := h
theorem if_t {X Y : Prop} (h : X) : bif true then X else Y := h
theorem if_f {X Y : Prop} (h : Y) : bif false then X else Y := h
theorem mem2 {α : Type} {P : α → Prop} {a b : α} (h1 : P a) (h2 : P b) : ∀ x ∈ [a, b], P x := by
  intro x hx
  simp only [List.mem_cons, List.not_mem_nil, or_false] at hx
  rcases hx with rfl | rfl
  · exact h1
  · exact h2
theorem mem3 {α : Type} {P : α → Prop} {a b c : α} (h1 : P a) (h2 : P b) (h3 : P c) : ∀ x ∈ [a, b, c], P x := by
  intro x hx
  simp only [List.mem_cons, List.not_mem_nil, or_false] at hx
  rcases hx with rfl | rfl | rfl
  · exact h1
  · exact h2
  · exact h3
theorem mem4 {α : Type} {P : α → Prop} {a b c d : α} (h1 : P a) (h2 : P b) (h3 : P c) (h4 : P d) : ∀ x ∈ [a, b, c, d], P x := by
  intro x hx
  simp only [List.mem_cons, List.not_mem_nil, or_false] at hx
  rcases hx with rfl | rfl | rfl | rfl
  · exact h1
  · exact h2
  · exact h3
  · exact h4
theorem ite_t {b : Bool} {X Y : Prop} (hb : b = true) (h : X) : bif b then X else Y := by subst hb; exact h
theorem ite_f {b : Bool} {X Y : Prop} (hb : b = false) (h : Y) : bif b then X else Y := by subst hb; exact h
theorem pt_none {C : Cx} {A : Around} {env : Env} {ls : Ls} {H : AH} {Q : Option Int → AH → Prop} (h : Q none H) : Pt C A env none ls H Q := h
theorem pt_some {C : Cx} {A : Around} {env : Env} {ls : Ls} {H : AH} {e : Expr} {Q : Option Int → AH → Prop} (h : Ev C A env e ls H (PtQ Q)) : Pt C A env (some e) ls H Q := h
/-- the cells that a comprehension takes over -/
noncomputable def caps (env : Env) : List (Str × NameKind) → List (Str × Addr) → List (Str × Addr)
  | [], cs => cs
  | (n, k) :: r, cs => caps env r (if k == .free then (n, (env.cells.lookup n).getD 0) :: cs else cs)
theorem caps_closure {env : Env} : ∀ (l : List (Str × NameKind)) (cs : List (Str × Addr)), l.all (fun p => p.2 != .free || (env.cells.lookup p.1).isSome) = true →
    (forIn l cs fun x (r : List (Str × Addr)) => (if (x.2 == .free) = true then do let a ← cellOf env x.1; pure (ForInStep.yield ((x.1, a) :: r)) else pure (ForInStep.yield r) : Sem (ForInStep (List (Str × Addr))))) = pure (caps env l cs)
  | [], cs, _ => by simp [caps]
  | (n, k) :: r, cs, h => by
    simp only [List.all_cons, Bool.and_eq_true] at h
    obtain ⟨h1, h2⟩ := h
    simp only [List.forIn_cons]
    by_cases hk : (k == .free) = true
    · simp only [hk, if_true]
      have hk' : (k != .free) = false := by rw [bne, hk]; rfl
      simp only [hk', Bool.false_or] at h1
      cases e : env.cells.lookup n with
      | none => rw [e] at h1; cases h1
      | some c =>
        have e2 : cellOf env n = pure c := by simp only [cellOf, e]
        simp only [e2, pure_bind]
        rw [caps_closure r _ h2]
        simp only [caps, hk, if_true, e, Option.getD_some]
    · simp only [hk]
      simp only [Bool.false_eq_true, if_false, pure_bind]
      rw [caps_closure r _ h2]
      simp only [caps, hk]
      rfl
theorem caps_at {env : Env} : ∀ (l : List (Str × NameKind)) (cs : List (Str × Addr)), l.all (fun p => p.2 != .free || (env.cells.lookup p.1).isSome) = true →
    (∀ p ∈ cs, env.cells.lookup p.1 = some p.2) → ∀ p ∈ caps env l cs, env.cells.lookup p.1 = some p.2
  | [], cs, _, h => h
  | (n, k) :: r, cs, h, hc => by
    simp only [List.all_cons, Bool.and_eq_true] at h
    obtain ⟨h1, h2⟩ := h
    simp only [caps]
    refine caps_at r _ h2 ?_
    by_cases hk : (k == .free) = true
    · have hk' : (k != .free) = false := by rw [bne, hk]; rfl
      simp only [hk', Bool.false_or] at h1
      simp only [hk, if_true]
      intro p hp
      rcases List.mem_cons.mp hp with rfl | hp
      · cases e : env.cells.lookup n with
        | none => rw [e] at h1; cases h1
        | some c => rfl
      · exact hc p hp
    · simp only [hk]
      exact hc
theorem CapOk.nil {scope : Scope} {env : Env} {ls : Ls} (h : scope.names.all (fun p => p.2 != .free || (env.cells.lookup p.1).isSome) = true) : CapOk scope (caps env scope.names []) env [] ls :=
  ⟨by
    unfold closureFor
    have h2 := caps_closure scope.names [] h
    refine Eq.trans (congrArg (· >>= fun s => pure s) h2) ?_
    simp only [pure_bind], caps_at _ _ h (fun p hp => by cases hp), fun y v h => by cases h⟩
theorem CapOk.cons {scope : Scope} {env : Env} {cls ls : Ls} {x : Str} {v : V} {cl} (k : CapOk scope cl env cls ls) (h1 : ls.lookup x = some v) (h2 : env.kindOf x = some .cell) (h3 : (compEnvC scope cl 0 env).kindOf x = some .cell) (h4 : cl.lookup x = env.cells.lookup x) :
    CapOk scope cl env ((x, v) :: cls) ls :=
  ⟨k.clos, k.cells, fun y w h => by
    rw [List.lookup_cons] at h
    split at h
    · rename_i e
      have e : y = x := by simpa using e
      subst e
      cases h
      exact ⟨h1, h2, h3, h4⟩
    · exact k.vars y w h⟩
theorem EnvOk.comp {env : Env} {scope : Scope} {cl} {C' : Addr} (he : EnvOk env) (hk : scope.kind = .function) : EnvOk (compEnvC scope cl C' env) := ⟨hk, he.glob, he.blt⟩
section
variable {C : Cx} {A : Around} {H : AH} {Q : V → AH → Prop} {env : Env} {ls : Ls} {R : V → AH → Prop} {N : Ls → AH → Prop}
theorem Ev_Comp' {elt iter : Expr} {x : Str} {px : Pos} {ifs : List Expr} {scope : Scope} {pos : Pos} (cls : Ls)
    (he : EnvOk env) (ha : A.handled = none) (cap : CapOk scope (caps env scope.names []) env cls ls) (hkind : scope.kind = .function)
    (h : Ev C A env iter ls H (CompI C A env elt ifs x scope (caps env scope.names []) cls (LstQ Q)))
    (hcell : ∀ y ∈ scope.names, y.2 ≠ .cell := by decide)
    (hnames : ∀ y ∈ scope.names, y.2 = .local → scope.names.lookup y.1 = some .local := by decide) (hx : scope.names.lookup x = some .local := by decide)
    (hs : ∀ x, foldedSetIterable iter env x = pure x := by intro _; rfl) : Ev C A env (.ListComp elt [⟨.Name x px, iter, ifs, 0⟩] scope pos) ls H Q :=
  Ev_Comp _ cls he ha cap h hcell hkind hnames hx hs
theorem E1_AssignComp' {elt iter : Expr} {x y : Str} {px py : Pos} {ifs : List Expr} {scope : Scope} {pos spos : Pos} (cls : Ls)
    (he : EnvOk env) (ha : A.handled = none) (hy : env.kindOf y = some .local) (cap : CapOk scope (caps env scope.names []) env cls ls) (hkind : scope.kind = .function)
    (h : Ev C A env iter ls H (CompI C A env elt ifs x scope (caps env scope.names []) cls (LstQ (AsgQ y ls N))))
    (hsw : swapsWith (.ListComp elt [⟨.Name x px, iter, ifs, 0⟩] scope pos) (some (.Name y py)) spos.line env = pure true)
    (hcell : ∀ y ∈ scope.names, y.2 ≠ .cell := by decide)
    (hnames : ∀ y ∈ scope.names, y.2 = .local → scope.names.lookup y.1 = some .local := by decide) (hx : scope.names.lookup x = some .local := by decide)
    (hs : ∀ x, foldedSetIterable iter env x = pure x := by intro _; rfl) : E1 C A env (.Assign [.Name y py] (.ListComp elt [⟨.Name x px, iter, ifs, 0⟩] scope pos) spos) ls H R N :=
  E1_AssignComp _ cls he ha hy cap h hsw hcell hkind hnames hx hs
end

/- NmS3 -/
noncomputable def icmp (a b : Int) : CmpOp → Option Bool
  | .Eq => some (a == b)
  | .NotEq => some (a != b)
  | .Lt => some (decide (a < b))
  | .LtE => some (decide (a ≤ b))
  | .Gt => some (decide (a > b))
  | .GtE => some (decide (a ≥ b))
  | _ => none
noncomputable def scmp (a b : Str) : CmpOp → Option Bool
  | .Eq => some (a == b)
  | .NotEq => some (!(a == b))
  | _ => none
noncomputable def ncmp (a : Bool) : CmpOp → Option Bool
  | .Is => some a
  | .IsNot => some (!a)
  | _ => none
noncomputable def asI : V → Option Int
  | .int i => some i
  | _ => none
noncomputable def asS : V → Option Str
  | .str i => some i
  | _ => none
noncomputable def asT : V → Option (List V)
  | .tup i => some i
  | _ => none
/-- is it None, where that is plain -/
noncomputable def asN : V → Option Bool
  | .none => some true
  | .ref _ => some false
  | .lst _ => some false
  | .int _ => some false
  | _ => none
noncomputable def cmpP (op : CmpOp) (a b : V) : Option Bool :=
  (((asI a).bind fun x => (asI b).bind fun y => icmp x y op).or ((asS a).bind fun x => (asS b).bind fun y => scmp x y op)).or ((asN a).bind fun x => if asN b = some true then ncmp x op else none)
section
variable {C : Cx} {A : Around} {H : AH} {Q : V → AH → Prop}
theorem icmp_ok {op : CmpOp} {a b : Int} {c : Bool} (e : icmp a b op = some c) (h : Q (.bool c) H) : Bo C A (compareOp op) (.int a) (.int b) H Q := by
  cases op with
  | Eq => cases e; exact Bo_eq_int h
  | NotEq => cases e; exact Bo_ne_int h
  | Lt => cases e; exact Bo_lt h
  | LtE => cases e; exact Bo_le h
  | Gt => cases e; exact Bo_gt h
  | GtE => cases e; exact Bo_ge h
  | _ => cases e
theorem scmp_ok {op : CmpOp} {a b : Str} {c : Bool} (e : scmp a b op = some c) (h : Q (.bool c) H) : Bo C A (compareOp op) (.str a) (.str b) H Q := by
  cases op with
  | Eq => cases e; exact Bo_eq_str h
  | NotEq => cases e; exact Bo_ne_str h
  | _ => cases e
theorem ncmp_ok {op : CmpOp} {a : V} {c : Bool} (ha : ∀ i, a ≠ .bi i) (e : ncmp a.isNone op = some c) (h : Q (.bool c) H) : Bo C A (compareOp op) a .none H Q := by
  cases op with
  | Is => cases e; exact Bo_is_none h ha
  | IsNot => cases e; exact Bo_isnot_none h ha
  | _ => cases e
theorem asI_eq {a : V} {i : Int} (e : asI a = some i) : a = .int i := by
  cases a with
  | int => cases e; rfl
  | _ => cases e
theorem asS_eq {a : V} {i : Str} (e : asS a = some i) : a = .str i := by
  cases a with
  | str => cases e; rfl
  | _ => cases e
theorem asT_eq {a : V} {i : List V} (e : asT a = some i) : a = .tup i := by
  cases a with
  | tup => cases e; rfl
  | _ => cases e
theorem asN_eq {a : V} {x : Bool} (e : asN a = some x) : a.isNone = x ∧ ∀ i, a ≠ .bi i := by
  cases a with
  | none => cases e; exact ⟨rfl, fun _ h => nomatch h⟩
  | ref => cases e; exact ⟨rfl, fun _ h => nomatch h⟩
  | lst => cases e; exact ⟨rfl, fun _ h => nomatch h⟩
  | int => cases e; exact ⟨rfl, fun _ h => nomatch h⟩
  | _ => cases e
theorem asN_none {a : V} (e : asN a = some true) : a = .none := by
  cases a with
  | none => rfl
  | _ => cases e
theorem cmpP_ok {op : CmpOp} {a b : V} {c : Bool} (e : cmpP op a b = some c) (h : Q (.bool c) H) : Bo C A (compareOp op) a b H Q := by
  rcases Option.or_eq_some_iff.mp e with e | ⟨_, e⟩
  · rcases Option.or_eq_some_iff.mp e with e | ⟨_, e⟩
    · obtain ⟨x, h1, e⟩ := Option.bind_eq_some_iff.mp e
      obtain ⟨y, h2, e⟩ := Option.bind_eq_some_iff.mp e
      rw [asI_eq h1, asI_eq h2]
      exact icmp_ok e h
    · obtain ⟨x, h1, e⟩ := Option.bind_eq_some_iff.mp e
      obtain ⟨y, h2, e⟩ := Option.bind_eq_some_iff.mp e
      rw [asS_eq h1, asS_eq h2]
      exact scmp_ok e h
  · obtain ⟨x, h1, e⟩ := Option.bind_eq_some_iff.mp e
    obtain ⟨rfl, h3⟩ := asN_eq h1
    by_cases hb : asN b = some true
    · rw [if_pos hb] at e
      rw [asN_none hb]
      exact ncmp_ok h3 e h
    · rw [if_neg hb] at e
      cases e
end
noncomputable def evPs (f : Expr → Option V) : List Expr → Option (List V)
  | [] => some []
  | e :: r => (f e).bind fun v => (evPs f r).bind fun vs => some (v :: vs)
noncomputable def conP : Const → Option V
  | .int i => some (.int i)
  | .str i => some (.str i)
  | .bool i => some (.bool i)
  | .none => some .none
  | _ => none
noncomputable def conI : Expr → Option Int
  | .Constant c _ _ => (conP c).bind asI
  | _ => none
noncomputable def binP (a b : Int) : Operator → Option Int
  | .Add => some (a + b)
  | .Sub => some (a - b)
  | .Mod => if 0 < b then some (a % b) else none
  | .FloorDiv => if 0 < b ∧ b < 1073741824 then some (a / b) else none
  | _ => none
noncomputable def one {α : Type} : List α → Option α
  | [x] => some x
  | _ => none
noncomputable def evStep (ls : Ls) (f : Expr → Option V) : Expr → Option V
  | .Name x _ => (ls.lookup x).bind fun v => if x == ("__debug__" : Str) then none else some v
  | .Constant c _ _ => conP c
  | .UnaryOp op e _ => (match op with | .USub => some () | _ => none).bind fun _ => (conI e).bind fun i => some (.int (-i))
  | .Tuple es _ _ => if noStar es = true ∧ es.length ≤ 9 then (evPs f es).map .tup else none
  | .Subscript e i _ => (f e).bind fun v => (asT v).bind fun l => (conI i).bind fun k => if l.length ≤ 9 then idx l k else none
  | .BinOp l op r _ => (f l).bind fun a => (asI a).bind fun a => (f r).bind fun b => (asI b).bind fun b => (binP a b op).map .int
  | .Compare l ops rs _ => (one ops).bind fun op => (one rs).bind fun r => if behindInMarks op r = true then none else (f l).bind fun a => (f r).bind fun b => (cmpP op a b).map .bool
  | _ => none
/-- what a plain expression gives, by the names alone -/
noncomputable def evP (ls : Ls) : Nat → Expr → Option V
  | 0 => fun _ => none
  | n + 1 => evStep ls (evP ls n)
noncomputable def thP : V → Option Bool
  | .bool b => some b
  | .int i => some (i != 0)
  | _ => none
noncomputable def nameP : Expr → Bool
  | .Name _ _ => true
  | _ => false
noncomputable def andP (g : Expr → Option Bool) : List Expr → Option Bool
  | [] => some true
  | x :: r => (g x).bind fun a => (andP g r).bind fun b => some (a && b)
noncomputable def orP (g : Expr → Option Bool) : List Expr → Option Bool
  | [] => some false
  | x :: r => (g x).bind fun a => (orP g r).bind fun b => some (a || b)
noncomputable def trStep (f : Expr → Option V) (g : Expr → Option Bool) : Expr → Option Bool
  | .BoolOp op es _ => match op with
      | .And => andP g es
      | .Or => orP g es
  | .UnaryOp op x _ => (match op with | .Not => some () | _ => none).bind fun _ => (g x).bind fun a => some (!a)
  | .Compare l ops rs _ => (one ops).bind fun op => (one rs).bind fun r => if behindInMarks op r = true then none else (f l).bind fun a => (f r).bind fun b => cmpP op a b
  | .Name x p => (f (.Name x p)).bind thP
  | _ => none
/-- the same of a test -/
noncomputable def trP (ls : Ls) : Nat → Expr → Option Bool
  | 0 => fun _ => none
  | n + 1 => trStep (evP ls n) (trP ls n)
theorem sub_const (i : Int) (k : Nat) (p : Pos) : ∀ a k' u, subscripted (.Constant (.int i) k p) false (.ref a) (.int k' u) = operate [.ref a, .int k' u] (getItem (.ref a) (.int k' u)) := by
  intro a k' u
  with_unfolding_all rfl
theorem one_eq {α : Type} {l : List α} {x : α} (h : one l = some x) : l = [x] := by
  match l, h with
  | [y], h => cases h; rfl
  | [], h => cases h
  | _ :: _ :: _, h => cases h
theorem conI_eq {e : Expr} {i : Int} (h : conI e = some i) : ∃ k p, e = .Constant (.int i) k p := by
  cases e with
  | Constant c k p =>
    cases c with
    | int j => cases h; exact ⟨k, p, rfl⟩
    | _ => cases h
  | _ => cases h
section
variable {C : Cx} {A : Around} {env : Env} {ls : Ls}
theorem evPs_ok {f : Expr → Option V} (hf : ∀ e v, f e = some v → ∀ (H : AH) (Q : V → AH → Prop), Q v H → Ev C A env e ls H Q) : ∀ es vs, evPs f es = some vs → ∀ (H : AH) (Q : List V → AH → Prop), Q vs H → Evs C A env es ls H Q
  | [], vs, e, H, Q, h => by
    cases e
    exact evs_nil h
  | x :: r, vs, e, H, Q, h => by
    obtain ⟨v, h1, h2⟩ := Option.bind_eq_some_iff.mp e
    obtain ⟨ws, h3, h4⟩ := Option.bind_eq_some_iff.mp h2
    cases h4
    exact evs_cons (hf x v h1 H _ (evPs_ok hf r ws h3 H _ h))
theorem conP_ok {c : Const} {k p} {v : V} (h : conP c = some v) {H : AH} {Q : V → AH → Prop} (q : Q v H) : Ev C A env (.Constant c k p) ls H Q := by
  cases c with
  | int => cases h; exact Ev_int q
  | str => cases h; exact Ev_str q
  | bool => cases h; exact Ev_bool q
  | none => cases h; exact Ev_none q
  | _ => cases h
theorem binP_ok {op : Operator} {a b v : Int} (h : binP a b op = some v) {H : AH} {Q : V → AH → Prop} (q : Q (.int v) H) : Bo C A (binaryOp op) (.int a) (.int b) H Q := by
  cases op with
  | Add => cases h; exact Bo_add q
  | Sub => cases h; exact Bo_sub q
  | Mod =>
    obtain ⟨hc, h⟩ := Option.ite_none_right_eq_some.mp h
    cases h
    exact Bo_mod hc q
  | FloorDiv =>
    obtain ⟨hc, h⟩ := Option.ite_none_right_eq_some.mp h
    cases h
    exact Bo_div hc.1 hc.2 q
  | _ => cases h
theorem evStep_ok {f : Expr → Option V} (he : EnvOk env) (hf : ∀ e v, f e = some v → ∀ (H : AH) (Q : V → AH → Prop), Q v H → Ev C A env e ls H Q) (e : Expr) (v : V) (h : evStep ls f e = some v) (H : AH) (Q : V → AH → Prop) (q : Q v H) : Ev C A env e ls H Q := by
  cases e with
  | Name x p =>
    obtain ⟨w, h1, h2⟩ := Option.bind_eq_some_iff.mp h
    obtain ⟨hd, h2⟩ := Option.ite_none_left_eq_some.mp h2
    cases h2
    exact Ev_var he h1 q (by simpa using hd)
  | Constant c k p => exact conP_ok h q
  | UnaryOp op x p =>
    obtain ⟨_, h0, h⟩ := Option.bind_eq_some_iff.mp h
    obtain ⟨i, h1, h2⟩ := Option.bind_eq_some_iff.mp h
    cases h2
    obtain ⟨k, p', rfl⟩ := conI_eq h1
    cases op with
    | USub => exact Ev_Neg q
    | _ => cases h0
  | Tuple es k p =>
    obtain ⟨hl, h⟩ := Option.ite_none_right_eq_some.mp h
    obtain ⟨vs, h1, rfl⟩ := Option.map_eq_some_iff.mp h
    exact Ev_Tuple (evPs_ok hf _ vs h1 H _ q) hl.1 (Nat.le_trans hl.2 (by decide))
  | Subscript x i p =>
    obtain ⟨w, h1, h4⟩ := Option.bind_eq_some_iff.mp h
    obtain ⟨l, h2, h5⟩ := Option.bind_eq_some_iff.mp h4
    obtain ⟨k, h3, h6⟩ := Option.bind_eq_some_iff.mp h5
    obtain ⟨hl, h7⟩ := Option.ite_none_right_eq_some.mp h6
    obtain ⟨k', p', e'⟩ := conI_eq h3
    rw [e']
    exact Ev_Sub_tup (hf _ _ h1 H _ (Ev_int ⟨_, _, _, asT_eq h2, rfl, h7, Nat.le_trans hl (by decide), q⟩)) (sub_const _ _ _)
  | BinOp l op r p =>
    obtain ⟨w, h1, h⟩ := Option.bind_eq_some_iff.mp h
    obtain ⟨a, h2, h⟩ := Option.bind_eq_some_iff.mp h
    obtain ⟨u, h3, h⟩ := Option.bind_eq_some_iff.mp h
    obtain ⟨b, h4, h⟩ := Option.bind_eq_some_iff.mp h
    obtain ⟨c, h5, rfl⟩ := Option.map_eq_some_iff.mp h
    refine Ev_BinOp (hf _ _ h1 H _ (hf _ _ h3 H _ ?_))
    rw [asI_eq h2, asI_eq h4]
    exact binP_ok h5 q
  | Compare l ops rs p =>
    obtain ⟨op, h1, h⟩ := Option.bind_eq_some_iff.mp h
    obtain ⟨r, h2, h⟩ := Option.bind_eq_some_iff.mp h
    obtain ⟨hm, h⟩ := Option.ite_none_left_eq_some.mp h
    obtain ⟨w, h3, h⟩ := Option.bind_eq_some_iff.mp h
    obtain ⟨u, h4, h⟩ := Option.bind_eq_some_iff.mp h
    obtain ⟨c, h5, rfl⟩ := Option.map_eq_some_iff.mp h
    rw [one_eq h1, one_eq h2]
    exact Ev_Compare (hf _ _ h3 H _ (hf _ _ h4 H _ (cmpP_ok h5 q))) (by simpa using hm)
  | _ => cases h
theorem evP_ok (he : EnvOk env) : ∀ n e v, evP ls n e = some v → ∀ (H : AH) (Q : V → AH → Prop), Q v H → Ev C A env e ls H Q
  | 0, e, v, h => by cases h
  | n + 1, e, v, h => evStep_ok he (evP_ok he n) e v h
theorem andP_ok {g : Expr → Option Bool} {p : Pos} (hg : ∀ e v, g e = some v → ∀ (H : AH) (Q : Bool → AH → Prop), Q v H → Tr C A env e ls H Q) : ∀ es v, andP g es = some v → ∀ (H : AH) (Q : Bool → AH → Prop), Q v H → Tr C A env (.BoolOp .And es p) ls H Q
  | [], v, h, H, Q, q => by cases h; exact Tr_and_nil q
  | x :: r, v, h, H, Q, q => by
    obtain ⟨a, h1, h2⟩ := Option.bind_eq_some_iff.mp h
    obtain ⟨c, h3, h4⟩ := Option.bind_eq_some_iff.mp h2
    cases h4
    refine Tr_and (hg _ _ h1 H _ ?_)
    cases a
    · exact q
    · exact andP_ok hg r _ h3 H _ q
theorem orP_ok {g : Expr → Option Bool} {p : Pos} (hg : ∀ e v, g e = some v → ∀ (H : AH) (Q : Bool → AH → Prop), Q v H → Tr C A env e ls H Q) : ∀ es v, orP g es = some v → ∀ (H : AH) (Q : Bool → AH → Prop), Q v H → Tr C A env (.BoolOp .Or es p) ls H Q
  | [], v, h, H, Q, q => by cases h; exact Tr_or_nil q
  | x :: r, v, h, H, Q, q => by
    obtain ⟨a, h1, h2⟩ := Option.bind_eq_some_iff.mp h
    obtain ⟨c, h3, h4⟩ := Option.bind_eq_some_iff.mp h2
    cases h4
    refine Tr_or (hg _ _ h1 H _ ?_)
    cases a
    · exact orP_ok hg r _ h3 H _ q
    · exact q
theorem trStep_ok {f : Expr → Option V} {g : Expr → Option Bool} (hf : ∀ e v, f e = some v → ∀ (H : AH) (Q : V → AH → Prop), Q v H → Ev C A env e ls H Q) (hg : ∀ e v, g e = some v → ∀ (H : AH) (Q : Bool → AH → Prop), Q v H → Tr C A env e ls H Q) (e : Expr) (v : Bool) (h : trStep f g e = some v) (H : AH) (Q : Bool → AH → Prop) (q : Q v H) : Tr C A env e ls H Q := by
  cases e with
  | BoolOp op es p =>
    cases op
    · exact andP_ok hg es v h H Q q
    · exact orP_ok hg es v h H Q q
  | UnaryOp op x p =>
    obtain ⟨_, h0, h⟩ := Option.bind_eq_some_iff.mp h
    obtain ⟨a, h1, h2⟩ := Option.bind_eq_some_iff.mp h
    cases h2
    cases op with
    | Not => exact Tr_not (hg _ _ h1 H _ q)
    | _ => cases h0
  | Compare l ops rs p =>
    obtain ⟨op, h1, h⟩ := Option.bind_eq_some_iff.mp h
    obtain ⟨r, h2, h⟩ := Option.bind_eq_some_iff.mp h
    obtain ⟨hm, h⟩ := Option.ite_none_left_eq_some.mp h
    obtain ⟨w, h3, h⟩ := Option.bind_eq_some_iff.mp h
    obtain ⟨u, h4, h⟩ := Option.bind_eq_some_iff.mp h
    rw [one_eq h1, one_eq h2]
    exact Tr_Compare (hf _ _ h3 H _ (hf _ _ h4 H _ (cmpP_ok h (Th_bool q)))) (by simpa using hm)
  | Name x p =>
    obtain ⟨w, h1, h⟩ := Option.bind_eq_some_iff.mp h
    refine Tr_val (hf _ _ h1 H _ ?_)
    cases w with
    | bool => cases h; exact Th_bool q
    | int => cases h; exact Th_int q
    | _ => cases h
  | _ => cases h
theorem trP_ok (he : EnvOk env) : ∀ n e v, trP ls n e = some v → ∀ (H : AH) (Q : Bool → AH → Prop), Q v H → Tr C A env e ls H Q
  | 0, e, v, h => by cases h
  | n + 1, e, v, h => trStep_ok (evP_ok he n) (trP_ok he n) e v h
theorem Ev_p {e : Expr} {v : V} (he : EnvOk env) (h : evP ls 9 e = some v) {H : AH} {Q : V → AH → Prop} (q : Q v H) : Ev C A env e ls H Q := evP_ok he 9 e v h H Q q
theorem Tr_p {e : Expr} {v : Bool} (he : EnvOk env) (h : trP ls 9 e = some v) {H : AH} {Q : Bool → AH → Prop} (q : Q v H) : Tr C A env e ls H Q := trP_ok he 9 e v h H Q q
theorem Evs_p {es : List Expr} {vs : List V} (he : EnvOk env) (h : evPs (evP ls 9) es = some vs) {H : AH} {Q : List V → AH → Prop} (q : Q vs H) : Evs C A env es ls H Q := evPs_ok (evP_ok he 9) es vs h H Q q
end

/- NmR -/
noncomputable abbrev Tk := List Int
noncomputable def code (t : Tk) : Int := t.headD 0

inductive Node where
  | op (p : Tk)
  | br (c : Int) (g : List Int)
  | blk1 (c n : Int) (f : List Node)
  | blk2 (c n : Int) (f s : List Node)

mutual
noncomputable def nodeV : Node → V
  | .op p => .tup [.str "op", pl p]
  | .br c g => .tup [.str "br", .int c, li g]
  | .blk1 c n f => .tup [.str "block", .int c, .int n, .lst (nodesV f), .none]
  | .blk2 c n f s => .tup [.str "block", .int c, .int n, .lst (nodesV f), .lst (nodesV s)]
noncomputable def nodesV : List Node → List V
  | [] => []
  | x :: r => nodeV x :: nodesV r
end
theorem nodesV_q0 : nodesV ([]) = ([]) := rfl
theorem nodesV_q1 (x) (r) : nodesV (x :: r) = (nodeV x :: nodesV r) := rfl
theorem nodeV_q0 (p) : nodeV (.op p) = (.tup [.str "op", pl p]) := rfl
theorem nodeV_q1 (c) (g) : nodeV (.br c g) = (.tup [.str "br", .int c, li g]) := rfl
theorem nodeV_q2 (c) (n) (f) : nodeV (.blk1 c n f) = (.tup [.str "block", .int c, .int n, .lst (nodesV f), .none]) := rfl
theorem nodeV_q3 (c) (n) (f) (s) : nodeV (.blk2 c n f s) = (.tup [.str "block", .int c, .int n, .lst (nodesV f), .lst (nodesV s)]) := rfl

mutual
noncomputable def flat1 (o : List Int) : Node → List Tk
  | .op p => [p]
  | .br c g => [c :: g.map fun x => ((o.reverse.idxOf x : Nat) : Int)]
  | .blk1 c n f => [[c, -64]] ++ flatN (o ++ [n]) f ++ [[11]]
  | .blk2 c n f s => [[c, -64]] ++ flatN (o ++ [n]) f ++ ([[5]] ++ flatN (o ++ [n]) s) ++ [[11]]
noncomputable def flatN (o : List Int) : List Node → List Tk
  | [] => []
  | x :: r => flat1 o x ++ flatN o r
end
theorem flatN_q0 (o : List Int) : flatN o ([]) = ([]) := rfl
theorem flatN_q1 (o : List Int) (x) (r) : flatN o (x :: r) = (flat1 o x ++ flatN o r) := rfl
theorem flat1_q0 (o : List Int) (p) : flat1 o (.op p) = ([p]) := rfl
theorem flat1_q1 (o : List Int) (c) (g) : flat1 o (.br c g) = ([c :: g.map fun x => ((o.reverse.idxOf x : Nat) : Int)]) := rfl
theorem flat1_q2 (o : List Int) (c) (n) (f) : flat1 o (.blk1 c n f) = ([[c, -64]] ++ flatN (o ++ [n]) f ++ [[11]]) := rfl
theorem flat1_q3 (o : List Int) (c) (n) (f) (s) : flat1 o (.blk2 c n f s) = ([[c, -64]] ++ flatN (o ++ [n]) f ++ ([[5]] ++ flatN (o ++ [n]) s) ++ [[11]]) := rfl

mutual
noncomputable def goals1 : Node → List Int
  | .op _ => []
  | .br _ g => g
  | .blk1 _ _ f => goalsN f
  | .blk2 _ _ f s => goalsN f ++ goalsN s
noncomputable def goalsN : List Node → List Int
  | [] => []
  | x :: r => goals1 x ++ goalsN r
end
theorem goalsN_q0 : goalsN ([]) = ([]) := rfl
theorem goalsN_q1 (x) (r) : goalsN (x :: r) = (goals1 x ++ goalsN r) := rfl
theorem goals1_q0 (w1) : goals1 (.op w1) = ([]) := rfl
theorem goals1_q1 (w1) (g) : goals1 (.br w1 g) = (g) := rfl
theorem goals1_q2 (w1) (w2) (f) : goals1 (.blk1 w1 w2 f) = (goalsN f) := rfl
theorem goals1_q3 (w1) (w2) (f) (s) : goals1 (.blk2 w1 w2 f s) = (goalsN f ++ goalsN s) := rfl

mutual
noncomputable def open1 (m : List Int) : Node → List Node
  | .op p => [.op p]
  | .br c g => [.br c g]
  | .blk1 c n f => if c < 4 ∧ n ∉ m then openN m f else [.blk1 c n (openN m f)]
  | .blk2 c n f s => if c < 4 ∧ n ∉ m then openN m f else [.blk2 c n (openN m f) (openN m s)]
noncomputable def openN (m : List Int) : List Node → List Node
  | [] => []
  | x :: r => open1 m x ++ openN m r
end
theorem openN_q0 (m : List Int) : openN m ([]) = ([]) := rfl
theorem openN_q1 (m : List Int) (x) (r) : openN m (x :: r) = (open1 m x ++ openN m r) := rfl
theorem open1_q0 (m : List Int) (p) : open1 m (.op p) = ([.op p]) := rfl
theorem open1_q1 (m : List Int) (c) (g) : open1 m (.br c g) = ([.br c g]) := rfl
theorem open1_q2 (m : List Int) (c) (n) (f) : open1 m (.blk1 c n f) = (if c < 4 ∧ n ∉ m then openN m f else [.blk1 c n (openN m f)]) := rfl
theorem open1_q3 (m : List Int) (c) (n) (f) (s) : open1 m (.blk2 c n f s) = (if c < 4 ∧ n ∉ m then openN m f else [.blk2 c n (openN m f) (openN m s)]) := rfl

/-- a piece, as data -/
inductive PT where
  | leaf (p : Tk)
  | one (p : Tk) (f : List PT)
  | two (p : Tk) (f s : List PT)

mutual
noncomputable def ptok1 : PT → List Tk
  | .leaf p => [p]
  | .one p f => p :: ptoks f ++ [[11]]
  | .two p f s => p :: ptoks f ++ ([5] :: ptoks s) ++ [[11]]
noncomputable def ptoks : List PT → List Tk
  | [] => []
  | x :: r => ptok1 x ++ ptoks r
end
theorem ptoks_q0 : ptoks ([]) = ([]) := rfl
theorem ptoks_q1 (x) (r) : ptoks (x :: r) = (ptok1 x ++ ptoks r) := rfl
theorem ptok1_q0 (p) : ptok1 (.leaf p) = ([p]) := rfl
theorem ptok1_q1 (p) (f) : ptok1 (.one p f) = (p :: ptoks f ++ [[11]]) := rfl
theorem ptok1_q2 (p) (f) (s) : ptok1 (.two p f s) = (p :: ptoks f ++ ([5] :: ptoks s) ++ [[11]]) := rfl

mutual
noncomputable def pt1 (o : List Int) : Node → PT
  | .op p => .leaf p
  | .br c g => .leaf (c :: g.map fun x => ((o.reverse.idxOf x : Nat) : Int))
  | .blk1 c n f => .one [c, -64] (ptN (o ++ [n]) f)
  | .blk2 c n f s => .two [c, -64] (ptN (o ++ [n]) f) (ptN (o ++ [n]) s)
noncomputable def ptN (o : List Int) : List Node → List PT
  | [] => []
  | x :: r => pt1 o x :: ptN o r
end
theorem ptN_q0 (o : List Int) : ptN o ([]) = ([]) := rfl
theorem ptN_q1 (o : List Int) (x) (r) : ptN o (x :: r) = (pt1 o x :: ptN o r) := rfl
theorem pt1_q0 (o : List Int) (p) : pt1 o (.op p) = (.leaf p) := rfl
theorem pt1_q1 (o : List Int) (c) (g) : pt1 o (.br c g) = (.leaf (c :: g.map fun x => ((o.reverse.idxOf x : Nat) : Int))) := rfl
theorem pt1_q2 (o : List Int) (c) (n) (f) : pt1 o (.blk1 c n f) = (.one [c, -64] (ptN (o ++ [n]) f)) := rfl
theorem pt1_q3 (o : List Int) (c) (n) (f) (s) : pt1 o (.blk2 c n f s) = (.two [c, -64] (ptN (o ++ [n]) f) (ptN (o ++ [n]) s)) := rfl

mutual
theorem flat1_pt (o : List Int) : ∀ x : Node, flat1 o x = ptok1 (pt1 o x)
  | .op p => by simp [flat1_q0, flat1_q1, flat1_q2, flat1_q3, pt1_q0, pt1_q1, pt1_q2, pt1_q3, ptok1_q0, ptok1_q1, ptok1_q2]
  | .br c g => by simp [flat1_q0, flat1_q1, flat1_q2, flat1_q3, pt1_q0, pt1_q1, pt1_q2, pt1_q3, ptok1_q0, ptok1_q1, ptok1_q2]
  | .blk1 c n f => by simp [flat1_q0, flat1_q1, flat1_q2, flat1_q3, pt1_q0, pt1_q1, pt1_q2, pt1_q3, ptok1_q0, ptok1_q1, ptok1_q2, flatN_pt (o ++ [n]) f]
  | .blk2 c n f s => by simp [flat1_q0, flat1_q1, flat1_q2, flat1_q3, pt1_q0, pt1_q1, pt1_q2, pt1_q3, ptok1_q0, ptok1_q1, ptok1_q2, flatN_pt (o ++ [n]) f, flatN_pt (o ++ [n]) s]
theorem flatN_pt (o : List Int) : ∀ l : List Node, flatN o l = ptoks (ptN o l)
  | [] => by simp [flatN_q0, flatN_q1, ptN_q0, ptN_q1, ptoks_q0, ptoks_q1]
  | x :: r => by simp [flatN_q0, flatN_q1, ptN_q0, ptN_q1, ptoks_q0, ptoks_q1, flat1_pt o x, flatN_pt o r]
end

noncomputable def PT.plain : PT → Tk
  | .leaf p => p
  | .one p _ => p
  | .two p _ _ => p
noncomputable def PT.code (x : PT) : Int := Nm.code x.plain
noncomputable def labelsT (p : Tk) : List Int := if code p = 12 ∨ code p = 13 ∨ code p = 14 then p.tail else []

mutual
noncomputable def cut1 : PT → List PT
  | .leaf p => if code p ≠ 1 then [.leaf p] else []
  | .one p f => if code p = 4 ∧ cutP f = [] then [.leaf [26]] else if code p ≠ 1 ∧ cutP f ≠ [] then [.one p (cutP f)] else []
  | .two p f s => if cutP s = [] then (if code p = 4 ∧ cutP f = [] then [.leaf [26]] else if code p ≠ 1 ∧ cutP f ≠ [] then [.one p (cutP f)] else [])
      else (if code p = 4 ∧ cutP f = [] then [.leaf [69], .one p (cutP s)] else if code p ≠ 1 ∧ cutP f ≠ [] then [.two p (cutP f) (cutP s)] else [])
noncomputable def cutP : List PT → List PT
  | [] => []
  | x :: r => cut1 x ++ cutP r
end
theorem cutP_q0 : cutP ([]) = ([]) := rfl
theorem cutP_q1 (x) (r) : cutP (x :: r) = (cut1 x ++ cutP r) := rfl
theorem cut1_q0 (p) : cut1 (.leaf p) = (if code p ≠ 1 then [.leaf p] else []) := rfl
theorem cut1_q1 (p) (f) : cut1 (.one p f) = (if code p = 4 ∧ cutP f = [] then [.leaf [26]] else if code p ≠ 1 ∧ cutP f ≠ [] then [.one p (cutP f)] else []) := rfl
theorem cut1_q2 (p) (f) (s) : cut1 (.two p f s) = (if cutP s = [] then (if code p = 4 ∧ cutP f = [] then [.leaf [26]] else if code p ≠ 1 ∧ cutP f ≠ [] then [.one p (cutP f)] else []) else (if code p = 4 ∧ cutP f = [] then [.leaf [69], .one p (cutP s)] else if code p ≠ 1 ∧ cutP f ≠ [] then [.two p (cutP f) (cutP s)] else [])) := rfl

mutual
noncomputable def named1 (d : Int) : PT → Bool
  | .leaf p => decide (d ∈ labelsT p)
  | .one p f => decide (d ∈ labelsT p) || namedP (d + 1) f
  | .two p f s => decide (d ∈ labelsT p) || namedP (d + 1) f || namedP (d + 1) s
noncomputable def namedP (d : Int) : List PT → Bool
  | [] => false
  | x :: r => named1 d x || namedP d r
end
theorem namedP_q0 (d : Int) : namedP d ([]) = (false) := rfl
theorem namedP_q1 (d : Int) (x) (r) : namedP d (x :: r) = (named1 d x || namedP d r) := rfl
theorem named1_q0 (d : Int) (p) : named1 d (.leaf p) = (decide (d ∈ labelsT p)) := rfl
theorem named1_q1 (d : Int) (p) (f) : named1 d (.one p f) = (decide (d ∈ labelsT p) || namedP (d + 1) f) := rfl
theorem named1_q2 (d : Int) (p) (f) (s) : named1 d (.two p f s) = (decide (d ∈ labelsT p) || namedP (d + 1) f || namedP (d + 1) s) := rfl

noncomputable def lowT (d : Int) (p : Tk) : Tk := if labelsT p ≠ [] then code p :: (labelsT p).map fun l => if l > d then l - 1 else l else p
mutual
noncomputable def low1 (d : Int) : PT → PT
  | .leaf p => .leaf (lowT d p)
  | .one p f => .one (lowT d p) (lowP (d + 1) f)
  | .two p f s => .two (lowT d p) (lowP (d + 1) f) (lowP (d + 1) s)
noncomputable def lowP (d : Int) : List PT → List PT
  | [] => []
  | x :: r => low1 d x :: lowP d r
end
theorem lowP_q0 (d : Int) : lowP d ([]) = ([]) := rfl
theorem lowP_q1 (d : Int) (x) (r) : lowP d (x :: r) = (low1 d x :: lowP d r) := rfl
theorem low1_q0 (d : Int) (p) : low1 d (.leaf p) = (.leaf (lowT d p)) := rfl
theorem low1_q1 (d : Int) (p) (f) : low1 d (.one p f) = (.one (lowT d p) (lowP (d + 1) f)) := rfl
theorem low1_q2 (d : Int) (p) (f) (s) : low1 d (.two p f s) = (.two (lowT d p) (lowP (d + 1) f) (lowP (d + 1) s)) := rfl

mutual
noncomputable def opn1 : PT → List PT
  | .leaf p => [.leaf p]
  | .one p f => if (code p = 2 ∨ code p = 3) ∧ namedP 0 (openP f) = false then lowP 0 (openP f) else [.one p (openP f)]
  | .two p f s => if (code p = 2 ∨ code p = 3) ∧ namedP 0 (openP f) = false then lowP 0 (openP f) else [.two p (openP f) (openP s)]
noncomputable def openP : List PT → List PT
  | [] => []
  | x :: r => opn1 x ++ openP r
end
theorem openP_q0 : openP ([]) = ([]) := rfl
theorem openP_q1 (x) (r) : openP (x :: r) = (opn1 x ++ openP r) := rfl
theorem opn1_q0 (p) : opn1 (.leaf p) = ([.leaf p]) := rfl
theorem opn1_q1 (p) (f) : opn1 (.one p f) = (if (code p = 2 ∨ code p = 3) ∧ namedP 0 (openP f) = false then lowP 0 (openP f) else [.one p (openP f)]) := rfl
theorem opn1_q2 (p) (f) (s) : opn1 (.two p f s) = (if (code p = 2 ∨ code p = 3) ∧ namedP 0 (openP f) = false then lowP 0 (openP f) else [.two p (openP f) (openP s)]) := rfl

/-- the rewriting of a flat body -/
noncomputable def two? (a b : Tk) : Option (List Tk) := if code b ≠ 11 ∨ ¬ (2 ≤ code a ∧ code a ≤ 5) then none else some (if code a < 4 then [] else if code a = 4 then [[26]] else [b])
noncomputable def pushR : List Tk → Tk → List Tk
  | [], t => [t]
  | a :: S, t => if code t = 11 then (if code a = 2 ∨ code a = 3 then S else if code a = 4 then [26] :: S else if code a = 5 then pushR S t else t :: a :: S) else t :: a :: S
theorem pushR_q0 (t) : pushR ([]) (t) = ([t]) := rfl
theorem pushR_q1 (a) (S) (t) : pushR (a :: S) (t) = (if code t = 11 then (if code a = 2 ∨ code a = 3 then S else if code a = 4 then [26] :: S else if code a = 5 then pushR S t else t :: a :: S) else t :: a :: S) := rfl
noncomputable def finF (F : List Tk) : List Tk := F.zipIdx.flatMap fun (p, i) => (if code p = 4 ∧ code (F.getD (i + 1) []) = 5 then [[69]] else []) ++ (if code p ≠ 5 ∨ code ((idx F ((i : Int) - 1)).getD []) ≠ 4 then [p] else [])
noncomputable def emptF (b : List Tk) : List Tk := finF ((b.dropLast.filter fun t => t ≠ [1]).foldl pushR []).reverse ++ [[11]]

/-- behind a block's end, or its else -/
noncomputable def behF (e : Bool) : Nat → List Tk → Option Nat
  | _, [] => none
  | d, t :: r => if d = 0 ∧ (code t = 11 ∨ (e = true ∧ code t = 5)) then some 1
      else (behF e (if 2 ≤ code t ∧ code t ≤ 4 then d + 1 else if code t = 11 then d - 1 else d) r).map (· + 1)
theorem behF_q0 (e : Bool) (w1) : behF e (w1) ([]) = (none) := rfl
theorem behF_q1 (e : Bool) (d) (t) (r) : behF e (d) (t :: r) = (if d = 0 ∧ (code t = 11 ∨ (e = true ∧ code t = 5)) then some 1 else (behF e (if 2 ≤ code t ∧ code t ≤ 4 then d + 1 else if code t = 11 then d - 1 else d) r).map (· + 1)) := rfl

/- NmR2 -/
/-- the statements of a made body -/
inductive St where
  | nop
  | out (n : Int)
  | neg (r w : Int)
  | brn (o : Bool) (c : Int) (g : List Int) (r : Int)
  | blk (c n : Int) (f : List St)
  | if1 (r n : Int) (f : List St)
  | if2 (r n : Int) (f s : List St)
mutual
noncomputable def nodes1 : St → List Node
  | .nop => [.op [1]]
  | .out n => [.op [65, n], .op [16, 0]]
  | .neg r w => [.op [32, r], .op [69], .op [33, w]]
  | .brn o c g r => (if o then [.op [65, 9], .op [16, 0]] else []) ++ (if c = 12 then [] else [.op [32, r]]) ++ [.br c g]
  | .blk c n f => [.blk1 c n (nodesS f)]
  | .if1 r n f => [.op [32, r], .blk1 4 n (nodesS f)]
  | .if2 r n f s => [.op [32, r], .blk2 4 n (nodesS f) (nodesS s)]
noncomputable def nodesS : List St → List Node
  | [] => []
  | x :: r => nodes1 x ++ nodesS r
end
theorem nodesS_q0 : nodesS ([]) = ([]) := rfl
theorem nodesS_q1 (x) (r) : nodesS (x :: r) = (nodes1 x ++ nodesS r) := rfl
theorem nodes1_q0 : nodes1 (.nop) = ([.op [1]]) := rfl
theorem nodes1_q1 (n) : nodes1 (.out n) = ([.op [65, n], .op [16, 0]]) := rfl
theorem nodes1_q2 (r) (w) : nodes1 (.neg r w) = ([.op [32, r], .op [69], .op [33, w]]) := rfl
theorem nodes1_q3 (o) (c) (g) (r) : nodes1 (.brn o c g r) = ((if o then [.op [65, 9], .op [16, 0]] else []) ++ (if c = 12 then [] else [.op [32, r]]) ++ [.br c g]) := rfl
theorem nodes1_q4 (c) (n) (f) : nodes1 (.blk c n f) = ([.blk1 c n (nodesS f)]) := rfl
theorem nodes1_q5 (r) (n) (f) : nodes1 (.if1 r n f) = ([.op [32, r], .blk1 4 n (nodesS f)]) := rfl
theorem nodes1_q6 (r) (n) (f) (s) : nodes1 (.if2 r n f s) = ([.op [32, r], .blk2 4 n (nodesS f) (nodesS s)]) := rfl
mutual
noncomputable def names1 : St → List Int
  | .blk _ n f => n :: namesS f
  | .if1 _ n f => n :: namesS f
  | .if2 _ n f s => n :: (namesS f ++ namesS s)
  | _ => []
noncomputable def namesS : List St → List Int
  | [] => []
  | x :: r => names1 x ++ namesS r
end
theorem namesS_q0 : namesS ([]) = ([]) := rfl
theorem namesS_q1 (x) (r) : namesS (x :: r) = (names1 x ++ namesS r) := rfl
mutual
/-- o: the names that are open; L: the loops among them -/
noncomputable def Ok1 (o L : List Int) : St → Prop
  | .nop => True
  | .out _ => True
  | .neg r w => (0 ≤ r ∧ r < 3) ∧ 0 ≤ w ∧ w < 3
  | .brn ob c g r => (c = 12 ∨ c = 13 ∨ c = 14) ∧ (∀ x ∈ g, x ∈ o) ∧ (g ≠ [] ∧ g.length ≤ 3) ∧ (c ≠ 14 → g.length = 1) ∧ (ob = false → ∀ x ∈ g, x ∉ L) ∧ 0 ≤ r ∧ r < 3
  | .blk c n f => (c = 2 ∨ c = 3) ∧ n ∉ o ∧ OkS (o ++ [n]) (if c = 3 then n :: L else L) f
  | .if1 r n f => (0 ≤ r ∧ r < 3) ∧ n ∉ o ∧ OkS (o ++ [n]) L f
  | .if2 r n f s => (0 ≤ r ∧ r < 3) ∧ n ∉ o ∧ OkS (o ++ [n]) L f ∧ OkS (o ++ [n]) L s
noncomputable def OkS (o L : List Int) : List St → Prop
  | [] => True
  | x :: r => Ok1 o L x ∧ OkS o L r
end
theorem OkS_q0 (o L : List Int) : OkS o L ([]) = (True) := rfl
theorem OkS_q1 (o L : List Int) (x) (r) : OkS o L (x :: r) = (Ok1 o L x ∧ OkS o L r) := rfl
mutual
/-- a bound of the flat length, and of the nodes -/
noncomputable def wt1 : St → Nat
  | .nop => 1
  | .out _ => 2
  | .neg _ _ => 3
  | .brn _ _ _ _ => 4
  | .blk _ _ f => 2 + wtS f
  | .if1 _ _ f => 3 + wtS f
  | .if2 _ _ f s => 4 + wtS f + wtS s
noncomputable def wtS : List St → Nat
  | [] => 0
  | x :: r => wt1 x + wtS r
end
theorem wtS_q0 : wtS ([]) = (0) := rfl
theorem wtS_q1 (x) (r) : wtS (x :: r) = (wt1 x + wtS r) := rfl
theorem wt1_q0 : wt1 (.nop) = (1) := rfl
theorem wt1_q1 (w1) : wt1 (.out w1) = (2) := rfl
theorem wt1_q2 (w1) (w2) : wt1 (.neg w1 w2) = (3) := rfl
theorem wt1_q3 (w1) (w2) (w3) (w4) : wt1 (.brn w1 w2 w3 w4) = (4) := rfl
theorem wt1_q4 (w1) (w2) (f) : wt1 (.blk w1 w2 f) = (2 + wtS f) := rfl
theorem wt1_q5 (w1) (w2) (f) : wt1 (.if1 w1 w2 f) = (3 + wtS f) := rfl
theorem wt1_q6 (w1) (w2) (f) (s) : wt1 (.if2 w1 w2 f s) = (4 + wtS f + wtS s) := rfl
mutual
/-- how deep the blocks lie in one another -/
noncomputable def dep1 : St → Nat
  | .blk _ _ f => depS f + 1
  | .if1 _ _ f => depS f + 1
  | .if2 _ _ f s => max (depS f) (depS s) + 1
  | _ => 0
noncomputable def depS : List St → Nat
  | [] => 0
  | x :: r => max (dep1 x) (depS r)
end
theorem depS_q0 : depS ([]) = (0) := rfl
theorem depS_q1 (x) (r) : depS (x :: r) = (max (dep1 x) (depS r)) := rfl
/-- what a list at such a depth may weigh, per statement -/
noncomputable def Bd : Nat → Nat
  | 0 => 4
  | k + 1 => 4 + 6 * Bd k
theorem Bd_q0 : Bd (0) = (4) := rfl
theorem Bd_q1 (k) : Bd (k + 1) = (4 + 6 * Bd k) := rfl
theorem nodesS_append : ∀ a b : List St, nodesS (a ++ b) = nodesS a ++ nodesS b
  | [], b => rfl
  | x :: r, b => (congrArg (nodes1 x ++ ·) (nodesS_append r b)).trans (List.append_assoc ..).symm
theorem namesS_append : ∀ a b : List St, namesS (a ++ b) = namesS a ++ namesS b
  | [], b => rfl
  | x :: r, b => (congrArg (names1 x ++ ·) (namesS_append r b)).trans (List.append_assoc ..).symm
theorem wtS_append : ∀ a b : List St, wtS (a ++ b) = wtS a + wtS b
  | [], b => by simp [wtS_q0, wtS_q1]
  | x :: r, b => (congrArg (wt1 x + ·) (wtS_append r b)).trans (Nat.add_assoc ..).symm
theorem depS_append : ∀ a b : List St, depS (a ++ b) = max (depS a) (depS b)
  | [], b => by simp [depS_q0, depS_q1]
  | x :: r, b => (congrArg (max (dep1 x)) (depS_append r b)).trans (Nat.max_assoc ..).symm
theorem OkS_append {o L : List Int} : ∀ {a b : List St}, OkS o L (a ++ b) ↔ OkS o L a ∧ OkS o L b
  | [], b => by simp [OkS_q0, OkS_q1]
  | x :: r, b => by simp only [List.cons_append, OkS_q0, OkS_q1, OkS_append (a := r) (b := b), and_assoc]
theorem nodesV_append : ∀ a b : List Node, nodesV (a ++ b) = nodesV a ++ nodesV b
  | [], b => rfl
  | x :: r, b => congrArg (nodeV x :: ·) (nodesV_append r b)
theorem nodesV_map : ∀ a : List Node, nodesV a = a.map nodeV
  | [] => rfl
  | x :: r => by simp only [nodesV_q0, nodesV_q1, List.map_cons, nodesV_map r]
mutual
theorem nodes1_len : ∀ x : St, (nodes1 x).length ≤ wt1 x
  | .nop => by simp [nodes1_q0, nodes1_q1, nodes1_q2, nodes1_q3, nodes1_q4, nodes1_q5, nodes1_q6, wt1_q0, wt1_q1, wt1_q2, wt1_q3, wt1_q4, wt1_q5, wt1_q6]
  | .out n => by simp [nodes1_q0, nodes1_q1, nodes1_q2, nodes1_q3, nodes1_q4, nodes1_q5, nodes1_q6, wt1_q0, wt1_q1, wt1_q2, wt1_q3, wt1_q4, wt1_q5, wt1_q6]
  | .neg r w => by simp [nodes1_q0, nodes1_q1, nodes1_q2, nodes1_q3, nodes1_q4, nodes1_q5, nodes1_q6, wt1_q0, wt1_q1, wt1_q2, wt1_q3, wt1_q4, wt1_q5, wt1_q6]
  | .brn o c g r => by cases o <;> by_cases h : c = 12 <;> simp [nodes1_q0, nodes1_q1, nodes1_q2, nodes1_q3, nodes1_q4, nodes1_q5, nodes1_q6, wt1_q0, wt1_q1, wt1_q2, wt1_q3, wt1_q4, wt1_q5, wt1_q6, h]
  | .blk c n f => by simp [nodes1_q0, nodes1_q1, nodes1_q2, nodes1_q3, nodes1_q4, nodes1_q5, nodes1_q6, wt1_q0, wt1_q1, wt1_q2, wt1_q3, wt1_q4, wt1_q5, wt1_q6]; exact lq0 [_] 1 (.n 1) (.a (.n 2) (.v 0)) rfl 
  | .if1 r n f => by simp [nodes1_q0, nodes1_q1, nodes1_q2, nodes1_q3, nodes1_q4, nodes1_q5, nodes1_q6, wt1_q0, wt1_q1, wt1_q2, wt1_q3, wt1_q4, wt1_q5, wt1_q6]; exact lq0 [_] 1 (.n 2) (.a (.n 3) (.v 0)) rfl 
  | .if2 r n f s => by simp [nodes1_q0, nodes1_q1, nodes1_q2, nodes1_q3, nodes1_q4, nodes1_q5, nodes1_q6, wt1_q0, wt1_q1, wt1_q2, wt1_q3, wt1_q4, wt1_q5, wt1_q6]; exact lq0 [_, _] 1 (.n 2) (.a (.a (.n 4) (.v 0)) (.v 1)) rfl 
theorem nodesS_len : ∀ l : List St, (nodesS l).length ≤ wtS l
  | [] => by simp [nodesS_q0, nodesS_q1]
  | x :: r => by
    simp only [nodesS_q0, nodesS_q1, wtS_q0, wtS_q1, List.length_append]
    exact Nat.add_le_add (nodes1_len x) (nodesS_len r)
end
theorem Bd_ge (k : Nat) : 4 ≤ Bd k := by cases k <;> simp [Bd_q0, Bd_q1]
structure LR (o L : List Int) (k : Nat) (n n' : Int) (loops loops' : List Int) (m : Nat) (sts : List St) : Prop where
  ok : OkS o L sts
  nm : ∀ x ∈ namesS sts, n < x ∧ x ≤ n'
  nd : (namesS sts).Nodup
  le : n ≤ n'
  lp : ∀ x ∈ loops, x ∈ loops'
  ll : loops'.length ≤ loops.length + wtS sts
  wt : wtS sts ≤ m * Bd k
  dp : depS sts ≤ k
theorem LR.nil {o L : List Int} {k : Nat} {n : Int} {loops : List Int} : LR o L k n n loops loops 0 [] :=
  ⟨trivial, by simp [namesS_q0, namesS_q1], by simp [namesS_q0, namesS_q1], Int.le_refl _, fun _ h => h, by simp [wtS_q0, wtS_q1], by simp [wtS_q0, wtS_q1], by simp [depS_q0, depS_q1]⟩
theorem LR.snoc {o L : List Int} {k : Nat} {n n1 n2 : Int} {loops loops1 loops2 : List Int} {m : Nat} {sts : List St} {st : St} (a : LR o L k n n1 loops loops1 m sts) (x : LR o L k n1 n2 loops1 loops2 1 [st]) : LR o L k n n2 loops loops2 (m + 1) (sts ++ [st]) := by
  refine ⟨OkS_append.mpr ⟨a.ok, x.ok⟩, ?_, ?_, Int.le_trans a.le x.le, fun y h => x.lp y (a.lp y h), ?_, ?_, ?_⟩
  · intro y h
    rw [namesS_append, List.mem_append] at h
    have l1 := a.le
    have l2 := x.le
    rcases h with h | h
    · exact ⟨(a.nm y h).1, Int.le_trans (a.nm y h).2 l2⟩
    · exact ⟨Int.lt_of_le_of_lt l1 (x.nm y h).1, (x.nm y h).2⟩
  · rw [namesS_append, List.nodup_append]
    refine ⟨a.nd, x.nd, fun y hy z hz e => ?_⟩
    subst e
    exact absurd (Int.lt_of_lt_of_le (x.nm y hz).1 (a.nm y hy).2) (Int.lt_irrefl _)
  · rw [wtS_append]
    exact Nat.le_trans x.ll (Nat.le_trans (Nat.add_le_add_right a.ll _) (Nat.le_of_eq (Nat.add_assoc ..)))
  · rw [wtS_append, Nat.add_mul]
    exact Nat.add_le_add a.wt x.wt
  · rw [depS_append]
    exact Nat.max_le.mpr ⟨a.dp, x.dp⟩
theorem LR.one {o L : List Int} {k : Nat} {n : Int} {loops : List Int} {st : St} (h1 : Ok1 o L st) (h2 : names1 st = []) (h3 : wt1 st ≤ 4) (h4 : dep1 st = 0) : LR o L k n n loops loops 1 [st] := by
  have h0 : namesS [st] = [] := by simp [namesS_q0, namesS_q1, h2]
  have := Bd_ge k
  refine ⟨⟨h1, trivial⟩, by rw [h0]; simp, by rw [h0]; simp, Int.le_refl _, fun _ h => h, (lq0 [_, _] 1 (.v 0) (.a (.v 0) (.v 1)) rfl ), ?_, ?_⟩
  · simp only [wtS_q0, wtS_q1]; exact lq2 [_, _] (.le 1 (.v 0) (.n 4)) (.le 1 (.n 4) (.v 1)) 1 (.a (.v 0) (.n 0)) (.m 1 (.v 1)) rfl h3 this
  · simp [depS_q0, depS_q1, h4]
/-- what a block's parts are -/
structure BR (o L : List Int) (c : Int) (k : Nat) (n n' : Int) (loops loops' : List Int) (f : List St) (s : Option (List St)) : Prop where
  okf : OkS (o ++ [n + 1]) (if c = 3 then (n + 1) :: L else L) f
  oks : ∀ l, s = some l → OkS (o ++ [n + 1]) (if c = 3 then (n + 1) :: L else L) l
  nm : ∀ x ∈ namesS f ++ namesS (s.getD []), n + 1 < x ∧ x ≤ n'
  nd : (namesS f ++ namesS (s.getD [])).Nodup
  le : n + 1 ≤ n'
  lp : ∀ x ∈ loops, x ∈ loops'
  ll : loops'.length ≤ loops.length + 1 + wtS f + wtS (s.getD [])
  wf : wtS f ≤ 3 * Bd k
  ws : wtS (s.getD []) ≤ 3 * Bd k
  df : depS f ≤ k
  ds : depS (s.getD []) ≤ k
noncomputable def bnode (c n : Int) (f : List St) : Option (List St) → Node
  | none => .blk1 c n (nodesS f)
  | some s => .blk2 c n (nodesS f) (nodesS s)
theorem bn1 {n x n' : Int} (h : n + 1 < x ∧ x ≤ n') : n < x ∧ x ≤ n' := ⟨Int.lt_of_le_of_lt (Int.le_of_lt (Int.lt_succ n)) h.1, h.2⟩
theorem BR.blk {o L : List Int} {c : Int} {k : Nat} {n n' : Int} {loops loops' : List Int} {f : List St} (B : BR o L c k n n' loops loops' f none) (hc : c = 2 ∨ c = 3) (ho : ∀ x ∈ o, x ≤ n) : LR o L (k + 1) n n' loops loops' 1 [.blk c (n + 1) f] := by
  obtain ⟨a1, a2, a3, a4, a5, a6, a7, a8, a9, a10, a11⟩ := B
  simp only [Option.getD_none, namesS_q0, namesS_q1, List.append_nil, wtS_q0, wtS_q1] at a3 a4 a7
  refine ⟨⟨⟨hc, fun h => ?_, a1⟩, trivial⟩, ?_, ?_, Int.le_of_lt a5, a6, ?_, ?_, ?_⟩
  · exact absurd (ho _ h) (Int.not_le.mpr (Int.lt_succ n))
  · simp only [namesS_q0, namesS_q1, names1, List.append_nil, List.mem_cons]
    rintro x (rfl | h)
    · exact ⟨Int.lt_succ n, a5⟩
    · exact bn1 (a3 x h)
  · simp only [namesS_q0, namesS_q1, names1, List.append_nil, List.nodup_cons]
    exact ⟨fun h => absurd (a3 _ h).1 (Int.lt_irrefl _), a4⟩
  · simp only [wtS_q0, wtS_q1, wt1_q0, wt1_q1, wt1_q2, wt1_q3, wt1_q4, wt1_q5, wt1_q6]; exact lq1 [_, _, _] (.le 1 (.v 0) (.a (.a (.a (.v 1) (.n 1)) (.v 2)) (.n 0))) 1 (.v 0) (.a (.v 1) (.a (.a (.n 2) (.v 2)) (.n 0))) rfl a7
  · simp only [wtS_q0, wtS_q1, wt1_q0, wt1_q1, wt1_q2, wt1_q3, wt1_q4, wt1_q5, wt1_q6, Bd_q0, Bd_q1]; exact lq1 [_, _] (.le 1 (.v 0) (.m 3 (.v 1))) 1 (.a (.a (.n 2) (.v 0)) (.n 0)) (.m 1 (.a (.n 4) (.m 6 (.v 1)))) rfl a8
  · simp only [depS_q0, depS_q1, dep1]; exact mx0 (Nat.succ_le_succ a10)
theorem BR.if1 {o L : List Int} {k : Nat} {n n' r : Int} {loops loops' : List Int} {f : List St} (B : BR o L 4 k n n' loops loops' f none) (hr : 0 ≤ r ∧ r < 3) (ho : ∀ x ∈ o, x ≤ n) : LR o L (k + 1) n n' loops loops' 1 [.if1 r (n + 1) f] := by
  obtain ⟨a1, a2, a3, a4, a5, a6, a7, a8, a9, a10, a11⟩ := B
  simp only [Option.getD_none, namesS_q0, namesS_q1, List.append_nil, wtS_q0, wtS_q1] at a3 a4 a7
  rw [if_neg (by decide)] at a1
  refine ⟨⟨⟨hr, fun h => ?_, a1⟩, trivial⟩, ?_, ?_, Int.le_of_lt a5, a6, ?_, ?_, ?_⟩
  · exact absurd (ho _ h) (Int.not_le.mpr (Int.lt_succ n))
  · simp only [namesS_q0, namesS_q1, names1, List.append_nil, List.mem_cons]
    rintro x (rfl | h)
    · exact ⟨Int.lt_succ n, a5⟩
    · exact bn1 (a3 x h)
  · simp only [namesS_q0, namesS_q1, names1, List.append_nil, List.nodup_cons]
    exact ⟨fun h => absurd (a3 _ h).1 (Int.lt_irrefl _), a4⟩
  · simp only [wtS_q0, wtS_q1, wt1_q0, wt1_q1, wt1_q2, wt1_q3, wt1_q4, wt1_q5, wt1_q6]; exact lq1 [_, _, _] (.le 1 (.v 0) (.a (.a (.a (.v 1) (.n 1)) (.v 2)) (.n 0))) 1 (.v 0) (.a (.v 1) (.a (.a (.n 3) (.v 2)) (.n 0))) rfl a7
  · simp only [wtS_q0, wtS_q1, wt1_q0, wt1_q1, wt1_q2, wt1_q3, wt1_q4, wt1_q5, wt1_q6, Bd_q0, Bd_q1]; exact lq1 [_, _] (.le 1 (.v 0) (.m 3 (.v 1))) 1 (.a (.a (.n 3) (.v 0)) (.n 0)) (.m 1 (.a (.n 4) (.m 6 (.v 1)))) rfl a8
  · simp only [depS_q0, depS_q1, dep1]; exact mx0 (Nat.succ_le_succ a10)
theorem BR.if2 {o L : List Int} {k : Nat} {n n' r : Int} {loops loops' : List Int} {f s : List St} (B : BR o L 4 k n n' loops loops' f (some s)) (hr : 0 ≤ r ∧ r < 3) (ho : ∀ x ∈ o, x ≤ n) : LR o L (k + 1) n n' loops loops' 1 [.if2 r (n + 1) f s] := by
  obtain ⟨a1, a2, a3, a4, a5, a6, a7, a8, a9, a10, a11⟩ := B
  have a2 := a2 s rfl
  simp only [Option.getD_some] at a3 a4 a7 a9 a11
  rw [if_neg (by decide)] at a1 a2
  refine ⟨⟨⟨hr, fun h => ?_, a1, a2⟩, trivial⟩, ?_, ?_, Int.le_of_lt a5, a6, ?_, ?_, ?_⟩
  · exact absurd (ho _ h) (Int.not_le.mpr (Int.lt_succ n))
  · simp only [namesS_q0, namesS_q1, names1, List.append_nil, List.mem_cons]
    rintro x (rfl | h)
    · exact ⟨Int.lt_succ n, a5⟩
    · exact bn1 (a3 x h)
  · simp only [namesS_q0, namesS_q1, names1, List.append_nil, List.nodup_cons]
    exact ⟨fun h => absurd (a3 _ h).1 (Int.lt_irrefl _), a4⟩
  · simp only [wtS_q0, wtS_q1, wt1_q0, wt1_q1, wt1_q2, wt1_q3, wt1_q4, wt1_q5, wt1_q6]; exact lq1 [_, _, _, _] (.le 1 (.v 0) (.a (.a (.a (.v 1) (.n 1)) (.v 2)) (.v 3))) 1 (.v 0) (.a (.v 1) (.a (.a (.a (.n 4) (.v 2)) (.v 3)) (.n 0))) rfl a7
  · simp only [wtS_q0, wtS_q1, wt1_q0, wt1_q1, wt1_q2, wt1_q3, wt1_q4, wt1_q5, wt1_q6, Bd_q0, Bd_q1]; exact lq2 [_, _, _] (.le 1 (.v 0) (.m 3 (.v 2))) (.le 1 (.v 1) (.m 3 (.v 2))) 1 (.a (.a (.a (.n 4) (.v 0)) (.v 1)) (.n 0)) (.m 1 (.a (.n 4) (.m 6 (.v 2)))) rfl a8 a9
  · simp only [depS_q0, depS_q1, dep1]; exact mx0 (Nat.succ_le_succ (Nat.max_le.mpr ⟨a10, a11⟩))
/-- the state of a making: the tape, the dict, the loops; one place (a) that is the maker's own -/
structure ST (H H' : AH) (tp sp la a : Addr) (ts : List Int) (n : Int) (loops : List Int) : Prop where
  tape : H' tp = some (.list (ivs ts))
  st : H' sp = some (.sdict n la)
  lo : H' la = some (.list (ivs loops))
  ne : tp ≠ la
  out : ∀ c, c ≠ tp → c ≠ sp → c ≠ la → c ≠ a → H' c = H c
theorem ST.ne1 {H H' : AH} {tp sp la a : Addr} {ts : List Int} {n : Int} {loops : List Int} (S : ST H H' tp sp la a ts n loops) : tp ≠ sp := fun e => by
  have := S.tape
  rw [e, S.st] at this
  cases this
theorem ST.ne2 {H H' : AH} {tp sp la a : Addr} {ts : List Int} {n : Int} {loops : List Int} (S : ST H H' tp sp la a ts n loops) : la ≠ sp := fun e => by
  have := S.lo
  rw [e, S.st] at this
  cases this
theorem ST.setTape {H H' : AH} {tp sp la a : Addr} {ts ts' : List Int} {n : Int} {loops : List Int} (S : ST H H' tp sp la a ts n loops) : ST H (H'.set tp (.list (ivs ts'))) tp sp la a ts' n loops :=
  ⟨AH.set_self _ _ _, by rw [AH.set_ne _ _ S.ne1.symm]; exact S.st, by rw [AH.set_ne _ _ S.ne.symm]; exact S.lo, S.ne, fun c h1 h2 h3 h4 => by rw [AH.set_ne _ _ h1]; exact S.out c h1 h2 h3 h4⟩
theorem ST.setN {H H' : AH} {tp sp la a : Addr} {ts : List Int} {n n' : Int} {loops : List Int} (S : ST H H' tp sp la a ts n loops) : ST H (H'.set sp (.sdict n' la)) tp sp la a ts n' loops :=
  ⟨by rw [AH.set_ne _ _ S.ne1]; exact S.tape, AH.set_self _ _ _, by rw [AH.set_ne _ _ S.ne2]; exact S.lo, S.ne, fun c h1 h2 h3 h4 => by rw [AH.set_ne _ _ h2]; exact S.out c h1 h2 h3 h4⟩
theorem ST.setLo {H H' : AH} {tp sp la a : Addr} {ts : List Int} {n : Int} {loops loops' : List Int} (S : ST H H' tp sp la a ts n loops) : ST H (H'.set la (.list (ivs loops'))) tp sp la a ts n loops' :=
  ⟨by rw [AH.set_ne _ _ S.ne]; exact S.tape, by rw [AH.set_ne _ _ S.ne2.symm]; exact S.st, AH.set_self _ _ _, S.ne, fun c h1 h2 h3 h4 => by rw [AH.set_ne _ _ h3]; exact S.out c h1 h2 h3 h4⟩
theorem ST.setOwn {H H' : AH} {tp sp la a : Addr} {ts : List Int} {n : Int} {loops : List Int} {o : AO} (S : ST H H' tp sp la a ts n loops) (h1 : a ≠ tp) (h2 : a ≠ sp) (h3 : a ≠ la) : ST H (H'.set a o) tp sp la a ts n loops :=
  ⟨by rw [AH.set_ne _ _ h1.symm]; exact S.tape, by rw [AH.set_ne _ _ h2.symm]; exact S.st, by rw [AH.set_ne _ _ h3.symm]; exact S.lo, S.ne, fun c k1 k2 k3 k4 => by rw [AH.set_ne _ _ k4]; exact S.out c k1 k2 k3 k4⟩
theorem ST.trans {H H' H'' : AH} {tp sp la a : Addr} {ts ts' : List Int} {n n' : Int} {loops loops' : List Int} (S : ST H H' tp sp la a ts n loops) (T : ST H' H'' tp sp la tp ts' n' loops') : ST H H'' tp sp la a ts' n' loops' :=
  ⟨T.tape, T.st, T.lo, T.ne, fun c h1 h2 h3 h4 => (T.out c h1 h2 h3 h1).trans (S.out c h1 h2 h3 h4)⟩
theorem ST.own {H H' : AH} {tp sp la : Addr} {ts : List Int} {n : Int} {loops : List Int} (S : ST H H tp sp la tp ts n loops) (a : Addr) (ha : H a = none) (o : AO) : ST H (H.set a o) tp sp la a ts n loops ∧ a ≠ tp ∧ a ≠ sp ∧ a ≠ la := by
  have h1 : a ≠ tp := fun e => by rw [e, S.tape] at ha; cases ha
  have h2 : a ≠ sp := fun e => by rw [e, S.st] at ha; cases ha
  have h3 : a ≠ la := fun e => by rw [e, S.lo] at ha; cases ha
  exact ⟨⟨by rw [AH.set_ne _ _ h1.symm]; exact S.tape, by rw [AH.set_ne _ _ h2.symm]; exact S.st, by rw [AH.set_ne _ _ h3.symm]; exact S.lo, S.ne, fun c _ _ _ k4 => AH.set_ne _ _ k4⟩, h1, h2, h3⟩
theorem ST.drop {H H' : AH} {tp sp la a : Addr} {ts : List Int} {n : Int} {loops : List Int} (S : ST H H' tp sp la a ts n loops) (ha : H a = none) (h1 : a ≠ tp) (h2 : a ≠ sp) (h3 : a ≠ la) : ST H (H'.del a) tp sp la tp ts n loops :=
  ⟨by rw [AH.del_ne _ h1.symm]; exact S.tape, by rw [AH.del_ne _ h2.symm]; exact S.st, by rw [AH.del_ne _ h3.symm]; exact S.lo, S.ne, fun c k1 k2 k3 _ => by
    by_cases e : c = a
    · subst e; rw [AH.del_self, ha]
    · rw [AH.del_ne _ e]; exact S.out c k1 k2 k3 e⟩
theorem ST.here {H H' : AH} {tp sp la a : Addr} {ts : List Int} {n : Int} {loops : List Int} (S : ST H H' tp sp la a ts n loops) : ST H' H' tp sp la tp ts n loops := ⟨S.tape, S.st, S.lo, S.ne, fun _ _ _ _ _ => rfl⟩

/- NmR3 -/
mutual
noncomputable def dpt1 : Node → Nat
  | .op _ => 0
  | .br _ _ => 0
  | .blk1 _ _ f => dptN f + 1
  | .blk2 _ _ f s => max (dptN f) (dptN s) + 1
noncomputable def dptN : List Node → Nat
  | [] => 0
  | x :: r => max (dpt1 x) (dptN r)
end
theorem dptN_q0 : dptN ([]) = (0) := rfl
theorem dptN_q1 (x) (r) : dptN (x :: r) = (max (dpt1 x) (dptN r)) := rfl
theorem dpt1_q0 (w1) : dpt1 (.op w1) = (0) := rfl
theorem dpt1_q1 (w1) (w2) : dpt1 (.br w1 w2) = (0) := rfl
theorem dpt1_q2 (w1) (w2) (f) : dpt1 (.blk1 w1 w2 f) = (dptN f + 1) := rfl
theorem dpt1_q3 (w1) (w2) (f) (s) : dpt1 (.blk2 w1 w2 f s) = (max (dptN f) (dptN s) + 1) := rfl
mutual
noncomputable def FOk1 (o : List Int) : Node → Prop
  | .op _ => True
  | .br _ g => (∀ x ∈ g, x ∈ o) ∧ g.length ≤ 1000
  | .blk1 _ n f => FOkN (o ++ [n]) f
  | .blk2 _ n f s => FOkN (o ++ [n]) f ∧ FOkN (o ++ [n]) s
noncomputable def FOkN (o : List Int) : List Node → Prop
  | [] => True
  | x :: r => FOk1 o x ∧ FOkN o r
end
mutual
/-- how many nodes -/
noncomputable def cnt1 : Node → Nat
  | .op _ => 1
  | .br _ _ => 1
  | .blk1 _ _ f => 1 + cntN f
  | .blk2 _ _ f s => 1 + cntN f + cntN s
noncomputable def cntN : List Node → Nat
  | [] => 0
  | x :: r => cnt1 x + cntN r
end
theorem cntN_q0 : cntN ([]) = (0) := rfl
theorem cntN_q1 (x) (r) : cntN (x :: r) = (cnt1 x + cntN r) := rfl
theorem cnt1_q0 (w1) : cnt1 (.op w1) = (1) := rfl
theorem cnt1_q1 (w1) (w2) : cnt1 (.br w1 w2) = (1) := rfl
theorem cnt1_q2 (w1) (w2) (f) : cnt1 (.blk1 w1 w2 f) = (1 + cntN f) := rfl
theorem cnt1_q3 (w1) (w2) (f) (s) : cnt1 (.blk2 w1 w2 f s) = (1 + cntN f + cntN s) := rfl
theorem dptN_mem : ∀ {l : List Node} {x : Node}, x ∈ l → dpt1 x ≤ dptN l
  | y :: r, x, h => by
    simp only [dptN_q0, dptN_q1]
    rcases List.mem_cons.mp h with rfl | h
    · lia
    · have := dptN_mem h; lia
theorem FOkN_mem {o : List Int} : ∀ {l : List Node} {x : Node}, FOkN o l → x ∈ l → FOk1 o x
  | y :: r, x, f, h => by
    rcases List.mem_cons.mp h with rfl | h
    · exact f.1
    · exact FOkN_mem f.2 h
theorem cntN_mem : ∀ {l : List Node} {x : Node}, x ∈ l → cnt1 x ≤ cntN l
  | y :: r, x, h => by
    simp only [cntN_q0, cntN_q1]
    rcases List.mem_cons.mp h with rfl | h
    · exact lq0 [_, _] 1 (.v 0) (.a (.v 0) (.v 1)) rfl 
    · have := cntN_mem h; exact lq1 [_, _, _] (.le 1 (.v 0) (.v 2)) 1 (.v 0) (.a (.v 1) (.v 2)) rfl this
theorem flatN_append (o : List Int) : ∀ a b : List Node, flatN o (a ++ b) = flatN o a ++ flatN o b
  | [], b => rfl
  | x :: r, b => (congrArg (flat1 o x ++ ·) (flatN_append o r b)).trans (List.append_assoc ..).symm
theorem goalsN_append : ∀ a b : List Node, goalsN (a ++ b) = goalsN a ++ goalsN b
  | [], b => rfl
  | x :: r, b => (congrArg (goals1 x ++ ·) (goalsN_append r b)).trans (List.append_assoc ..).symm
theorem openN_append (m : List Int) : ∀ a b : List Node, openN m (a ++ b) = openN m a ++ openN m b
  | [], b => rfl
  | x :: r, b => (congrArg (open1 m x ++ ·) (openN_append m r b)).trans (List.append_assoc ..).symm
theorem take_step {α : Type} {l : List α} {i : Nat} {x : α} (h : l[i]? = some x) : l.take (i + 1) = l.take i ++ [x] := by
  rw [List.take_succ, h]
  rfl
theorem flat_take {o : List Int} {ns : List Node} {i : Nat} {x : Node} (h : ns[i]? = some x) : flatN o (ns.take (i + 1)) = flatN o (ns.take i) ++ flat1 o x := by
  rw [take_step h, flatN_append]
  simp [flatN_q0, flatN_q1]
theorem goals_take {ns : List Node} {i : Nat} {x : Node} (h : ns[i]? = some x) : goalsN (ns.take (i + 1)) = goalsN (ns.take i) ++ goals1 x := by
  rw [take_step h, goalsN_append]
  simp [goalsN_q0, goalsN_q1]
theorem open_take {m : List Int} {ns : List Node} {i : Nat} {x : Node} (h : ns[i]? = some x) : openN m (ns.take (i + 1)) = openN m (ns.take i) ++ open1 m x := by
  rw [take_step h, openN_append]
  simp [openN_q0, openN_q1]
theorem flat_le (o : List Int) (ns : List Node) (i : Nat) : (flatN o (ns.take i)).length ≤ (flatN o ns).length := by
  have := congrArg (fun l => (flatN o l).length) (List.take_append_drop i ns)
  simp only [flatN_append, List.length_append] at this
  exact lq1 [_, _, _] (.eq 1 (.a (.v 0) (.v 2)) (.v 1)) 1 (.v 0) (.v 1) rfl this
theorem goals_le (ns : List Node) (i : Nat) : (goalsN (ns.take i)).length ≤ (goalsN ns).length := by
  have := congrArg (fun l => (goalsN l).length) (List.take_append_drop i ns)
  simp only [goalsN_append, List.length_append] at this
  exact lq1 [_, _, _] (.eq 1 (.a (.v 0) (.v 2)) (.v 1)) 1 (.v 0) (.v 1) rfl this
theorem open_le (m : List Int) (ns : List Node) (i : Nat) : (openN m (ns.take i)).length ≤ (openN m ns).length := by
  have := congrArg (fun l => (openN m l).length) (List.take_append_drop i ns)
  simp only [openN_append, List.length_append] at this
  exact lq1 [_, _, _] (.eq 1 (.a (.v 0) (.v 2)) (.v 1)) 1 (.v 0) (.v 1) rfl this
mutual
theorem open1_cnt (m : List Int) : ∀ x : Node, (open1 m x).length ≤ cnt1 x
  | .op _ => by simp [open1_q0, open1_q1, open1_q2, open1_q3, cnt1_q0, cnt1_q1, cnt1_q2, cnt1_q3]
  | .br _ _ => by simp [open1_q0, open1_q1, open1_q2, open1_q3, cnt1_q0, cnt1_q1, cnt1_q2, cnt1_q3]
  | .blk1 c n f => by
    have := openN_cnt m f
    simp only [open1_q0, open1_q1, open1_q2, open1_q3, cnt1_q0, cnt1_q1, cnt1_q2, cnt1_q3]
    split
    · exact lq1 [_, _] (.le 1 (.v 0) (.v 1)) 1 (.v 0) (.a (.n 1) (.v 1)) rfl this
    · simp
  | .blk2 c n f s => by
    have := openN_cnt m f
    simp only [open1_q0, open1_q1, open1_q2, open1_q3, cnt1_q0, cnt1_q1, cnt1_q2, cnt1_q3]
    split
    · exact lq1 [_, _, _] (.le 1 (.v 0) (.v 1)) 1 (.v 0) (.a (.a (.n 1) (.v 1)) (.v 2)) rfl this
    · simp; exact lq0 [_, _] 1 (.n 1) (.a (.a (.n 1) (.v 0)) (.v 1)) rfl 
theorem openN_cnt (m : List Int) : ∀ l : List Node, (openN m l).length ≤ cntN l
  | [] => by simp [openN_q0, openN_q1]
  | x :: r => by
    have := open1_cnt m x
    have := openN_cnt m r
    simp only [openN_q0, openN_q1, cntN_q0, cntN_q1, List.length_append]
    lia
end
theorem nodesV_get {ns : List Node} {i : Nat} {w : V} (h : (nodesV ns)[i]? = some w) : ∃ x, ns[i]? = some x ∧ w = nodeV x := by
  rw [nodesV_map, List.getElem?_map] at h
  cases e : ns[i]? with
  | none => rw [e] at h; cases h
  | some x => rw [e] at h; cases h; exact ⟨x, rfl, rfl⟩
theorem nodesV_length (ns : List Node) : (nodesV ns).length = ns.length := by rw [nodesV_map, List.length_map]

/- NmR4 -/
noncomputable def TOk (t : Tk) : Prop := t ≠ [] ∧ t.length ≤ 1000
theorem pushR_ne {S : List Tk} {t : Tk} (h : code t ≠ 11) : pushR S t = t :: S := by
  cases S with
  | nil => rfl
  | cons a S => simp only [pushR_q0, pushR_q1, if_neg h]
theorem two_push {a b : Tk} {l : List Tk} (h : two? a b = some l) (S : List Tk) : pushR (pushR S a) b = l.foldl pushR S ∧ l.length ≤ 1 := by
  unfold two? at h
  split at h
  · cases h
  · rename_i hc
    simp only [not_or, Decidable.not_not] at hc
    obtain ⟨hb, ha1, ha2⟩ := hc
    have ha : code a ≠ 11 := by lia
    rw [pushR_ne ha]
    simp only [Option.some.injEq] at h
    simp only [pushR_q0, pushR_q1, if_pos hb]
    by_cases h1 : code a < 4
    · rw [if_pos h1] at h
      subst h
      rw [if_pos (by lia)]
      exact ⟨rfl, by simp⟩
    · rw [if_neg h1] at h
      rw [if_neg (by lia)]
      by_cases h2 : code a = 4
      · rw [if_pos h2] at h ⊢
        subst h
        refine ⟨?_, by simp⟩
        simp only [List.foldl_cons, List.foldl_nil]
        rw [pushR_ne (by decide)]
      · rw [if_neg h2] at h ⊢
        subst h
        rw [if_pos (by lia)]
        exact ⟨rfl, by simp⟩
/-- no two neighbours, before such a place, that may be rewritten -/
noncomputable def Irr (F : List Tk) (n : Nat) : Prop := ∀ j a b, j < n → F[j]? = some a → F[j + 1]? = some b → two? a b = none
theorem two_none_push {a t : Tk} (h : two? a t = none) (S : List Tk) : pushR (a :: S) t = t :: a :: S := by
  unfold two? at h
  split at h
  · rename_i hc
    simp only [pushR_q0, pushR_q1]
    by_cases h1 : code t = 11
    · rw [if_pos h1]
      have h2 : ¬ (2 ≤ code a ∧ code a ≤ 5) := hc.resolve_left (fun e => e h1)
      rw [if_neg (by lia), if_neg (by lia), if_neg (by lia)]
    · rw [if_neg h1]
  · cases h
theorem irr_push : ∀ (F S : List Tk), Irr (S.reverse ++ F) (S.length + F.length) → F.foldl pushR S = F.reverse ++ S
  | [], S, _ => rfl
  | t :: F, S, h => by
    have e : pushR S t = t :: S := by
      cases S with
      | nil => rfl
      | cons a S =>
        refine two_none_push ?_ S
        refine h S.length a t (by simp only [List.length_cons]; exact lq0 [_, _] 1 (.a (.v 0) (.n 1)) (.a (.a (.v 0) (.n 1)) (.a (.v 1) (.n 1))) rfl ) ?_ ?_
        · simp
        · simp
    simp only [List.foldl_cons, e, List.reverse_cons, List.append_assoc, List.singleton_append]
    refine irr_push F (t :: S) ?_
    intro j a b hj h1 h2
    refine h j a b (by simp at hj ⊢; exact lq1 [_, _, _] (.le 1 (.a (.v 0) (.n 1)) (.a (.a (.v 1) (.n 1)) (.v 2))) 1 (.a (.v 0) (.n 1)) (.a (.v 1) (.a (.v 2) (.n 1))) rfl hj) ?_ ?_
    · simpa using h1
    · simpa using h2
theorem irr_nf {F : List Tk} (h : Irr F F.length) : F.foldl pushR [] = F.reverse := by
  have := irr_push F [] (by simpa using h)
  simpa using this
/-- a step of the rewriting -/
theorem rewrite_at {F : List Tk} {n : Nat} {a b : Tk} {l : List Tk} (h1 : F[n]? = some a) (h2 : F[n + 1]? = some b) (h : two? a b = some l) :
    (F.take n ++ l ++ F.drop (n + 2)).foldl pushR [] = F.foldl pushR [] ∧ (F.take n ++ l ++ F.drop (n + 2)).length + 1 ≤ F.length := by
  have hl : n + 1 < F.length := (List.getElem?_eq_some_iff.mp h2).1
  have e1 : F = F.take n ++ (a :: b :: F.drop (n + 2)) := by
    conv => lhs; rw [← List.take_append_drop n F]
    congr 1
    have g1 := (List.getElem?_eq_some_iff.mp h1).2
    have g2 := (List.getElem?_eq_some_iff.mp h2).2
    rw [List.drop_eq_getElem_cons (by lia), List.drop_eq_getElem_cons hl, g1, g2]
  obtain ⟨p1, p2⟩ := two_push h ((F.take n).foldl pushR [])
  constructor
  · conv => rhs; rw [e1]
    simp only [List.foldl_append, List.foldl_cons, p1]
  · have hw := Nat.sub_add_cancel hl
    rw [List.length_append, List.length_append, List.length_take, List.length_drop, Nat.min_eq_left (Nat.le_of_lt (Nat.lt_of_succ_lt hl))]
    exact lq2 [_, _, _, _] (.eq 1 (.a (.v 2) (.a (.v 0) (.n 2))) (.v 3)) (.le 1 (.v 1) (.n 1)) 1 (.a (.a (.a (.v 0) (.v 1)) (.v 2)) (.n 1)) (.v 3) rfl hw p2
theorem irr_rewrite {F : List Tk} {n m : Nat} {l : List Tk} (hn : n ≤ F.length) (h : Irr F n) (hm : m = n - 2) : Irr (F.take n ++ l ++ F.drop (n + 2)) m := by
  intro j a b hj h1 h2
  have t : ∀ k, k < n → (F.take n ++ l ++ F.drop (n + 2))[k]? = F[k]? := fun k hk => by
    rw [List.append_assoc, List.getElem?_append_left (by rw [List.length_take, Nat.min_eq_left hn]; exact hk), List.getElem?_take_of_lt hk]
  rw [t j (by subst hm; exact Nat.lt_of_lt_of_le hj (Nat.sub_le _ _))] at h1
  rw [t (j + 1) (by subst hm; exact Nat.lt_of_succ_lt (Nat.add_lt_of_lt_sub hj : j + 2 < n))] at h2
  exact h j a b (by subst hm; exact Nat.lt_of_lt_of_le hj (Nat.sub_le _ _)) h1 h2
noncomputable def finAt (F : List Tk) (p : Tk) (i : Nat) : List Tk := (if code p = 4 ∧ code (F.getD (i + 1) []) = 5 then [[69]] else []) ++ (if code p ≠ 5 ∨ code ((idx F ((i : Int) - 1)).getD []) ≠ 4 then [p] else [])
/-- what the first places give -/
noncomputable def finTo (F : List Tk) (n : Nat) : List Tk := (F.zipIdx.take n).flatMap fun (p, i) => finAt F p i
theorem finTo_all (F : List Tk) : finTo F F.length = finF F := by
  unfold finTo finF
  rw [List.take_of_length_le (by simp)]
  rfl
theorem finTo_step {F : List Tk} {i : Nat} {p : Tk} (h : F[i]? = some p) : finTo F (i + 1) = finTo F i ++ finAt F p i := by
  unfold finTo
  have : F.zipIdx[i]? = some (p, i) := by
    rw [List.getElem?_zipIdx, h]
    simp
  rw [take_step this, List.flatMap_append]
  simp
theorem finAt_len (F : List Tk) (p : Tk) (i : Nat) : (finAt F p i).length ≤ 2 := by
  unfold finAt
  rw [List.length_append]
  have h1 : ∀ (c : Prop) [Decidable c] (x : Tk), (if c then [x] else []).length ≤ 1 := fun c _ x => by split <;> simp
  exact Nat.add_le_add (h1 _ _) (h1 _ _)
theorem finTo_len (F : List Tk) : ∀ n, n ≤ F.length → (finTo F n).length ≤ 2 * n
  | 0, _ => by simp [finTo]
  | n + 1, h => by
    have e : F[n]? = some F[n] := List.getElem?_eq_getElem (lq1 [_, _] (.le 1 (.a (.v 0) (.n 1)) (.v 1)) 1 (.a (.v 0) (.n 1)) (.v 1) rfl h)
    rw [finTo_step e, List.length_append]
    exact Nat.add_le_add (finTo_len F n (lq1 [_, _] (.le 1 (.a (.v 0) (.n 1)) (.v 1)) 1 (.v 0) (.v 1) rfl h)) (finAt_len F F[n] n)

/- NmR5 -/
/-- the machine's stack, places and what it told -/
structure MS where
  st : List Int
  pl : List Int
  to : List Int
noncomputable def arg (p : Tk) : Int := p.getD 1 0
noncomputable def doF (p : Tk) (m : MS) : Option MS :=
  if code p = 32 then (if 2 ≤ p.length ∧ 0 ≤ arg p then m.pl[(arg p).toNat]?.map fun v => ⟨m.st ++ [v], m.pl, m.to⟩ else none)
  else if code p = 33 then (if 2 ≤ p.length ∧ 0 ≤ arg p ∧ arg p < m.pl.length then m.st.getLast?.map fun v => ⟨m.st.dropLast, m.pl.set (arg p).toNat v, m.to⟩ else none)
  else if code p = 65 then (if 2 ≤ p.length then some ⟨m.st ++ [arg p], m.pl, m.to⟩ else none)
  else if code p = 69 then m.st.getLast?.map fun v => ⟨m.st.dropLast ++ [if v = 0 then 1 else 0], m.pl, m.to⟩
  else if code p = 26 then m.st.getLast?.map fun _ => ⟨m.st.dropLast, m.pl, m.to⟩
  else if code p = 16 then m.st.getLast?.map fun v => ⟨m.st.dropLast, m.pl, m.to ++ [v]⟩
  else some m
noncomputable def lblF (p : Tk) (n : Nat) (lb : List Nat) : List Nat := if 2 ≤ code p ∧ code p ≤ 4 then lb ++ [n] else lb
noncomputable def landF (B : List Tk) (e : Bool) (n : Nat) (lb : List Nat) : Option (Nat × List Nat) :=
  (behF e 0 (B.drop n)).map fun k => (n + k, if code (B.getD (n + k - 1) []) = 11 then lb.dropLast else lb)
noncomputable def jumpF (B : List Tk) (p : Tk) (n : Nat) (st : List Int) (lb : List Nat) : Option (Nat × List Int × List Nat) :=
  if code p = 5 then (landF B false n lb).map fun x => (x.1, st, x.2)
  else if code p = 4 then st.getLast?.bind fun v => if v = 0 then (landF B true n lb).map fun x => (x.1, st.dropLast, x.2) else some (n, st.dropLast, lb)
  else some (n, st, lb)
noncomputable def goalF (p : Tk) (st : List Int) : Option (Int × List Int) :=
  if code p = 14 then st.getLast?.bind fun v => if 0 ≤ v ∧ 2 ≤ p.length then some (p.getD (min (1 + v) (p.length - 1)).toNat 0, st.dropLast) else none
  else if code p = 12 then (if 2 ≤ p.length then some (arg p, st) else none)
  else if code p = 13 then (if 2 ≤ p.length then st.getLast?.map fun v => (if v ≠ 0 then arg p else -1, st.dropLast) else none)
  else some (-1, st)
noncomputable def backF (B : List Tk) (lb : List Nat) (g : Nat) : Option (Nat × List Nat) :=
  lb[lb.length - 1 - g]?.bind fun n => (if code (B.getD n []) = 3 then some n else (behF false 0 (B.drop (n + 1))).map fun k => n + 1 + k).map fun a => (a, lb.take (lb.length - 1 - g))
inductive RunsTo (B : List Tk) : Nat → MS → List Nat → Nat → List Int → Prop
  | stop {m : MS} {lb : List Nat} {n : Nat} : ¬ (n < B.length ∧ m.to.length < 12) → RunsTo B 0 m lb n m.to
  | ret {m m1 : MS} {lb lb2 : List Nat} {n n2 : Nat} {p : Tk} {st2 st3 : List Int} {g : Int} : m.to.length < 12 → B[n]? = some p → m.st.length ≤ 1000 → lb.length ≤ 1000 → doF p m = some m1 →
      jumpF B p (n + 1) m1.st (lblF p n lb) = some (n2, st2, lb2) → goalF p st2 = some (g, st3) → (lb2.length : Int) ≤ g → RunsTo B 1 m lb n m1.to
  | jump {m m1 : MS} {lb lb2 lb3 : List Nat} {n n2 n3 k g : Nat} {p : Tk} {st2 st3 t : List Int} : m.to.length < 12 → B[n]? = some p → m.st.length ≤ 1000 → lb.length ≤ 1000 → doF p m = some m1 →
      jumpF B p (n + 1) m1.st (lblF p n lb) = some (n2, st2, lb2) → goalF p st2 = some ((g : Int), st3) → g < lb2.length → backF B lb2 g = some (n3, lb3) →
      RunsTo B k ⟨st3, m1.pl, m1.to⟩ (if code p = 11 then lb3.dropLast else lb3) n3 t → RunsTo B (k + 1) m lb n t
  | go {m m1 : MS} {lb lb2 : List Nat} {n n2 k : Nat} {p : Tk} {st2 st3 t : List Int} {g : Int} : m.to.length < 12 → B[n]? = some p → m.st.length ≤ 1000 → lb.length ≤ 1000 → doF p m = some m1 →
      jumpF B p (n + 1) m1.st (lblF p n lb) = some (n2, st2, lb2) → goalF p st2 = some (g, st3) → g < 0 →
      RunsTo B k ⟨st3, m1.pl, m1.to⟩ (if code p = 11 then lb2.dropLast else lb2) n2 t → RunsTo B (k + 1) m lb n t
theorem behF_ne {e : Bool} {d : Nat} {l : List Tk} {k : Nat} (h : behF e d l = some k) : ∃ t r, l = t :: r := by
  cases l with
  | nil => cases h
  | cons t r => exact ⟨t, r, rfl⟩
theorem behF_lt {e : Bool} : ∀ {l : List Tk} {d k : Nat}, behF e d l = some k → 1 ≤ k ∧ k ≤ l.length
  | [], d, k, h => by cases h
  | t :: r, d, k, h => by
    simp only [behF_q0, behF_q1] at h
    split at h
    · cases h; simp
    · cases e1 : behF e (if 2 ≤ code t ∧ code t ≤ 4 then d + 1 else if code t = 11 then d - 1 else d) r with
      | none => rw [e1] at h; cases h
      | some j =>
        rw [e1] at h
        have := behF_lt e1
        simp only [Option.map_some, Option.some.injEq] at h
        simp only [List.length_cons]
        lia

/- NmR6 -/
/-- a piece in the heap: its address, its attributes' address, its plain, its lists' addresses -/
inductive HT where
  | leaf (x dx : Addr) (p : Tk)
  | one (x dx : Addr) (p : Tk) (a : Addr) (f : List HT)
  | two (x dx : Addr) (p : Tk) (a : Addr) (f : List HT) (a2 : Addr) (s : List HT)
noncomputable def HT.x : HT → Addr
  | .leaf x _ _ => x
  | .one x _ _ _ _ => x
  | .two x _ _ _ _ _ _ => x
theorem HT.x_q0 (x) (w1) (w2) : HT.x (.leaf x w1 w2) = (x) := rfl
theorem HT.x_q1 (x) (w1) (w2) (w3) (w4) : HT.x (.one x w1 w2 w3 w4) = (x) := rfl
theorem HT.x_q2 (x) (w1) (w2) (w3) (w4) (w5) (w6) : HT.x (.two x w1 w2 w3 w4 w5 w6) = (x) := rfl
noncomputable def HT.dx : HT → Addr
  | .leaf _ d _ => d
  | .one _ d _ _ _ => d
  | .two _ d _ _ _ _ _ => d
noncomputable def HT.p : HT → Tk
  | .leaf _ _ p => p
  | .one _ _ p _ _ => p
  | .two _ _ p _ _ _ _ => p
theorem HT.p_q0 (w1) (w2) (p) : HT.p (.leaf w1 w2 p) = (p) := rfl
theorem HT.p_q1 (w1) (w2) (p) (w3) (w4) : HT.p (.one w1 w2 p w3 w4) = (p) := rfl
theorem HT.p_q2 (w1) (w2) (p) (w3) (w4) (w5) (w6) : HT.p (.two w1 w2 p w3 w4 w5 w6) = (p) := rfl
noncomputable abbrev refs (l : List HT) : List V := l.map fun t => .ref t.x
noncomputable abbrev fsOf (p : Tk) (f s : V) : List (Str × V) := [("plain", pl p), ("first", f), ("second", s)]
noncomputable def HT.fv : HT → V
  | .leaf _ _ _ => .none
  | .one _ _ _ a _ => .ref a
  | .two _ _ _ a _ _ _ => .ref a
theorem HT.fv_q0 (w1) (w2) (w3) : HT.fv (.leaf w1 w2 w3) = (.none) := rfl
theorem HT.fv_q1 (w1) (w2) (w3) (a) (w4) : HT.fv (.one w1 w2 w3 a w4) = (.ref a) := rfl
theorem HT.fv_q2 (w1) (w2) (w3) (a) (w4) (w5) (w6) : HT.fv (.two w1 w2 w3 a w4 w5 w6) = (.ref a) := rfl
noncomputable def HT.sv : HT → V
  | .leaf _ _ _ => .none
  | .one _ _ _ _ _ => .none
  | .two _ _ _ _ _ a _ => .ref a
mutual
noncomputable def At1 (H : AH) : HT → Prop
  | .leaf x dx p => H x = some (.inst dx (fsOf p .none .none)) ∧ TOk p
  | .one x dx p a f => (H x = some (.inst dx (fsOf p (.ref a) .none)) ∧ TOk p) ∧ H a = some (.list (refs f)) ∧ AtL H f
  | .two x dx p a f a2 s => (H x = some (.inst dx (fsOf p (.ref a) (.ref a2))) ∧ TOk p) ∧ (H a = some (.list (refs f)) ∧ AtL H f) ∧ H a2 = some (.list (refs s)) ∧ AtL H s
noncomputable def AtL (H : AH) : List HT → Prop
  | [] => True
  | t :: r => At1 H t ∧ AtL H r
end
theorem AtL_q0 (H : AH) : AtL H ([]) = (True) := rfl
theorem AtL_q1 (H : AH) (t) (r) : AtL H (t :: r) = (At1 H t ∧ AtL H r) := rfl
mutual
noncomputable def fp1 : HT → List Addr
  | .leaf x _ _ => [x]
  | .one x _ _ a f => x :: a :: fpL f
  | .two x _ _ a f a2 s => x :: a :: a2 :: (fpL f ++ fpL s)
noncomputable def fpL : List HT → List Addr
  | [] => []
  | t :: r => fp1 t ++ fpL r
end
theorem fpL_q0 : fpL ([]) = ([]) := rfl
theorem fpL_q1 (t) (r) : fpL (t :: r) = (fp1 t ++ fpL r) := rfl
theorem fp1_q0 (x) (w1) (w2) : fp1 (.leaf x w1 w2) = ([x]) := rfl
theorem fp1_q1 (x) (w1) (w2) (a) (f) : fp1 (.one x w1 w2 a f) = (x :: a :: fpL f) := rfl
theorem fp1_q2 (x) (w1) (w2) (a) (f) (a2) (s) : fp1 (.two x w1 w2 a f a2 s) = (x :: a :: a2 :: (fpL f ++ fpL s)) := rfl
mutual
noncomputable def er1 : HT → PT
  | .leaf _ _ p => .leaf p
  | .one _ _ p _ f => .one p (erL f)
  | .two _ _ p _ f _ s => .two p (erL f) (erL s)
noncomputable def erL : List HT → List PT
  | [] => []
  | t :: r => er1 t :: erL r
end
theorem erL_q0 : erL ([]) = ([]) := rfl
theorem erL_q1 (t) (r) : erL (t :: r) = (er1 t :: erL r) := rfl
theorem er1_q0 (w1) (w2) (p) : er1 (.leaf w1 w2 p) = (.leaf p) := rfl
theorem er1_q1 (w1) (w2) (p) (w3) (f) : er1 (.one w1 w2 p w3 f) = (.one p (erL f)) := rfl
theorem er1_q2 (w1) (w2) (p) (w3) (f) (w4) (s) : er1 (.two w1 w2 p w3 f w4 s) = (.two p (erL f) (erL s)) := rfl
mutual
noncomputable def hd1 : HT → Nat
  | .leaf _ _ _ => 0
  | .one _ _ _ _ f => hdL f + 1
  | .two _ _ _ _ f _ s => max (hdL f) (hdL s) + 1
noncomputable def hdL : List HT → Nat
  | [] => 0
  | t :: r => max (hd1 t) (hdL r)
end
theorem hdL_q0 : hdL ([]) = (0) := rfl
theorem hdL_q1 (t) (r) : hdL (t :: r) = (max (hd1 t) (hdL r)) := rfl
theorem hd1_q0 (w1) (w2) (w3) : hd1 (.leaf w1 w2 w3) = (0) := rfl
theorem hd1_q1 (w1) (w2) (w3) (w4) (f) : hd1 (.one w1 w2 w3 w4 f) = (hdL f + 1) := rfl
theorem hd1_q2 (w1) (w2) (w3) (w4) (f) (w5) (s) : hd1 (.two w1 w2 w3 w4 f w5 s) = (max (hdL f) (hdL s) + 1) := rfl
theorem At1.inst {H : AH} : ∀ {t : HT}, At1 H t → H t.x = some (.inst t.dx (fsOf t.p t.fv t.sv)) ∧ TOk t.p
  | .leaf _ _ _, h => h
  | .one _ _ _ _ _, h => h.1
  | .two _ _ _ _ _ _ _, h => h.1
mutual
theorem At1.frame {H H' : AH} : ∀ {t : HT}, At1 H t → (∀ c ∈ fp1 t, H' c = H c) → At1 H' t
  | .leaf x dx p, h, k => ⟨(k x (by simp [fp1_q0, fp1_q1, fp1_q2])).trans h.1, h.2⟩
  | .one x dx p a f, h, k => ⟨⟨(k x (by simp [fp1_q0, fp1_q1, fp1_q2])).trans h.1.1, h.1.2⟩, (k a (by simp [fp1_q0, fp1_q1, fp1_q2])).trans h.2.1, AtL.frame h.2.2 fun c hc => k c (by simp [fp1_q0, fp1_q1, fp1_q2, hc])⟩
  | .two x dx p a f a2 s, h, k => ⟨⟨(k x (by simp [fp1_q0, fp1_q1, fp1_q2])).trans h.1.1, h.1.2⟩, ⟨(k a (by simp [fp1_q0, fp1_q1, fp1_q2])).trans h.2.1.1, AtL.frame h.2.1.2 fun c hc => k c (by simp [fp1_q0, fp1_q1, fp1_q2, hc])⟩, (k a2 (by simp [fp1_q0, fp1_q1, fp1_q2])).trans h.2.2.1, AtL.frame h.2.2.2 fun c hc => k c (by simp [fp1_q0, fp1_q1, fp1_q2, hc])⟩
theorem AtL.frame {H H' : AH} : ∀ {l : List HT}, AtL H l → (∀ c ∈ fpL l, H' c = H c) → AtL H' l
  | [], _, _ => trivial
  | t :: r, h, k => ⟨At1.frame h.1 fun c hc => k c (by simp [fpL_q0, fpL_q1, hc]), AtL.frame h.2 fun c hc => k c (by simp [fpL_q0, fpL_q1, hc])⟩
end
mutual
theorem At1.live {H : AH} : ∀ {t : HT}, At1 H t → ∀ c ∈ fp1 t, H c ≠ none
  | .leaf x dx p, h, c, hc => by
    simp only [fp1_q0, fp1_q1, fp1_q2, List.mem_singleton] at hc
    rw [hc, h.1]; simp
  | .one x dx p a f, h, c, hc => by
    simp only [fp1_q0, fp1_q1, fp1_q2, List.mem_cons] at hc
    rcases hc with rfl | rfl | hc
    · rw [h.1.1]; simp
    · rw [h.2.1]; simp
    · exact AtL.live h.2.2 c hc
  | .two x dx p a f a2 s, h, c, hc => by
    simp only [fp1_q0, fp1_q1, fp1_q2, List.mem_cons, List.mem_append] at hc
    rcases hc with rfl | rfl | rfl | hc | hc
    · rw [h.1.1]; simp
    · rw [h.2.1.1]; simp
    · rw [h.2.2.1]; simp
    · exact AtL.live h.2.1.2 c hc
    · exact AtL.live h.2.2.2 c hc
theorem AtL.live {H : AH} : ∀ {l : List HT}, AtL H l → ∀ c ∈ fpL l, H c ≠ none
  | [], _, c, hc => by simp [fpL_q0, fpL_q1] at hc
  | t :: r, h, c, hc => by
    simp only [fpL_q0, fpL_q1, List.mem_append] at hc
    rcases hc with hc | hc
    · exact At1.live h.1 c hc
    · exact AtL.live h.2 c hc
end
theorem fpL_append : ∀ a b : List HT, fpL (a ++ b) = fpL a ++ fpL b
  | [], b => rfl
  | x :: r, b => (congrArg (fp1 x ++ ·) (fpL_append r b)).trans (List.append_assoc ..).symm
theorem AtL_append {H : AH} : ∀ {a b : List HT}, AtL H (a ++ b) ↔ AtL H a ∧ AtL H b
  | [], b => by simp [AtL_q0, AtL_q1]
  | x :: r, b => by simp only [List.cons_append, AtL_q0, AtL_q1, AtL_append (a := r) (b := b), and_assoc]
theorem erL_append : ∀ a b : List HT, erL (a ++ b) = erL a ++ erL b
  | [], b => rfl
  | x :: r, b => congrArg (er1 x :: ·) (erL_append r b)
theorem hdL_append : ∀ a b : List HT, hdL (a ++ b) = max (hdL a) (hdL b)
  | [], b => by simp [hdL_q0, hdL_q1]
  | x :: r, b => (congrArg (max (hd1 x)) (hdL_append r b)).trans (Nat.max_assoc ..).symm
theorem hdL_mem : ∀ {l : List HT} {t : HT}, t ∈ l → hd1 t ≤ hdL l
  | y :: r, x, h => by
    simp only [hdL_q0, hdL_q1]
    rcases List.mem_cons.mp h with rfl | h
    · lia
    · have := hdL_mem h; lia
theorem AtL_mem {H : AH} : ∀ {l : List HT} {t : HT}, AtL H l → t ∈ l → At1 H t
  | y :: r, x, a, h => by
    rcases List.mem_cons.mp h with rfl | h
    · exact a.1
    · exact AtL_mem a.2 h
theorem refs_get {l : List HT} {i : Nat} {w : V} (h : (refs l)[i]? = some w) : ∃ t, l[i]? = some t ∧ w = .ref t.x := by
  rw [List.getElem?_map] at h
  cases e : l[i]? with
  | none => rw [e] at h; cases h
  | some t => rw [e] at h; cases h; exact ⟨t, rfl, rfl⟩
/-- the lists of a piece that are there -/
noncomputable def HT.subs : HT → List (Addr × List HT)
  | .leaf _ _ _ => []
  | .one _ _ _ a f => [(a, f)]
  | .two _ _ _ a f a2 s => [(a, f), (a2, s)]
theorem HT.subs_q0 (w1) (w2) (w3) : HT.subs (.leaf w1 w2 w3) = ([]) := rfl
theorem HT.subs_q1 (w1) (w2) (w3) (a) (f) : HT.subs (.one w1 w2 w3 a f) = ([(a, f)]) := rfl
theorem HT.subs_q2 (w1) (w2) (w3) (a) (f) (a2) (s) : HT.subs (.two w1 w2 w3 a f a2 s) = ([(a, f), (a2, s)]) := rfl
theorem At1.subs {H : AH} : ∀ {t : HT}, At1 H t → ∀ q ∈ t.subs, H q.1 = some (.list (refs q.2)) ∧ AtL H q.2
  | .leaf _ _ _, h, q, hq => by cases hq
  | .one _ _ _ a f, h, q, hq => by
    simp only [HT.subs_q0, HT.subs_q1, HT.subs_q2, List.mem_singleton] at hq
    subst hq
    exact h.2
  | .two _ _ _ a f a2 s, h, q, hq => by
    simp only [HT.subs_q0, HT.subs_q1, HT.subs_q2, List.mem_cons, List.not_mem_nil, or_false] at hq
    rcases hq with rfl | rfl
    · exact h.2.1
    · exact h.2.2
theorem HT.subs_hd : ∀ {t : HT}, ∀ q ∈ t.subs, hdL q.2 < hd1 t
  | .leaf _ _ _, q, hq => by cases hq
  | .one _ _ _ a f, q, hq => by
    simp only [HT.subs_q0, HT.subs_q1, HT.subs_q2, List.mem_singleton] at hq
    subst hq
    simp [hd1_q0, hd1_q1, hd1_q2]
  | .two _ _ _ a f a2 s, q, hq => by
    simp only [HT.subs_q0, HT.subs_q1, HT.subs_q2, List.mem_cons, List.not_mem_nil, or_false] at hq
    rcases hq with rfl | rfl <;> simp only [hd1_q0, hd1_q1, hd1_q2] <;> lia
/-- the parts of a piece that are there -/
noncomputable def HT.parts : HT → List V
  | .leaf _ _ _ => []
  | .one _ _ _ a _ => [.ref a]
  | .two _ _ _ a _ a2 _ => [.ref a, .ref a2]
theorem HT.parts_subs (t : HT) : t.parts = t.subs.map fun q => .ref q.1 := by cases t <;> rfl

/- NmR7 -/
/-- a list of pieces became another -/
structure Chg (H H' : AH) (a : Addr) (l l' : List HT) : Prop where
  list : H' a = some (.list (refs l'))
  at' : AtL H' l'
  nd : (a :: fpL l').Nodup
  fp : ∀ c ∈ fpL l', c ∈ fpL l ∨ H c = none
  out : ∀ c, c ∉ a :: fpL l → H c ≠ none → H' c = H c
  lv : ∀ c, H c ≠ none → H' c ≠ none
/-- a piece became another -/
structure Chg1 (H H' : AH) (t t' : HT) : Prop where
  at' : At1 H' t'
  nd : (fp1 t').Nodup
  fp : ∀ c ∈ fp1 t', c ∈ fp1 t ∨ H c = none
  out : ∀ c, c ∉ fp1 t → H c ≠ none → H' c = H c
  lv : ∀ c, H c ≠ none → H' c ≠ none
theorem Chg1.refl {H : AH} {t : HT} (h : At1 H t) (nd : (fp1 t).Nodup) : Chg1 H H t t := ⟨h, nd, fun _ h => .inl h, fun _ _ _ => rfl, fun _ h => h⟩
theorem Chg1.trans {H H1 H2 : AH} {t t1 t2 : HT} (x : Chg1 H H1 t t1) (y : Chg1 H1 H2 t1 t2) : Chg1 H H2 t t2 :=
  ⟨y.at', y.nd, fun c h => by
    rcases y.fp c h with h | h
    · exact x.fp c h
    · refine .inr (Classical.byContradiction fun e => x.lv c e h), fun c h1 h2 => by
    have e1 := x.out c h1 h2
    rw [← e1]
    refine y.out c (fun h => ?_) (by rw [e1]; exact h2)
    rcases x.fp c h with h | h
    · exact h1 h
    · exact h2 h, fun c h => y.lv c (x.lv c h)⟩
theorem Chg.one {H H2 : AH} {x dx a : Addr} {p : Tk} {f f' : List HT} (h : At1 H (.one x dx p a f)) (nd : (fp1 (.one x dx p a f)).Nodup) (C : Chg H H2 a f f') : Chg1 H H2 (.one x dx p a f) (.one x dx p a f') := by
  simp only [fp1_q0, fp1_q1, fp1_q2, List.nodup_cons, List.mem_cons, not_or] at nd
  obtain ⟨⟨n1, n2⟩, n3, n4⟩ := nd
  have hx : H x ≠ none := by rw [h.1.1]; simp
  have ex : H2 x = H x := C.out x (by simp [n1, n2]) hx
  refine ⟨⟨⟨ex.trans h.1.1, h.1.2⟩, C.list, C.at'⟩, ?_, ?_, ?_, C.lv⟩
  · simp only [fp1_q0, fp1_q1, fp1_q2, List.nodup_cons, List.mem_cons, not_or]
    refine ⟨⟨n1, fun e => ?_⟩, List.nodup_cons.mp C.nd⟩
    rcases C.fp x e with e | e
    · exact n2 e
    · exact hx e
  · intro c hc
    simp only [fp1_q0, fp1_q1, fp1_q2, List.mem_cons] at hc ⊢
    rcases hc with hc | hc | hc
    · exact .inl (.inl hc)
    · exact .inl (.inr (.inl hc))
    · rcases C.fp c hc with e | e
      · exact .inl (.inr (.inr e))
      · exact .inr e
  · intro c hc h2
    simp only [fp1_q0, fp1_q1, fp1_q2, List.mem_cons, not_or] at hc
    exact C.out c (by simp [hc.2.1, hc.2.2]) h2
theorem Chg.two1 {H H2 : AH} {x dx a a2 : Addr} {p : Tk} {f f' s : List HT} (h : At1 H (.two x dx p a f a2 s)) (nd : (fp1 (.two x dx p a f a2 s)).Nodup) (C : Chg H H2 a f f') : Chg1 H H2 (.two x dx p a f a2 s) (.two x dx p a f' a2 s) := by
  simp only [fp1_q0, fp1_q1, fp1_q2, List.nodup_cons, List.mem_cons, List.mem_append, not_or, List.nodup_append] at nd
  obtain ⟨⟨n1, n2, n3, n4⟩, ⟨n5, n6, n7⟩, ⟨n8, n9⟩, n10, n11, n12⟩ := nd
  have hx : H x ≠ none := by rw [h.1.1]; simp
  have h2 : H a2 ≠ none := by rw [h.2.2.1]; simp
  have hs : ∀ c ∈ fpL s, H c ≠ none := h.2.2.2.live
  have ha : ∀ c ∈ fpL s, c ≠ a := fun c hc e => n7 (e ▸ hc)
  have hf : ∀ c ∈ fpL s, c ∉ fpL f := fun c hc e => n12 c e c hc rfl
  have ex : H2 x = H x := C.out x (by simp [n1, n3]) hx
  have e2 : H2 a2 = H a2 := C.out a2 (by simp [n8, Ne.symm n5]) h2
  have es : ∀ c ∈ fpL s, H2 c = H c := fun c hc => C.out c (by simp [ha c hc, hf c hc]) (hs c hc)
  have nf : ∀ c, H c ≠ none → c ∉ fpL f → c ∉ fpL f' := fun c h1 h2 h3 => by
    rcases C.fp c h3 with e | e
    · exact h2 e
    · exact h1 e
  obtain ⟨m1, m2⟩ := List.nodup_cons.mp C.nd
  refine ⟨⟨⟨ex.trans h.1.1, h.1.2⟩, ⟨C.list, C.at'⟩, e2.trans h.2.2.1, h.2.2.2.frame es⟩, ?_, ?_, ?_, C.lv⟩
  · simp only [fp1_q0, fp1_q1, fp1_q2, List.nodup_cons, List.mem_cons, List.mem_append, not_or, List.nodup_append]
    exact ⟨⟨n1, n2, nf x hx n3, n4⟩, ⟨n5, m1, n7⟩, ⟨nf a2 h2 n8, n9⟩, m2, n11, fun c h1 d h2 e => by
      subst e
      exact nf c (hs c h2) (hf c h2) h1⟩
  · intro c hc
    simp only [fp1_q0, fp1_q1, fp1_q2, List.mem_cons, List.mem_append] at hc ⊢
    rcases hc with hc | hc | hc | hc | hc
    · exact .inl (.inl hc)
    · exact .inl (.inr (.inl hc))
    · exact .inl (.inr (.inr (.inl hc)))
    · rcases C.fp c hc with e | e
      · exact .inl (.inr (.inr (.inr (.inl e))))
      · exact .inr e
    · exact .inl (.inr (.inr (.inr (.inr hc))))
  · intro c hc h2
    simp only [fp1_q0, fp1_q1, fp1_q2, List.mem_cons, List.mem_append, not_or] at hc
    exact C.out c (by simp [hc.2.1, hc.2.2.2.1]) h2
theorem Chg.two2 {H H2 : AH} {x dx a a2 : Addr} {p : Tk} {f s s' : List HT} (h : At1 H (.two x dx p a f a2 s)) (nd : (fp1 (.two x dx p a f a2 s)).Nodup) (C : Chg H H2 a2 s s') : Chg1 H H2 (.two x dx p a f a2 s) (.two x dx p a f a2 s') := by
  simp only [fp1_q0, fp1_q1, fp1_q2, List.nodup_cons, List.mem_cons, List.mem_append, not_or, List.nodup_append] at nd
  obtain ⟨⟨n1, n2, n3, n4⟩, ⟨n5, n6, n7⟩, ⟨n8, n9⟩, n10, n11, n12⟩ := nd
  have hx : H x ≠ none := by rw [h.1.1]; simp
  have h2 : H a ≠ none := by rw [h.2.1.1]; simp
  have hs : ∀ c ∈ fpL f, H c ≠ none := h.2.1.2.live
  have ha : ∀ c ∈ fpL f, c ≠ a2 := fun c hc e => n8 (e ▸ hc)
  have hf : ∀ c ∈ fpL f, c ∉ fpL s := fun c hc e => n12 c hc c e rfl
  have ex : H2 x = H x := C.out x (by simp [n2, n4]) hx
  have e2 : H2 a = H a := C.out a (by simp [n5, n7]) h2
  have es : ∀ c ∈ fpL f, H2 c = H c := fun c hc => C.out c (by simp [ha c hc, hf c hc]) (hs c hc)
  have nf : ∀ c, H c ≠ none → c ∉ fpL s → c ∉ fpL s' := fun c h1 h2 h3 => by
    rcases C.fp c h3 with e | e
    · exact h2 e
    · exact h1 e
  obtain ⟨m1, m2⟩ := List.nodup_cons.mp C.nd
  refine ⟨⟨⟨ex.trans h.1.1, h.1.2⟩, ⟨e2.trans h.2.1.1, h.2.1.2.frame es⟩, C.list, C.at'⟩, ?_, ?_, ?_, C.lv⟩
  · simp only [fp1_q0, fp1_q1, fp1_q2, List.nodup_cons, List.mem_cons, List.mem_append, not_or, List.nodup_append]
    exact ⟨⟨n1, n2, n3, nf x hx n4⟩, ⟨n5, n6, nf a h2 n7⟩, ⟨n8, m1⟩, n10, m2, fun c h1 d h2 e => by
      subst e
      exact nf c (hs c h1) (hf c h1) h2⟩
  · intro c hc
    simp only [fp1_q0, fp1_q1, fp1_q2, List.mem_cons, List.mem_append] at hc ⊢
    rcases hc with hc | hc | hc | hc | hc
    · exact .inl (.inl hc)
    · exact .inl (.inr (.inl hc))
    · exact .inl (.inr (.inr (.inl hc)))
    · exact .inl (.inr (.inr (.inr (.inl hc))))
    · rcases C.fp c hc with e | e
      · exact .inl (.inr (.inr (.inr (.inr e))))
      · exact .inr e
  · intro c hc h2
    simp only [fp1_q0, fp1_q1, fp1_q2, List.mem_cons, List.mem_append, not_or] at hc
    exact C.out c (by simp [hc.2.2.1, hc.2.2.2.2]) h2
/-- the lists of a piece became others -/
inductive SubR (P : List HT → List HT → Prop) : HT → HT → Prop
  | leaf {x dx p} : SubR P (.leaf x dx p) (.leaf x dx p)
  | one {x dx p a f f'} : P f f' → SubR P (.one x dx p a f) (.one x dx p a f')
  | two {x dx p a f f' a2 s s'} : P f f' → P s s' → SubR P (.two x dx p a f a2 s) (.two x dx p a f' a2 s')
/-- the first of them did -/
inductive SubP (P : List HT → List HT → Prop) : Nat → HT → HT → Prop
  | leaf {x dx p} : SubP P 0 (.leaf x dx p) (.leaf x dx p)
  | one0 {x dx p a f} : SubP P 0 (.one x dx p a f) (.one x dx p a f)
  | one1 {x dx p a f f'} : P f f' → SubP P 1 (.one x dx p a f) (.one x dx p a f')
  | two0 {x dx p a f a2 s} : SubP P 0 (.two x dx p a f a2 s) (.two x dx p a f a2 s)
  | two1 {x dx p a f f' a2 s} : P f f' → SubP P 1 (.two x dx p a f a2 s) (.two x dx p a f' a2 s)
  | two2 {x dx p a f f' a2 s s'} : P f f' → P s s' → SubP P 2 (.two x dx p a f a2 s) (.two x dx p a f' a2 s')
theorem SubP.zero {P : List HT → List HT → Prop} : ∀ t, SubP P 0 t t
  | .leaf _ _ _ => .leaf
  | .one _ _ _ _ _ => .one0
  | .two _ _ _ _ _ _ _ => .two0
theorem SubP.all {P : List HT → List HT → Prop} {t t' : HT} {n : Nat} (h : SubP P n t t') (e : n = t.subs.length) : SubR P t t' := by
  cases h with
  | leaf => exact .leaf
  | one0 => cases e
  | one1 h => exact .one h
  | two0 => cases e
  | two1 h => cases e
  | two2 h k => exact .two h k
theorem SubR.x {P : List HT → List HT → Prop} {t t' : HT} (h : SubR P t t') : t'.x = t.x := by cases h <;> rfl
theorem SubR.p {P : List HT → List HT → Prop} {t t' : HT} (h : SubR P t t') : t'.p = t.p := by cases h <;> rfl
/-- one more of them -/
theorem SubP.next {P : List HT → List HT → Prop} {H : AH} {t t' : HT} {n : Nat} {q : Addr × List HT} (h : SubP P n t t') (hq : t.subs[n]? = some q) (hat : At1 H t') (nd : (fp1 t').Nodup) :
    H q.1 = some (.list (refs q.2)) ∧ AtL H q.2 ∧ (q.1 :: fpL q.2).Nodup ∧ (∀ c ∈ q.1 :: fpL q.2, c ∈ fp1 t') ∧ ∀ H2 l', P q.2 l' → Chg H H2 q.1 q.2 l' → ∃ t2, SubP P (n + 1) t t2 ∧ Chg1 H H2 t' t2 := by
  cases h with
  | leaf => cases hq
  | one0 =>
    cases hq
    refine ⟨hat.2.1, hat.2.2, ?_, ?_, fun H2 l' hp C => ⟨_, .one1 hp, C.one hat nd⟩⟩
    · exact (List.nodup_cons.mp nd).2
    · intro c hc
      simp only [fp1_q0, fp1_q1, fp1_q2]
      exact List.mem_cons_of_mem _ hc
  | one1 _ => cases hq
  | two0 =>
    cases hq
    refine ⟨hat.2.1.1, hat.2.1.2, ?_, ?_, fun H2 l' hp C => ⟨_, .two1 hp, C.two1 hat nd⟩⟩
    · simp only [fp1_q0, fp1_q1, fp1_q2, List.nodup_cons, List.mem_cons, List.mem_append, not_or, List.nodup_append] at nd ⊢
      exact ⟨nd.2.1.2.1, nd.2.2.2.1⟩
    · intro c hc
      simp only [fp1_q0, fp1_q1, fp1_q2, List.mem_cons, List.mem_append] at hc ⊢
      rcases hc with hc | hc
      · exact .inr (.inl hc)
      · exact .inr (.inr (.inr (.inl hc)))
  | two1 hp1 =>
    cases hq
    refine ⟨hat.2.2.1, hat.2.2.2, ?_, ?_, fun H2 l' hp C => ⟨_, .two2 hp1 hp, C.two2 hat nd⟩⟩
    · simp only [fp1_q0, fp1_q1, fp1_q2, List.nodup_cons, List.mem_cons, List.mem_append, not_or, List.nodup_append] at nd ⊢
      exact ⟨nd.2.2.1.2, nd.2.2.2.2.1⟩
    · intro c hc
      simp only [fp1_q0, fp1_q1, fp1_q2, List.mem_cons, List.mem_append] at hc ⊢
      rcases hc with hc | hc
      · exact .inr (.inr (.inl hc))
      · exact .inr (.inr (.inr (.inr hc)))
  | two2 _ _ => cases hq

/- NmR8 -/
/-- a piece became several -/
structure Ch2 (H H' : AH) (t : HT) (g : List HT) : Prop where
  at' : AtL H' g
  nd : (fpL g).Nodup
  fp : ∀ c ∈ fpL g, c ∈ fp1 t ∨ H c = none
  out : ∀ c, c ∉ fp1 t → H c ≠ none → H' c = H c
  lv : ∀ c, H c ≠ none → H' c ≠ none
theorem Chg1.two {H H' : AH} {t t' : HT} (C : Chg1 H H' t t') : Ch2 H H' t [t'] :=
  ⟨⟨C.at', trivial⟩, by simpa [fpL_q0, fpL_q1] using C.nd, by simpa [fpL_q0, fpL_q1] using C.fp, C.out, C.lv⟩
/-- the loop that finds the pieces of the new list -/
structure SL (H H' : AH) (a fa : Addr) (ts : List HT) (i : Nat) (fts : List HT) : Prop where
  fl : H' fa = some (.list (refs fts))
  fat : AtL H' fts
  rat : AtL H' (ts.drop i)
  pl : H' a = some (.list (refs ts))
  nd : (fpL fts).Nodup
  sub : ∀ c ∈ fpL fts, c ∈ fpL (ts.take i) ∨ H c = none
  nfa : fa ∉ fpL fts
  out : ∀ c, c ∉ fpL ts → H c ≠ none → H' c = H c
  lv : ∀ c, H c ≠ none → H' c ≠ none
theorem SL.start {H : AH} {a fa : Addr} {ts : List HT} (hA : AtL H ts) (ha : H a = some (.list (refs ts))) (hf : H fa = none) : SL H (H.set fa (.list [])) a fa ts 0 [] := by
  have hl : ∀ c, H c ≠ none → c ≠ fa := fun c h e => h (e ▸ hf)
  refine ⟨AH.set_self _ _ _, trivial, hA.frame fun c hc => AH.set_ne _ _ (hl c (hA.live c hc)), ?_, by simp [fpL_q0, fpL_q1], fun c hc => by simp [fpL_q0, fpL_q1] at hc, by simp [fpL_q0, fpL_q1], fun c _ h => AH.set_ne _ _ (hl c h), fun c h => by rw [AH.set_ne _ _ (hl c h)]; exact h⟩
  rw [AH.set_ne _ _ (hl a (by rw [ha]; simp))]
  exact ha
theorem split_at {ts : List HT} {i : Nat} {t : HT} (ht : ts[i]? = some t) : ts.drop i = t :: ts.drop (i + 1) ∧ fpL ts = fpL (ts.take i) ++ (fp1 t ++ fpL (ts.drop (i + 1))) := by
  have hil : i < ts.length := (List.getElem?_eq_some_iff.mp ht).1
  have hdr : ts.drop i = t :: ts.drop (i + 1) := by
    rw [List.drop_eq_getElem_cons hil]
    congr 1
    exact (List.getElem?_eq_some_iff.mp ht).2
  refine ⟨hdr, ?_⟩
  conv => lhs; rw [← List.take_append_drop i ts]
  rw [fpL_append, hdr, fpL]
theorem SL.add {H H1 H2 : AH} {a fa : Addr} {ts fts g : List HT} {i : Nat} {t : HT} (S : SL H H1 a fa ts i fts) (hA : AtL H ts) (hna : a ∉ fpL ts) (ha : H a ≠ none) (hnd : (fpL ts).Nodup) (hf : H fa = none) (ht : ts[i]? = some t) (C : Ch2 H1 H2 t g) :
    SL H (H2.set fa (.list (refs (fts ++ g)))) a fa ts (i + 1) (fts ++ g) := by
  obtain ⟨hdr, hsp⟩ := split_at ht
  have hnd2 := hnd
  rw [hsp, List.nodup_append, List.nodup_append] at hnd2
  obtain ⟨_, ⟨ndt, _, dty⟩, dxt⟩ := hnd2
  have inT : ∀ c, c ∈ fp1 t → c ∈ fpL ts := fun c h => by rw [hsp]; simp [h]
  have liveT : ∀ c ∈ fpL ts, H c ≠ none := hA.live
  have fne : ∀ c, H c ≠ none → c ≠ fa := fun c h e => h (e ▸ hf)
  have hfa1 : H1 fa ≠ none := by rw [S.fl]; simp
  have nft : fa ∉ fp1 t := fun e => liveT fa (inT fa e) hf
  have ftsT : ∀ c ∈ fpL fts, c ∉ fp1 t := fun c hc e => by
    rcases S.sub c hc with h | h
    · exact dxt c h c (by simp [e]) rfl
    · exact liveT c (inT c e) h
  have gfa : fa ∉ fpL g := fun e => by
    rcases C.fp fa e with h | h
    · exact nft h
    · exact hfa1 h
  have takeE : fpL (ts.take (i + 1)) = fpL (ts.take i) ++ fp1 t := by
    have : ts.take (i + 1) = ts.take i ++ [t] := by rw [List.take_succ, ht]; rfl
    rw [this, fpL_append]
    simp [fpL_q0, fpL_q1]
  refine ⟨AH.set_self _ _ _, AtL_append.mpr ⟨S.fat.frame fun c hc => ?_, C.at'.frame fun c hc => AH.set_ne _ _ fun e => gfa (by rw [← e]; exact hc)⟩, ?_, ?_, ?_, ?_, ?_, ?_, ?_⟩
  · rw [AH.set_ne _ _ (fun e => S.nfa (by rw [← e]; exact hc))]
    exact C.out c (ftsT c hc) (S.fat.live c hc)
  · have hr := S.rat
    rw [hdr] at hr
    refine hr.2.frame fun c hc => ?_
    have hc1 : c ∈ fpL ts := by rw [hsp]; simp [hc]
    rw [AH.set_ne _ _ (fne c (liveT c hc1))]
    exact C.out c (fun e => dty c e c hc rfl) (hr.2.live c hc)
  · rw [AH.set_ne _ _ (fne a ha), C.out a (fun e => hna (inT a e)) (S.lv a ha)]
    exact S.pl
  · rw [fpL_append, List.nodup_append]
    refine ⟨S.nd, C.nd, fun c h1 d h2 e => ?_⟩
    subst e
    rcases C.fp c h2 with h | h
    · exact ftsT c h1 h
    · exact S.fat.live c h1 h
  · intro c hc
    rw [fpL_append, List.mem_append] at hc
    rw [takeE, List.mem_append]
    rcases hc with hc | hc
    · rcases S.sub c hc with h | h
      · exact .inl (.inl h)
      · exact .inr h
    · rcases C.fp c hc with h | h
      · exact .inl (.inr h)
      · exact .inr (Classical.byContradiction fun e => S.lv c e h)
  · rw [fpL_append, List.mem_append]
    rintro (h | h)
    · exact S.nfa h
    · exact gfa h
  · intro c h1 h2
    rw [AH.set_ne _ _ (fne c h2), C.out c (fun e => h1 (inT c e)) (S.lv c h2)]
    exact S.out c h1 h2
  · intro c h
    rw [AH.set_ne _ _ (fne c h)]
    exact C.lv c (S.lv c h)
theorem SL.done {H H1 : AH} {a fa : Addr} {ts fts : List HT} (S : SL H H1 a fa ts ts.length fts) (hna : a ∉ fpL ts) (ha : H a ≠ none) : Chg H (H1.set a (.list (refs fts))) a ts fts := by
  have hsub := S.sub
  rw [List.take_length] at hsub
  have na : a ∉ fpL fts := fun e => by
    rcases hsub a e with h | h
    · exact hna h
    · exact ha h
  refine ⟨AH.set_self _ _ _, S.fat.frame fun c hc => AH.set_ne _ _ fun e => na (by rw [← e]; exact hc), List.nodup_cons.mpr ⟨na, S.nd⟩, hsub, fun c h1 h2 => ?_, fun c h => ?_⟩
  · rw [AH.set_ne _ _ (fun e => h1 (by rw [e]; simp))]
    exact S.out c (fun e => h1 (List.mem_cons_of_mem _ e)) h2
  · by_cases e : c = a
    · rw [e, AH.set_self]; simp
    · rw [AH.set_ne _ _ e]; exact S.lv c h
mutual
/-- no single piece is a block or a loop -/
noncomputable def lf1 : PT → Prop
  | .leaf p => code p ≠ 2 ∧ code p ≠ 3
  | .one _ f => lfP f
  | .two _ f s => lfP f ∧ lfP s
noncomputable def lfP : List PT → Prop
  | [] => True
  | x :: r => lf1 x ∧ lfP r
end
theorem lfP_mem : ∀ {l : List HT} {t : HT}, lfP (erL l) → t ∈ l → lf1 (er1 t)
  | y :: r, x, a, h => by
    rcases List.mem_cons.mp h with rfl | h
    · exact a.1
    · exact lfP_mem a.2 h
theorem lf_subs : ∀ {t : HT}, lf1 (er1 t) → ∀ q ∈ t.subs, lfP (erL q.2)
  | .leaf _ _ _, h, q, hq => by cases hq
  | .one _ _ _ a f, h, q, hq => by
    simp only [HT.subs_q0, HT.subs_q1, HT.subs_q2, List.mem_singleton] at hq
    subst hq
    exact h
  | .two _ _ _ a f a2 s, h, q, hq => by
    simp only [HT.subs_q0, HT.subs_q1, HT.subs_q2, List.mem_cons, List.not_mem_nil, or_false] at hq
    rcases hq with rfl | rfl
    · exact h.1
    · exact h.2
theorem openP_append : ∀ a b : List PT, openP (a ++ b) = openP a ++ openP b
  | [], b => rfl
  | x :: r, b => (congrArg (opn1 x ++ ·) (openP_append r b)).trans (List.append_assoc ..).symm
theorem cutP_append : ∀ a b : List PT, cutP (a ++ b) = cutP a ++ cutP b
  | [], b => rfl
  | x :: r, b => (congrArg (cut1 x ++ ·) (cutP_append r b)).trans (List.append_assoc ..).symm
theorem open_takeP {ts : List HT} {i : Nat} {t : HT} (h : ts[i]? = some t) : openP (erL (ts.take (i + 1))) = openP (erL (ts.take i)) ++ opn1 (er1 t) := by
  rw [take_step h, erL_append, openP_append]
  simp [erL_q0, erL_q1, openP_q0, openP_q1]
theorem cut_takeP {ts : List HT} {i : Nat} {t : HT} (h : ts[i]? = some t) : cutP (erL (ts.take (i + 1))) = cutP (erL (ts.take i)) ++ cut1 (er1 t) := by
  rw [take_step h, erL_append, cutP_append]
  simp [erL_q0, erL_q1, cutP_q0, cutP_q1]

/- NmR9 -/
theorem ptoks_app : ∀ a b : List PT, ptoks (a ++ b) = ptoks a ++ ptoks b
  | [], b => rfl
  | x :: r, b => (congrArg (ptok1 x ++ ·) (ptoks_app r b)).trans (List.append_assoc ..).symm
mutual
noncomputable def pd1 : PT → Nat
  | .leaf _ => 0
  | .one _ f => pdP f + 1
  | .two _ f s => max (pdP f) (pdP s) + 1
noncomputable def pdP : List PT → Nat
  | [] => 0
  | t :: r => max (pd1 t) (pdP r)
end
theorem pdP_q0 : pdP ([]) = (0) := rfl
theorem pdP_q1 (t) (r) : pdP (t :: r) = (max (pd1 t) (pdP r)) := rfl
theorem pd1_q0 (w1) : pd1 (.leaf w1) = (0) := rfl
theorem pd1_q1 (w1) (f) : pd1 (.one w1 f) = (pdP f + 1) := rfl
theorem pd1_q2 (w1) (f) (s) : pd1 (.two w1 f s) = (max (pdP f) (pdP s) + 1) := rfl
theorem pdP_append : ∀ a b : List PT, pdP (a ++ b) = max (pdP a) (pdP b)
  | [], b => by simp [pdP_q0, pdP_q1]
  | x :: r, b => (congrArg (max (pd1 x)) (pdP_append r b)).trans (Nat.max_assoc ..).symm
mutual
theorem hd1_er : ∀ t : HT, hd1 t = pd1 (er1 t)
  | .leaf _ _ _ => rfl
  | .one _ _ _ _ f => by simp only [hd1_q0, hd1_q1, hd1_q2, er1_q0, er1_q1, er1_q2, pd1_q0, pd1_q1, pd1_q2, hdL_er f]
  | .two _ _ _ _ f _ s => by simp only [hd1_q0, hd1_q1, hd1_q2, er1_q0, er1_q1, er1_q2, pd1_q0, pd1_q1, pd1_q2, hdL_er f, hdL_er s]
theorem hdL_er : ∀ l : List HT, hdL l = pdP (erL l)
  | [] => rfl
  | t :: r => by simp only [hdL_q0, hdL_q1, erL_q0, erL_q1, pdP_q0, pdP_q1, hd1_er t, hdL_er r]
end
mutual
theorem low1_tk (d : Int) : ∀ t : PT, (ptok1 (low1 d t)).length = (ptok1 t).length ∧ pd1 (low1 d t) = pd1 t
  | .leaf p => by simp [low1_q0, low1_q1, low1_q2, ptok1_q0, ptok1_q1, ptok1_q2, pd1_q0, pd1_q1, pd1_q2]
  | .one p f => by
    have := lowP_tk (d + 1) f
    simp only [low1_q0, low1_q1, low1_q2, ptok1_q0, ptok1_q1, ptok1_q2, pd1_q0, pd1_q1, pd1_q2, List.length_append, List.length_cons, this.1, this.2, and_self]
  | .two p f s => by
    have := lowP_tk (d + 1) f
    have h := lowP_tk (d + 1) s
    simp only [low1_q0, low1_q1, low1_q2, ptok1_q0, ptok1_q1, ptok1_q2, pd1_q0, pd1_q1, pd1_q2, List.length_append, List.length_cons, this.1, this.2, h.1, h.2, and_self]
theorem lowP_tk (d : Int) : ∀ l : List PT, (ptoks (lowP d l)).length = (ptoks l).length ∧ pdP (lowP d l) = pdP l
  | [] => by simp [lowP_q0, lowP_q1]
  | t :: r => by
    have := low1_tk d t
    have h := lowP_tk d r
    simp only [lowP_q0, lowP_q1, ptoks_q0, ptoks_q1, pdP_q0, pdP_q1, List.length_append, this.1, this.2, h.1, h.2, and_self]
end
mutual
theorem opn1_tk : ∀ t : PT, (ptoks (opn1 t)).length ≤ (ptok1 t).length ∧ pdP (opn1 t) ≤ pd1 t
  | .leaf p => by simp [opn1_q0, opn1_q1, opn1_q2, ptoks_q0, ptoks_q1, ptok1_q0, ptok1_q1, ptok1_q2, pdP_q0, pdP_q1, pd1_q0, pd1_q1, pd1_q2]
  | .one p f => by
    have h := openP_tk f
    simp only [opn1_q0, opn1_q1, opn1_q2]
    split
    · have h2 := lowP_tk 0 (openP f)
      simp only [ptok1_q0, ptok1_q1, ptok1_q2, pd1_q0, pd1_q1, pd1_q2, List.length_append, List.length_cons, List.length_nil]
      exact ⟨Nat.le_trans (Nat.le_of_eq h2.1) (Nat.le_add_right_of_le (Nat.le_add_right_of_le h.1)), Nat.le_trans (Nat.le_of_eq h2.2) (Nat.le_succ_of_le h.2)⟩
    · simp only [ptoks_q0, ptoks_q1, ptok1_q0, ptok1_q1, ptok1_q2, pdP_q0, pdP_q1, pd1_q0, pd1_q1, pd1_q2, List.length_append, List.length_cons, List.length_nil]
      exact ⟨Nat.add_le_add_right h.1 2, mx0 (Nat.succ_le_succ h.2)⟩
  | .two p f s => by
    have h := openP_tk f
    have h3 := openP_tk s
    simp only [opn1_q0, opn1_q1, opn1_q2]
    split
    · have h2 := lowP_tk 0 (openP f)
      simp only [ptok1_q0, ptok1_q1, ptok1_q2, pd1_q0, pd1_q1, pd1_q2, List.length_append, List.length_cons, List.length_nil]
      exact ⟨Nat.le_trans (Nat.le_of_eq h2.1) (Nat.le_add_right_of_le (Nat.le_add_right_of_le (Nat.le_add_right_of_le h.1))), Nat.le_trans (Nat.le_of_eq h2.2) (Nat.le_trans h.2 (Nat.le_succ_of_le (Nat.le_max_left _ _)))⟩
    · simp only [ptoks_q0, ptoks_q1, ptok1_q0, ptok1_q1, ptok1_q2, pdP_q0, pdP_q1, pd1_q0, pd1_q1, pd1_q2, List.length_append, List.length_cons, List.length_nil]
      exact ⟨Nat.succ_le_succ (Nat.add_le_add (Nat.succ_le_succ h.1) (Nat.succ_le_succ h3.1)), mx0 (Nat.succ_le_succ (mxm h.2 h3.2))⟩
theorem openP_tk : ∀ l : List PT, (ptoks (openP l)).length ≤ (ptoks l).length ∧ pdP (openP l) ≤ pdP l
  | [] => by simp [openP_q0, openP_q1, pdP_q0, pdP_q1]
  | t :: r => by
    have h := opn1_tk t
    have h2 := openP_tk r
    simp only [openP_q0, openP_q1, ptoks_app, ptoks_q0, ptoks_q1, pdP_q0, pdP_q1, pdP_append, List.length_append]
    exact ⟨Nat.add_le_add h.1 h2.1, mxm h.2 h2.2⟩
end
mutual
theorem cut1_tk : ∀ t : PT, (ptoks (cut1 t)).length ≤ (ptok1 t).length ∧ pdP (cut1 t) ≤ pd1 t
  | .leaf p => by
    simp only [cut1_q0, cut1_q1, cut1_q2]
    split <;> simp [ptoks_q0, ptoks_q1, ptok1_q0, ptok1_q1, ptok1_q2, pdP_q0, pdP_q1, pd1_q0, pd1_q1, pd1_q2]
  | .one p f => by
    have h := cutP_tk f
    simp only [cut1_q0, cut1_q1, cut1_q2]
    split
    · simp [ptoks_q0, ptoks_q1, ptok1_q0, ptok1_q1, ptok1_q2, pdP_q0, pdP_q1, pd1_q0, pd1_q1, pd1_q2]
    · split
      · simp only [ptoks_q0, ptoks_q1, ptok1_q0, ptok1_q1, ptok1_q2, pdP_q0, pdP_q1, pd1_q0, pd1_q1, pd1_q2, List.length_append, List.length_cons, List.length_nil]
        exact ⟨Nat.add_le_add_right h.1 2, mx0 (Nat.succ_le_succ h.2)⟩
      · simp [ptoks_q0, ptoks_q1, pdP_q0, pdP_q1]
  | .two p f s => by
    have h := cutP_tk f
    have h3 := cutP_tk s
    simp only [cut1_q0, cut1_q1, cut1_q2]
    split
    · split
      · simp [ptoks_q0, ptoks_q1, ptok1_q0, ptok1_q1, ptok1_q2, pdP_q0, pdP_q1, pd1_q0, pd1_q1, pd1_q2]
      · split
        · simp only [ptoks_q0, ptoks_q1, ptok1_q0, ptok1_q1, ptok1_q2, pdP_q0, pdP_q1, pd1_q0, pd1_q1, pd1_q2, List.length_append, List.length_cons, List.length_nil]
          exact ⟨Nat.succ_le_succ (Nat.le_trans (Nat.succ_le_succ h.1) (Nat.le_add_right _ _)), mx0 (Nat.succ_le_succ (Nat.le_trans h.2 (Nat.le_max_left _ _)))⟩
        · simp [ptoks_q0, ptoks_q1, pdP_q0, pdP_q1]
    · split
      · simp only [ptoks_q0, ptoks_q1, ptok1_q0, ptok1_q1, ptok1_q2, pdP_q0, pdP_q1, pd1_q0, pd1_q1, pd1_q2, List.length_append, List.length_cons, List.length_nil]
        exact ⟨lq1 [_, _, _] (.le 1 (.v 0) (.v 1)) 1 (.a (.a (.n 0) (.n 1)) (.a (.a (.a (.v 0) (.n 1)) (.a (.n 0) (.n 1))) (.n 0))) (.a (.a (.a (.v 2) (.n 1)) (.a (.v 1) (.n 1))) (.a (.n 0) (.n 1))) rfl h3.1, Nat.max_le.mpr ⟨Nat.zero_le _, mx0 (Nat.succ_le_succ (Nat.le_trans h3.2 (Nat.le_max_right _ _)))⟩⟩
      · split
        · simp only [ptoks_q0, ptoks_q1, ptok1_q0, ptok1_q1, ptok1_q2, pdP_q0, pdP_q1, pd1_q0, pd1_q1, pd1_q2, List.length_append, List.length_cons, List.length_nil]
          exact ⟨Nat.succ_le_succ (Nat.add_le_add (Nat.succ_le_succ h.1) (Nat.succ_le_succ h3.1)), mx0 (Nat.succ_le_succ (mxm h.2 h3.2))⟩
        · simp [ptoks_q0, ptoks_q1, pdP_q0, pdP_q1]
theorem cutP_tk : ∀ l : List PT, (ptoks (cutP l)).length ≤ (ptoks l).length ∧ pdP (cutP l) ≤ pdP l
  | [] => by simp [cutP_q0, cutP_q1, pdP_q0, pdP_q1]
  | t :: r => by
    have h := cut1_tk t
    have h2 := cutP_tk r
    simp only [cutP_q0, cutP_q1, ptoks_app, ptoks_q0, ptoks_q1, pdP_q0, pdP_q1, pdP_append, List.length_append]
    exact ⟨Nat.add_le_add h.1 h2.1, mxm h.2 h2.2⟩
end
theorem ptok1_pos : ∀ t : PT, 1 ≤ (ptok1 t).length
  | .leaf _ => by simp [ptok1_q0, ptok1_q1, ptok1_q2]
  | .one _ _ => by simp [ptok1_q0, ptok1_q1, ptok1_q2]
  | .two _ _ _ => by simp [ptok1_q0, ptok1_q1, ptok1_q2]
theorem len_tk : ∀ l : List PT, l.length ≤ (ptoks l).length
  | [] => by simp
  | t :: r => by
    have := len_tk r
    simp only [ptoks_q0, ptoks_q1, List.length_cons, List.length_append]
    exact lq2 [_, _, _] (.le 1 (.n 1) (.v 1)) (.le 1 (.v 0) (.v 2)) 1 (.a (.v 0) (.n 1)) (.a (.v 1) (.v 2)) rfl (ptok1_pos t) this
theorem erL_len : ∀ l : List HT, (erL l).length = l.length
  | [] => rfl
  | t :: r => by simp only [erL_q0, erL_q1, List.length_cons, erL_len r]
theorem refs_le (l : List HT) : (refs l).length ≤ (ptoks (erL l)).length := by
  rw [List.length_map, ← erL_len]
  exact len_tk _
theorem tk_mem : ∀ {l : List HT} {t : HT}, t ∈ l → (ptok1 (er1 t)).length ≤ (ptoks (erL l)).length
  | y :: r, x, h => by
    simp only [erL_q0, erL_q1, ptoks_q0, ptoks_q1, List.length_append]
    rcases List.mem_cons.mp h with rfl | h
    · exact lq0 [_, _] 1 (.v 0) (.a (.v 0) (.v 1)) rfl 
    · have := tk_mem h; exact lq1 [_, _, _] (.le 1 (.v 0) (.v 2)) 1 (.v 0) (.a (.v 1) (.v 2)) rfl this
theorem tk_subs : ∀ {t : HT}, ∀ q ∈ t.subs, (ptoks (erL q.2)).length ≤ (ptok1 (er1 t)).length
  | .leaf _ _ _, q, hq => by cases hq
  | .one _ _ _ a f, q, hq => by
    simp only [HT.subs_q0, HT.subs_q1, HT.subs_q2, List.mem_singleton] at hq
    subst hq
    simp only [er1_q0, er1_q1, er1_q2, ptok1_q0, ptok1_q1, ptok1_q2, List.length_append, List.length_cons]
    exact lq0 [_] 1 (.v 0) (.a (.a (.v 0) (.n 1)) (.a (.n 0) (.n 1))) rfl 
  | .two _ _ _ a f a2 s, q, hq => by
    simp only [HT.subs_q0, HT.subs_q1, HT.subs_q2, List.mem_cons, List.not_mem_nil, or_false] at hq
    rcases hq with rfl | rfl <;> simp only [er1_q0, er1_q1, er1_q2, ptok1_q0, ptok1_q1, ptok1_q2, List.length_append, List.length_cons] <;> lia
theorem tk_take (ts : List HT) (i : Nat) : (ptoks (erL (ts.take i))).length ≤ (ptoks (erL ts)).length := by
  have := congrArg (fun l => (ptoks (erL l)).length) (List.take_append_drop i ts)
  simp only [erL_append, ptoks_app, List.length_append] at this
  exact lq1 [_, _, _] (.eq 1 (.a (.v 0) (.v 2)) (.v 1)) 1 (.v 0) (.v 1) rfl this

/- NmRa -/
/-- an open piece, as data -/
inductive FrP where
  | f1 (p : Tk) (ts : List PT)
  | f2 (p : Tk) (f ts : List PT)
noncomputable def stepZ (t : Tk) : List PT × List FrP → Option (List PT × List FrP)
  | (cur, st) => if code t = 2 ∨ code t = 3 ∨ code t = 4 then some ([], .f1 t cur :: st)
    else if code t = 5 then (match st with | .f1 p ts :: r => some ([], .f2 p cur ts :: r) | _ => none)
    else if code t = 11 then (match st with | .f1 p ts :: r => some (ts ++ [.one p cur], r) | .f2 p f ts :: r => some (ts ++ [.two p f cur], r) | [] => none)
    else some (cur ++ [.leaf t], st)
noncomputable def parseZ : List Tk → List PT × List FrP → Option (List PT × List FrP)
  | [], z => some z
  | t :: r, z => (stepZ t z).bind (parseZ r)
theorem parseZ_append : ∀ (a b : List Tk) (z : List PT × List FrP), parseZ (a ++ b) z = (parseZ a z).bind (parseZ b)
  | [], b, z => rfl
  | t :: r, b, z => by
    simp only [List.cons_append, parseZ]
    cases stepZ t z with
    | none => rfl
    | some z' => simp only [Option.bind_some, parseZ_append r b z']
mutual
/-- leaves are no frames; frames are -/
noncomputable def pc1 : PT → Prop
  | .leaf p => code p ≠ 2 ∧ code p ≠ 3 ∧ code p ≠ 4 ∧ code p ≠ 5 ∧ code p ≠ 11
  | .one p f => (code p = 2 ∨ code p = 3 ∨ code p = 4) ∧ pcP f
  | .two p f s => (code p = 2 ∨ code p = 3 ∨ code p = 4) ∧ pcP f ∧ pcP s
noncomputable def pcP : List PT → Prop
  | [] => True
  | x :: r => pc1 x ∧ pcP r
end
theorem pc1_q0 (p) : pc1 (.leaf p) = (code p ≠ 2 ∧ code p ≠ 3 ∧ code p ≠ 4 ∧ code p ≠ 5 ∧ code p ≠ 11) := rfl
theorem pc1_q1 (p) (f) : pc1 (.one p f) = ((code p = 2 ∨ code p = 3 ∨ code p = 4) ∧ pcP f) := rfl
theorem pc1_q2 (p) (f) (s) : pc1 (.two p f s) = ((code p = 2 ∨ code p = 3 ∨ code p = 4) ∧ pcP f ∧ pcP s) := rfl
mutual
theorem parse1 : ∀ (x : PT) (cur : List PT) (st : List FrP), pc1 x → parseZ (ptok1 x) (cur, st) = some (cur ++ [x], st)
  | .leaf p, cur, st, h => by
    obtain ⟨h2, h3, h4, h5, h11⟩ := h
    simp [ptok1_q0, ptok1_q1, ptok1_q2, parseZ, stepZ, h2, h3, h4, h5, h11]
  | .one p f, cur, st, h => by
    obtain ⟨h1, h2⟩ := h
    simp only [ptok1_q0, ptok1_q1, ptok1_q2, List.cons_append, parseZ, stepZ, if_pos h1, Option.bind_some]
    rw [parseZ_append, parseP f [] _ h2]
    simp only [Option.bind_some, parseZ, stepZ, List.nil_append]
    simp [code]
  | .two p f s, cur, st, h => by
    obtain ⟨h1, h2, h3⟩ := h
    simp only [ptok1_q0, ptok1_q1, ptok1_q2, List.cons_append, parseZ, stepZ, if_pos h1, Option.bind_some]
    rw [parseZ_append, parseZ_append, parseP f [] _ h2]
    simp only [Option.bind_some, parseZ, stepZ, List.nil_append]
    have e5 : code [5] = 5 := rfl
    rw [if_neg (by rw [e5]; decide), if_pos e5]
    simp only [Option.bind_some]
    rw [parseP s [] _ h3]
    simp only [Option.bind_some, List.nil_append]
    simp [code]
theorem parseP : ∀ (l : List PT) (cur : List PT) (st : List FrP), pcP l → parseZ (ptoks l) (cur, st) = some (cur ++ l, st)
  | [], cur, st, _ => by simp [ptoks_q0, ptoks_q1, parseZ]
  | x :: r, cur, st, h => by
    simp only [ptoks_q0, ptoks_q1]
    rw [parseZ_append, parse1 x cur st h.1]
    simp only [Option.bind_some]
    rw [parseP r _ st h.2, List.append_assoc]
    rfl
end
/-- an open piece in the heap -/
inductive Fr' where
  | f1 (x dx : Addr) (p : Tk) (a h : Addr) (ts : List HT)
  | f2 (x dx : Addr) (p : Tk) (a : Addr) (f : List HT) (a2 h : Addr) (ts : List HT)
noncomputable def Fr'.tup : Fr' → V
  | .f1 x _ _ _ h _ => .tup [.ref x, .ref h]
  | .f2 x _ _ _ _ _ h _ => .tup [.ref x, .ref h]
theorem Fr'.tup_q0 (x) (w1) (w2) (w3) (h) (w4) : Fr'.tup (.f1 x w1 w2 w3 h w4) = (.tup [.ref x, .ref h]) := rfl
theorem Fr'.tup_q1 (x) (w1) (w2) (w3) (w4) (w5) (h) (w6) : Fr'.tup (.f2 x w1 w2 w3 w4 w5 h w6) = (.tup [.ref x, .ref h]) := rfl
noncomputable def Fr'.er : Fr' → FrP
  | .f1 _ _ p _ _ ts => .f1 p (erL ts)
  | .f2 _ _ p _ f _ _ ts => .f2 p (erL f) (erL ts)
theorem Fr'.er_q0 (w1) (w2) (p) (w3) (w4) (ts) : Fr'.er (.f1 w1 w2 p w3 w4 ts) = (.f1 p (erL ts)) := rfl
theorem Fr'.er_q1 (w1) (w2) (p) (w3) (f) (w4) (w5) (ts) : Fr'.er (.f2 w1 w2 p w3 f w4 w5 ts) = (.f2 p (erL f) (erL ts)) := rfl
noncomputable def FrAt (H : AH) (root : Addr) : Addr → List Fr' → Prop
  | hr, [] => hr = root
  | hr, .f1 x dx p a h ts :: st => hr = a ∧ (H x = some (.inst dx (fsOf p (.ref a) .none)) ∧ TOk p) ∧ H h = some (.list (refs ts ++ [.ref x])) ∧ AtL H ts ∧ FrAt H root h st
  | hr, .f2 x dx p a f a2 h ts :: st => hr = a2 ∧ (H x = some (.inst dx (fsOf p (.ref a) (.ref a2))) ∧ TOk p) ∧ (H a = some (.list (refs f)) ∧ AtL H f) ∧ H h = some (.list (refs ts ++ [.ref x])) ∧ AtL H ts ∧ FrAt H root h st
noncomputable def fpS : List Fr' → List Addr
  | [] => []
  | .f1 x dx p a h ts :: st => x :: a :: (fpL ts ++ fpS st)
  | .f2 x dx p a f a2 h ts :: st => x :: a :: a2 :: (fpL f ++ (fpL ts ++ fpS st))
theorem fpS_q0 : fpS ([]) = ([]) := rfl
theorem fpS_q1 (x) (dx) (p) (a) (h) (ts) (st) : fpS (.f1 x dx p a h ts :: st) = (x :: a :: (fpL ts ++ fpS st)) := rfl
theorem fpS_q2 (x) (dx) (p) (a) (f) (a2) (h) (ts) (st) : fpS (.f2 x dx p a f a2 h ts :: st) = (x :: a :: a2 :: (fpL f ++ (fpL ts ++ fpS st))) := rfl
/-- where the current list stands -/
theorem FrAt.hr_mem {H : AH} {root hr : Addr} : ∀ {st : List Fr'}, FrAt H root hr st → hr = root ∨ hr ∈ fpS st
  | [], h => .inl h
  | .f1 x dx p a h ts :: st, k => .inr (by simp [fpS_q0, fpS_q1, fpS_q2, k.1])
  | .f2 x dx p a f a2 h ts :: st, k => .inr (by simp [fpS_q0, fpS_q1, fpS_q2, k.1])
theorem FrAt.frame {H H' : AH} {root : Addr} : ∀ {st : List Fr'} {hr : Addr}, FrAt H root hr st → (root :: fpS st).Nodup → (∀ c, (c = root ∨ c ∈ fpS st) → c ≠ hr → H' c = H c) → FrAt H' root hr st
  | [], hr, h, _, _ => h
  | .f1 x dx p a h ts :: st, hr, ⟨e, hx, hh, hts, hst⟩, nd, k => by
    subst e
    simp only [fpS_q0, fpS_q1, fpS_q2, List.nodup_cons, List.mem_cons, List.mem_append, not_or, List.nodup_append] at nd
    obtain ⟨⟨r1, r2, r3, r4⟩, ⟨x1, x2, x3⟩, ⟨a1, a2⟩, t1, s1, ts1⟩ := nd
    have hne : h ≠ hr := by
      rcases hst.hr_mem with e | e
      · rw [e]; exact r2
      · exact fun e2 => a2 (e2 ▸ e)
    refine ⟨rfl, ⟨(k x (.inr (by simp [fpS_q0, fpS_q1, fpS_q2])) x1).trans hx.1, hx.2⟩, (k h ?_ hne).trans hh, hts.frame fun c hc => k c (.inr (by simp [fpS_q0, fpS_q1, fpS_q2, hc])) (fun e => a1 (e ▸ hc)), hst.frame (List.nodup_cons.mpr ⟨r4, s1⟩) fun c hc hch => k c ?_ ?_⟩
    · rcases hst.hr_mem with e | e
      · exact .inl e
      · exact .inr (by simp [fpS_q0, fpS_q1, fpS_q2, e])
    · rcases hc with e | e
      · exact .inl e
      · exact .inr (by simp [fpS_q0, fpS_q1, fpS_q2, e])
    · rcases hc with e | e
      · rw [e]; exact r2
      · exact fun e2 => a2 (e2 ▸ e)
  | .f2 x dx p a f a2 h ts :: st, hr, ⟨e, hx, hf, hh, hts, hst⟩, nd, k => by
    subst e
    simp only [fpS_q0, fpS_q1, fpS_q2, List.nodup_cons, List.mem_cons, List.mem_append, not_or, List.nodup_append] at nd
    obtain ⟨⟨r1, r2, r3, r4, r5, r6⟩, ⟨x1, x2, x3, x4, x5⟩, ⟨a1, a2', a3, a4⟩, ⟨b1, b2, b3⟩, f1, ⟨t1, s1, ts1⟩, ft⟩ := nd
    have hne : h ≠ hr := by
      rcases hst.hr_mem with e | e
      · rw [e]; exact r3
      · exact fun e2 => b3 (e2 ▸ e)
    refine ⟨rfl, ⟨(k x (.inr (by simp [fpS_q0, fpS_q1, fpS_q2])) x2).trans hx.1, hx.2⟩, ⟨(k a (.inr (by simp [fpS_q0, fpS_q1, fpS_q2])) a1).trans hf.1, hf.2.frame fun c hc => k c (.inr (by simp [fpS_q0, fpS_q1, fpS_q2, hc])) (fun e => b1 (e ▸ hc))⟩, (k h ?_ hne).trans hh, hts.frame fun c hc => k c (.inr (by simp [fpS_q0, fpS_q1, fpS_q2, hc])) (fun e => b2 (e ▸ hc)), hst.frame (List.nodup_cons.mpr ⟨r6, s1⟩) fun c hc hch => k c ?_ ?_⟩
    · rcases hst.hr_mem with e | e
      · exact .inl e
      · exact .inr (by simp [fpS_q0, fpS_q1, fpS_q2, e])
    · rcases hc with e | e
      · exact .inl e
      · exact .inr (by simp [fpS_q0, fpS_q1, fpS_q2, e])
    · rcases hc with e | e
      · rw [e]; exact r3
      · exact fun e2 => b3 (e2 ▸ e)
/-- the state of the parse -/
structure ZI (H0 H' : AH) (root oa hr : Addr) (cur : List HT) (st : List Fr') : Prop where
  cl : H' hr = some (.list (refs cur))
  cat : AtL H' cur
  fr : FrAt H' root hr st
  ol : H' oa = some (.list (st.reverse.map Fr'.tup))
  nd : (oa :: root :: (fpL cur ++ fpS st)).Nodup
  fresh : ∀ c ∈ oa :: root :: (fpL cur ++ fpS st), H0 c = none
  out : ∀ c, H0 c ≠ none → H' c = H0 c
theorem FrAt.live {H : AH} {root : Addr} : ∀ {st : List Fr'} {hr : Addr}, FrAt H root hr st → H hr ≠ none → ∀ c, (c = root ∨ c ∈ fpS st) → H c ≠ none
  | [], hr, h, l, c, hc => by
    rcases hc with rfl | hc
    · rw [← show hr = c from h]; exact l
    · cases hc
  | .f1 x dx p a h ts :: st, hr, ⟨e, hx, hh, hts, hst⟩, l, c, hc => by
    subst e
    have lh : H h ≠ none := by rw [hh]; simp
    simp only [fpS_q0, fpS_q1, fpS_q2, List.mem_cons, List.mem_append] at hc
    rcases hc with hc | hc | hc | hc | hc
    · exact hst.live lh c (.inl hc)
    · rw [hc, hx.1]; simp
    · rw [hc]; exact l
    · exact hts.live c hc
    · exact hst.live lh c (.inr hc)
  | .f2 x dx p a f a2 h ts :: st, hr, ⟨e, hx, hf, hh, hts, hst⟩, l, c, hc => by
    subst e
    have lh : H h ≠ none := by rw [hh]; simp
    simp only [fpS_q0, fpS_q1, fpS_q2, List.mem_cons, List.mem_append] at hc
    rcases hc with hc | hc | hc | hc | hc | hc | hc
    · exact hst.live lh c (.inl hc)
    · rw [hc, hx.1]; simp
    · rw [hc, hf.1]; simp
    · rw [hc]; exact l
    · exact hf.2.live c hc
    · exact hts.live c hc
    · exact hst.live lh c (.inr hc)
theorem ZI.live {H0 H' : AH} {root oa hr : Addr} {cur : List HT} {st : List Fr'} (S : ZI H0 H' root oa hr cur st) : ∀ c ∈ oa :: root :: (fpL cur ++ fpS st), H' c ≠ none := by
  intro c hc
  have lh : H' hr ≠ none := by rw [S.cl]; simp
  simp only [List.mem_cons, List.mem_append] at hc
  rcases hc with rfl | rfl | hc | hc
  · rw [S.ol]; simp
  · exact S.fr.live lh c (.inl rfl)
  · exact S.cat.live c hc
  · exact S.fr.live lh c (.inr hc)
theorem ZI.hrs {H0 H' : AH} {root oa hr : Addr} {cur : List HT} {st : List Fr'} (S : ZI H0 H' root oa hr cur st) : hr ≠ oa ∧ hr ∉ fpL cur ∧ H0 hr = none := by
  have nd := S.nd
  simp only [List.nodup_cons, List.mem_cons, List.mem_append, not_or, List.nodup_append] at nd
  obtain ⟨⟨o1, o2, o3⟩, ⟨r1, r2⟩, c1, s1, cs⟩ := nd
  rcases S.fr.hr_mem with e | e
  · rw [e]
    exact ⟨Ne.symm o1, r1, S.fresh root (by simp)⟩
  · exact ⟨fun x => o3 (x ▸ e), fun x => cs hr x hr e rfl, S.fresh hr (by simp [e])⟩
theorem ZI.new0 {H0 H' : AH} {root oa hr : Addr} {cur : List HT} {st : List Fr'} (S : ZI H0 H' root oa hr cur st) {x : Addr} (hx : H' x = none) : H0 x = none ∧ x ∉ oa :: root :: (fpL cur ++ fpS st) := by
  refine ⟨Classical.byContradiction fun n => ?_, fun e => S.live x e hx⟩
  have := S.out x n
  rw [hx] at this
  exact n this.symm
/-- a leaf more -/
theorem ZI.leaf {H0 H' H1 : AH} {root oa hr x dx : Addr} {cur : List HT} {st : List Fr'} {p : Tk} (S : ZI H0 H' root oa hr cur st) (hk : ∀ c, H' c ≠ none → H1 c = H' c) (hx : H1 x = some (.inst dx (fsOf p .none .none))) (hxn : H' x = none) (op : TOk p) :
    ZI H0 (H1.set hr (.list (refs (cur ++ [.leaf x dx p])))) root oa hr (cur ++ [.leaf x dx p]) st := by
  obtain ⟨h1, h2, h3⟩ := S.hrs
  obtain ⟨n1, n2⟩ := S.new0 hxn
  simp only [List.mem_cons, List.mem_append, not_or] at n2
  have hxr : x ≠ hr := fun e => by rw [e, S.cl] at hxn; cases hxn
  have keep : ∀ c, c ∈ oa :: root :: (fpL cur ++ fpS st) → c ≠ hr → (H1.set hr (.list (refs (cur ++ [.leaf x dx p])))) c = H' c := fun c hc hne => by
    rw [AH.set_ne _ _ hne, hk c (S.live c hc)]
  have nd := S.nd
  have nd2 := nd
  simp only [List.nodup_cons, List.mem_cons, List.mem_append, not_or, List.nodup_append] at nd
  obtain ⟨⟨o1, o2, o3⟩, ⟨r1, r2⟩, c1, s1, cs⟩ := nd
  refine ⟨AH.set_self _ _ _, AtL_append.mpr ⟨S.cat.frame fun c hc => keep c (by simp [hc]) fun e => h2 (e ▸ hc), ⟨by rw [AH.set_ne _ _ hxr]; exact hx, op⟩, trivial⟩, S.fr.frame (List.nodup_cons.mpr ⟨r2, s1⟩) fun c hc hne => keep c (by rcases hc with e | e <;> simp [e]) hne, by rw [keep oa (by simp) h1.symm]; exact S.ol, ?_, ?_, ?_⟩
  · rw [fpL_append]
    simp only [fpL_q0, fpL_q1, fp1_q0, fp1_q1, fp1_q2, List.append_nil, List.nodup_cons, List.mem_cons, List.mem_append, not_or, List.nodup_append, List.mem_singleton, List.not_mem_nil, or_false, not_false_eq_true, and_true, true_and]
    refine ⟨⟨o1, ⟨o2, fun e => n2.1 e.symm⟩, o3⟩, ⟨⟨r1, fun e => n2.2.1 e.symm⟩, r2⟩, ⟨c1, by simp, fun c hc d hd e => ?_⟩, s1, fun c hc d hd e => ?_⟩
    · rw [hd] at e
      exact n2.2.2.1 (e ▸ hc)
    · subst e
      rcases hc with hc | hc
      · exact cs c hc c hd rfl
      · exact n2.2.2.2 (hc ▸ hd)
  · intro c hc
    rw [fpL_append] at hc
    simp only [fpL_q0, fpL_q1, fp1_q0, fp1_q1, fp1_q2, List.append_nil, List.mem_cons, List.mem_append, List.not_mem_nil, or_false] at hc
    rcases hc with hc | hc | (hc | hc) | hc
    · exact S.fresh c (by simp [hc])
    · exact S.fresh c (by simp [hc])
    · exact S.fresh c (by simp [hc])
    · rw [hc]; exact n1
    · exact S.fresh c (by simp [hc])
  · intro c hc
    have hne : c ≠ hr := fun e => hc (e ▸ h3)
    have e := S.out c hc
    rw [AH.set_ne _ _ hne, hk c (by rw [e]; exact hc), e]
/-- a piece is opened -/
theorem ZI.opn {H0 H' H1 : AH} {root oa hr x dx a : Addr} {cur : List HT} {st : List Fr'} {p : Tk} (S : ZI H0 H' root oa hr cur st) (hk : ∀ c, H' c ≠ none → H1 c = H' c) (hx : H1 x = some (.inst dx (fsOf p (.ref a) .none))) (hxn : H' x = none) (ha : H1 a = some (.list [])) (han : H' a = none) (op : TOk p) :
    ZI H0 ((H1.set hr (.list (refs cur ++ [.ref x]))).set oa (.list ((st.reverse.map Fr'.tup) ++ [.tup [.ref x, .ref hr]]))) root oa a [] (.f1 x dx p a hr cur :: st) := by
  obtain ⟨h1, h2, h3⟩ := S.hrs
  obtain ⟨n1, n2⟩ := S.new0 hxn
  obtain ⟨m1, m2⟩ := S.new0 han
  simp only [List.mem_cons, List.mem_append, not_or] at n2 m2
  have hxa : x ≠ a := fun e => by rw [e, ha] at hx; cases hx
  have hxr : x ≠ hr := fun e => by rw [e, S.cl] at hxn; cases hxn
  have har : a ≠ hr := fun e => by rw [e, S.cl] at han; cases han
  have keep : ∀ c, c ∈ oa :: root :: (fpL cur ++ fpS st) → c ≠ hr → c ≠ oa → ((H1.set hr (.list (refs cur ++ [.ref x]))).set oa (.list ((st.reverse.map Fr'.tup) ++ [.tup [.ref x, .ref hr]]))) c = H' c := fun c hc hne hne2 => by
    rw [AH.set_ne _ _ hne2, AH.set_ne _ _ hne, hk c (S.live c hc)]
  have nd := S.nd
  simp only [List.nodup_cons, List.mem_cons, List.mem_append, not_or, List.nodup_append] at nd
  obtain ⟨⟨o1, o2, o3⟩, ⟨r1, r2⟩, c1, s1, cs⟩ := nd
  refine ⟨?_, trivial, ⟨rfl, ⟨?_, op⟩, ?_, S.cat.frame fun c hc => keep c (by simp [hc]) (fun e => h2 (e ▸ hc)) (fun e => o2 (e ▸ hc)), S.fr.frame (List.nodup_cons.mpr ⟨r2, s1⟩) fun c hc hne => keep c (by rcases hc with e | e <;> simp [e]) hne ?_⟩, ?_, ?_, ?_, ?_⟩
  · rw [AH.set_ne _ _ m2.1, AH.set_ne _ _ har]; exact ha
  · rw [AH.set_ne _ _ n2.1, AH.set_ne _ _ hxr]; exact hx
  · rw [AH.set_ne _ _ h1]; exact AH.set_self _ _ _
  · rcases hc with e | e
    · rw [e]; exact Ne.symm o1
    · exact fun e2 => o3 (e2 ▸ e)
  · rw [AH.set_self]
    simp [Fr'.tup_q0, Fr'.tup_q1]
  · simp only [fpL_q0, fpL_q1, List.nil_append, fpS_q0, fpS_q1, fpS_q2, List.nodup_cons, List.mem_cons, List.mem_append, not_or, List.nodup_append]
    exact ⟨⟨o1, Ne.symm n2.1, Ne.symm m2.1, o2, o3⟩, ⟨Ne.symm n2.2.1, Ne.symm m2.2.1, r1, r2⟩, ⟨hxa, n2.2.2⟩, m2.2.2, c1, s1, cs⟩
  · intro c hc
    simp only [fpL_q0, fpL_q1, List.nil_append, fpS_q0, fpS_q1, fpS_q2, List.mem_cons, List.mem_append] at hc
    rcases hc with hc | hc | hc | hc | hc | hc
    · exact S.fresh c (by simp [hc])
    · exact S.fresh c (by simp [hc])
    · rw [hc]; exact n1
    · rw [hc]; exact m1
    · exact S.fresh c (by simp [hc])
    · exact S.fresh c (by simp [hc])
  · intro c hc
    have hne : c ≠ hr := fun e => hc (e ▸ h3)
    have hne2 : c ≠ oa := fun e => hc (e ▸ S.fresh oa (by simp))
    have e := S.out c hc
    rw [AH.set_ne _ _ hne2, AH.set_ne _ _ hne, hk c (by rw [e]; exact hc), e]
/-- the else of the top piece begins -/
theorem ZI.els {H0 H' H1 : AH} {root oa hr x dx a h a2 : Addr} {cur ts : List HT} {st : List Fr'} {p : Tk} (S : ZI H0 H' root oa hr cur (.f1 x dx p a h ts :: st)) (hk : ∀ c, H' c ≠ none → H1 c = H' c) (ha : H1 a2 = some (.list [])) (han : H' a2 = none) :
    ZI H0 (H1.set x (.inst dx (fsOf p (.ref a) (.ref a2)))) root oa a2 [] (.f2 x dx p a cur a2 h ts :: st) := by
  obtain ⟨m1, m2⟩ := S.new0 han
  have hfr := S.fr
  obtain ⟨e, hx, hh, hts, hst⟩ := hfr
  subst e
  have nd := S.nd
  simp only [fpS_q0, fpS_q1, fpS_q2, List.nodup_cons, List.mem_cons, List.mem_append, not_or, List.nodup_append] at nd m2
  obtain ⟨⟨o1, o2, ox, oh, ots, ost⟩, ⟨r1, rx, rh, rts, rst⟩, c1, ⟨⟨x1, xts, xst⟩, ⟨hts1, hst1⟩, t1, s1, tss⟩, cs⟩ := nd
  have cx : ∀ c ∈ fpL cur, c ≠ x := fun c hc => cs c hc x (.inl rfl)
  have hx2 : x ≠ a2 := fun e => m2.2.2.2.1 e.symm
  have hhx : h ≠ x := by
    rcases hst.hr_mem with e | e
    · rw [e]; exact rx
    · exact fun e2 => xst (e2 ▸ e)
  have keep : ∀ c, c ∈ oa :: root :: (fpL cur ++ fpS (.f1 x dx p hr h ts :: st)) → c ≠ x → (H1.set x (.inst dx (fsOf p (.ref hr) (.ref a2)))) c = H' c := fun c hc hne => by
    rw [AH.set_ne _ _ hne, hk c (S.live c hc)]
  have hmem : ∀ c, (c = root ∨ c ∈ fpS st) → c ≠ x := fun c hc e => by
    rcases hc with hc | hc
    · exact rx (hc ▸ e)
    · exact xst (e ▸ hc)
  have hin : ∀ c, (c = root ∨ c ∈ fpS st) → c ∈ oa :: root :: (fpL cur ++ fpS (.f1 x dx p hr h ts :: st)) := fun c hc => by
    rcases hc with hc | hc <;> simp [fpS_q0, fpS_q1, fpS_q2, hc]
  refine ⟨?_, trivial, ⟨rfl, ⟨AH.set_self _ _ _, hx.2⟩, ⟨?_, S.cat.frame fun c hc => keep c (by simp [hc]) (cx c hc)⟩, ?_, hts.frame fun c hc => keep c (by simp [fpS_q0, fpS_q1, fpS_q2, hc]) fun e => xts (e ▸ hc), hst.frame (List.nodup_cons.mpr ⟨rst, s1⟩) fun c hc _ => keep c (hin c hc) (hmem c hc)⟩, ?_, ?_, ?_, ?_⟩
  · rw [AH.set_ne _ _ (Ne.symm hx2)]; exact ha
  · rw [keep hr (by simp [fpS_q0, fpS_q1, fpS_q2]) (Ne.symm x1)]; exact S.cl
  · rw [keep h ?_ hhx]
    · exact hh
    · refine hin h ?_
      rcases hst.hr_mem with e | e
      · exact .inl e
      · exact .inr e
  · rw [keep oa (by simp) ox, S.ol]
    simp [Fr'.tup_q0, Fr'.tup_q1]
  · simp only [fpL_q0, fpL_q1, List.nil_append, fpS_q0, fpS_q1, fpS_q2, List.nodup_cons, List.mem_cons, List.mem_append, not_or, List.nodup_append]
    refine ⟨⟨o1, ox, oh, Ne.symm m2.1, o2, ots, ost⟩, ⟨rx, rh, Ne.symm m2.2.1, r1, rts, rst⟩, ⟨x1, hx2, fun e => cx x e rfl, xts, xst⟩, ⟨Ne.symm m2.2.2.2.2.1, fun e => cs hr e hr (.inr (.inl rfl)) rfl, hts1, hst1⟩, ⟨m2.2.2.1, m2.2.2.2.2.2.1, m2.2.2.2.2.2.2⟩, c1, ⟨t1, s1, tss⟩, fun c hc d hd e => ?_⟩
    rcases hd with hd | hd
    · exact cs c hc d (.inr (.inr (.inl hd))) e
    · exact cs c hc d (.inr (.inr (.inr hd))) e
  · intro c hc
    simp only [fpL_q0, fpL_q1, List.nil_append, fpS_q0, fpS_q1, fpS_q2, List.mem_cons, List.mem_append] at hc
    rcases hc with hc | hc | hc | hc | hc | hc | hc | hc
    · exact S.fresh c (by simp [hc])
    · exact S.fresh c (by simp [hc])
    · exact S.fresh c (by simp [fpS_q0, fpS_q1, fpS_q2, hc])
    · exact S.fresh c (by simp [fpS_q0, fpS_q1, fpS_q2, hc])
    · rw [hc]; exact m1
    · exact S.fresh c (by simp [hc])
    · exact S.fresh c (by simp [fpS_q0, fpS_q1, fpS_q2, hc])
    · exact S.fresh c (by simp [fpS_q0, fpS_q1, fpS_q2, hc])
  · intro c hc
    have hne : c ≠ x := fun e => hc (e ▸ S.fresh x (by simp [fpS_q0, fpS_q1, fpS_q2]))
    have e := S.out c hc
    rw [AH.set_ne _ _ hne, hk c (by rw [e]; exact hc), e]
/-- the top piece ends, without an else -/
theorem ZI.end1 {H0 H' : AH} {root oa hr x dx a h : Addr} {cur ts : List HT} {st : List Fr'} {p : Tk} (S : ZI H0 H' root oa hr cur (.f1 x dx p a h ts :: st)) :
    ZI H0 (H'.set oa (.list (st.reverse.map Fr'.tup))) root oa h (ts ++ [.one x dx p a cur]) st := by
  have hfr := S.fr
  obtain ⟨e, hx, hh, hts, hst⟩ := hfr
  subst e
  have nd := S.nd
  simp only [fpS_q0, fpS_q1, fpS_q2, List.nodup_cons, List.mem_cons, List.mem_append, not_or, List.nodup_append] at nd
  obtain ⟨⟨o1, o2, ox, oh, ots, ost⟩, ⟨r1, rx, rh, rts, rst⟩, c1, ⟨⟨x1, xts, xst⟩, ⟨hts1, hst1⟩, t1, s1, tss⟩, cs⟩ := nd
  have keep : ∀ c, c ≠ oa → (H'.set oa (.list (st.reverse.map Fr'.tup))) c = H' c := fun c hne => AH.set_ne _ _ hne
  have hho : h ≠ oa := by
    rcases hst.hr_mem with e | e
    · rw [e]; exact Ne.symm o1
    · exact fun e2 => ost (e2 ▸ e)
  refine ⟨?_, AtL_append.mpr ⟨hts.frame fun c hc => keep c fun e => ots (e ▸ hc), ⟨⟨(keep x (Ne.symm ox)).trans hx.1, hx.2⟩, (keep hr (Ne.symm oh)).trans S.cl, S.cat.frame fun c hc => keep c fun e => o2 (e ▸ hc)⟩, trivial⟩, hst.frame (List.nodup_cons.mpr ⟨rst, s1⟩) fun c hc _ => keep c ?_, AH.set_self _ _ _, ?_, ?_, ?_⟩
  · rw [keep h hho, hh, refs, refs, List.map_append]; rfl
  · rcases hc with hc | hc
    · rw [hc]; exact Ne.symm o1
    · exact fun e => ost (e ▸ hc)
  · rw [fpL_append]
    simp only [fpL_q0, fpL_q1, fp1_q0, fp1_q1, fp1_q2, List.append_nil, List.nodup_cons, List.mem_cons, List.mem_append, not_or, List.nodup_append]
    refine ⟨⟨o1, ⟨ots, ox, oh, o2⟩, ost⟩, ⟨⟨rts, rx, rh, r1⟩, rst⟩, ⟨t1, ⟨⟨x1, fun e => cs x e x (.inl rfl) rfl⟩, fun e => cs hr e hr (.inr (.inl rfl)) rfl, c1⟩, fun c hc d hd e => ?_⟩, s1, fun c hc d hd e => ?_⟩
    · subst e
      rcases hd with hd | hd | hd
      · exact xts (hd ▸ hc)
      · exact hts1 (hd ▸ hc)
      · exact cs c hd c (.inr (.inr (.inl hc))) rfl
    · subst e
      rcases hc with hc | hc | hc | hc
      · exact tss c hc c hd rfl
      · exact xst (hc ▸ hd)
      · exact hst1 (hc ▸ hd)
      · exact cs c hc c (.inr (.inr (.inr hd))) rfl
  · intro c hc
    rw [fpL_append] at hc
    simp only [fpL_q0, fpL_q1, fp1_q0, fp1_q1, fp1_q2, List.append_nil, List.mem_cons, List.mem_append] at hc
    refine S.fresh c ?_
    simp only [fpS_q0, fpS_q1, fpS_q2, List.mem_cons, List.mem_append]
    rcases hc with hc | hc | (hc | hc | hc | hc) | hc <;> simp [hc]
  · intro c hc
    rw [keep c (fun e => hc (e ▸ S.fresh oa (by simp)))]
    exact S.out c hc
/-- the same with one -/
theorem ZI.end2 {H0 H' : AH} {root oa hr x dx a a2 h : Addr} {cur ts f : List HT} {st : List Fr'} {p : Tk} (S : ZI H0 H' root oa hr cur (.f2 x dx p a f a2 h ts :: st)) :
    ZI H0 (H'.set oa (.list (st.reverse.map Fr'.tup))) root oa h (ts ++ [.two x dx p a f a2 cur]) st := by
  have hfr := S.fr
  obtain ⟨e, hx, hf, hh, hts, hst⟩ := hfr
  subst e
  have nd := S.nd
  simp only [fpS_q0, fpS_q1, fpS_q2, List.nodup_cons, List.mem_cons, List.mem_append, not_or, List.nodup_append] at nd
  obtain ⟨⟨o1, o2, ox, oa', oh, of', ots, ost⟩, ⟨r1, rx, ra, rh, rf, rts, rst⟩, c1, ⟨⟨x1, x2, xf, xts, xst⟩, ⟨ah, af, ats, ast⟩, ⟨hf1, hts1, hst1⟩, f1, ⟨t1, s1, tss⟩, ft⟩, cs⟩ := nd
  have keep : ∀ c, c ≠ oa → (H'.set oa (.list (st.reverse.map Fr'.tup))) c = H' c := fun c hne => AH.set_ne _ _ hne
  have hho : h ≠ oa := by
    rcases hst.hr_mem with e | e
    · rw [e]; exact Ne.symm o1
    · exact fun e2 => ost (e2 ▸ e)
  refine ⟨?_, AtL_append.mpr ⟨hts.frame fun c hc => keep c fun e => ots (e ▸ hc), ⟨⟨(keep x (Ne.symm ox)).trans hx.1, hx.2⟩, ⟨(keep a (Ne.symm oa')).trans hf.1, hf.2.frame fun c hc => keep c fun e => of' (e ▸ hc)⟩, (keep hr (Ne.symm oh)).trans S.cl, S.cat.frame fun c hc => keep c fun e => o2 (e ▸ hc)⟩, trivial⟩, hst.frame (List.nodup_cons.mpr ⟨rst, s1⟩) fun c hc _ => keep c ?_, AH.set_self _ _ _, ?_, ?_, ?_⟩
  · rw [keep h hho, hh, refs, refs, List.map_append]; rfl
  · rcases hc with hc | hc
    · rw [hc]; exact Ne.symm o1
    · exact fun e => ost (e ▸ hc)
  · rw [fpL_append]
    simp only [fpL_q0, fpL_q1, fp1_q0, fp1_q1, fp1_q2, List.append_nil, List.nodup_cons, List.mem_cons, List.mem_append, not_or, List.nodup_append]
    refine ⟨⟨o1, ⟨ots, ox, oa', oh, of', o2⟩, ost⟩, ⟨⟨rts, rx, ra, rh, rf, r1⟩, rst⟩, ⟨t1, ⟨⟨x1, x2, xf, fun e => cs x e x (.inl rfl) rfl⟩, ⟨ah, af, fun e => cs a e a (.inr (.inl rfl)) rfl⟩, ⟨hf1, fun e => cs hr e hr (.inr (.inr (.inl rfl))) rfl⟩, f1, c1, fun c hc d hd e => ?_⟩, fun c hc d hd e => ?_⟩, s1, fun c hc d hd e => ?_⟩
    · subst e
      exact cs c hd c (.inr (.inr (.inr (.inl hc)))) rfl
    · subst e
      rcases hd with hd | hd | hd | hd | hd
      · exact xts (hd ▸ hc)
      · exact ats (hd ▸ hc)
      · exact hts1 (hd ▸ hc)
      · exact ft c hd c (.inl hc) rfl
      · exact cs c hd c (.inr (.inr (.inr (.inr (.inl hc))))) rfl
    · subst e
      rcases hc with hc | hc | hc | hc | hc | hc
      · exact tss c hc c hd rfl
      · exact xst (hc ▸ hd)
      · exact ast (hc ▸ hd)
      · exact hst1 (hc ▸ hd)
      · exact ft c hc c (.inr hd) rfl
      · exact cs c hc c (.inr (.inr (.inr (.inr (.inr hd))))) rfl
  · intro c hc
    rw [fpL_append] at hc
    simp only [fpL_q0, fpL_q1, fp1_q0, fp1_q1, fp1_q2, List.append_nil, List.mem_cons, List.mem_append] at hc
    refine S.fresh c ?_
    simp only [fpS_q0, fpS_q1, fpS_q2, List.mem_cons, List.mem_append]
    rcases hc with hc | hc | (hc | hc | hc | hc | hc | hc) | hc <;> simp [hc]
  · intro c hc
    rw [keep c (fun e => hc (e ▸ S.fresh oa (by simp)))]
    exact S.out c hc

/- NmLa -/
mutual
theorem cut1_idem : ∀ x : PT, cutP (cut1 x) = cut1 x
  | .leaf p => by
    simp only [cut1_q0, cut1_q1, cut1_q2]
    by_cases h : code p ≠ 1
    · simp [h, cutP_q0, cutP_q1, cut1_q0, cut1_q1, cut1_q2]
    · simp [h, cutP_q0, cutP_q1]
  | .one p f => by
    have hf := cutP_idem f
    simp only [cut1_q0, cut1_q1, cut1_q2]
    by_cases h1 : code p = 4 ∧ cutP f = []
    · rw [if_pos h1]
      rfl
    · rw [if_neg h1]
      by_cases h2 : code p ≠ 1 ∧ cutP f ≠ []
      · rw [if_pos h2]
        simp only [cutP_q0, cutP_q1, cut1_q0, cut1_q1, cut1_q2, hf, if_neg h1, if_pos h2, List.append_nil]
      · rw [if_neg h2]
        rfl
  | .two p f s => by
    have hf := cutP_idem f
    have hs := cutP_idem s
    simp only [cut1_q0, cut1_q1, cut1_q2]
    by_cases h0 : cutP s = []
    · rw [if_pos h0]
      by_cases h1 : code p = 4 ∧ cutP f = []
      · rw [if_pos h1]
        rfl
      · rw [if_neg h1]
        by_cases h2 : code p ≠ 1 ∧ cutP f ≠ []
        · rw [if_pos h2]
          simp only [cutP_q0, cutP_q1, cut1_q0, cut1_q1, cut1_q2, hf, if_neg h1, if_pos h2, List.append_nil]
        · rw [if_neg h2]
          rfl
    · rw [if_neg h0]
      by_cases h1 : code p = 4 ∧ cutP f = []
      · rw [if_pos h1]
        have h3 : ¬ (code p = 4 ∧ cutP s = []) := fun e => h0 e.2
        have h4 : code p ≠ 1 ∧ cutP s ≠ [] := ⟨by lia, h0⟩
        have h5 : code [69] ≠ 1 := by decide
        simp only [cutP_q0, cutP_q1, cut1_q0, cut1_q1, cut1_q2, hs, if_neg h3, if_pos h4, if_pos h5, List.append_nil, List.singleton_append]
      · rw [if_neg h1]
        by_cases h2 : code p ≠ 1 ∧ cutP f ≠ []
        · rw [if_pos h2]
          simp only [cutP_q0, cutP_q1, cut1_q0, cut1_q1, cut1_q2, hf, hs, if_neg h0, if_neg h1, if_pos h2, List.append_nil]
        · rw [if_neg h2]
          rfl
theorem cutP_idem : ∀ l : List PT, cutP (cutP l) = cutP l
  | [] => rfl
  | x :: r => by simp only [cutP_q0, cutP_q1, cutP_append, cut1_idem x, cutP_idem r]
end

/- NmLb -/
mutual
/-- the flat body after the rewriting -/
noncomputable def nf1 : PT → List Tk
  | .leaf p => if p = [1] then [] else [p]
  | .one p f => if nfP f = [] then (if code p = 4 then [[26]] else []) else p :: nfP f ++ [[11]]
  | .two p f s => if nfP s = [] then (if nfP f = [] then (if code p = 4 then [[26]] else []) else p :: nfP f ++ [[11]]) else p :: nfP f ++ ([5] :: nfP s) ++ [[11]]
noncomputable def nfP : List PT → List Tk
  | [] => []
  | x :: r => nf1 x ++ nfP r
end
theorem nfP_q0 : nfP ([]) = ([]) := rfl
theorem nfP_q1 (x) (r) : nfP (x :: r) = (nf1 x ++ nfP r) := rfl
theorem nf1_q0 (p) : nf1 (.leaf p) = (if p = [1] then [] else [p]) := rfl
theorem nf1_q1 (p) (f) : nf1 (.one p f) = (if nfP f = [] then (if code p = 4 then [[26]] else []) else p :: nfP f ++ [[11]]) := rfl
theorem nf1_q2 (p) (f) (s) : nf1 (.two p f s) = (if nfP s = [] then (if nfP f = [] then (if code p = 4 then [[26]] else []) else p :: nfP f ++ [[11]]) else p :: nfP f ++ ([5] :: nfP s) ++ [[11]]) := rfl
mutual
/-- leaves of code 1 are [1]; a two's code is 4 -/
noncomputable def nc1 : PT → Prop
  | .leaf p => code p = 1 → p = [1]
  | .one _ f => ncP f
  | .two p f s => code p = 4 ∧ ncP f ∧ ncP s
noncomputable def ncP : List PT → Prop
  | [] => True
  | x :: r => nc1 x ∧ ncP r
end
noncomputable abbrev noNop (l : List Tk) : List Tk := l.filter fun t => t ≠ [1]
/-- a token that no end behind it rewrites -/
noncomputable def Shut (t : Tk) : Prop := ¬ (2 ≤ code t ∧ code t ≤ 5)
theorem shut26 : Shut [26] := fun x => absurd x.2 (by decide)
theorem shut11 : Shut [11] := fun x => absurd x.2 (by decide)
mutual
theorem nf1_last : ∀ x : PT, pc1 x → ∀ t, (nf1 x).getLast? = some t → Shut t
  | .leaf p, h, t, e => by
    simp only [nf1_q0, nf1_q1, nf1_q2] at e
    split at e
    · cases e
    · simp only [List.getLast?_singleton, Option.some.injEq] at e
      subst e
      obtain ⟨h2, h3, h4, h5, _⟩ := h
      exact fun x => by lia
  | .one p f, h, t, e => by
    simp only [nf1_q0, nf1_q1, nf1_q2] at e
    split at e
    · split at e
      · simp only [List.getLast?_singleton, Option.some.injEq] at e
        subst e
        exact shut26
      · cases e
    · rw [List.getLast?_concat] at e
      cases e
      exact shut11
  | .two p f s, h, t, e => by
    simp only [nf1_q0, nf1_q1, nf1_q2] at e
    split at e
    · split at e
      · split at e
        · simp only [List.getLast?_singleton, Option.some.injEq] at e
          subst e
          exact shut26
        · cases e
      · rw [List.getLast?_concat] at e
        cases e
        exact shut11
    · rw [List.getLast?_concat] at e
      cases e
      exact shut11
theorem nfP_last : ∀ l : List PT, pcP l → ∀ t, (nfP l).getLast? = some t → Shut t
  | [], _, t, e => by simp [nfP_q0, nfP_q1] at e
  | x :: r, h, t, e => by
    simp only [nfP_q0, nfP_q1, List.getLast?_append] at e
    cases e2 : (nfP r).getLast? with
    | some u =>
      rw [e2] at e
      simp only [Option.some_or, Option.some.injEq] at e
      subst e
      exact nfP_last r h.2 u e2
    | none =>
      rw [e2] at e
      simp only [Option.none_or] at e
      exact nf1_last x h.1 t e
end

/- NmLc -/
theorem push_shut {t : Tk} (h : Shut t) (S : List Tk) : pushR (t :: S) [11] = [11] :: t :: S := by
  unfold Shut at h
  have e : code [11] = 11 := rfl
  simp only [pushR_q0, pushR_q1, e, if_true]
  rw [if_neg (by lia), if_neg (by lia), if_neg (by lia)]
theorem push_rev {l : List Tk} (h : ∀ t, l.getLast? = some t → Shut t) (hl : l ≠ []) (S : List Tk) : pushR (l.reverse ++ S) [11] = [11] :: (l.reverse ++ S) := by
  obtain ⟨t, ht⟩ : ∃ t, l.getLast? = some t := by
    cases e : l.getLast? with
    | none => exact absurd (List.getLast?_eq_none_iff.mp e) hl
    | some t => exact ⟨t, rfl⟩
  obtain ⟨ys, rfl⟩ := List.getLast?_eq_some_iff.mp ht
  simp only [List.reverse_append, List.reverse_cons, List.reverse_nil, List.nil_append, List.singleton_append, List.cons_append]
  exact push_shut (h t ht) _
theorem push_open {p : Tk} (h : code p = 2 ∨ code p = 3 ∨ code p = 4) (S : List Tk) : pushR (p :: S) [11] = (if code p = 4 then [[26]] else []).reverse ++ S := by
  have e : code [11] = 11 := rfl
  simp only [pushR_q0, pushR_q1, e, if_true]
  by_cases h4 : code p = 4
  · rw [if_neg (by lia), if_pos h4, if_pos h4]; rfl
  · rw [if_pos (by lia), if_neg h4]; rfl
theorem push_else (S : List Tk) : pushR ([5] :: S) [11] = pushR S [11] := by
  have e : code [11] = 11 := rfl
  have e5 : code [5] = 5 := rfl
  simp only [pushR_q0, pushR_q1, e, e5, if_true]
  rfl
mutual
theorem nf1_push : ∀ x : PT, pc1 x → nc1 x → ∀ S, (noNop (ptok1 x)).foldl pushR S = (nf1 x).reverse ++ S
  | .leaf p, h, hn, S => by
    simp only [ptok1_q0, ptok1_q1, ptok1_q2, nf1_q0, nf1_q1, nf1_q2]
    by_cases e : p = [1]
    · subst e; rfl
    · have : noNop [p] = [p] := by simp [noNop, e]
      rw [this, if_neg e]
      simp only [List.foldl_cons, List.foldl_nil]
      rw [pushR_ne h.2.2.2.2]
      rfl
  | .one p f, h, hn, S => by
    have hp1 : p ≠ [1] := fun e => by have := h.1; rw [e] at this; revert this; decide
    have hp11 : code p ≠ 11 := by have := h.1; lia
    have e : noNop (ptok1 (.one p f)) = p :: noNop (ptoks f) ++ [[11]] := by simp [ptok1_q0, ptok1_q1, ptok1_q2, noNop, hp1]
    rw [e]
    simp only [List.cons_append, List.foldl_cons, List.foldl_append, List.foldl_nil]
    rw [pushR_ne hp11, nfP_push f h.2 hn]
    simp only [nf1_q0, nf1_q1, nf1_q2]
    by_cases hF : nfP f = []
    · rw [if_pos hF, hF]
      exact push_open h.1 S
    · rw [if_neg hF, push_rev (nfP_last f h.2) hF]
      simp
  | .two p f s, h, hn, S => by
    have hp1 : p ≠ [1] := fun e => by have := h.1; rw [e] at this; revert this; decide
    have hp11 : code p ≠ 11 := by have := h.1; lia
    have e : noNop (ptok1 (.two p f s)) = p :: noNop (ptoks f) ++ ([5] :: noNop (ptoks s)) ++ [[11]] := by simp [ptok1_q0, ptok1_q1, ptok1_q2, noNop, hp1]
    rw [e]
    simp only [List.cons_append, List.foldl_cons, List.foldl_append, List.foldl_nil, List.append_assoc]
    rw [pushR_ne hp11, nfP_push f h.2.1 hn.2.1, pushR_ne (by decide : code [5] ≠ 11), nfP_push s h.2.2 hn.2.2]
    simp only [nf1_q0, nf1_q1, nf1_q2]
    by_cases hs : nfP s = []
    · rw [if_pos hs, hs]
      simp only [List.reverse_nil, List.nil_append]
      rw [push_else]
      by_cases hF : nfP f = []
      · rw [if_pos hF, hF]
        exact push_open h.1 S
      · rw [if_neg hF, push_rev (nfP_last f h.2.1) hF]
        simp
    · rw [if_neg hs, push_rev (nfP_last s h.2.2) hs]
      simp
theorem nfP_push : ∀ l : List PT, pcP l → ncP l → ∀ S, (noNop (ptoks l)).foldl pushR S = (nfP l).reverse ++ S
  | [], _, _, S => rfl
  | x :: r, h, hn, S => by
    have e : noNop (ptoks (x :: r)) = noNop (ptok1 x) ++ noNop (ptoks r) := by simp [ptoks_q0, ptoks_q1, noNop]
    rw [e, List.foldl_append, nf1_push x h.1 hn.1, nfP_push r h.2 hn.2]
    simp [nfP_q0, nfP_q1]
end

/- NmLd -/
noncomputable def finR (prev : Int) : List Tk → List Tk
  | [] => []
  | p :: r => (if code p = 4 ∧ code (r.headD []) = 5 then [[69]] else []) ++ (if code p ≠ 5 ∨ prev ≠ 4 then [p] else []) ++ finR (code p) r
theorem finR_q0 (prev : Int) : finR prev ([]) = ([]) := rfl
theorem finR_q1 (prev : Int) (p) (r) : finR prev (p :: r) = ((if code p = 4 ∧ code (r.headD []) = 5 then [[69]] else []) ++ (if code p ≠ 5 ∨ prev ≠ 4 then [p] else []) ++ finR (code p) r) := rfl
/-- the code before a place -/
noncomputable def prevC (F X : List Tk) : Int := code ((idx F ((X.length : Int) - 1)).getD [])
theorem prevC_snoc (X Y : List Tk) (p : Tk) : prevC (X ++ p :: Y) (X ++ [p]) = code p := by
  unfold prevC idx
  rw [if_pos (by rw [List.length_append, List.length_singleton]; lia)]
  have : (((X ++ [p]).length : Int) - 1).toNat = X.length := by rw [List.length_append, List.length_singleton]; lia
  rw [this]
  simp
theorem fin_go (F : List Tk) : ∀ (Y X : List Tk), F = X ++ Y → ((Y.zipIdx X.length).flatMap fun (p, i) => finAt F p i) = finR (prevC F X) Y
  | [], X, _ => rfl
  | p :: r, X, h => by
    have h2 : F = (X ++ [p]) ++ r := by rw [h]; simp
    have ih := fin_go F r (X ++ [p]) h2
    have hl : (X ++ [p]).length = X.length + 1 := by simp
    rw [hl] at ih
    rw [List.zipIdx_cons, List.flatMap_cons, ih]
    have e1 : F.getD (X.length + 1) [] = r.headD [] := by
      rw [h2, List.getD_eq_getElem?_getD, List.getElem?_append_right (by rw [hl]; exact Nat.le_refl _), hl]
      cases r <;> simp
    have e2 : prevC F (X ++ [p]) = code p := by rw [h]; exact prevC_snoc X r p
    rw [e2]
    simp only [finR_q0, finR_q1, finAt, e1, prevC]
    try rfl
theorem finF_R (F : List Tk) : finF F = finR (prevC F []) F := fin_go F F [] rfl

/- NmLe -/
noncomputable def lastC (prev : Int) (l : List Tk) : Int := match l.getLast? with
  | none => prev
  | some t => code t
theorem lastC_nil (prev : Int) : lastC prev [] = prev := rfl
theorem lastC_snoc (prev : Int) (l : List Tk) (t : Tk) : lastC prev (l ++ [t]) = code t := by simp [lastC]
theorem lastC_append (prev : Int) (a b : List Tk) : lastC prev (a ++ b) = lastC (lastC prev a) b := by
  unfold lastC
  rw [List.getLast?_append]
  cases b.getLast? <;> simp
/-- the head is no else -/
theorem finR_plain {prev : Int} {p : Tk} {r : List Tk} (h4 : ¬ (code p = 4 ∧ code (r.headD []) = 5)) (h5 : code p ≠ 5) : finR prev (p :: r) = p :: finR (code p) r := by
  rw [finR, if_neg h4, if_pos (.inl h5)]
  rfl
mutual
theorem nf1_head : ∀ x : PT, pc1 x → code ((nf1 x).headD [1]) ≠ 5
  | .leaf p, h => by
    simp only [nf1_q0, nf1_q1, nf1_q2]
    split
    · decide
    · exact h.2.2.2.1
  | .one p f, h => by
    simp only [nf1_q0, nf1_q1, nf1_q2]
    split
    · split <;> decide
    · simp only [List.cons_append, List.headD_cons]; have := h.1; lia
  | .two p f s, h => by
    simp only [nf1_q0, nf1_q1, nf1_q2]
    split
    · split
      · split <;> decide
      · simp only [List.cons_append, List.headD_cons]; have := h.1; lia
    · simp only [List.cons_append, List.headD_cons]; have := h.1; lia
theorem nfP_head : ∀ l : List PT, pcP l → code ((nfP l).headD [1]) ≠ 5
  | [], _ => by decide
  | x :: r, h => by
    have h1 := nf1_head x h.1
    have h2 := nfP_head r h.2
    simp only [nfP_q0, nfP_q1]
    cases e : nf1 x with
    | nil => simpa using h2
    | cons a b => rw [e] at h1; simpa using h1
end
theorem lastC_shut {l : List Tk} (h : ∀ t, l.getLast? = some t → Shut t) {prev : Int} (hl : l ≠ []) : lastC prev l ≠ 4 := by
  unfold lastC
  cases e : l.getLast? with
  | none => exact absurd (List.getLast?_eq_none_iff.mp e) hl
  | some t => exact fun x => h t e ⟨by simp at x; lia, by simp at x; lia⟩
theorem head_app {l : List Tk} (h : code (l.headD [1]) ≠ 5) (r : List Tk) (hr : code ((r).headD [1]) ≠ 5) : code ((l ++ r).headD []) ≠ 5 := by
  cases l with
  | nil =>
    cases r with
    | nil => decide
    | cons a b => exact hr
  | cons a b => exact h
mutual
theorem nf1_nil : ∀ x : PT, pc1 x → nc1 x → (nf1 x = [] ↔ cut1 x = [])
  | .leaf p, h, hn => by
    simp only [nf1_q0, nf1_q1, nf1_q2, cut1_q0, cut1_q1, cut1_q2]
    by_cases e : p = [1]
    · subst e; simp [code]
    · have : code p ≠ 1 := fun x => e (hn x)
      simp [e, this]
  | .one p f, h, hn => by
    have hf := nfP_nil f h.2 hn
    have h1 : code p ≠ 1 := by have := h.1; lia
    simp only [nf1_q0, nf1_q1, nf1_q2, cut1_q0, cut1_q1, cut1_q2, hf]
    by_cases e : cutP f = []
    · by_cases e4 : code p = 4 <;> simp [e, e4, h1]
    · simp [e, h1]
  | .two p f s, h, hn => by
    have hf := nfP_nil f h.2.1 hn.2.1
    have hs := nfP_nil s h.2.2 hn.2.2
    have h1 : code p ≠ 1 := by have := h.1; lia
    have h4 := hn.1
    simp only [nf1_q0, nf1_q1, nf1_q2, cut1_q0, cut1_q1, cut1_q2, hf, hs]
    by_cases e2 : cutP s = []
    · by_cases e : cutP f = []
      · simp [e, e2, h4]
      · simp [e, e2, h1]
    · by_cases e : cutP f = []
      · simp [e, e2, h4]
      · simp [e, e2, h1]
theorem nfP_nil : ∀ l : List PT, pcP l → ncP l → (nfP l = [] ↔ cutP l = [])
  | [], _, _ => by simp [nfP_q0, nfP_q1, cutP_q0, cutP_q1]
  | x :: r, h, hn => by
    simp only [nfP_q0, nfP_q1, cutP_q0, cutP_q1, List.append_eq_nil_iff, nf1_nil x h.1 hn.1, nfP_nil r h.2 hn.2]
end
mutual
theorem fin1 : ∀ (x : PT), pc1 x → nc1 x → ∀ prev Y, finR prev (nf1 x ++ Y) = ptoks (cut1 x) ++ finR (lastC prev (nf1 x)) Y
  | .leaf p, h, hn, prev, Y => by
    simp only [nf1_q0, nf1_q1, nf1_q2, cut1_q0, cut1_q1, cut1_q2]
    by_cases e : p = [1]
    · subst e
      rfl
    · have h1 : code p ≠ 1 := fun x => e (hn x)
      rw [if_neg e, if_pos h1]
      simp only [List.cons_append, List.nil_append, ptoks_q0, ptoks_q1, ptok1_q0, ptok1_q1, ptok1_q2, List.append_nil]
      rw [finR_plain (fun x => h.2.2.1 x.1) h.2.2.2.1]
      rfl
  | .one p f, h, hn, prev, Y => by
    have hnil := nfP_nil f h.2 hn
    have h1 : code p ≠ 1 := by have := h.1; lia
    have h5 : code p ≠ 5 := by have := h.1; lia
    simp only [nf1_q0, nf1_q1, nf1_q2, cut1_q0, cut1_q1, cut1_q2]
    by_cases e : nfP f = []
    · have e' := hnil.mp e
      rw [if_pos e]
      by_cases h4 : code p = 4
      · rw [if_pos h4, if_pos ⟨h4, e'⟩]
        simp only [List.cons_append, List.nil_append, ptoks_q0, ptoks_q1, ptok1_q0, ptok1_q1, ptok1_q2, List.append_nil]
        rw [finR_plain (fun x => absurd x.1 (by decide)) (by decide)]
        rfl
      · rw [if_neg h4, if_neg (fun x => h4 x.1), if_neg (fun x => x.2 e')]
        rfl
    · have e' : cutP f ≠ [] := fun x => e (hnil.mpr x)
      rw [if_neg e, if_neg (fun x => e' x.2), if_pos ⟨h1, e'⟩]
      simp only [List.cons_append, List.append_assoc, ptoks_q0, ptoks_q1, ptok1_q0, ptok1_q1, ptok1_q2, List.append_nil]
      rw [finR_plain (fun x => head_app (nfP_head f h.2) _ (by simp [code]) x.2) h5, finP f h.2 hn]
      rw [finR_plain (fun x => absurd x.1 (by decide)) (by decide)]
      have : p :: (nfP f ++ [[11]]) = (p :: nfP f) ++ [[11]] := rfl
      rw [this, lastC_snoc]
      rfl
  | .two p f s, h, hn, prev, Y => by
    have hnf := nfP_nil f h.2.1 hn.2.1
    have hns := nfP_nil s h.2.2 hn.2.2
    have h4 := hn.1
    have h1 : code p ≠ 1 := by lia
    have h5 : code p ≠ 5 := by lia
    simp only [nf1_q0, nf1_q1, nf1_q2, cut1_q0, cut1_q1, cut1_q2]
    by_cases e : nfP s = []
    · have e' := hns.mp e
      rw [if_pos e, if_pos e']
      by_cases ef : nfP f = []
      · have ef' := hnf.mp ef
        rw [if_pos ef, if_pos h4, if_pos ⟨h4, ef'⟩]
        simp only [List.cons_append, List.nil_append, ptoks_q0, ptoks_q1, ptok1_q0, ptok1_q1, ptok1_q2, List.append_nil]
        rw [finR_plain (fun x => absurd x.1 (by decide)) (by decide)]
        rfl
      · have ef' : cutP f ≠ [] := fun x => ef (hnf.mpr x)
        rw [if_neg ef, if_neg (fun x => ef' x.2), if_pos ⟨h1, ef'⟩]
        simp only [List.cons_append, List.append_assoc, ptoks_q0, ptoks_q1, ptok1_q0, ptok1_q1, ptok1_q2, List.append_nil]
        rw [finR_plain (fun x => head_app (nfP_head f h.2.1) _ (by simp [code]) x.2) h5, finP f h.2.1 hn.2.1]
        rw [finR_plain (fun x => absurd x.1 (by decide)) (by decide)]
        have : p :: (nfP f ++ [[11]]) = (p :: nfP f) ++ [[11]] := rfl
        rw [this, lastC_snoc]
        rfl
    · have e' : cutP s ≠ [] := fun x => e (hns.mpr x)
      rw [if_neg e, if_neg e']
      have hlast : ∀ prev, lastC prev (p :: (nfP f ++ ([5] :: (nfP s ++ [[11]])))) = 11 := fun prev => by
        have : p :: (nfP f ++ ([5] :: (nfP s ++ [[11]]))) = (p :: (nfP f ++ ([5] :: nfP s))) ++ [[11]] := by simp
        rw [this, lastC_snoc]
        rfl
      have hend : ∀ q, finR q (nfP s ++ ([11] :: Y)) = ptoks (cutP s) ++ ([11] :: finR 11 Y) := fun q => by
        rw [finP s h.2.2 hn.2.2, finR_plain (fun x => absurd x.1 (by decide)) (by decide)]
        rfl
      by_cases ef : nfP f = []
      · have ef' := hnf.mp ef
        rw [if_pos ⟨h4, ef'⟩]
        have hl := hlast prev
        simp only [List.cons_append, List.append_assoc, List.nil_append] at hl ⊢
        rw [hl]
        rw [ef]
        simp only [List.nil_append, ptoks_q0, ptoks_q1, ptok1_q0, ptok1_q1, ptok1_q2, List.append_nil, List.cons_append, List.append_assoc]
        rw [finR, if_pos ⟨h4, rfl⟩, if_pos (.inl h5), finR, if_neg (fun x => absurd x.1 (by decide)), if_neg (fun x => by rcases x with x | x; exact x rfl; exact x h4)]
        simp only [List.nil_append, List.singleton_append, List.cons_append]
        rw [hend]
      · have ef' : cutP f ≠ [] := fun x => ef (hnf.mpr x)
        rw [if_neg (fun x => ef' x.2), if_pos ⟨h1, ef'⟩]
        have hl := hlast prev
        simp only [List.cons_append, List.append_assoc, List.nil_append, ptoks_q0, ptoks_q1, ptok1_q0, ptok1_q1, ptok1_q2, List.append_nil] at hl ⊢
        rw [hl]
        have hfh : code ((nfP f ++ ([5] :: (nfP s ++ ([11] :: Y)))).headD []) ≠ 5 := by
          have := nfP_head f h.2.1
          cases hq : nfP f with
          | nil => exact absurd hq ef
          | cons a b => rw [hq] at this; exact this
        rw [finR_plain (fun x => hfh x.2) h5, finP f h.2.1 hn.2.1]
        rw [finR, if_neg (fun x => absurd x.1 (by decide)), if_pos (.inr (lastC_shut (nfP_last f h.2.1) ef))]
        simp only [List.nil_append, List.singleton_append, List.cons_append]
        rw [hend]
theorem finP : ∀ (l : List PT), pcP l → ncP l → ∀ prev Y, finR prev (nfP l ++ Y) = ptoks (cutP l) ++ finR (lastC prev (nfP l)) Y
  | [], _, _, prev, Y => rfl
  | x :: r, h, hn, prev, Y => by
    simp only [nfP_q0, nfP_q1, cutP_q0, cutP_q1, ptoks_app, List.append_assoc]
    rw [fin1 x h.1 hn.1, finP r h.2 hn.2, lastC_append]
end

/- NmLf -/
theorem push_all {ps : List PT} (h : pcP ps) (hn : ncP ps) : (((ptoks ps ++ [[11]]).dropLast.filter fun t => t ≠ [1]).foldl pushR []).reverse = nfP ps := by
  rw [List.dropLast_concat]
  have := nfP_push ps h hn []
  rw [List.append_nil] at this
  rw [this, List.reverse_reverse]
theorem emptF_law {ps : List PT} (h : pcP ps) (hn : ncP ps) : emptF (ptoks ps ++ [[11]]) = ptoks (cutP ps) ++ [[11]] := by
  unfold emptF
  rw [push_all h hn, finF_R]
  have := finP ps h hn (prevC (nfP ps) []) []
  rw [List.append_nil] at this
  rw [this]
  simp [finR_q0, finR_q1]
theorem emptF_hyp {ps : List PT} (h : pcP ps) (hn : ncP ps) : ∀ i p, ((((ptoks ps ++ [[11]]).dropLast.filter fun t => t ≠ [1]).foldl pushR []).reverse)[i]? = some p → code p = 4 → i + 1 < ((((ptoks ps ++ [[11]]).dropLast.filter fun t => t ≠ [1]).foldl pushR []).reverse).length := by
  intro i p
  rw [push_all h hn]
  intro h1 h2
  have hl : i < (nfP ps).length := (List.getElem?_eq_some_iff.mp h1).1
  refine Nat.lt_of_le_of_ne hl fun e => ?_
  have : (nfP ps).getLast? = some p := by
    rw [List.getLast?_eq_getElem?, ← e]
    exact h1
  exact nfP_last ps h p this ⟨by lia, by lia⟩
mutual
theorem cut1_pc : ∀ x : PT, pc1 x → pcP (cut1 x)
  | .leaf p, h => by
    simp only [cut1_q0, cut1_q1, cut1_q2]
    split
    · exact ⟨h, trivial⟩
    · trivial
  | .one p f, h => by
    have hf := cutP_pc f h.2
    simp only [cut1_q0, cut1_q1, cut1_q2]
    split
    · exact ⟨by simp [pc1_q0, pc1_q1, pc1_q2, code], trivial⟩
    · split
      · exact ⟨⟨h.1, hf⟩, trivial⟩
      · trivial
  | .two p f s, h => by
    have hf := cutP_pc f h.2.1
    have hs := cutP_pc s h.2.2
    simp only [cut1_q0, cut1_q1, cut1_q2]
    split
    · split
      · exact ⟨by simp [pc1_q0, pc1_q1, pc1_q2, code], trivial⟩
      · split
        · exact ⟨⟨h.1, hf⟩, trivial⟩
        · trivial
    · split
      · exact ⟨by simp [pc1_q0, pc1_q1, pc1_q2, code], ⟨h.1, hs⟩, trivial⟩
      · split
        · exact ⟨⟨h.1, hf, hs⟩, trivial⟩
        · trivial
theorem cutP_pc : ∀ l : List PT, pcP l → pcP (cutP l)
  | [], _ => trivial
  | x :: r, h => by
    simp only [cutP_q0, cutP_q1]
    exact pcP_app (cut1_pc x h.1) (cutP_pc r h.2)
theorem pcP_app : ∀ {a b : List PT}, pcP a → pcP b → pcP (a ++ b)
  | [], _, _, h => h
  | x :: r, _, h, k => ⟨h.1, pcP_app h.2 k⟩
end

/- NmLg -/
mutual
/-- what a made tree is, in names -/
noncomputable def WN1 (o : List Int) : Node → Prop
  | .op p => TOk p ∧ (code p ≠ 2 ∧ code p ≠ 3 ∧ code p ≠ 4 ∧ code p ≠ 5 ∧ code p ≠ 11) ∧ (code p ≠ 12 ∧ code p ≠ 13 ∧ code p ≠ 14) ∧ (code p = 1 → p = [1])
  | .br c g => (c = 12 ∨ c = 13 ∨ c = 14) ∧ (g ≠ [] ∧ g.length ≤ 3) ∧ (∀ x ∈ g, x ∈ o) ∧ (c ≠ 14 → g.length = 1)
  | .blk1 c n f => (c = 2 ∨ c = 3 ∨ c = 4) ∧ n ∉ o ∧ WN (o ++ [n]) f
  | .blk2 c n f s => c = 4 ∧ n ∉ o ∧ WN (o ++ [n]) f ∧ WN (o ++ [n]) s
noncomputable def WN (o : List Int) : List Node → Prop
  | [] => True
  | x :: r => WN1 o x ∧ WN o r
end
theorem WN_q0 (o : List Int) : WN o ([]) = (True) := rfl
theorem WN_q1 (o : List Int) (x) (r) : WN o (x :: r) = (WN1 o x ∧ WN o r) := rfl
theorem WN_append {o : List Int} : ∀ {a b : List Node}, WN o (a ++ b) ↔ WN o a ∧ WN o b
  | [], b => by simp [WN_q0, WN_q1]
  | x :: r, b => by simp only [List.cons_append, WN_q0, WN_q1, WN_append (a := r) (b := b), and_assoc]
theorem ptN_append (o : List Int) : ∀ a b : List Node, ptN o (a ++ b) = ptN o a ++ ptN o b
  | [], b => rfl
  | x :: r, b => congrArg (pt1 o x :: ·) (ptN_append o r b)
mutual
theorem WN1_pc {o : List Int} : ∀ x : Node, WN1 o x → pc1 (pt1 o x)
  | .op p, h => h.2.1
  | .br c g, h => by
    have := h.1
    simp only [pt1_q0, pt1_q1, pt1_q2, pt1_q3, pc1_q0, pc1_q1, pc1_q2, code, List.headD_cons]
    lia
  | .blk1 c n f, h => ⟨by have := h.1; simpa [code] using this, WN_pc f h.2.2⟩
  | .blk2 c n f s, h => ⟨by have := h.1; simp [code, this], WN_pc f h.2.2.1, WN_pc s h.2.2.2⟩
theorem WN_pc {o : List Int} : ∀ l : List Node, WN o l → pcP (ptN o l)
  | [], _ => trivial
  | x :: r, h => ⟨WN1_pc x h.1, WN_pc r h.2⟩
end
mutual
theorem WN1_nc {o : List Int} : ∀ x : Node, WN1 o x → nc1 (pt1 o x)
  | .op p, h => h.2.2.2
  | .br c g, h => by
    have := h.1
    intro e
    simp only [code, List.headD_cons] at e
    lia
  | .blk1 c n f, h => WN_nc f h.2.2
  | .blk2 c n f s, h => ⟨by have := h.1; simp [code, this], WN_nc f h.2.2.1, WN_nc s h.2.2.2⟩
theorem WN_nc {o : List Int} : ∀ l : List Node, WN o l → ncP (ptN o l)
  | [], _ => trivial
  | x :: r, h => ⟨WN1_nc x h.1, WN_nc r h.2⟩
end
mutual
theorem WN1_FOk {o : List Int} : ∀ x : Node, WN1 o x → FOk1 o x
  | .op p, h => trivial
  | .br c g, h => ⟨h.2.2.1, by have := h.2.1.2; exact lq1 [_] (.le 1 (.v 0) (.n 3)) 1 (.v 0) (.n 1000) rfl this⟩
  | .blk1 c n f, h => WN_FOk f h.2.2
  | .blk2 c n f s, h => ⟨WN_FOk f h.2.2.1, WN_FOk s h.2.2.2⟩
theorem WN_FOk {o : List Int} : ∀ l : List Node, WN o l → FOkN o l
  | [], _ => trivial
  | x :: r, h => ⟨WN1_FOk x h.1, WN_FOk r h.2⟩
end
mutual
theorem WN1_TOk {o : List Int} : ∀ x : Node, WN1 o x → ∀ t ∈ flat1 o x, TOk t
  | .op p, h, t, ht => by
    simp only [flat1_q0, flat1_q1, flat1_q2, flat1_q3, List.mem_singleton] at ht
    subst ht
    exact h.1
  | .br c g, h, t, ht => by
    simp only [flat1_q0, flat1_q1, flat1_q2, flat1_q3, List.mem_singleton] at ht
    subst ht
    have := h.2.1.2
    exact ⟨by simp, by simp; exact lq1 [_] (.le 1 (.v 0) (.n 3)) 1 (.v 0) (.n 999) rfl this⟩
  | .blk1 c n f, h, t, ht => by
    simp only [flat1_q0, flat1_q1, flat1_q2, flat1_q3, List.mem_append, List.mem_singleton] at ht
    rcases ht with (rfl | ht) | rfl
    · exact ⟨by simp, by simp⟩
    · exact WN_TOk f h.2.2 t ht
    · exact ⟨by simp, by simp⟩
  | .blk2 c n f s, h, t, ht => by
    simp only [flat1_q0, flat1_q1, flat1_q2, flat1_q3, List.mem_append, List.mem_singleton] at ht
    rcases ht with ((rfl | ht) | rfl | ht) | rfl
    · exact ⟨by simp, by simp⟩
    · exact WN_TOk f h.2.2.1 t ht
    · exact ⟨by simp, by simp⟩
    · exact WN_TOk s h.2.2.2 t ht
    · exact ⟨by simp, by simp⟩
theorem WN_TOk {o : List Int} : ∀ l : List Node, WN o l → ∀ t ∈ flatN o l, TOk t
  | [], _, t, ht => by simp [flatN_q0, flatN_q1] at ht
  | x :: r, h, t, ht => by
    simp only [flatN_q0, flatN_q1, List.mem_append] at ht
    rcases ht with ht | ht
    · exact WN1_TOk x h.1 t ht
    · exact WN_TOk r h.2 t ht
end
mutual
/-- cutting, on the nodes -/
noncomputable def cutd1 : Node → List Node
  | .op p => if code p ≠ 1 then [.op p] else []
  | .br c g => [.br c g]
  | .blk1 c n f => if cutd f = [] then (if c = 4 then [.op [26]] else []) else [.blk1 c n (cutd f)]
  | .blk2 c n f s => if cutd s = [] then (if cutd f = [] then [.op [26]] else [.blk1 c n (cutd f)])
      else (if cutd f = [] then [.op [69], .blk1 c n (cutd s)] else [.blk2 c n (cutd f) (cutd s)])
noncomputable def cutd : List Node → List Node
  | [] => []
  | x :: r => cutd1 x ++ cutd r
end
theorem cutd_q0 : cutd ([]) = ([]) := rfl
theorem cutd_q1 (x) (r) : cutd (x :: r) = (cutd1 x ++ cutd r) := rfl
theorem cutd1_q0 (p) : cutd1 (.op p) = (if code p ≠ 1 then [.op p] else []) := rfl
theorem cutd1_q1 (c) (g) : cutd1 (.br c g) = ([.br c g]) := rfl
theorem cutd1_q2 (c) (n) (f) : cutd1 (.blk1 c n f) = (if cutd f = [] then (if c = 4 then [.op [26]] else []) else [.blk1 c n (cutd f)]) := rfl
theorem cutd1_q3 (c) (n) (f) (s) : cutd1 (.blk2 c n f s) = (if cutd s = [] then (if cutd f = [] then [.op [26]] else [.blk1 c n (cutd f)]) else (if cutd f = [] then [.op [69], .blk1 c n (cutd s)] else [.blk2 c n (cutd f) (cutd s)])) := rfl
theorem ptN_nil {o : List Int} {l : List Node} : ptN o l = [] ↔ l = [] := by
  cases l <;> simp [ptN_q0, ptN_q1]
mutual
theorem cutd1_pt {o : List Int} : ∀ x : Node, WN1 o x → cut1 (pt1 o x) = ptN o (cutd1 x)
  | .op p, h => by
    simp only [pt1_q0, pt1_q1, pt1_q2, pt1_q3, cut1_q0, cut1_q1, cut1_q2, cutd1_q0, cutd1_q1, cutd1_q2, cutd1_q3]
    split <;> simp [ptN_q0, ptN_q1, pt1_q0, pt1_q1, pt1_q2, pt1_q3]
  | .br c g, h => by
    have := h.1
    have e : code (c :: g.map fun x => ((o.reverse.idxOf x : Nat) : Int)) = c := rfl
    simp only [pt1_q0, pt1_q1, pt1_q2, pt1_q3, cut1_q0, cut1_q1, cut1_q2, cutd1_q0, cutd1_q1, cutd1_q2, cutd1_q3, e]
    rw [if_pos (by lia)]
    rfl
  | .blk1 c n f, h => by
    have hf := cutd_pt f h.2.2
    have hc := h.1
    have e : code [c, -64] = c := rfl
    simp only [pt1_q0, pt1_q1, pt1_q2, pt1_q3, cut1_q0, cut1_q1, cut1_q2, cutd1_q0, cutd1_q1, cutd1_q2, cutd1_q3, hf, e, ne_eq, ptN_nil]
    by_cases e1 : cutd f = []
    · by_cases e4 : c = 4
      · simp [e1, e4, ptN_q0, ptN_q1, pt1_q0, pt1_q1, pt1_q2, pt1_q3]
      · simp [e1, e4, ptN_q0, ptN_q1]
    · have : c ≠ 1 := by lia
      simp [e1, this, ptN_q0, ptN_q1, pt1_q0, pt1_q1, pt1_q2, pt1_q3]
  | .blk2 c n f s, h => by
    have hf := cutd_pt f h.2.2.1
    have hs := cutd_pt s h.2.2.2
    have hc := h.1
    have e : code [c, -64] = c := rfl
    subst hc
    simp only [pt1_q0, pt1_q1, pt1_q2, pt1_q3, cut1_q0, cut1_q1, cut1_q2, cutd1_q0, cutd1_q1, cutd1_q2, cutd1_q3, hf, hs, e, ne_eq, ptN_nil]
    by_cases e2 : cutd s = []
    · by_cases e1 : cutd f = []
      · simp [e1, e2, ptN_q0, ptN_q1, pt1_q0, pt1_q1, pt1_q2, pt1_q3]
      · simp [e1, e2, ptN_q0, ptN_q1, pt1_q0, pt1_q1, pt1_q2, pt1_q3]
    · by_cases e1 : cutd f = []
      · simp [e1, e2, ptN_q0, ptN_q1, pt1_q0, pt1_q1, pt1_q2, pt1_q3]
      · simp [e1, e2, ptN_q0, ptN_q1, pt1_q0, pt1_q1, pt1_q2, pt1_q3]
theorem cutd_pt {o : List Int} : ∀ l : List Node, WN o l → cutP (ptN o l) = ptN o (cutd l)
  | [], _ => rfl
  | x :: r, h => by simp only [ptN_q0, ptN_q1, cutP_q0, cutP_q1, cutd_q0, cutd_q1, ptN_append, cutd1_pt x h.1, cutd_pt r h.2]
end
theorem WN_26 {o : List Int} : WN1 o (.op [26]) := ⟨⟨by simp, by simp⟩, by decide, by decide, by decide⟩
theorem WN_69 {o : List Int} : WN1 o (.op [69]) := ⟨⟨by simp, by simp⟩, by decide, by decide, by decide⟩
mutual
theorem cutd1_WN {o : List Int} : ∀ x : Node, WN1 o x → WN o (cutd1 x)
  | .op p, h => by
    simp only [cutd1_q0, cutd1_q1, cutd1_q2, cutd1_q3]
    split
    · exact ⟨h, trivial⟩
    · trivial
  | .br c g, h => ⟨h, trivial⟩
  | .blk1 c n f, h => by
    have hf := cutd_WN f h.2.2
    simp only [cutd1_q0, cutd1_q1, cutd1_q2, cutd1_q3]
    split
    · split
      · exact ⟨WN_26, trivial⟩
      · trivial
    · exact ⟨⟨h.1, h.2.1, hf⟩, trivial⟩
  | .blk2 c n f s, h => by
    have hf := cutd_WN f h.2.2.1
    have hs := cutd_WN s h.2.2.2
    have hc := h.1
    simp only [cutd1_q0, cutd1_q1, cutd1_q2, cutd1_q3]
    split
    · split
      · exact ⟨WN_26, trivial⟩
      · exact ⟨⟨by lia, h.2.1, hf⟩, trivial⟩
    · split
      · exact ⟨WN_69, ⟨by lia, h.2.1, hs⟩, trivial⟩
      · exact ⟨⟨h.1, h.2.1, hf, hs⟩, trivial⟩
theorem cutd_WN {o : List Int} : ∀ l : List Node, WN o l → WN o (cutd l)
  | [], _ => trivial
  | x :: r, h => by
    simp only [cutd_q0, cutd_q1]
    exact WN_append.mpr ⟨cutd1_WN x h.1, cutd_WN r h.2⟩
end
mutual
/-- the names of the blocks -/
noncomputable def nmsN1 : Node → List Int
  | .op _ => []
  | .br _ _ => []
  | .blk1 _ n f => n :: nmsN f
  | .blk2 _ n f s => n :: (nmsN f ++ nmsN s)
noncomputable def nmsN : List Node → List Int
  | [] => []
  | x :: r => nmsN1 x ++ nmsN r
end
theorem nmsN_q0 : nmsN ([]) = ([]) := rfl
theorem nmsN_q1 (x) (r) : nmsN (x :: r) = (nmsN1 x ++ nmsN r) := rfl
theorem nmsN1_q0 (w1) : nmsN1 (.op w1) = ([]) := rfl
theorem nmsN1_q1 (w1) (w2) : nmsN1 (.br w1 w2) = ([]) := rfl
theorem nmsN1_q2 (w1) (n) (f) : nmsN1 (.blk1 w1 n f) = (n :: nmsN f) := rfl
theorem nmsN1_q3 (w1) (n) (f) (s) : nmsN1 (.blk2 w1 n f s) = (n :: (nmsN f ++ nmsN s)) := rfl
theorem nmsN_append : ∀ a b : List Node, nmsN (a ++ b) = nmsN a ++ nmsN b
  | [], b => rfl
  | x :: r, b => (congrArg (nmsN1 x ++ ·) (nmsN_append r b)).trans (List.append_assoc ..).symm
mutual
/-- a goal inside is an open block's -/
theorem goals1_in {o : List Int} : ∀ x : Node, WN1 o x → ∀ y ∈ goals1 x, y ∈ o ∨ y ∈ nmsN1 x
  | .op p, h, y, hy => by simp [goals1_q0, goals1_q1, goals1_q2, goals1_q3] at hy
  | .br c g, h, y, hy => .inl (h.2.2.1 y hy)
  | .blk1 c n f, h, y, hy => by
    simp only [goals1_q0, goals1_q1, goals1_q2, goals1_q3] at hy
    simp only [nmsN1_q0, nmsN1_q1, nmsN1_q2, nmsN1_q3, List.mem_cons]
    rcases goals_in f h.2.2 y hy with e | e
    · simp only [List.mem_append, List.mem_singleton] at e
      rcases e with e | e
      · exact .inl e
      · exact .inr (.inl e)
    · exact .inr (.inr e)
  | .blk2 c n f s, h, y, hy => by
    simp only [goals1_q0, goals1_q1, goals1_q2, goals1_q3, List.mem_append] at hy
    simp only [nmsN1_q0, nmsN1_q1, nmsN1_q2, nmsN1_q3, List.mem_cons, List.mem_append]
    rcases hy with hy | hy
    · rcases goals_in f h.2.2.1 y hy with e | e
      · simp only [List.mem_append, List.mem_singleton] at e
        rcases e with e | e
        · exact .inl e
        · exact .inr (.inl e)
      · exact .inr (.inr (.inl e))
    · rcases goals_in s h.2.2.2 y hy with e | e
      · simp only [List.mem_append, List.mem_singleton] at e
        rcases e with e | e
        · exact .inl e
        · exact .inr (.inl e)
      · exact .inr (.inr (.inr e))
theorem goals_in {o : List Int} : ∀ l : List Node, WN o l → ∀ y ∈ goalsN l, y ∈ o ∨ y ∈ nmsN l
  | [], _, y, hy => by simp [goalsN_q0, goalsN_q1] at hy
  | x :: r, h, y, hy => by
    simp only [goalsN_q0, goalsN_q1, List.mem_append] at hy
    simp only [nmsN_q0, nmsN_q1, List.mem_append]
    rcases hy with hy | hy
    · rcases goals1_in x h.1 y hy with e | e
      · exact .inl e
      · exact .inr (.inl e)
    · rcases goals_in r h.2 y hy with e | e
      · exact .inl e
      · exact .inr (.inr e)
end

/- NmLh -/
noncomputable abbrev lab (o : List Int) (x : Int) : Int := ((o.reverse.idxOf x : Nat) : Int)
theorem lab_eq (a i : List Int) (n : Int) : (a ++ n :: i).reverse = i.reverse ++ n :: a.reverse := by simp
theorem lab_n {a i : List Int} {n : Int} (nd : (a ++ n :: i).Nodup) : lab (a ++ n :: i) n = i.length := by
  have hn : n ∉ i.reverse := by
    rw [List.mem_reverse]
    have := (List.nodup_append.mp nd).2.1
    exact (List.nodup_cons.mp this).1
  unfold lab
  rw [lab_eq, List.idxOf_append, if_neg hn, List.idxOf_cons_self]
  simp
theorem lab_i {a i : List Int} {n x : Int} (h : x ∈ i) : lab (a ++ n :: i) x < i.length ∧ lab (a ++ i) x = lab (a ++ n :: i) x := by
  have hx : x ∈ i.reverse := List.mem_reverse.mpr h
  have e : (a ++ i).reverse = i.reverse ++ a.reverse := by simp
  unfold lab
  rw [lab_eq, e, List.idxOf_append, List.idxOf_append, if_pos hx, if_pos hx]
  have := List.idxOf_lt_length_iff.mpr hx
  rw [List.length_reverse] at this
  exact ⟨by lia, rfl⟩
theorem lab_a {a i : List Int} {n x : Int} (h : x ∉ i) (hn : x ≠ n) : (i.length : Int) < lab (a ++ n :: i) x ∧ lab (a ++ i) x = lab (a ++ n :: i) x - 1 := by
  have hx : x ∉ i.reverse := fun e => h (List.mem_reverse.mp e)
  have e : (a ++ i).reverse = i.reverse ++ a.reverse := by simp
  unfold lab
  rw [lab_eq, e, List.idxOf_append, List.idxOf_append, if_neg hx, if_neg hx, List.idxOf_cons, List.length_reverse]
  have : (n == x) = false := by simp; exact fun e => hn e.symm
  rw [this]
  simp only [cond_false]
  constructor <;> lia
theorem lab_is {a i : List Int} {n x : Int} (nd : (a ++ n :: i).Nodup) (hx : x ∈ a ++ n :: i) : lab (a ++ n :: i) x = i.length ↔ x = n := by
  constructor
  · intro h
    refine Classical.byContradiction fun hn => ?_
    by_cases hi : x ∈ i
    · have := (lab_i (a := a) (n := n) hi).1
      lia
    · have := (lab_a (a := a) hi hn).1
      lia
  · rintro rfl
    exact lab_n nd
theorem labT_br {c : Int} {l : List Int} (h : c = 12 ∨ c = 13 ∨ c = 14) : labelsT (c :: l) = l := by
  unfold labelsT
  rw [if_pos (by simpa [code] using h)]
  rfl
theorem labT_op {p : Tk} (h : code p ≠ 12 ∧ code p ≠ 13 ∧ code p ≠ 14) : labelsT p = [] := by
  unfold labelsT
  rw [if_neg (by lia)]
theorem labT_blk {c : Int} (h : c = 2 ∨ c = 3 ∨ c = 4) : labelsT [c, -64] = [] := labT_op (by have e : code [c, -64] = c := rfl; rw [e]; lia)
theorem nd_in {a i : List Int} {n m : Int} (nd : (a ++ n :: i).Nodup) (h : m ∉ a ++ n :: i) : (a ++ n :: (i ++ [m])).Nodup := by
  have e : a ++ n :: (i ++ [m]) = (a ++ n :: i) ++ [m] := by simp
  rw [e, List.nodup_append]
  exact ⟨nd, by simp, fun x hx y hy => by rw [List.mem_singleton.mp hy]; exact fun e => h (e ▸ hx)⟩
theorem ctx_in (a i : List Int) (n m : Int) : (a ++ n :: i) ++ [m] = a ++ n :: (i ++ [m]) := by simp
mutual
theorem named1_pt {a : List Int} {n : Int} : ∀ (x : Node) (i : List Int), WN1 (a ++ n :: i) x → (a ++ n :: i).Nodup → named1 i.length (pt1 (a ++ n :: i) x) = decide (n ∈ goals1 x)
  | .op p, i, h, nd => by simp [pt1_q0, pt1_q1, pt1_q2, pt1_q3, named1_q0, named1_q1, named1_q2, labT_op h.2.2.1, goals1_q0, goals1_q1, goals1_q2, goals1_q3]
  | .br c g, i, h, nd => by
    simp only [pt1_q0, pt1_q1, pt1_q2, pt1_q3, named1_q0, named1_q1, named1_q2, labT_br h.1, goals1_q0, goals1_q1, goals1_q2, goals1_q3]
    refine decide_eq_decide.mpr ?_
    rw [List.mem_map]
    constructor
    · rintro ⟨x, hx, e⟩
      rw [(lab_is nd (h.2.2.1 x hx)).mp e] at hx
      exact hx
    · exact fun hn => ⟨n, hn, lab_n nd⟩
  | .blk1 c m f, i, h, nd => by
    have hf := named_pt (a := a) (n := n) f (i ++ [m]) (by rw [← ctx_in]; exact h.2.2) (nd_in nd h.2.1)
    simp only [List.length_append, List.length_singleton, Int.natCast_add, Int.natCast_one] at hf
    simp only [pt1_q0, pt1_q1, pt1_q2, pt1_q3, named1_q0, named1_q1, named1_q2, labT_blk h.1]
    rw [ctx_in, hf]
    simp [goals1_q0, goals1_q1, goals1_q2, goals1_q3]
    exact decide_eq_decide.mpr Iff.rfl
  | .blk2 c m f s, i, h, nd => by
    have hf := named_pt (a := a) (n := n) f (i ++ [m]) (by rw [← ctx_in]; exact h.2.2.1) (nd_in nd h.2.1)
    have hs := named_pt (a := a) (n := n) s (i ++ [m]) (by rw [← ctx_in]; exact h.2.2.2) (nd_in nd h.2.1)
    simp only [List.length_append, List.length_singleton, Int.natCast_add, Int.natCast_one] at hf hs
    simp only [pt1_q0, pt1_q1, pt1_q2, pt1_q3, named1_q0, named1_q1, named1_q2, labT_blk (c := c) (by have := h.1; lia)]
    rw [ctx_in, hf, hs]
    simp [goals1_q0, goals1_q1, goals1_q2, goals1_q3]
theorem named_pt {a : List Int} {n : Int} : ∀ (l : List Node) (i : List Int), WN (a ++ n :: i) l → (a ++ n :: i).Nodup → namedP i.length (ptN (a ++ n :: i) l) = decide (n ∈ goalsN l)
  | [], i, h, nd => by simp [ptN_q0, ptN_q1, namedP_q0, namedP_q1, goalsN_q0, goalsN_q1]
  | x :: r, i, h, nd => by simp [ptN_q0, ptN_q1, namedP_q0, namedP_q1, goalsN_q0, goalsN_q1, named1_pt x i h.1 nd, named_pt r i h.2 nd]
end
theorem lowT_none {d : Int} {p : Tk} (h : labelsT p = []) : lowT d p = p := by
  unfold lowT
  rw [if_neg (fun e => e h)]
mutual
theorem low1_pt {a : List Int} {n : Int} : ∀ (x : Node) (i : List Int), WN1 (a ++ n :: i) x → n ∉ goals1 x → low1 i.length (pt1 (a ++ n :: i) x) = pt1 (a ++ i) x
  | .op p, i, h, hn => by simp only [pt1_q0, pt1_q1, pt1_q2, pt1_q3, low1_q0, low1_q1, low1_q2, lowT_none (labT_op h.2.2.1)]
  | .br c g, i, h, hn => by
    simp only [goals1_q0, goals1_q1, goals1_q2, goals1_q3] at hn
    simp only [pt1_q0, pt1_q1, pt1_q2, pt1_q3, low1_q0, low1_q1, low1_q2]
    have hne : labelsT (c :: g.map (lab (a ++ n :: i))) ≠ [] := by
      rw [labT_br h.1]
      simpa using h.2.1.1
    have e : lowT i.length (c :: g.map (lab (a ++ n :: i))) = c :: g.map (lab (a ++ i)) := by
      unfold lowT
      rw [if_pos hne, labT_br h.1, List.map_map]
      congr 1
      refine List.map_congr_left fun x hx => ?_
      simp only [Function.comp_apply]
      by_cases hi : x ∈ i
      · obtain ⟨h1, h2⟩ := lab_i (a := a) (n := n) hi
        rw [if_neg (by lia), h2]
      · obtain ⟨h1, h2⟩ := lab_a (a := a) (n := n) hi (fun e => hn (e ▸ hx))
        rw [if_pos (by lia), h2]
    rw [e]
  | .blk1 c m f, i, h, hn => by
    have hf := low_pt (a := a) (n := n) f (i ++ [m]) (by rw [← ctx_in]; exact h.2.2) hn
    simp only [List.length_append, List.length_singleton, Int.natCast_add, Int.natCast_one, ← List.append_assoc] at hf
    simp only [pt1_q0, pt1_q1, pt1_q2, pt1_q3, low1_q0, low1_q1, low1_q2, lowT_none (labT_blk h.1)]
    rw [ctx_in, hf]
  | .blk2 c m f s, i, h, hn => by
    simp only [goals1_q0, goals1_q1, goals1_q2, goals1_q3, List.mem_append, not_or] at hn
    have hf := low_pt (a := a) (n := n) f (i ++ [m]) (by rw [← ctx_in]; exact h.2.2.1) hn.1
    have hs := low_pt (a := a) (n := n) s (i ++ [m]) (by rw [← ctx_in]; exact h.2.2.2) hn.2
    simp only [List.length_append, List.length_singleton, Int.natCast_add, Int.natCast_one, ← List.append_assoc] at hf hs
    simp only [pt1_q0, pt1_q1, pt1_q2, pt1_q3, low1_q0, low1_q1, low1_q2, lowT_none (labT_blk (c := c) (by have := h.1; lia))]
    rw [ctx_in, hf, hs]
theorem low_pt {a : List Int} {n : Int} : ∀ (l : List Node) (i : List Int), WN (a ++ n :: i) l → n ∉ goalsN l → lowP i.length (ptN (a ++ n :: i) l) = ptN (a ++ i) l
  | [], i, h, hn => rfl
  | x :: r, i, h, hn => by
    simp only [goalsN_q0, goalsN_q1, List.mem_append, not_or] at hn
    simp only [ptN_q0, ptN_q1, lowP_q0, lowP_q1, low1_pt x i h.1 hn.1, low_pt r i h.2 hn.2]
end
mutual
theorem WN1_less {a : List Int} {n : Int} : ∀ (x : Node) (i : List Int), WN1 (a ++ n :: i) x → n ∉ goals1 x → WN1 (a ++ i) x
  | .op p, i, h, hn => h
  | .br c g, i, h, hn => ⟨h.1, h.2.1, fun x hx => by
      have := h.2.2.1 x hx
      simp only [List.mem_append, List.mem_cons] at this ⊢
      rcases this with e | e | e
      · exact .inl e
      · exact absurd hx (fun hx => hn (by rw [← e]; exact hx))
      · exact .inr e, h.2.2.2⟩
  | .blk1 c m f, i, h, hn => ⟨h.1, fun e => h.2.1 (by
      simp only [List.mem_append, List.mem_cons] at e ⊢
      rcases e with e | e
      · exact .inl e
      · exact .inr (.inr e)), by rw [List.append_assoc]; exact WN_less f (i ++ [m]) (by rw [← ctx_in]; exact h.2.2) hn⟩
  | .blk2 c m f s, i, h, hn => by
    simp only [goals1_q0, goals1_q1, goals1_q2, goals1_q3, List.mem_append, not_or] at hn
    exact ⟨h.1, fun e => h.2.1 (by
      simp only [List.mem_append, List.mem_cons] at e ⊢
      rcases e with e | e
      · exact .inl e
      · exact .inr (.inr e)), by rw [List.append_assoc]; exact WN_less f (i ++ [m]) (by rw [← ctx_in]; exact h.2.2.1) hn.1, by rw [List.append_assoc]; exact WN_less s (i ++ [m]) (by rw [← ctx_in]; exact h.2.2.2) hn.2⟩
theorem WN_less {a : List Int} {n : Int} : ∀ (l : List Node) (i : List Int), WN (a ++ n :: i) l → n ∉ goalsN l → WN (a ++ i) l
  | [], i, h, hn => trivial
  | x :: r, i, h, hn => by
    simp only [goalsN_q0, goalsN_q1, List.mem_append, not_or] at hn
    exact ⟨WN1_less x i h.1 hn.1, WN_less r i h.2 hn.2⟩
end
mutual
theorem open1_goals {M o : List Int} : ∀ x : Node, WN1 o x → goalsN (open1 M x) = goals1 x
  | .op p, h => by simp [open1_q0, open1_q1, open1_q2, open1_q3, goalsN_q0, goalsN_q1, goals1_q0, goals1_q1, goals1_q2, goals1_q3]
  | .br c g, h => by simp [open1_q0, open1_q1, open1_q2, open1_q3, goalsN_q0, goalsN_q1, goals1_q0, goals1_q1, goals1_q2, goals1_q3]
  | .blk1 c n f, h => by
    have hf := openN_goals (M := M) f h.2.2
    simp only [open1_q0, open1_q1, open1_q2, open1_q3, goals1_q0, goals1_q1, goals1_q2, goals1_q3]
    split
    · exact hf
    · simp [goalsN_q0, goalsN_q1, goals1_q0, goals1_q1, goals1_q2, goals1_q3, hf]
  | .blk2 c n f s, h => by
    have hf := openN_goals (M := M) f h.2.2.1
    have hs := openN_goals (M := M) s h.2.2.2
    have := h.1
    simp only [open1_q0, open1_q1, open1_q2, open1_q3, goals1_q0, goals1_q1, goals1_q2, goals1_q3]
    rw [if_neg (by lia)]
    simp [goalsN_q0, goalsN_q1, goals1_q0, goals1_q1, goals1_q2, goals1_q3, hf, hs]
theorem openN_goals {M o : List Int} : ∀ l : List Node, WN o l → goalsN (openN M l) = goalsN l
  | [], _ => rfl
  | x :: r, h => by simp only [openN_q0, openN_q1, goalsN_append, goalsN_q0, goalsN_q1, open1_goals x h.1, openN_goals r h.2]
end
mutual
theorem open1_WN {M o : List Int} : ∀ x : Node, WN1 o x → (∀ y ∈ goals1 x, y ∈ M) → WN o (open1 M x)
  | .op p, h, k => ⟨h, trivial⟩
  | .br c g, h, k => ⟨h, trivial⟩
  | .blk1 c n f, h, k => by
    have hf := openN_WN (M := M) f h.2.2 k
    simp only [open1_q0, open1_q1, open1_q2, open1_q3]
    split
    · rename_i hc
      have := WN_less (a := o) (n := n) (openN M f) [] hf (by rw [openN_goals f h.2.2]; exact fun e => hc.2 (k n e))
      rwa [List.append_nil] at this
    · exact ⟨⟨h.1, h.2.1, hf⟩, trivial⟩
  | .blk2 c n f s, h, k => by
    have hc := h.1
    simp only [goals1_q0, goals1_q1, goals1_q2, goals1_q3, List.mem_append] at k
    simp only [open1_q0, open1_q1, open1_q2, open1_q3]
    rw [if_neg (by lia)]
    exact ⟨⟨h.1, h.2.1, openN_WN f h.2.2.1 fun y hy => k y (.inl hy), openN_WN s h.2.2.2 fun y hy => k y (.inr hy)⟩, trivial⟩
theorem openN_WN {M o : List Int} : ∀ l : List Node, WN o l → (∀ y ∈ goalsN l, y ∈ M) → WN o (openN M l)
  | [], _, _ => trivial
  | x :: r, h, k => by
    simp only [goalsN_q0, goalsN_q1, List.mem_append] at k
    exact WN_append.mpr ⟨open1_WN x h.1 fun y hy => k y (.inl hy), openN_WN r h.2 fun y hy => k y (.inr hy)⟩
end
mutual
theorem open1_idem {M : List Int} : ∀ x : Node, openN M (open1 M x) = open1 M x
  | .op p => by simp [open1_q0, open1_q1, open1_q2, open1_q3, openN_q0, openN_q1]
  | .br c g => by simp [open1_q0, open1_q1, open1_q2, open1_q3, openN_q0, openN_q1]
  | .blk1 c n f => by
    have hf := openN_idem (M := M) f
    simp only [open1_q0, open1_q1, open1_q2, open1_q3]
    split
    · exact hf
    · rename_i hc
      simp only [openN_q0, openN_q1, open1_q0, open1_q1, open1_q2, open1_q3, if_neg hc, hf, List.append_nil]
  | .blk2 c n f s => by
    have hf := openN_idem (M := M) f
    have hs := openN_idem (M := M) s
    simp only [open1_q0, open1_q1, open1_q2, open1_q3]
    split
    · exact hf
    · rename_i hc
      simp only [openN_q0, openN_q1, open1_q0, open1_q1, open1_q2, open1_q3, if_neg hc, hf, hs, List.append_nil]
theorem openN_idem {M : List Int} : ∀ l : List Node, openN M (openN M l) = openN M l
  | [] => rfl
  | x :: r => by simp only [openN_q0, openN_q1, openN_append, open1_idem x, openN_idem r]
end
mutual
theorem open1_nms {M : List Int} : ∀ x : Node, (nmsN (open1 M x)).Sublist (nmsN1 x)
  | .op p => by simp [open1_q0, open1_q1, open1_q2, open1_q3, nmsN_q0, nmsN_q1, nmsN1_q0, nmsN1_q1, nmsN1_q2, nmsN1_q3]
  | .br c g => by simp [open1_q0, open1_q1, open1_q2, open1_q3, nmsN_q0, nmsN_q1, nmsN1_q0, nmsN1_q1, nmsN1_q2, nmsN1_q3]
  | .blk1 c n f => by
    have hf := openN_nms (M := M) f
    simp only [open1_q0, open1_q1, open1_q2, open1_q3, nmsN1_q0, nmsN1_q1, nmsN1_q2, nmsN1_q3]
    split
    · exact hf.cons n
    · simp only [nmsN_q0, nmsN_q1, nmsN1_q0, nmsN1_q1, nmsN1_q2, nmsN1_q3, List.append_nil]
      exact hf.cons_cons n
  | .blk2 c n f s => by
    have hf := openN_nms (M := M) f
    have hs := openN_nms (M := M) s
    simp only [open1_q0, open1_q1, open1_q2, open1_q3, nmsN1_q0, nmsN1_q1, nmsN1_q2, nmsN1_q3]
    split
    · exact (hf.trans (List.sublist_append_left _ _)).cons n
    · simp only [nmsN_q0, nmsN_q1, nmsN1_q0, nmsN1_q1, nmsN1_q2, nmsN1_q3, List.append_nil]
      exact (hf.append hs).cons_cons n
theorem openN_nms {M : List Int} : ∀ l : List Node, (nmsN (openN M l)).Sublist (nmsN l)
  | [] => by simp [openN_q0, openN_q1]
  | x :: r => by
    simp only [openN_q0, openN_q1, nmsN_append, nmsN_q0, nmsN_q1]
    exact (open1_nms x).append (openN_nms r)
end

/- NmLi -/
mutual
theorem open1_pt {M : List Int} : ∀ (x : Node) (o : List Int), WN1 o x → (o ++ nmsN1 x).Nodup → (∀ y ∈ goals1 x, y ∈ M) → (∀ n ∈ nmsN1 x, n ∈ M ↔ n ∈ goals1 x) → opn1 (pt1 o x) = ptN o (open1 M x)
  | .op p, o, h, nd, k, hm => by simp [pt1_q0, pt1_q1, pt1_q2, pt1_q3, opn1_q0, opn1_q1, opn1_q2, open1_q0, open1_q1, open1_q2, open1_q3, ptN_q0, ptN_q1]
  | .br c g, o, h, nd, k, hm => by simp [pt1_q0, pt1_q1, pt1_q2, pt1_q3, opn1_q0, opn1_q1, opn1_q2, open1_q0, open1_q1, open1_q2, open1_q3, ptN_q0, ptN_q1]
  | .blk1 c n f, o, h, nd, k, hm => by
    simp only [nmsN1_q0, nmsN1_q1, nmsN1_q2, nmsN1_q3] at nd hm
    have nd2 : ((o ++ [n]) ++ nmsN f).Nodup := by simpa using nd
    have ndo : (o ++ n :: []).Nodup := (List.nodup_append.mp nd2).1
    have hf := openN_pt (M := M) f (o ++ [n]) h.2.2 nd2 k fun m hm2 => hm m (List.mem_cons_of_mem _ hm2)
    have hW := openN_WN (M := M) f h.2.2 k
    have hN := named_pt (a := o) (n := n) (openN M f) [] hW ndo
    rw [openN_goals f h.2.2] at hN
    simp only [List.length_nil, Int.natCast_zero] at hN
    have hn : n ∈ M ↔ n ∈ goalsN f := hm n (List.mem_cons_self ..)
    have hc := h.1
    have e : code [c, -64] = c := rfl
    simp only [pt1_q0, pt1_q1, pt1_q2, pt1_q3, opn1_q0, opn1_q1, opn1_q2, open1_q0, open1_q1, open1_q2, open1_q3, hf, e]
    have hiff : ((c = 2 ∨ c = 3) ∧ namedP 0 (ptN (o ++ [n]) (openN M f)) = false) ↔ (c < 4 ∧ n ∉ M) := by
      rw [hN, hn, decide_eq_false_iff_not]
      constructor
      · rintro ⟨a, b⟩; exact ⟨by lia, b⟩
      · rintro ⟨a, b⟩; exact ⟨by lia, b⟩
    by_cases hh : c < 4 ∧ n ∉ M
    · rw [if_pos hh, if_pos (hiff.mpr hh)]
      have := low_pt (a := o) (n := n) (openN M f) [] hW (by rw [openN_goals f h.2.2]; exact fun e => hh.2 (hn.mpr e))
      simp only [List.length_nil, Int.natCast_zero, List.append_nil] at this
      exact this
    · rw [if_neg hh, if_neg (fun e => hh (hiff.mp e))]
      rfl
  | .blk2 c n f s, o, h, nd, k, hm => by
    simp only [nmsN1_q0, nmsN1_q1, nmsN1_q2, nmsN1_q3] at nd hm
    simp only [goals1_q0, goals1_q1, goals1_q2, goals1_q3, List.mem_append] at k hm
    have nd2 : ((o ++ [n]) ++ (nmsN f ++ nmsN s)).Nodup := by simpa using nd
    have ndf : ((o ++ [n]) ++ nmsN f).Nodup := by
      rw [← List.append_assoc] at nd2
      exact (List.nodup_append.mp nd2).1
    have nds : ((o ++ [n]) ++ nmsN s).Nodup := nd2.sublist (List.Sublist.append_left (List.sublist_append_right _ _) _)
    obtain ⟨_, nd4, nd5⟩ := List.nodup_append.mp nd2
    obtain ⟨_, _, nd6⟩ := List.nodup_append.mp nd4
    have hf := openN_pt (M := M) f (o ++ [n]) h.2.2.1 ndf (fun y hy => k y (.inl hy)) fun m hm2 => by
      rw [hm m (List.mem_cons_of_mem _ (List.mem_append_left _ hm2))]
      refine ⟨fun e => e.resolve_right fun e2 => ?_, .inl⟩
      rcases goals_in s h.2.2.2 m e2 with e3 | e3
      · exact nd5 m e3 m (List.mem_append_left _ hm2) rfl
      · exact nd6 m hm2 m e3 rfl
    have hs := openN_pt (M := M) s (o ++ [n]) h.2.2.2 nds (fun y hy => k y (.inr hy)) fun m hm2 => by
      rw [hm m (List.mem_cons_of_mem _ (List.mem_append_right _ hm2))]
      refine ⟨fun e => e.resolve_left fun e2 => ?_, .inr⟩
      rcases goals_in f h.2.2.1 m e2 with e3 | e3
      · exact nd5 m e3 m (List.mem_append_right _ hm2) rfl
      · exact nd6 m e3 m hm2 rfl
    have hc := h.1
    have e : code [c, -64] = c := rfl
    simp only [pt1_q0, pt1_q1, pt1_q2, pt1_q3, opn1_q0, opn1_q1, opn1_q2, open1_q0, open1_q1, open1_q2, open1_q3, hf, hs, e]
    rw [if_neg (by lia), if_neg (by lia)]
    rfl
theorem openN_pt {M : List Int} : ∀ (l : List Node) (o : List Int), WN o l → (o ++ nmsN l).Nodup → (∀ y ∈ goalsN l, y ∈ M) → (∀ n ∈ nmsN l, n ∈ M ↔ n ∈ goalsN l) → openP (ptN o l) = ptN o (openN M l)
  | [], o, _, _, _, _ => rfl
  | x :: r, o, h, nd, k, hm => by
    simp only [goalsN_q0, goalsN_q1, nmsN_q0, nmsN_q1, List.mem_append] at nd k hm
    have ndx : (o ++ nmsN1 x).Nodup := by
      rw [← List.append_assoc] at nd
      exact (List.nodup_append.mp nd).1
    have ndr : (o ++ nmsN r).Nodup := nd.sublist (List.Sublist.append_left (List.sublist_append_right _ _) _)
    obtain ⟨_, nd4, nd5⟩ := List.nodup_append.mp nd
    obtain ⟨_, _, nd6⟩ := List.nodup_append.mp nd4
    have hx := open1_pt (M := M) x o h.1 ndx (fun y hy => k y (.inl hy)) fun m hm2 => by
      rw [hm m (.inl hm2)]
      refine ⟨fun e => e.resolve_right fun e2 => ?_, .inl⟩
      rcases goals_in r h.2 m e2 with e3 | e3
      · exact nd5 m e3 m (List.mem_append_left _ hm2) rfl
      · exact nd6 m hm2 m e3 rfl
    have hr := openN_pt (M := M) r o h.2 ndr (fun y hy => k y (.inr hy)) fun m hm2 => by
      rw [hm m (.inr hm2)]
      refine ⟨fun e => e.resolve_left fun e2 => ?_, .inr⟩
      rcases goals1_in x h.1 m e2 with e3 | e3
      · exact nd5 m e3 m (List.mem_append_right _ hm2) rfl
      · exact nd6 m e3 m hm2 rfl
    simp only [ptN_q0, ptN_q1, openP_q0, openP_q1, openN_q0, openN_q1, ptN_append, hx, hr]
end
/-- the law's tree with its blocks opened -/
noncomputable abbrev opnd (ns : List Node) : List Node := openN (goalsN ns) ns
theorem openP_law {ns : List Node} {o : List Int} (h : WN o ns) (nd : (o ++ nmsN ns).Nodup) : openP (ptN o ns) = ptN o (opnd ns) :=
  openN_pt ns o h nd (fun _ h => h) fun _ _ => Iff.rfl
theorem openP_again {ns : List Node} {o : List Int} (h : WN o ns) (nd : (o ++ nmsN ns).Nodup) : openP (ptN o (opnd ns)) = ptN o (opnd ns) := by
  have := openN_pt (M := goalsN ns) (opnd ns) o (openN_WN ns h fun _ h => h) (nd.sublist (List.Sublist.append_left (openN_nms ns) _)) (by rw [openN_goals ns h]; exact fun _ h => h) (by rw [openN_goals ns h]; exact fun _ _ => Iff.rfl)
  rw [openN_idem] at this
  exact this

/- NmLj -/
/-- how a list of nodes ends -/
inductive Rs where
  | nxt (m : MS)
  | go (x : Int) (m : MS)
  | full (t : List Int)
noncomputable def Gd (m : MS) : Prop := m.to.length < 12 ∧ m.st.length ≤ 10
noncomputable def popS (m : MS) : MS := ⟨m.st.dropLast, m.pl, m.to⟩
/-- a branch: its goal, if it is taken -/
noncomputable def goN (c : Int) (g : List Int) (m : MS) : Option (Option Int × MS) :=
  if c = 14 then m.st.getLast?.bind fun v => if 0 ≤ v then some (g[min v.toNat (g.length - 1)]?, popS m) else none
  else if c = 12 then some (g[0]?, m)
  else m.st.getLast?.map fun v => (if v ≠ 0 then g[0]? else none, popS m)
/-- the block's body is entered -/
noncomputable def Ent (c : Int) (m m1 : MS) : Prop := if c = 4 then ∃ v, m.st.getLast? = some v ∧ v ≠ 0 ∧ m1 = popS m else m1 = m
/-- a run of the nodes -/
inductive Big : List Node → MS → Rs → Prop
  | nil {m} : Gd m → Big [] m (.nxt m)
  | op {p r m m1 R} : Gd m → doF p m = some m1 → m1.to.length < 12 → Big r m1 R → Big (.op p :: r) m R
  | opF {p r m m1} : Gd m → doF p m = some m1 → ¬ m1.to.length < 12 → Big (.op p :: r) m (.full m1.to)
  | brN {c g r m m1 R} : Gd m → goN c g m = some (none, m1) → Big r m1 R → Big (.br c g :: r) m R
  | brT {c g r m m1 x} : Gd m → goN c g m = some (some x, m1) → Big (.br c g :: r) m (.go x m1)
  | skip {c n f r m R} : Gd m → c = 4 → m.st.getLast? = some 0 → Big r (popS m) R → Big (.blk1 c n f :: r) m R
  | in1n {c n f r m m1 m2 R} : Gd m → Ent c m m1 → Big f m1 (.nxt m2) → Big r m2 R → Big (.blk1 c n f :: r) m R
  | in1l {c n f r m m1 m2 R} : Gd m → c = 3 → Ent c m m1 → Big f m1 (.go n m2) → Big (.blk1 c n f :: r) m2 R → Big (.blk1 c n f :: r) m R
  | in1b {c n f r m m1 m2 R} : Gd m → c ≠ 3 → Ent c m m1 → Big f m1 (.go n m2) → Big r m2 R → Big (.blk1 c n f :: r) m R
  | in1g {c n f r m m1 m2 x} : Gd m → Ent c m m1 → Big f m1 (.go x m2) → x ≠ n → Big (.blk1 c n f :: r) m (.go x m2)
  | in1f {c n f r m m1 t} : Gd m → Ent c m m1 → Big f m1 (.full t) → Big (.blk1 c n f :: r) m (.full t)
  | in2n {c n f s r m m2 v R} : Gd m → c = 4 → m.st.getLast? = some v → Big (if v = 0 then s else f) (popS m) (.nxt m2) → Big r m2 R → Big (.blk2 c n f s :: r) m R
  | in2b {c n f s r m m2 v R} : Gd m → c = 4 → m.st.getLast? = some v → Big (if v = 0 then s else f) (popS m) (.go n m2) → Big r m2 R → Big (.blk2 c n f s :: r) m R
  | in2g {c n f s r m m2 v x} : Gd m → c = 4 → m.st.getLast? = some v → Big (if v = 0 then s else f) (popS m) (.go x m2) → x ≠ n → Big (.blk2 c n f s :: r) m (.go x m2)
  | in2f {c n f s r m v t} : Gd m → c = 4 → m.st.getLast? = some v → Big (if v = 0 then s else f) (popS m) (.full t) → Big (.blk2 c n f s :: r) m (.full t)
theorem Gd.pop {m : MS} (h : Gd m) : Gd (popS m) := ⟨h.1, by show m.st.dropLast.length ≤ 10; rw [List.length_dropLast]; have := h.2; omega⟩
theorem goN_gd {c : Int} {g : List Int} {m m1 : MS} {x : Option Int} (h : Gd m) (e : goN c g m = some (x, m1)) : Gd m1 := by
  unfold goN at e
  split at e
  · cases e1 : m.st.getLast? with
    | none => rw [e1] at e; cases e
    | some v =>
      rw [e1] at e
      simp only [Option.bind_some] at e
      split at e
      · cases e; exact h.pop
      · cases e
  · split at e
    · cases e; exact h
    · cases e1 : m.st.getLast? with
      | none => rw [e1] at e; cases e
      | some v =>
        rw [e1] at e
        simp only [Option.map_some, Option.some.injEq, Prod.mk.injEq] at e
        rw [← e.2]
        exact h.pop
theorem Big.gd {l : List Node} {m : MS} {R : Rs} (h : Big l m R) : (∀ m1, R = .nxt m1 → Gd m1) ∧ ∀ x m1, R = .go x m1 → Gd m1 := by
  induction h with
  | nil g => exact ⟨fun m1 e => (by cases e; exact g), fun _ _ e => by cases e⟩
  | op _ _ _ _ ih => exact ih
  | opF _ _ _ => exact ⟨fun _ e => (by cases e), fun _ _ e => by cases e⟩
  | brN _ _ _ ih => exact ih
  | brT g e => exact ⟨fun _ e => (by cases e), fun _ _ e2 => by cases e2; exact goN_gd g e⟩
  | skip _ _ _ _ ih => exact ih
  | in1n _ _ _ _ _ ih => exact ih
  | in1l _ _ _ _ _ _ ih => exact ih
  | in1b _ _ _ _ _ _ ih => exact ih
  | in1g _ _ _ _ ih => exact ⟨fun _ e => (by cases e), fun _ _ e => by cases e; exact ih.2 _ _ rfl⟩
  | in1f _ _ _ _ => exact ⟨fun _ e => (by cases e), fun _ _ e => by cases e⟩
  | in2n _ _ _ _ _ _ ih => exact ih
  | in2b _ _ _ _ _ _ ih => exact ih
  | in2g _ _ _ _ _ ih => exact ⟨fun _ e => (by cases e), fun _ _ e => by cases e; exact ih.2 _ _ rfl⟩
  | in2f _ _ _ _ _ => exact ⟨fun _ e => (by cases e), fun _ _ e => by cases e⟩
theorem goN_mem {c : Int} {g : List Int} {m m1 : MS} {x : Int} (e : goN c g m = some (some x, m1)) : x ∈ g := by
  unfold goN at e
  split at e
  · cases e1 : m.st.getLast? with
    | none => rw [e1] at e; cases e
    | some v =>
      rw [e1] at e
      simp only [Option.bind_some] at e
      split at e
      · simp only [Option.some.injEq, Prod.mk.injEq] at e
        exact List.mem_of_getElem? e.1
      · cases e
  · split at e
    · simp only [Option.some.injEq, Prod.mk.injEq] at e
      exact List.mem_of_getElem? e.1
    · cases e1 : m.st.getLast? with
      | none => rw [e1] at e; cases e
      | some v =>
        rw [e1] at e
        simp only [Option.map_some, Option.some.injEq, Prod.mk.injEq] at e
        have e2 := e.1
        split at e2
        · exact List.mem_of_getElem? e2
        · cases e2
theorem Big.goal {l : List Node} {m : MS} {R : Rs} (h : Big l m R) : ∀ x m1, R = .go x m1 → x ∈ goalsN l := by
  induction h with
  | nil g => exact fun _ _ e => by cases e
  | op _ _ _ _ ih => exact fun x m1 e => by simpa [goalsN_q0, goalsN_q1, goals1_q0, goals1_q1, goals1_q2, goals1_q3] using ih x m1 e
  | opF _ _ _ => exact fun _ _ e => by cases e
  | brN _ _ _ ih => exact fun x m1 e => by simp only [goalsN_q0, goalsN_q1, List.mem_append]; exact .inr (ih x m1 e)
  | brT g e => exact fun x m1 e2 => by cases e2; simp only [goalsN_q0, goalsN_q1, goals1_q0, goals1_q1, goals1_q2, goals1_q3, List.mem_append]; exact .inl (goN_mem e)
  | skip _ _ _ _ ih => exact fun x m1 e => by simp only [goalsN_q0, goalsN_q1, List.mem_append]; exact .inr (ih x m1 e)
  | in1n _ _ _ _ _ ih => exact fun x m1 e => by simp only [goalsN_q0, goalsN_q1, List.mem_append]; exact .inr (ih x m1 e)
  | in1l _ _ _ _ _ _ ih => exact ih
  | in1b _ _ _ _ _ _ ih => exact fun x m1 e => by simp only [goalsN_q0, goalsN_q1, List.mem_append]; exact .inr (ih x m1 e)
  | in1g _ _ _ _ ih => exact fun x m1 e => by cases e; simp only [goalsN_q0, goalsN_q1, goals1_q0, goals1_q1, goals1_q2, goals1_q3, List.mem_append]; exact .inl (ih _ _ rfl)
  | in1f _ _ _ _ => exact fun _ _ e => by cases e
  | in2n _ _ _ _ _ _ ih => exact fun x m1 e => by simp only [goalsN_q0, goalsN_q1, List.mem_append]; exact .inr (ih x m1 e)
  | in2b _ _ _ _ _ _ ih => exact fun x m1 e => by simp only [goalsN_q0, goalsN_q1, List.mem_append]; exact .inr (ih x m1 e)
  | in2g _ _ _ _ _ ih =>
      intro x m1 e
      cases e
      simp only [goalsN_q0, goalsN_q1, goals1_q0, goals1_q1, goals1_q2, goals1_q3, List.mem_append]
      have := ih _ _ rfl
      split at this
      · exact .inl (.inr this)
      · exact .inl (.inl this)
  | in2f _ _ _ _ _ => exact fun _ _ e => by cases e
/-- two lists, one behind the other -/
theorem Big.app {a : List Node} {m : MS} {R : Rs} (h : Big a m R) : ∀ b, match R with
    | .nxt m1 => ∀ R', Big b m1 R' → Big (a ++ b) m R'
    | .go x m1 => Big (a ++ b) m (.go x m1)
    | .full t => Big (a ++ b) m (.full t) := by
  induction h with
  | nil g => exact fun b R' h => h
  | @op p r m m1 R g d l h ih =>
    intro b
    have := ih b
    cases R with
    | nxt m1 => exact fun R' h => .op g d l (this R' h)
    | go x m1 => exact .op g d l this
    | full t => exact .op g d l this
  | opF g d l => exact fun b => .opF g d l
  | @brN c gs r m m1 R g e h ih =>
    intro b
    have := ih b
    cases R with
    | nxt m1 => exact fun R' h => .brN g e (this R' h)
    | go x m1 => exact .brN g e this
    | full t => exact .brN g e this
  | brT g e => exact fun b => .brT g e
  | @skip c n f r m R g e z h ih =>
    intro b
    have := ih b
    cases R with
    | nxt m1 => exact fun R' h => .skip g e z (this R' h)
    | go x m1 => exact .skip g e z this
    | full t => exact .skip g e z this
  | @in1n c n f r m m1 m2 R g e hf h _ ih =>
    intro b
    have := ih b
    cases R with
    | nxt m1 => exact fun R' h => .in1n g e hf (this R' h)
    | go x m1 => exact .in1n g e hf this
    | full t => exact .in1n g e hf this
  | @in1l c n f r m m1 m2 R g e3 e hf h _ ih =>
    intro b
    have := ih b
    cases R with
    | nxt m1 => exact fun R' h => .in1l g e3 e hf (this R' h)
    | go x m1 => exact .in1l g e3 e hf this
    | full t => exact .in1l g e3 e hf this
  | @in1b c n f r m m1 m2 R g e3 e hf h _ ih =>
    intro b
    have := ih b
    cases R with
    | nxt m1 => exact fun R' h => .in1b g e3 e hf (this R' h)
    | go x m1 => exact .in1b g e3 e hf this
    | full t => exact .in1b g e3 e hf this
  | in1g g e hf hx _ => exact fun b => .in1g g e hf hx
  | in1f g e hf _ => exact fun b => .in1f g e hf
  | @in2n c n f s r m m2 v R g e4 e hf h _ ih =>
    intro b
    have := ih b
    cases R with
    | nxt m1 => exact fun R' h => .in2n g e4 e hf (this R' h)
    | go x m1 => exact .in2n g e4 e hf this
    | full t => exact .in2n g e4 e hf this
  | @in2b c n f s r m m2 v R g e4 e hf h _ ih =>
    intro b
    have := ih b
    cases R with
    | nxt m1 => exact fun R' h => .in2b g e4 e hf (this R' h)
    | go x m1 => exact .in2b g e4 e hf this
    | full t => exact .in2b g e4 e hf this
  | in2g g e4 e hf hx _ => exact fun b => .in2g g e4 e hf hx
  | in2f g e4 e hf _ => exact fun b => .in2f g e4 e hf
theorem Big.nil_inv {m : MS} {R : Rs} (h : Big [] m R) : R = .nxt m := by cases h; rfl

/- NmLk -/
theorem Ent_ne {c : Int} {m m1 : MS} (h : Ent c m m1) (hc : c ≠ 4) : m1 = m := by
  unfold Ent at h
  rwa [if_neg hc] at h
theorem Ent_4 {m m1 : MS} (h : Ent 4 m m1) : m1 = popS m ∧ ∃ v, m.st.getLast? = some v ∧ v ≠ 0 := by
  unfold Ent at h
  rw [if_pos rfl] at h
  obtain ⟨v, h1, h2, h3⟩ := h
  exact ⟨h3, v, h1, h2⟩
theorem Big_drop {m : MS} {r : List Node} {R : Rs} {v : Int} (g : Gd m) (h1 : m.st.getLast? = some v) (h : Big r (popS m) R) : Big (.op [26] :: r) m R := by
  refine .op g (m1 := popS m) ?_ g.1 h
  have e : code [26] = 26 := rfl
  unfold doF
  rw [e, h1]
  rfl
/-- what asks the contrary -/
noncomputable def notS (v : Int) (m : MS) : MS := ⟨m.st.dropLast ++ [if v = 0 then 1 else 0], m.pl, m.to⟩
theorem notS_pop (v : Int) (m : MS) : popS (notS v m) = popS m := by simp [notS, popS]
theorem notS_gd {v : Int} {m : MS} (g : Gd m) (h1 : m.st.getLast? = some v) : Gd (notS v m) := by
  refine ⟨g.1, ?_⟩
  have : m.st ≠ [] := fun e => by rw [e] at h1; cases h1
  have := List.length_pos_iff.mpr this
  have := g.2
  show (m.st.dropLast ++ [_]).length ≤ 10
  rw [List.length_append, List.length_dropLast, List.length_singleton]
  omega
theorem Big_not {m : MS} {r : List Node} {R : Rs} {v : Int} (g : Gd m) (h1 : m.st.getLast? = some v) (h : Big r (notS v m) R) : Big (.op [69] :: r) m R := by
  refine .op g (m1 := notS v m) ?_ g.1 h
  have e : code [69] = 69 := rfl
  unfold doF
  rw [e, h1]
  rfl
theorem notS_last (v : Int) (m : MS) : (notS v m).st.getLast? = some (if v = 0 then 1 else 0) := by simp [notS]
theorem Ent_not {v : Int} {m : MS} (hv : v = 0) : Ent 4 (notS v m) (popS m) := by
  unfold Ent
  rw [if_pos rfl]
  exact ⟨1, by rw [notS_last, if_pos hv], by decide, (notS_pop v m).symm⟩
theorem Ent_pop {v : Int} {m : MS} (h1 : m.st.getLast? = some v) (hv : v ≠ 0) : Ent 4 m (popS m) := by
  unfold Ent
  rw [if_pos rfl]
  exact ⟨v, h1, hv, rfl⟩
/-- an if with an else, cut: the body that runs runs on -/
theorem Big_cut2 {f s r : List Node} {n v : Int} {m : MS} {R1 R : Rs} (g : Gd m) (h1 : m.st.getLast? = some v) (hb : Big (cutd (if v = 0 then s else f)) (popS m) R1)
    (hk : match R1 with
      | .nxt m2 => Big r m2 R
      | .go x m2 => if x = n then Big r m2 R else R = .go x m2
      | .full t => R = .full t) : Big (cutd1 (.blk2 4 n f s) ++ r) m R := by
  have one : ∀ (m' : MS) (b : List Node), Gd m' → Ent 4 m' (popS m) → Big b (popS m) R1 → Big (.blk1 4 n b :: r) m' R := by
    intro m' b g' e' hb'
    cases R1 with
    | nxt m2 => exact .in1n g' e' hb' hk
    | go x m2 =>
      simp only at hk
      by_cases hx : x = n
      · rw [if_pos hx] at hk
        subst hx
        exact .in1b g' (by decide) e' hb' hk
      · rw [if_neg hx] at hk
        subst hk
        exact .in1g g' e' hb' hx
    | full t =>
      simp only at hk
      subst hk
      exact .in1f g' e' hb'
  have empty : ∀ b : List Node, b = [] → Big b (popS m) R1 → Big r (popS m) R := by
    intro b e hb'
    subst e
    have := hb'.nil_inv
    subst this
    exact hk
  simp only [cutd1_q0, cutd1_q1, cutd1_q2, cutd1_q3]
  by_cases hv : v = 0
  · rw [if_pos hv] at hb
    by_cases es : cutd s = []
    · rw [if_pos es]
      have hr := empty _ es hb
      by_cases ef : cutd f = []
      · rw [if_pos ef]
        exact Big_drop g h1 hr
      · rw [if_neg ef]
        exact .skip g rfl (by rw [h1, hv]) hr
    · rw [if_neg es]
      by_cases ef : cutd f = []
      · rw [if_pos ef]
        exact Big_not g h1 (one _ _ (notS_gd g h1) (Ent_not hv) hb)
      · rw [if_neg ef]
        have hb2 : Big (if v = 0 then cutd s else cutd f) (popS m) R1 := by rw [if_pos hv]; exact hb
        cases R1 with
        | nxt m2 => exact .in2n g rfl h1 hb2 hk
        | go x m2 =>
          simp only at hk
          by_cases hx : x = n
          · rw [if_pos hx] at hk
            subst hx
            exact .in2b g rfl h1 hb2 hk
          · rw [if_neg hx] at hk
            subst hk
            exact .in2g g rfl h1 hb2 hx
        | full t =>
          simp only at hk
          subst hk
          exact .in2f g rfl h1 hb2
  · rw [if_neg hv] at hb
    by_cases es : cutd s = []
    · rw [if_pos es]
      by_cases ef : cutd f = []
      · rw [if_pos ef]
        exact Big_drop g h1 (empty _ ef hb)
      · rw [if_neg ef]
        exact one _ _ g (Ent_pop h1 hv) hb
    · rw [if_neg es]
      by_cases ef : cutd f = []
      · rw [if_pos ef]
        have hr := empty _ ef hb
        refine Big_not g h1 (.skip (notS_gd g h1) rfl ?_ ?_)
        · rw [notS_last, if_neg hv]
        · rw [notS_pop]; exact hr
      · rw [if_neg ef]
        have hb2 : Big (if v = 0 then cutd s else cutd f) (popS m) R1 := by rw [if_neg hv]; exact hb
        cases R1 with
        | nxt m2 => exact .in2n g rfl h1 hb2 hk
        | go x m2 =>
          simp only at hk
          by_cases hx : x = n
          · rw [if_pos hx] at hk
            subst hx
            exact .in2b g rfl h1 hb2 hk
          · rw [if_neg hx] at hk
            subst hk
            exact .in2g g rfl h1 hb2 hx
        | full t =>
          simp only at hk
          subst hk
          exact .in2f g rfl h1 hb2
theorem WN_if {o : List Int} {f s : List Node} {v : Int} (hf : WN o f) (hs : WN o s) : WN o (if v = 0 then s else f) := by
  split
  · exact hs
  · exact hf
theorem big_cut {l : List Node} {m : MS} {R : Rs} (h : Big l m R) : ∀ o, WN o l → Big (cutd l) m R := by
  induction h with
  | nil g => exact fun o w => .nil g
  | @op p r m m1 R g d l h ih =>
    intro o w
    have ih := ih o w.2
    simp only [cutd_q0, cutd_q1, cutd1_q0, cutd1_q1, cutd1_q2, cutd1_q3]
    by_cases hp : code p = 1
    · have := w.1.2.2.2 hp
      subst this
      rw [if_neg (fun e => e rfl)]
      cases d
      exact ih
    · rw [if_pos hp]
      exact .op g d l ih
  | @opF p r m m1 g d l =>
    intro o w
    simp only [cutd_q0, cutd_q1, cutd1_q0, cutd1_q1, cutd1_q2, cutd1_q3]
    by_cases hp : code p = 1
    · have := w.1.2.2.2 hp
      subst this
      cases d
      exact absurd g.1 l
    · rw [if_pos hp]
      exact .opF g d l
  | brN g e h ih => exact fun o w => .brN g e (ih o w.2)
  | brT g e => exact fun o w => .brT g e
  | @skip c n f r m R g e z h ih =>
    intro o w
    have ih := ih o w.2
    simp only [cutd_q0, cutd_q1, cutd1_q0, cutd1_q1, cutd1_q2, cutd1_q3]
    by_cases hf : cutd f = []
    · rw [if_pos hf, if_pos e]
      exact Big_drop g z ih
    · rw [if_neg hf]
      exact .skip g e z ih
  | @in1n c n f r m m1 m2 R g e _ _ ihf ih =>
    intro o w
    have ihf := ihf _ w.1.2.2
    have ih := ih o w.2
    simp only [cutd_q0, cutd_q1, cutd1_q0, cutd1_q1, cutd1_q2, cutd1_q3]
    by_cases hf : cutd f = []
    · rw [if_pos hf]
      rw [hf] at ihf
      have := ihf.nil_inv
      cases this
      by_cases hc : c = 4
      · rw [if_pos hc]
        subst hc
        obtain ⟨rfl, v, hv, _⟩ := Ent_4 e
        exact Big_drop g hv ih
      · rw [if_neg hc]
        rw [Ent_ne e hc] at ih
        exact ih
    · rw [if_neg hf]
      exact .in1n g e ihf ih
  | @in1l c n f r m m1 m2 R g e3 e _ _ ihf ih =>
    intro o w
    have ihf := ihf _ w.1.2.2
    have ih := ih o w
    simp only [cutd_q0, cutd_q1, cutd1_q0, cutd1_q1, cutd1_q2, cutd1_q3] at ih ⊢
    by_cases hf : cutd f = []
    · rw [hf] at ihf
      have := ihf.nil_inv
      cases this
    · rw [if_neg hf] at ih ⊢
      exact .in1l g e3 e ihf ih
  | @in1b c n f r m m1 m2 R g e3 e _ _ ihf ih =>
    intro o w
    have ihf := ihf _ w.1.2.2
    have ih := ih o w.2
    simp only [cutd_q0, cutd_q1, cutd1_q0, cutd1_q1, cutd1_q2, cutd1_q3] at ih ⊢
    by_cases hf : cutd f = []
    · rw [hf] at ihf
      have := ihf.nil_inv
      cases this
    · rw [if_neg hf]
      exact .in1b g e3 e ihf ih
  | @in1g c n f r m m1 m2 x g e _ hx ihf =>
    intro o w
    have ihf := ihf _ w.1.2.2
    simp only [cutd_q0, cutd_q1, cutd1_q0, cutd1_q1, cutd1_q2, cutd1_q3]
    by_cases hf : cutd f = []
    · rw [hf] at ihf
      have := ihf.nil_inv
      cases this
    · rw [if_neg hf]
      exact .in1g g e ihf hx
  | @in1f c n f r m m1 t g e _ ihf =>
    intro o w
    have ihf := ihf _ w.1.2.2
    simp only [cutd_q0, cutd_q1, cutd1_q0, cutd1_q1, cutd1_q2, cutd1_q3]
    by_cases hf : cutd f = []
    · rw [hf] at ihf
      have := ihf.nil_inv
      cases this
    · rw [if_neg hf]
      exact .in1f g e ihf
  | in2n g e4 hv _ _ ihf ih =>
    intro o w
    subst e4
    exact Big_cut2 g hv (ihf _ (WN_if w.1.2.2.1 w.1.2.2.2)) (ih o w.2)
  | in2b g e4 hv _ _ ihf ih =>
    intro o w
    subst e4
    exact Big_cut2 g hv (ihf _ (WN_if w.1.2.2.1 w.1.2.2.2)) (by simp only [if_true]; exact ih o w.2)
  | in2g g e4 hv _ hx ihf =>
    intro o w
    subst e4
    exact Big_cut2 g hv (ihf _ (WN_if w.1.2.2.1 w.1.2.2.2)) (by simp only; rw [if_neg hx]; trivial)
  | in2f g e4 hv _ ihf =>
    intro o w
    subst e4
    exact Big_cut2 g hv (ihf _ (WN_if w.1.2.2.1 w.1.2.2.2)) rfl
theorem goals_if {M : List Int} {f s : List Node} {v : Int} (h : ∀ y, (y ∈ goalsN f ∨ y ∈ goalsN s) → y ∈ M) : ∀ y ∈ goalsN (if v = 0 then s else f), y ∈ M := by
  intro y
  split
  · exact fun hy => h y (.inr hy)
  · exact fun hy => h y (.inl hy)
theorem open_if {M : List Int} {f s : List Node} {v : Int} : openN M (if v = 0 then s else f) = if v = 0 then openN M s else openN M f := by
  split <;> rfl
theorem big_open {M : List Int} {l : List Node} {m : MS} {R : Rs} (h : Big l m R) : ∀ o, WN o l → (∀ y ∈ goalsN l, y ∈ M) → Big (openN M l) m R := by
  induction h with
  | nil g => exact fun o w k => .nil g
  | op g d l h ih =>
    intro o w k
    simp only [goalsN_q0, goalsN_q1, List.mem_append] at k
    exact .op g d l (ih o w.2 fun y hy => k y (.inr hy))
  | opF g d l => exact fun o w k => .opF g d l
  | brN g e h ih =>
    intro o w k
    simp only [goalsN_q0, goalsN_q1, List.mem_append] at k
    exact .brN g e (ih o w.2 fun y hy => k y (.inr hy))
  | brT g e => exact fun o w k => .brT g e
  | @skip c n f r m R g e z h ih =>
    intro o w k
    simp only [goalsN_q0, goalsN_q1, List.mem_append] at k
    have ih := ih o w.2 fun y hy => k y (.inr hy)
    simp only [openN_q0, openN_q1, open1_q0, open1_q1, open1_q2, open1_q3]
    rw [if_neg (fun x => by omega)]
    exact .skip g e z ih
  | @in1n c n f r m m1 m2 R g e hb _ ihf ih =>
    intro o w k
    simp only [goalsN_q0, goalsN_q1, goals1_q0, goals1_q1, goals1_q2, goals1_q3, List.mem_append] at k
    have ih := ih o w.2 fun y hy => k y (.inr hy)
    have ihf := ihf _ w.1.2.2 fun y hy => k y (.inl hy)
    simp only [openN_q0, openN_q1, open1_q0, open1_q1, open1_q2, open1_q3]
    split
    · rename_i hc
      have em := Ent_ne e (by omega)
      subst em
      exact (ihf.app (openN M r)) R ih
    · exact .in1n g e ihf ih
  | @in1l c n f r m m1 m2 R g e3 e hb _ ihf ih =>
    intro o w k
    have ih := ih o w k
    simp only [goalsN_q0, goalsN_q1, goals1_q0, goals1_q1, goals1_q2, goals1_q3, List.mem_append] at k
    have ihf := ihf _ w.1.2.2 fun y hy => k y (.inl hy)
    have hn : n ∈ M := k n (.inl (hb.goal n m2 rfl))
    simp only [openN_q0, openN_q1, open1_q0, open1_q1, open1_q2, open1_q3] at ih ⊢
    rw [if_neg (fun x => x.2 hn)] at ih ⊢
    exact .in1l g e3 e ihf ih
  | @in1b c n f r m m1 m2 R g e3 e hb _ ihf ih =>
    intro o w k
    simp only [goalsN_q0, goalsN_q1, goals1_q0, goals1_q1, goals1_q2, goals1_q3, List.mem_append] at k
    have ih := ih o w.2 fun y hy => k y (.inr hy)
    have ihf := ihf _ w.1.2.2 fun y hy => k y (.inl hy)
    have hn : n ∈ M := k n (.inl (hb.goal n m2 rfl))
    simp only [openN_q0, openN_q1, open1_q0, open1_q1, open1_q2, open1_q3]
    rw [if_neg (fun x => x.2 hn)]
    exact .in1b g e3 e ihf ih
  | @in1g c n f r m m1 m2 x g e hb hx ihf =>
    intro o w k
    simp only [goalsN_q0, goalsN_q1, goals1_q0, goals1_q1, goals1_q2, goals1_q3, List.mem_append] at k
    have ihf := ihf _ w.1.2.2 fun y hy => k y (.inl hy)
    simp only [openN_q0, openN_q1, open1_q0, open1_q1, open1_q2, open1_q3]
    split
    · rename_i hc
      have em := Ent_ne e (by omega)
      subst em
      exact ihf.app (openN M r)
    · exact .in1g g e ihf hx
  | @in1f c n f r m m1 t g e hb ihf =>
    intro o w k
    simp only [goalsN_q0, goalsN_q1, goals1_q0, goals1_q1, goals1_q2, goals1_q3, List.mem_append] at k
    have ihf := ihf _ w.1.2.2 fun y hy => k y (.inl hy)
    simp only [openN_q0, openN_q1, open1_q0, open1_q1, open1_q2, open1_q3]
    split
    · rename_i hc
      have em := Ent_ne e (by omega)
      subst em
      exact ihf.app (openN M r)
    · exact .in1f g e ihf
  | @in2n c n f s r m m2 v R g e4 hv hb _ ihf ih =>
    intro o w k
    simp only [goalsN_q0, goalsN_q1, goals1_q0, goals1_q1, goals1_q2, goals1_q3, List.mem_append] at k
    have ih := ih o w.2 fun y hy => k y (.inr hy)
    have ihf := ihf _ (WN_if w.1.2.2.1 w.1.2.2.2) (goals_if fun y hy => k y (.inl hy))
    rw [open_if] at ihf
    simp only [openN_q0, openN_q1, open1_q0, open1_q1, open1_q2, open1_q3]
    rw [if_neg (fun x => by omega)]
    exact .in2n g e4 hv ihf ih
  | @in2b c n f s r m m2 v R g e4 hv hb _ ihf ih =>
    intro o w k
    simp only [goalsN_q0, goalsN_q1, goals1_q0, goals1_q1, goals1_q2, goals1_q3, List.mem_append] at k
    have ih := ih o w.2 fun y hy => k y (.inr hy)
    have ihf := ihf _ (WN_if w.1.2.2.1 w.1.2.2.2) (goals_if fun y hy => k y (.inl hy))
    rw [open_if] at ihf
    simp only [openN_q0, openN_q1, open1_q0, open1_q1, open1_q2, open1_q3]
    rw [if_neg (fun x => by omega)]
    exact .in2b g e4 hv ihf ih
  | @in2g c n f s r m m2 v x g e4 hv hb hx ihf =>
    intro o w k
    simp only [goalsN_q0, goalsN_q1, goals1_q0, goals1_q1, goals1_q2, goals1_q3, List.mem_append] at k
    have ihf := ihf _ (WN_if w.1.2.2.1 w.1.2.2.2) (goals_if fun y hy => k y (.inl hy))
    rw [open_if] at ihf
    simp only [openN_q0, openN_q1, open1_q0, open1_q1, open1_q2, open1_q3]
    rw [if_neg (fun x => by omega)]
    exact .in2g g e4 hv ihf hx
  | @in2f c n f s r m v t g e4 hv hb ihf =>
    intro o w k
    simp only [goalsN_q0, goalsN_q1, goals1_q0, goals1_q1, goals1_q2, goals1_q3, List.mem_append] at k
    have ihf := ihf _ (WN_if w.1.2.2.1 w.1.2.2.2) (goals_if fun y hy => k y (.inl hy))
    rw [open_if] at ihf
    simp only [openN_q0, openN_q1, open1_q0, open1_q1, open1_q2, open1_q3]
    rw [if_neg (fun x => by omega)]
    exact .in2f g e4 hv ihf

/- NmLl -/
noncomputable def Goes (B : List Tk) (m : MS) (lb : List Nat) (n : Nat) (t : List Int) : Prop := ∃ k, RunsTo B k m lb n t
noncomputable def landB (B : List Tk) (n : Nat) : Option Nat := if code (B.getD n []) = 3 then some n else (behF false 0 (B.drop (n + 1))).map fun k => n + 1 + k
/-- what a branch to a name comes to -/
noncomputable def JumpTo (B : List Tk) (o : List Int) (lb : List Nat) (x : Int) (m : MS) (t : List Int) : Prop :=
  ∃ j, o[j]? = some x ∧ (j = 0 ∧ t = m.to ∨ ∃ j' n n3, j = j' + 1 ∧ lb[j']? = some n ∧ landB B n = some n3 ∧ Goes B m (lb.take j') n3 t)
theorem behF_skip {e : Bool} {d : Nat} {t : Tk} {r : List Tk} (h : ¬ (d = 0 ∧ (code t = 11 ∨ (e = true ∧ code t = 5)))) :
    behF e d (t :: r) = (behF e (if 2 ≤ code t ∧ code t ≤ 4 then d + 1 else if code t = 11 then d - 1 else d) r).map (· + 1) := by
  rw [behF, if_neg h]
theorem map_mapn (x : Option Nat) (a b : Nat) : (x.map (· + a)).map (· + b) = x.map (· + (b + a)) := by
  cases x <;> simp; exact Nat.le_antisymm (lq0 [_, _, _] 1 (.a (.a (.v 0) (.v 1)) (.v 2)) (.a (.v 0) (.a (.v 2) (.v 1))) rfl ) (lq0 [_, _, _] 1 (.a (.v 0) (.a (.v 1) (.v 2))) (.a (.a (.v 0) (.v 2)) (.v 1)) rfl )
mutual
theorem behF_flat1 {e : Bool} : ∀ (x : Node) (o : List Int), WN1 o x → ∀ d r, behF e d (flat1 o x ++ r) = (behF e d r).map (· + (flat1 o x).length)
  | .op p, o, h, d, r => by
    have := h.2.1
    simp only [flat1_q0, flat1_q1, flat1_q2, flat1_q3, List.singleton_append, List.length_singleton]
    rw [behF_skip (by lia), if_neg (by lia), if_neg (by lia)]
  | .br c g, o, h, d, r => by
    have := h.1
    have e : code (c :: g.map fun x => ((o.reverse.idxOf x : Nat) : Int)) = c := rfl
    simp only [flat1_q0, flat1_q1, flat1_q2, flat1_q3, List.singleton_append, List.length_singleton]
    rw [behF_skip (by rw [e]; lia), e, if_neg (by lia), if_neg (by lia)]
  | .blk1 c n f, o, h, d, r => by
    have := h.1
    have e : code [c, -64] = c := rfl
    have e11 : code [11] = 11 := rfl
    have hf := behF_flat (e := ‹Bool›) f (o ++ [n]) h.2.2
    simp only [flat1_q0, flat1_q1, flat1_q2, flat1_q3, List.nil_append, List.cons_append, List.append_assoc, List.length_cons, List.length_append, List.length_nil]
    rw [behF_skip (by rw [e]; lia), e, if_pos (by lia), hf, behF_skip (by lia), e11, if_neg (by decide), if_pos rfl, Nat.add_sub_cancel]
    simp only [map_mapn]
    congr 1
    funext k
    exact Nat.le_antisymm (lq0 [_, _] 1 (.a (.v 0) (.a (.n 1) (.a (.v 1) (.n 1)))) (.a (.v 0) (.a (.a (.v 1) (.a (.n 0) (.n 1))) (.n 1))) rfl ) (lq0 [_, _] 1 (.a (.v 0) (.a (.a (.v 1) (.a (.n 0) (.n 1))) (.n 1))) (.a (.v 0) (.a (.n 1) (.a (.v 1) (.n 1)))) rfl )
  | .blk2 c n f s, o, h, d, r => by
    have := h.1
    have e : code [c, -64] = c := rfl
    have e11 : code [11] = 11 := rfl
    have e5 : code [5] = 5 := rfl
    have hf := behF_flat (e := ‹Bool›) f (o ++ [n]) h.2.2.1
    have hs := behF_flat (e := ‹Bool›) s (o ++ [n]) h.2.2.2
    simp only [flat1_q0, flat1_q1, flat1_q2, flat1_q3, List.nil_append, List.cons_append, List.append_assoc, List.length_cons, List.length_append, List.length_nil]
    rw [behF_skip (by rw [e]; lia), e, if_pos (by lia), hf, behF_skip (by lia), e5, if_neg (by decide), if_neg (by decide), hs, behF_skip (by lia), e11, if_neg (by decide), if_pos rfl, Nat.add_sub_cancel]
    simp only [map_mapn]
    congr 1
    funext k
    exact Nat.le_antisymm (lq0 [_, _, _] 1 (.a (.v 0) (.a (.n 1) (.a (.v 1) (.a (.n 1) (.a (.v 2) (.n 1)))))) (.a (.v 0) (.a (.a (.v 1) (.a (.a (.v 2) (.a (.n 0) (.n 1))) (.n 1))) (.n 1))) rfl ) (lq0 [_, _, _] 1 (.a (.v 0) (.a (.a (.v 1) (.a (.a (.v 2) (.a (.n 0) (.n 1))) (.n 1))) (.n 1))) (.a (.v 0) (.a (.n 1) (.a (.v 1) (.a (.n 1) (.a (.v 2) (.n 1)))))) rfl )
theorem behF_flat {e : Bool} : ∀ (l : List Node) (o : List Int), WN o l → ∀ d r, behF e d (flatN o l ++ r) = (behF e d r).map (· + (flatN o l).length)
  | [], o, h, d, r => by simp [flatN_q0, flatN_q1]
  | x :: l, o, h, d, r => by
    simp only [flatN_q0, flatN_q1, List.append_assoc, List.length_append]
    rw [behF_flat1 x o h.1, behF_flat l o h.2, map_mapn]
end
theorem beh_end {e : Bool} {o : List Int} {l : List Node} (h : WN o l) (r : List Tk) : behF e 0 (flatN o l ++ [11] :: r) = some ((flatN o l).length + 1) := by
  rw [behF_flat l o h]
  have : behF e 0 ([11] :: r) = some 1 := by rw [behF, if_pos ⟨rfl, .inl rfl⟩]
  rw [this]
  simp only [Option.map_some, Option.some.injEq]
  exact Nat.le_antisymm (lq0 [_] 1 (.a (.n 1) (.v 0)) (.a (.v 0) (.n 1)) rfl ) (lq0 [_] 1 (.a (.v 0) (.n 1)) (.a (.n 1) (.v 0)) rfl )
theorem beh_else {o : List Int} {l : List Node} (h : WN o l) (r : List Tk) : behF true 0 (flatN o l ++ [5] :: r) = some ((flatN o l).length + 1) := by
  rw [behF_flat l o h]
  have : behF true 0 ([5] :: r) = some 1 := by rw [behF, if_pos ⟨rfl, .inr ⟨rfl, rfl⟩⟩]
  rw [this]
  simp only [Option.map_some, Option.some.injEq]
  exact Nat.le_antisymm (lq0 [_] 1 (.a (.n 1) (.v 0)) (.a (.v 0) (.n 1)) rfl ) (lq0 [_] 1 (.a (.v 0) (.n 1)) (.a (.n 1) (.v 0)) rfl )
theorem beh_both {o : List Int} {f s : List Node} (h : WN o f) (k : WN o s) (r : List Tk) : behF false 0 (flatN o f ++ [5] :: (flatN o s ++ [11] :: r)) = some ((flatN o f).length + 1 + (flatN o s).length + 1) := by
  have e5 : code [5] = 5 := rfl
  rw [behF_flat f o h, behF_skip (by rw [e5]; decide), e5, if_neg (by decide), if_neg (by decide), beh_end k]
  simp only [Option.map_some, Option.some.injEq]
  exact Nat.le_antisymm (lq0 [_, _] 1 (.a (.a (.a (.v 0) (.n 1)) (.n 1)) (.v 1)) (.a (.a (.a (.v 1) (.n 1)) (.v 0)) (.n 1)) rfl ) (lq0 [_, _] 1 (.a (.a (.a (.v 0) (.n 1)) (.v 1)) (.n 1)) (.a (.a (.a (.v 1) (.n 1)) (.n 1)) (.v 0)) rfl )
theorem at_tok (pre : List Tk) (p : Tk) (r : List Tk) : (pre ++ p :: r)[pre.length]? = some p := by simp
theorem drop_tok (pre : List Tk) (p : Tk) (r : List Tk) : (pre ++ p :: r).drop (pre.length + 1) = r := by
  have : pre ++ p :: r = (pre ++ [p]) ++ r := by simp
  rw [this]
  have h : (pre ++ [p]).length = pre.length + 1 := by simp
  rw [← h, List.drop_left]
theorem getD_tok (pre : List Tk) (p : Tk) (r : List Tk) : (pre ++ p :: r).getD pre.length [] = p := by
  rw [List.getD_eq_getElem?_getD, at_tok]; rfl
section
variable {B pre r : List Tk} {m m1 : MS} {lb lb2 : List Nat} {t : List Int} {o : List Int}
theorem st_op {p : Tk} (hB : B = pre ++ p :: r) (h1 : code p ≠ 2 ∧ code p ≠ 3 ∧ code p ≠ 4 ∧ code p ≠ 5 ∧ code p ≠ 11) (h2 : code p ≠ 12 ∧ code p ≠ 13 ∧ code p ≠ 14) (g : Gd m) (hl : lb.length ≤ 900) (d : doF p m = some m1) (h : Goes B m1 lb (pre.length + 1) t) : Goes B m lb pre.length t := by
  obtain ⟨k, h⟩ := h
  refine ⟨k + 1, .go (p := p) (m1 := m1) (n2 := pre.length + 1) (st2 := m1.st) (st3 := m1.st) (lb2 := lb) (g := -1) g.1 (by rw [hB, at_tok]) (by have := g.2; exact lq1 [_] (.le 1 (.v 0) (.n 10)) 1 (.v 0) (.n 1000) rfl this) (lq1 [_] (.le 1 (.v 0) (.n 900)) 1 (.v 0) (.n 1000) rfl hl) d ?_ ?_ (by decide) ?_⟩
  · unfold jumpF lblF
    rw [if_neg (by lia), if_neg (by lia), if_neg (by lia)]
  · unfold goalF
    rw [if_neg (by lia), if_neg (by lia), if_neg (by lia)]
  · rw [if_neg (by lia)]
    exact h
theorem doF_none {p : Tk} (h : code p ≠ 32 ∧ code p ≠ 33 ∧ code p ≠ 65 ∧ code p ≠ 69 ∧ code p ≠ 26 ∧ code p ≠ 16) : doF p m = some m := by
  unfold doF
  rw [if_neg (by lia), if_neg (by lia), if_neg (by lia), if_neg (by lia), if_neg (by lia), if_neg (by lia)]
theorem goalF_none {p : Tk} (st : List Int) (h : code p ≠ 12 ∧ code p ≠ 13 ∧ code p ≠ 14) : goalF p st = some (-1, st) := by
  unfold goalF
  rw [if_neg (by lia), if_neg (by lia), if_neg (by lia)]
theorem st_end (hB : B = pre ++ [11] :: r) (g : Gd m) (hl : lb.length ≤ 900) (h : Goes B m lb.dropLast (pre.length + 1) t) : Goes B m lb pre.length t := by
  obtain ⟨k, h⟩ := h
  have e : code [11] = 11 := rfl
  refine ⟨k + 1, .go (p := [11]) (m1 := m) (n2 := pre.length + 1) (st2 := m.st) (st3 := m.st) (lb2 := lb) (g := -1) g.1 (by rw [hB, at_tok]) (by have := g.2; exact lq1 [_] (.le 1 (.v 0) (.n 10)) 1 (.v 0) (.n 1000) rfl this) (lq1 [_] (.le 1 (.v 0) (.n 900)) 1 (.v 0) (.n 1000) rfl hl) (doF_none (by rw [e]; decide)) ?_ (goalF_none _ (by rw [e]; decide)) (by decide) ?_⟩
  · unfold jumpF lblF
    rw [e, if_neg (by decide), if_neg (by decide), if_neg (by decide)]
  · rw [if_pos e]
    exact h
theorem st_else {s : List Node} (hB : B = pre ++ [5] :: (flatN o s ++ [11] :: r)) (w : WN o s) (g : Gd m) (hl : lb.length ≤ 900) (h : Goes B m lb.dropLast (pre.length + 1 + (flatN o s).length + 1) t) : Goes B m lb pre.length t := by
  obtain ⟨k, h⟩ := h
  have e : code [5] = 5 := rfl
  refine ⟨k + 1, .go (p := [5]) (m1 := m) (n2 := pre.length + 1 + (flatN o s).length + 1) (st2 := m.st) (st3 := m.st) (lb2 := lb.dropLast) (g := -1) g.1 (by rw [hB, at_tok]) (by have := g.2; exact lq1 [_] (.le 1 (.v 0) (.n 10)) 1 (.v 0) (.n 1000) rfl this) (lq1 [_] (.le 1 (.v 0) (.n 900)) 1 (.v 0) (.n 1000) rfl hl) (doF_none (by rw [e]; decide)) ?_ (goalF_none _ (by rw [e]; decide)) (by decide) ?_⟩
  · have h2 : B.getD (pre.length + 1 + ((flatN o s).length + 1) - 1) [] = [11] := by
      have : B = (pre ++ [5] :: flatN o s) ++ [11] :: r := by rw [hB]; simp
      rw [this]
      have hl2 : pre.length + 1 + ((flatN o s).length + 1) - 1 = (pre ++ [5] :: flatN o s).length := by simp; exact Nat.le_antisymm (lq0 [_, _] 1 (.a (.a (.v 0) (.n 1)) (.v 1)) (.a (.v 0) (.a (.v 1) (.n 1))) rfl ) (lq0 [_, _] 1 (.a (.v 0) (.a (.v 1) (.n 1))) (.a (.a (.v 0) (.n 1)) (.v 1)) rfl )
      rw [hl2, getD_tok]
    unfold jumpF lblF
    rw [e, if_pos rfl, if_neg (by decide)]
    unfold landF
    have hd : B.drop (pre.length + 1) = flatN o s ++ [11] :: r := by rw [hB, drop_tok]
    rw [hd, beh_end w]
    simp only [Option.map_some, h2]
    rfl
  · rw [if_neg (by rw [e]; decide)]
    exact h
theorem st_in {c : Int} (hB : B = pre ++ [c, -64] :: r) (hc : c = 2 ∨ c = 3 ∨ c = 4) (en : Ent c m m1) (g : Gd m) (hl : lb.length ≤ 900) (h : Goes B m1 (lb ++ [pre.length]) (pre.length + 1) t) : Goes B m lb pre.length t := by
  obtain ⟨k, h⟩ := h
  have e : code [c, -64] = c := rfl
  refine ⟨k + 1, .go (p := [c, -64]) (m1 := m) (n2 := pre.length + 1) (st2 := m1.st) (st3 := m1.st) (lb2 := lb ++ [pre.length]) (g := -1) g.1 (by rw [hB, at_tok]) (by have := g.2; exact lq1 [_] (.le 1 (.v 0) (.n 10)) 1 (.v 0) (.n 1000) rfl this) (lq1 [_] (.le 1 (.v 0) (.n 900)) 1 (.v 0) (.n 1000) rfl hl) (doF_none (by rw [e]; lia)) ?_ (goalF_none _ (by rw [e]; lia)) (by decide) ?_⟩
  · unfold jumpF lblF
    rw [e, if_pos (show 2 ≤ c ∧ c ≤ 4 by lia), if_neg (show ¬ c = 5 by lia)]
    by_cases h4 : c = 4
    · subst h4
      obtain ⟨rfl, v, hv, hv0⟩ := Ent_4 en
      rw [if_pos rfl, hv]
      simp only [Option.bind_some, if_neg hv0]
      rfl
    · rw [if_neg h4, Ent_ne en h4]
  · rw [if_neg (by rw [e]; lia)]
    have : (⟨m1.st, m.pl, m.to⟩ : MS) = m1 := by
      by_cases h4 : c = 4
      · subst h4
        obtain ⟨rfl, _⟩ := Ent_4 en
        rfl
      · rw [Ent_ne en h4]
    rw [this]
    exact h
theorem st_no {n2 : Nat} (hB : B = pre ++ [4, -64] :: r) (hv : m.st.getLast? = some 0) (g : Gd m) (hl : lb.length ≤ 900) (hf : landF B true (pre.length + 1) (lb ++ [pre.length]) = some (n2, lb2)) (h : Goes B (popS m) lb2 n2 t) : Goes B m lb pre.length t := by
  obtain ⟨k, h⟩ := h
  have e : code [4, -64] = 4 := rfl
  refine ⟨k + 1, .go (p := [4, -64]) (m1 := m) (n2 := n2) (st2 := m.st.dropLast) (st3 := m.st.dropLast) (lb2 := lb2) (g := -1) g.1 (by rw [hB, at_tok]) (by have := g.2; exact lq1 [_] (.le 1 (.v 0) (.n 10)) 1 (.v 0) (.n 1000) rfl this) (lq1 [_] (.le 1 (.v 0) (.n 900)) 1 (.v 0) (.n 1000) rfl hl) (doF_none (by rw [e]; lia)) ?_ (goalF_none _ (by rw [e]; lia)) (by decide) ?_⟩
  · unfold jumpF lblF
    rw [e, if_pos (show (2:Int) ≤ 4 ∧ (4:Int) ≤ 4 by decide), if_neg (show ¬ (4:Int) = 5 by decide), if_pos rfl, hv]
    simp only [Option.bind_some, if_true, hf, Option.map_some]
  · rw [if_neg (by rw [e]; lia)]
    exact h
end

/- NmLm -/
noncomputable def labO (o : List Int) : Option Int → Int
  | none => -1
  | some x => lab o x
theorem br_len (c : Int) (g o : List Int) : (c :: g.map (lab o)).length = g.length + 1 := by simp
theorem br_get (c : Int) {g : List Int} (o : List Int) {i : Nat} {x : Int} (h : g[i]? = some x) : (c :: g.map (lab o)).getD (i + 1) 0 = lab o x := by
  rw [List.getD_eq_getElem?_getD, List.getElem?_cons_succ, List.getElem?_map, h]
  rfl
theorem get_some {g : List Int} {i : Nat} (h : i < g.length) : ∃ x, g[i]? = some x := ⟨_, List.getElem?_eq_getElem h⟩
theorem goN_goalF {c : Int} {g o : List Int} {m m1 : MS} {x : Option Int} (hc : c = 12 ∨ c = 13 ∨ c = 14) (hg : g ≠ []) (h : goN c g m = some (x, m1)) :
    goalF (c :: g.map (lab o)) m.st = some (labO o x, m1.st) ∧ m1.pl = m.pl ∧ m1.to = m.to := by
  have hpos := List.length_pos_iff.mpr hg
  have e : code (c :: g.map (lab o)) = c := rfl
  obtain ⟨y, hy⟩ := get_some hpos
  have ha : arg (c :: g.map (lab o)) = lab o y := br_get c o hy
  unfold goN at h
  unfold goalF
  rw [e, br_len, ha]
  by_cases h14 : c = 14
  · rw [if_pos h14] at h ⊢
    cases e1 : m.st.getLast? with
    | none => rw [e1] at h; cases h
    | some v =>
      rw [e1] at h
      simp only [Option.bind_some] at h ⊢
      by_cases hv : 0 ≤ v
      · rw [if_pos hv] at h
        rw [if_pos ⟨hv, (lq1 [_] (.le 1 (.a (.n 0) (.n 1)) (.v 0)) 1 (.n 2) (.a (.v 0) (.n 1)) rfl hpos)⟩]
        obtain ⟨z, hz⟩ := get_some (g := g) (i := min v.toNat (g.length - 1)) (minlt hpos)
        rw [hz] at h
        cases h
        refine ⟨?_, rfl, rfl⟩
        have hi : (min (1 + v) (((g.length + 1 : Nat) : Int) - 1)).toNat = min v.toNat (g.length - 1) + 1 := by
          obtain ⟨k, rfl⟩ := Int.eq_ofNat_of_zero_le hv
          rw [show ((g.length + 1 : Nat) : Int) - 1 = (g.length : Nat) from Int.add_sub_cancel (g.length : Int) 1, Int.add_comm 1, Int.toNat_natCast]
          rcases Nat.lt_or_ge k g.length with q | q
          · rw [Int.min_eq_left (show (k : Int) + 1 ≤ (g.length : Int) from Int.ofNat_le.mpr q), Nat.min_eq_left (Nat.le_sub_one_of_lt q)]; rfl
          · rw [Int.min_eq_right (show (g.length : Int) ≤ (k : Int) + 1 from Int.ofNat_le.mpr (Nat.le_succ_of_le q)), Nat.min_eq_right (Nat.le_trans (Nat.sub_le _ _) q), Int.toNat_natCast, Nat.sub_add_cancel hpos]
        rw [hi, br_get c o hz]
        rfl
      · rw [if_neg hv] at h
        cases h
  · rw [if_neg h14] at h ⊢
    by_cases h12 : c = 12
    · rw [if_pos h12, hy] at h
      cases h
      rw [if_pos h12, if_pos (by lia)]
      exact ⟨rfl, rfl, rfl⟩
    · rw [if_neg h12] at h
      have h13 : c = 13 := by lia
      rw [if_neg h12, if_pos h13, if_pos (by lia)]
      cases e1 : m.st.getLast? with
      | none => rw [e1] at h; cases h
      | some v =>
        rw [e1] at h
        simp only [Option.map_some, Option.some.injEq, Prod.mk.injEq] at h ⊢
        obtain ⟨h1, h2⟩ := h
        subst h2
        refine ⟨⟨?_, rfl⟩, rfl, rfl⟩
        by_cases hv : v = 0
        · rw [if_neg (by lia)] at h1 ⊢
          subst h1
          rfl
        · rw [if_pos hv] at h1 ⊢
          rw [← h1, hy]
          rfl
theorem lab_at {o : List Int} {j : Nat} {x : Int} (nd : o.Nodup) (h : o[j]? = some x) : o.reverse.idxOf x + j + 1 = o.length := by
  obtain ⟨hj, hx⟩ := List.getElem?_eq_some_iff.mp h
  have e : o = o.take j ++ x :: o.drop (j + 1) := by
    conv => lhs; rw [← List.take_append_drop j o]
    congr 1
    rw [List.drop_eq_getElem_cons hj, hx]
  have h1 := lab_n (a := o.take j) (i := o.drop (j + 1)) (n := x) (by rw [← e]; exact nd)
  rw [← e, List.length_drop] at h1
  simp only [Int.natCast_inj] at h1
  rw [h1, Nat.add_assoc]; exact Nat.sub_add_cancel hj
section
variable {B pre r : List Tk} {m m1 : MS} {lb lb2 : List Nat} {t : List Int} {o : List Int}
theorem br_jump {c : Int} {g : List Int} (n : Nat) (st : List Int) (hc : c = 12 ∨ c = 13 ∨ c = 14) : jumpF B (c :: g.map (lab o)) (n + 1) st (lblF (c :: g.map (lab o)) n lb) = some (n + 1, st, lb) := by
  have e : code (c :: g.map (lab o)) = c := rfl
  unfold jumpF lblF
  rw [e, if_neg (show ¬ c = 5 from or3 (P := fun c => ¬ c = 5) hc (by decide) (by decide) (by decide)), if_neg (show ¬ c = 4 from or3 (P := fun c => ¬ c = 4) hc (by decide) (by decide) (by decide)), if_neg (show ¬ (2 ≤ c ∧ c ≤ 4) from or3 (P := fun c => ¬ (2 ≤ c ∧ c ≤ 4)) hc (by decide) (by decide) (by decide))]
theorem st_brN {c : Int} {gs : List Int} (hB : B = pre ++ (c :: gs.map (lab o)) :: r) (hc : c = 12 ∨ c = 13 ∨ c = 14) (hg : gs ≠ []) (e : goN c gs m = some (none, m1)) (g : Gd m) (hl : lb.length ≤ 900) (h : Goes B m1 lb (pre.length + 1) t) : Goes B m lb pre.length t := by
  obtain ⟨k, h⟩ := h
  obtain ⟨e1, e2, e3⟩ := goN_goalF (o := o) hc hg e
  have ec : code (c :: gs.map (lab o)) = c := rfl
  refine ⟨k + 1, .go (p := c :: gs.map (lab o)) (m1 := m) (n2 := pre.length + 1) (st2 := m.st) (st3 := m1.st) (lb2 := lb) (g := -1) g.1 (by rw [hB, at_tok]) (by have := g.2; exact lq1 [_] (.le 1 (.v 0) (.n 10)) 1 (.v 0) (.n 1000) rfl this) (lq1 [_] (.le 1 (.v 0) (.n 900)) 1 (.v 0) (.n 1000) rfl hl) (doF_none (or3 (P := fun c => ¬ c = 32 ∧ ¬ c = 33 ∧ ¬ c = 65 ∧ ¬ c = 69 ∧ ¬ c = 26 ∧ ¬ c = 16) hc (by decide) (by decide) (by decide))) (br_jump _ _ hc) e1 (by decide) ?_⟩
  rw [ec, if_neg (by lia), ← e2, ← e3]
  exact h
theorem st_brT {c : Int} {gs : List Int} {x : Int} (hB : B = pre ++ (c :: gs.map (lab o)) :: r) (hc : c = 12 ∨ c = 13 ∨ c = 14) (hg : gs ≠ []) (e : goN c gs m = some (some x, m1)) (g : Gd m) (hl : lb.length ≤ 900) (nd : o.Nodup) (ho : o.length = lb.length + 1) (h : JumpTo B o lb x m1 t) : Goes B m lb pre.length t := by
  obtain ⟨e1, e2, e3⟩ := goN_goalF (o := o) hc hg e
  have ec : code (c :: gs.map (lab o)) = c := rfl
  obtain ⟨j, hj, h⟩ := h
  have hlab := lab_at nd hj
  rcases h with ⟨rfl, rfl⟩ | ⟨j', n, n3, rfl, hn, hland, k, h⟩
  · refine ⟨1, ?_⟩
    rw [e3]
    exact .ret (p := c :: gs.map (lab o)) (m1 := m) (n2 := pre.length + 1) (st2 := m.st) (st3 := m1.st) (lb2 := lb) (g := lab o x) g.1 (by rw [hB, at_tok]) (by have := g.2; exact lq1 [_] (.le 1 (.v 0) (.n 10)) 1 (.v 0) (.n 1000) rfl this) (lq1 [_] (.le 1 (.v 0) (.n 900)) 1 (.v 0) (.n 1000) rfl hl) (doF_none (or3 (P := fun c => ¬ c = 32 ∧ ¬ c = 33 ∧ ¬ c = 65 ∧ ¬ c = 69 ∧ ¬ c = 26 ∧ ¬ c = 16) hc (by decide) (by decide) (by decide))) (br_jump _ _ hc) e1 (Int.ofNat_le.mpr (Nat.le_of_eq (Nat.succ.inj (ho.symm.trans hlab.symm))))
  · refine ⟨k + 1, .jump (p := c :: gs.map (lab o)) (m1 := m) (n2 := pre.length + 1) (n3 := n3) (lb3 := lb.take j') (st2 := m.st) (st3 := m1.st) (lb2 := lb) (g := o.reverse.idxOf x) g.1 (by rw [hB, at_tok]) (by have := g.2; exact lq1 [_] (.le 1 (.v 0) (.n 10)) 1 (.v 0) (.n 1000) rfl this) (lq1 [_] (.le 1 (.v 0) (.n 900)) 1 (.v 0) (.n 1000) rfl hl) (doF_none (or3 (P := fun c => ¬ c = 32 ∧ ¬ c = 33 ∧ ¬ c = 65 ∧ ¬ c = 69 ∧ ¬ c = 26 ∧ ¬ c = 16) hc (by decide) (by decide) (by decide))) (br_jump _ _ hc) e1 (lq2 [_, _, _, _] (.eq 1 (.v 2) (.a (.v 1) (.n 1))) (.eq 1 (.a (.a (.v 0) (.a (.v 3) (.n 1))) (.n 1)) (.v 2)) 1 (.a (.v 0) (.n 1)) (.v 1) rfl ho hlab) ?_ ?_⟩
    · have hi : lb.length - 1 - o.reverse.idxOf x = j' := by rw [show lb.length = o.reverse.idxOf x + j' + 1 from Nat.succ.inj (ho.symm.trans hlab.symm)]; exact Nat.add_sub_cancel_left _ _
      unfold backF
      rw [hi, hn]
      simp only [Option.bind_some]
      unfold landB at hland
      rw [hland]
      rfl
    · rw [ec, if_neg (by lia), ← e2, ← e3]
      exact h
theorem jump_in {x n : Int} {p : Nat} (h : JumpTo B o lb x m t) (ho : o.length = lb.length + 1) : JumpTo B (o ++ [n]) (lb ++ [p]) x m t := by
  obtain ⟨j, hj, h⟩ := h
  have hjl := (List.getElem?_eq_some_iff.mp hj).1
  refine ⟨j, by rw [List.getElem?_append_left hjl]; exact hj, ?_⟩
  rcases h with h | ⟨j', n', n3, rfl, hn, hland, h⟩
  · exact .inl h
  · have hl := (List.getElem?_eq_some_iff.mp hn).1
    exact .inr ⟨j', n', n3, rfl, by rw [List.getElem?_append_left hl]; exact hn, hland, by rw [List.take_append_of_le_length (by exact lq2 [_, _, _] (.eq 1 (.v 1) (.a (.v 2) (.n 1))) (.le 1 (.a (.a (.v 0) (.n 1)) (.n 1)) (.v 1)) 1 (.v 0) (.v 2) rfl ho hjl)]; exact h⟩
theorem jump_at {n : Int} {p n3 : Nat} (ho : o.length = lb.length + 1) (hland : landB B p = some n3) (h : Goes B m lb n3 t) : JumpTo B (o ++ [n]) (lb ++ [p]) n m t :=
  ⟨o.length, by simp, .inr ⟨lb.length, p, n3, ho, by simp, hland, by rw [List.take_left]; exact h⟩⟩
end
noncomputable def After (B : List Tk) (o : List Int) (lb : List Nat) (n2 : Nat) (t : List Int) : Rs → Prop
  | .nxt m1 => Goes B m1 lb n2 t
  | .go x m1 => JumpTo B o lb x m1 t
  | .full u => t = u
theorem After_q0 (B : List Tk) (o : List Int) (lb : List Nat) (n2 : Nat) (t : List Int) (m1) : After B o lb n2 t (.nxt m1) = (Goes B m1 lb n2 t) := rfl
theorem After_q1 (B : List Tk) (o : List Int) (lb : List Nat) (n2 : Nat) (t : List Int) (x) (m1) : After B o lb n2 t (.go x m1) = (JumpTo B o lb x m1 t) := rfl
theorem After_q2 (B : List Tk) (o : List Int) (lb : List Nat) (n2 : Nat) (t : List Int) (u) : After B o lb n2 t (.full u) = (t = u) := rfl

/- NmLn -/
theorem nd_snoc {o : List Int} {n : Int} (nd : o.Nodup) (h : n ∉ o) : (o ++ [n]).Nodup := by
  rw [List.nodup_append]
  exact ⟨nd, by simp, fun x hx y hy => by rw [List.mem_singleton.mp hy]; exact fun e => h (e ▸ hx)⟩
theorem ln_snoc {o : List Int} {lb : List Nat} {n : Int} {p : Nat} (h : o.length = lb.length + 1) : (o ++ [n]).length = (lb ++ [p]).length + 1 := by
  simp only [List.length_append, List.length_singleton]; exact Nat.le_antisymm (lq1 [_, _] (.eq 1 (.v 0) (.a (.v 1) (.n 1))) 1 (.a (.v 0) (.n 1)) (.a (.a (.v 1) (.n 1)) (.n 1)) rfl h) (lq1 [_, _] (.qe 1 (.v 1) (.a (.v 0) (.n 1))) 1 (.a (.a (.v 0) (.n 1)) (.n 1)) (.a (.v 1) (.n 1)) rfl h)
section
variable {B pre post : List Tk} {m m1 m2 : MS} {lb : List Nat} {t : List Int} {o : List Int} {c n : Int} {f s r : List Node}
theorem split1 : pre ++ (flatN o (.blk1 c n f :: r) ++ post) = pre ++ [c, -64] :: (flatN (o ++ [n]) f ++ [11] :: (flatN o r ++ post)) := by
  simp [flatN_q0, flatN_q1, flat1_q0, flat1_q1, flat1_q2, flat1_q3]
theorem split2 : pre ++ (flatN o (.blk2 c n f s :: r) ++ post) = pre ++ [c, -64] :: (flatN (o ++ [n]) f ++ [5] :: (flatN (o ++ [n]) s ++ [11] :: (flatN o r ++ post))) := by
  simp [flatN_q0, flatN_q1, flat1_q0, flat1_q1, flat1_q2, flat1_q3]
/-- the rest behind a block -/
theorem rest_at {X : List Tk} {R : Rs} (hB : B = pre ++ (X ++ (flatN o r ++ post))) {n2 : Nat} (hn : n2 = pre.length + X.length + (flatN o r).length) (h : After B o lb n2 t R)
    (ih : ∀ (B pre post : List Tk) (o : List Int) (lb : List Nat) (t : List Int), B = pre ++ (flatN o r ++ post) → WN o r → o.Nodup → o.length = lb.length + 1 → lb.length + dptN r ≤ 900 → After B o lb (pre.length + (flatN o r).length) t R → Goes B m lb pre.length t)
    (w : WN o r) (nd : o.Nodup) (ho : o.length = lb.length + 1) (hl : lb.length + dptN r ≤ 900) : Goes B m lb (pre.length + X.length) t := by
  have e : (pre ++ X).length = pre.length + X.length := by simp
  rw [← e]
  refine ih B (pre ++ X) post o lb t (by rw [hB, List.append_assoc]) w nd ho hl ?_
  rw [e, ← hn]
  exact h
/-- the end of the block's body -/
theorem end_at {Y : List Tk} (hB : B = pre ++ (Y ++ [11] :: post)) {p : Nat} (g : Gd m) (hl : lb.length + 1 ≤ 900) {n2 : Nat} (hn : n2 = pre.length + Y.length + 1) (h : Goes B m lb n2 t) : Goes B m (lb ++ [p]) (pre.length + Y.length) t := by
  have e : (pre ++ Y).length = pre.length + Y.length := by simp
  rw [← e]
  refine st_end (pre := pre ++ Y) (r := post) (by rw [hB, List.append_assoc]) g (by simp; exact lq1 [_] (.le 1 (.a (.v 0) (.n 1)) (.n 900)) 1 (.v 0) (.n 899) rfl hl) ?_
  rw [List.dropLast_concat, e, ← hn]
  exact h
theorem body_at {X Y : List Tk} {R1 : Rs} {p : Nat} (hB : B = pre ++ (X ++ (flatN (o ++ [n]) f ++ Y)))
    (ih : ∀ (B pre post : List Tk) (o : List Int) (lb : List Nat) (t : List Int), B = pre ++ (flatN o f ++ post) → WN o f → o.Nodup → o.length = lb.length + 1 → lb.length + dptN f ≤ 900 → After B o lb (pre.length + (flatN o f).length) t R1 → Goes B m lb pre.length t)
    (w : WN (o ++ [n]) f) (nd : o.Nodup) (hn : n ∉ o) (ho : o.length = lb.length + 1) (hl : lb.length + 1 + dptN f ≤ 900) {n2 : Nat} (hn2 : n2 = pre.length + X.length + (flatN (o ++ [n]) f).length) (h : After B (o ++ [n]) (lb ++ [p]) n2 t R1) : Goes B m (lb ++ [p]) (pre.length + X.length) t := by
  have e : (pre ++ X).length = pre.length + X.length := by simp
  rw [← e]
  refine ih B (pre ++ X) Y (o ++ [n]) (lb ++ [p]) t (by rw [hB, List.append_assoc]) w (nd_snoc nd hn) (ln_snoc ho) (by simp; exact lq1 [_, _] (.le 1 (.a (.a (.v 0) (.n 1)) (.v 1)) (.n 900)) 1 (.a (.a (.v 0) (.n 1)) (.v 1)) (.n 900) rfl hl) ?_
  rw [e, ← hn2]
  exact h
theorem land_loop (hB : B = pre ++ [3, -64] :: post) : landB B pre.length = some pre.length := by
  unfold landB
  rw [hB, getD_tok]
  rfl
theorem land_end {Y : List Tk} {k : Nat} (hB : B = pre ++ [c, -64] :: Y) (hc : c ≠ 3) (hb : behF false 0 Y = some k) : landB B pre.length = some (pre.length + 1 + k) := by
  have e : code [c, -64] = c := rfl
  unfold landB
  rw [hB, getD_tok, drop_tok, hb, e, if_neg hc]
  rfl
end
/-- an if with an else -/
theorem run_two {B pre post : List Tk} {o : List Int} {lb : List Nat} {t : List Int} {n v : Int} {f s r : List Node} {m : MS} {R1 : Rs} (hB : B = pre ++ [4, -64] :: (flatN (o ++ [n]) f ++ [5] :: (flatN (o ++ [n]) s ++ [11] :: (flatN o r ++ post))))
    (wf : WN (o ++ [n]) f) (ws : WN (o ++ [n]) s) (hn : n ∉ o) (nd : o.Nodup) (ho : o.length = lb.length + 1) (hlf : lb.length + 1 + dptN f ≤ 900) (hls : lb.length + 1 + dptN s ≤ 900) (g : Gd m) (hv : m.st.getLast? = some v)
    (hb : Big (if v = 0 then s else f) (popS m) R1)
    (ihf : ∀ (B pre post : List Tk) (o : List Int) (lb : List Nat) (t : List Int), B = pre ++ (flatN o (if v = 0 then s else f) ++ post) → WN o (if v = 0 then s else f) → o.Nodup → o.length = lb.length + 1 → lb.length + dptN (if v = 0 then s else f) ≤ 900 → After B o lb (pre.length + (flatN o (if v = 0 then s else f)).length) t R1 → Goes B (popS m) lb pre.length t)
    (hk : match R1 with
      | .nxt m2 => Goes B m2 lb (pre.length + ((flatN (o ++ [n]) f).length + (flatN (o ++ [n]) s).length + 3)) t
      | .go x m2 => if x = n then Goes B m2 lb (pre.length + ((flatN (o ++ [n]) f).length + (flatN (o ++ [n]) s).length + 3)) t else JumpTo B o lb x m2 t
      | .full u => t = u) : Goes B m lb pre.length t := by
  have hjump : ∀ n2 m2, (∀ (m2 : MS), R1 = .nxt m2 → Goes B m2 (lb ++ [pre.length]) n2 t) → m2 = n2 → After B (o ++ [n]) (lb ++ [pre.length]) m2 t R1 := by
    intro n2 m2 h e
    subst e
    cases R1 with
    | nxt m2 => exact h m2 rfl
    | go x m2 =>
      simp only at hk
      by_cases hx : x = n
      · rw [if_pos hx] at hk
        subst hx
        refine jump_at ho (land_end hB (by decide) (beh_both wf ws _)) ?_
        have e : pre.length + 1 + ((flatN (o ++ [x]) f).length + 1 + (flatN (o ++ [x]) s).length + 1) = pre.length + ((flatN (o ++ [x]) f).length + (flatN (o ++ [x]) s).length + 3) := (Nat.le_antisymm (lq0 [_, _, _] 1 (.a (.a (.v 0) (.n 1)) (.a (.a (.a (.v 1) (.n 1)) (.v 2)) (.n 1))) (.a (.v 0) (.a (.a (.v 1) (.v 2)) (.n 3))) rfl ) (lq0 [_, _, _] 1 (.a (.v 0) (.a (.a (.v 1) (.v 2)) (.n 3))) (.a (.a (.v 0) (.n 1)) (.a (.a (.a (.v 1) (.n 1)) (.v 2)) (.n 1))) rfl ))
        rw [e]
        exact hk
      · rw [if_neg hx] at hk
        exact jump_in hk ho
    | full u => exact hk
  by_cases hv0 : v = 0
  · simp only [if_pos hv0] at ihf hb
    have hland : landF B true (pre.length + 1) (lb ++ [pre.length]) = some (pre.length + 1 + ((flatN (o ++ [n]) f).length + 1), lb ++ [pre.length]) := by
      unfold landF
      have h1 : B.drop (pre.length + 1) = flatN (o ++ [n]) f ++ [5] :: (flatN (o ++ [n]) s ++ [11] :: (flatN o r ++ post)) := by rw [hB, drop_tok]
      have h2 : B.getD (pre.length + 1 + ((flatN (o ++ [n]) f).length + 1) - 1) [] = [5] := by
        have : B = (pre ++ [4, -64] :: flatN (o ++ [n]) f) ++ [5] :: (flatN (o ++ [n]) s ++ [11] :: (flatN o r ++ post)) := by rw [hB]; simp
        rw [this]
        have hl2 : pre.length + 1 + ((flatN (o ++ [n]) f).length + 1) - 1 = (pre ++ [4, -64] :: flatN (o ++ [n]) f).length := by simp; exact Nat.le_antisymm (lq0 [_, _] 1 (.a (.a (.v 0) (.n 1)) (.v 1)) (.a (.v 0) (.a (.v 1) (.n 1))) rfl ) (lq0 [_, _] 1 (.a (.v 0) (.a (.v 1) (.n 1))) (.a (.a (.v 0) (.n 1)) (.v 1)) rfl )
        rw [hl2, getD_tok]
      rw [h1, beh_else wf]
      simp only [Option.map_some, h2]
      rw [if_neg (show ¬ code [5] = 11 by decide)]
    refine st_no hB (by rw [hv, hv0]) g (lq1 [_, _] (.le 1 (.a (.a (.v 0) (.n 1)) (.v 1)) (.n 900)) 1 (.v 0) (.n 900) rfl hlf) hland ?_
    have e : pre.length + 1 + ((flatN (o ++ [n]) f).length + 1) = pre.length + ([4, -64] :: (flatN (o ++ [n]) f ++ [[5]])).length := by simp; exact Nat.le_antisymm (lq0 [_, _] 1 (.a (.a (.v 0) (.n 1)) (.a (.v 1) (.n 1))) (.a (.v 0) (.a (.a (.v 1) (.n 1)) (.n 1))) rfl ) (lq0 [_, _] 1 (.a (.v 0) (.a (.a (.v 1) (.n 1)) (.n 1))) (.a (.a (.v 0) (.n 1)) (.a (.v 1) (.n 1))) rfl )
    rw [e]
    refine body_at (X := [4, -64] :: (flatN (o ++ [n]) f ++ [[5]])) (Y := [11] :: (flatN o r ++ post)) (by rw [hB]; simp) ihf ws nd hn ho (lq1 [_, _] (.le 1 (.a (.a (.v 0) (.n 1)) (.v 1)) (.n 900)) 1 (.a (.a (.v 0) (.n 1)) (.v 1)) (.n 900) rfl hls) rfl ?_
    refine hjump _ _ (fun m2 e1 => ?_) rfl
    subst e1
    have := end_at (pre := pre) (post := flatN o r ++ post) (Y := [4, -64] :: (flatN (o ++ [n]) f ++ [5] :: flatN (o ++ [n]) s)) (p := pre.length) (by rw [hB]; simp) (hb.gd.1 _ rfl) (lq1 [_, _] (.le 1 (.a (.a (.v 0) (.n 1)) (.v 1)) (.n 900)) 1 (.a (.v 0) (.n 1)) (.n 900) rfl hlf) (by simp; exact Nat.le_antisymm (lq0 [_, _, _] 1 (.a (.v 0) (.a (.a (.v 1) (.v 2)) (.n 3))) (.a (.a (.v 0) (.a (.a (.v 1) (.a (.v 2) (.n 1))) (.n 1))) (.n 1)) rfl ) (lq0 [_, _, _] 1 (.a (.a (.v 0) (.a (.a (.v 1) (.a (.v 2) (.n 1))) (.n 1))) (.n 1)) (.a (.v 0) (.a (.a (.v 1) (.v 2)) (.n 3))) rfl )) hk
    have e : pre.length + ([4, -64] :: (flatN (o ++ [n]) f ++ [5] :: flatN (o ++ [n]) s)).length = pre.length + ([4, -64] :: (flatN (o ++ [n]) f ++ [[5]])).length + (flatN (o ++ [n]) s).length := by simp; exact Nat.le_antisymm (lq0 [_, _, _] 1 (.a (.v 0) (.a (.a (.v 1) (.a (.v 2) (.n 1))) (.n 1))) (.a (.a (.v 0) (.a (.a (.v 1) (.n 1)) (.n 1))) (.v 2)) rfl ) (lq0 [_, _, _] 1 (.a (.a (.v 0) (.a (.a (.v 1) (.n 1)) (.n 1))) (.v 2)) (.a (.v 0) (.a (.a (.v 1) (.a (.v 2) (.n 1))) (.n 1))) rfl )
    rw [e] at this
    exact this
  · simp only [if_neg hv0] at ihf hb
    refine st_in hB (.inr (.inr rfl)) (Ent_pop hv hv0) g (lq1 [_, _] (.le 1 (.a (.a (.v 0) (.n 1)) (.v 1)) (.n 900)) 1 (.v 0) (.n 900) rfl hlf) ?_
    refine body_at (X := [[4, -64]]) (Y := [5] :: (flatN (o ++ [n]) s ++ [11] :: (flatN o r ++ post))) (by rw [hB]; simp) ihf wf nd hn ho (lq1 [_, _] (.le 1 (.a (.a (.v 0) (.n 1)) (.v 1)) (.n 900)) 1 (.a (.a (.v 0) (.n 1)) (.v 1)) (.n 900) rfl hlf) rfl ?_
    refine hjump _ _ (fun m2 e1 => ?_) rfl
    subst e1
    have h1 : (pre ++ [4, -64] :: flatN (o ++ [n]) f).length = pre.length + [[4, -64]].length + (flatN (o ++ [n]) f).length := by simp; exact Nat.le_antisymm (lq0 [_, _] 1 (.a (.v 0) (.a (.v 1) (.n 1))) (.a (.a (.v 0) (.n 1)) (.v 1)) rfl ) (lq0 [_, _] 1 (.a (.a (.v 0) (.n 1)) (.v 1)) (.a (.v 0) (.a (.v 1) (.n 1))) rfl )
    rw [← h1]
    refine st_else (pre := pre ++ [4, -64] :: flatN (o ++ [n]) f) (s := s) (o := o ++ [n]) (r := flatN o r ++ post) (by rw [hB]; simp) ws (hb.gd.1 _ rfl) (by simp; exact lq1 [_, _] (.le 1 (.a (.a (.v 0) (.n 1)) (.v 1)) (.n 900)) 1 (.v 0) (.n 899) rfl hlf) ?_
    rw [List.dropLast_concat]
    have e : (pre ++ [4, -64] :: flatN (o ++ [n]) f).length + 1 + (flatN (o ++ [n]) s).length + 1 = pre.length + ((flatN (o ++ [n]) f).length + (flatN (o ++ [n]) s).length + 3) := by simp; exact Nat.le_antisymm (lq0 [_, _, _] 1 (.a (.a (.a (.a (.v 0) (.a (.v 1) (.n 1))) (.n 1)) (.v 2)) (.n 1)) (.a (.v 0) (.a (.a (.v 1) (.v 2)) (.n 3))) rfl ) (lq0 [_, _, _] 1 (.a (.v 0) (.a (.a (.v 1) (.v 2)) (.n 3))) (.a (.a (.a (.a (.v 0) (.a (.v 1) (.n 1))) (.n 1)) (.v 2)) (.n 1)) rfl )
    rw [e]
    exact hk
theorem run_big {l : List Node} {m : MS} {R : Rs} (h : Big l m R) : ∀ (B pre post : List Tk) (o : List Int) (lb : List Nat) (t : List Int), B = pre ++ (flatN o l ++ post) → WN o l → o.Nodup → o.length = lb.length + 1 → lb.length + dptN l ≤ 900 →
    After B o lb (pre.length + (flatN o l).length) t R → Goes B m lb pre.length t := by
  induction h with
  | nil g =>
    intro B pre post o lb t hB w nd ho hl h
    simpa [flatN_q0, flatN_q1, After_q0, After_q1, After_q2] using h
  | @op p r m m1 R g d l h ih =>
    intro B pre post o lb t hB w nd ho hl h
    simp only [dptN_q0, dptN_q1, dpt1_q0, dpt1_q1, dpt1_q2, dpt1_q3] at hl
    have hB1 : B = pre ++ p :: (flatN o r ++ post) := by rw [hB]; simp [flatN_q0, flatN_q1, flat1_q0, flat1_q1, flat1_q2, flat1_q3]
    refine st_op hB1 w.1.2.1 w.1.2.2.1 g (lq1 [_, _] (.le 1 (.a (.v 0) (.v 1)) (.n 900)) 1 (.v 0) (.n 900) rfl hl) d ?_
    exact rest_at (X := [p]) hB1 (by simp [flatN_q0, flatN_q1, flat1_q0, flat1_q1, flat1_q2, flat1_q3]; exact Nat.le_antisymm (lq0 [_, _] 1 (.a (.v 0) (.a (.v 1) (.n 1))) (.a (.a (.v 0) (.n 1)) (.v 1)) rfl ) (lq0 [_, _] 1 (.a (.a (.v 0) (.n 1)) (.v 1)) (.a (.v 0) (.a (.v 1) (.n 1))) rfl )) h ih w.2 nd ho (dp3 hl)
  | @opF p r m m1 g d l =>
    intro B pre post o lb t hB w nd ho hl h
    simp only [dptN_q0, dptN_q1, dpt1_q0, dpt1_q1, dpt1_q2, dpt1_q3] at hl
    have hB1 : B = pre ++ p :: (flatN o r ++ post) := by rw [hB]; simp [flatN_q0, flatN_q1, flat1_q0, flat1_q1, flat1_q2, flat1_q3]
    refine st_op hB1 w.1.2.1 w.1.2.2.1 g (lq1 [_, _] (.le 1 (.a (.v 0) (.v 1)) (.n 900)) 1 (.v 0) (.n 900) rfl hl) d ?_
    have h : t = m1.to := h
    subst h
    exact ⟨0, .stop fun x => l x.2⟩
  | @brN c gs r m m1 R g e h ih =>
    intro B pre post o lb t hB w nd ho hl h
    simp only [dptN_q0, dptN_q1, dpt1_q0, dpt1_q1, dpt1_q2, dpt1_q3] at hl
    have hB1 : B = pre ++ (c :: gs.map (lab o)) :: (flatN o r ++ post) := by rw [hB]; simp [flatN_q0, flatN_q1, flat1_q0, flat1_q1, flat1_q2, flat1_q3]
    refine st_brN hB1 w.1.1 w.1.2.1.1 e g (lq1 [_, _] (.le 1 (.a (.v 0) (.v 1)) (.n 900)) 1 (.v 0) (.n 900) rfl hl) ?_
    exact rest_at (X := [c :: gs.map (lab o)]) hB1 (by simp [flatN_q0, flatN_q1, flat1_q0, flat1_q1, flat1_q2, flat1_q3]; exact Nat.le_antisymm (lq0 [_, _] 1 (.a (.v 0) (.a (.v 1) (.n 1))) (.a (.a (.v 0) (.n 1)) (.v 1)) rfl ) (lq0 [_, _] 1 (.a (.a (.v 0) (.n 1)) (.v 1)) (.a (.v 0) (.a (.v 1) (.n 1))) rfl )) h ih w.2 nd ho (dp3 hl)
  | @brT c gs r m m1 x g e =>
    intro B pre post o lb t hB w nd ho hl h
    have hB1 : B = pre ++ (c :: gs.map (lab o)) :: (flatN o r ++ post) := by rw [hB]; simp [flatN_q0, flatN_q1, flat1_q0, flat1_q1, flat1_q2, flat1_q3]
    exact st_brT hB1 w.1.1 w.1.2.1.1 e g (lq1 [_, _] (.le 1 (.a (.v 0) (.v 1)) (.n 900)) 1 (.v 0) (.n 900) rfl hl) nd ho h
  | @skip c n f r m R g e4 hv h ih =>
    intro B pre post o lb t hB w nd ho hl h
    simp only [dptN_q0, dptN_q1, dpt1_q0, dpt1_q1, dpt1_q2, dpt1_q3] at hl
    subst e4
    rw [split1] at hB
    have hland : landF B true (pre.length + 1) (lb ++ [pre.length]) = some (pre.length + 1 + ((flatN (o ++ [n]) f).length + 1), lb) := by
      unfold landF
      have h1 : B.drop (pre.length + 1) = flatN (o ++ [n]) f ++ [11] :: (flatN o r ++ post) := by rw [hB, drop_tok]
      have h2 : B.getD (pre.length + 1 + ((flatN (o ++ [n]) f).length + 1) - 1) [] = [11] := by
        have : B = (pre ++ [4, -64] :: flatN (o ++ [n]) f) ++ [11] :: (flatN o r ++ post) := by rw [hB]; simp
        rw [this]
        have hl2 : pre.length + 1 + ((flatN (o ++ [n]) f).length + 1) - 1 = (pre ++ [4, -64] :: flatN (o ++ [n]) f).length := by simp; exact Nat.le_antisymm (lq0 [_, _] 1 (.a (.a (.v 0) (.n 1)) (.v 1)) (.a (.v 0) (.a (.v 1) (.n 1))) rfl ) (lq0 [_, _] 1 (.a (.v 0) (.a (.v 1) (.n 1))) (.a (.a (.v 0) (.n 1)) (.v 1)) rfl )
        rw [hl2, getD_tok]
      rw [h1, beh_end w.1.2.2]
      simp only [Option.map_some, h2]
      rw [if_pos (show code [11] = 11 from rfl), List.dropLast_concat]
    refine st_no hB hv g (lq1 [_, _] (.le 1 (.a (.v 0) (.v 1)) (.n 900)) 1 (.v 0) (.n 900) rfl hl) hland ?_
    have := rest_at (pre := pre) (post := post) (X := [4, -64] :: (flatN (o ++ [n]) f ++ [[11]])) (m := popS m) (t := t) (by rw [hB]; simp) (n2 := pre.length + (flatN o (.blk1 4 n f :: r)).length) (by simp [flatN_q0, flatN_q1, flat1_q0, flat1_q1, flat1_q2, flat1_q3]; exact Nat.le_antisymm (lq0 [_, _, _] 1 (.a (.v 0) (.a (.a (.v 1) (.a (.v 2) (.n 1))) (.n 1))) (.a (.a (.v 0) (.a (.a (.v 1) (.n 1)) (.n 1))) (.v 2)) rfl ) (lq0 [_, _, _] 1 (.a (.a (.v 0) (.a (.a (.v 1) (.n 1)) (.n 1))) (.v 2)) (.a (.v 0) (.a (.a (.v 1) (.a (.v 2) (.n 1))) (.n 1))) rfl )) h ih w.2 nd ho (dp3 hl)
    have e : pre.length + 1 + ((flatN (o ++ [n]) f).length + 1) = pre.length + ([4, -64] :: (flatN (o ++ [n]) f ++ [[11]])).length := by simp; exact Nat.le_antisymm (lq0 [_, _] 1 (.a (.a (.v 0) (.n 1)) (.a (.v 1) (.n 1))) (.a (.v 0) (.a (.a (.v 1) (.n 1)) (.n 1))) rfl ) (lq0 [_, _] 1 (.a (.v 0) (.a (.a (.v 1) (.n 1)) (.n 1))) (.a (.a (.v 0) (.n 1)) (.a (.v 1) (.n 1))) rfl )
    rw [e]
    exact this
  | @in1n c n f r m m1 m2 R g e hf _ ihf ih =>
    intro B pre post o lb t hB w nd ho hl h
    simp only [dptN_q0, dptN_q1, dpt1_q0, dpt1_q1, dpt1_q2, dpt1_q3] at hl
    rw [split1] at hB
    have hr := rest_at (pre := pre) (post := post) (X := [c, -64] :: (flatN (o ++ [n]) f ++ [[11]])) (m := m2) (t := t) (by rw [hB]; simp) (n2 := pre.length + (flatN o (.blk1 c n f :: r)).length) (by simp [flatN_q0, flatN_q1, flat1_q0, flat1_q1, flat1_q2, flat1_q3]; exact Nat.le_antisymm (lq0 [_, _, _] 1 (.a (.v 0) (.a (.a (.v 1) (.a (.v 2) (.n 1))) (.n 1))) (.a (.a (.v 0) (.a (.a (.v 1) (.n 1)) (.n 1))) (.v 2)) rfl ) (lq0 [_, _, _] 1 (.a (.a (.v 0) (.a (.a (.v 1) (.n 1)) (.n 1))) (.v 2)) (.a (.v 0) (.a (.a (.v 1) (.a (.v 2) (.n 1))) (.n 1))) rfl )) h ih w.2 nd ho (dp3 hl)
    refine st_in hB w.1.1 e g (lq1 [_, _] (.le 1 (.a (.v 0) (.v 1)) (.n 900)) 1 (.v 0) (.n 900) rfl hl) ?_
    refine body_at (X := [[c, -64]]) (Y := [11] :: (flatN o r ++ post)) (by rw [hB]; simp) ihf w.1.2.2 nd w.1.2.1 ho (dp4 hl) rfl ?_
    have := end_at (pre := pre) (post := flatN o r ++ post) (Y := [c, -64] :: flatN (o ++ [n]) f) (p := pre.length) (by rw [hB]; simp) (hf.gd.1 _ rfl) (dp5 hl) (by simp; exact Nat.le_antisymm (lq0 [_, _] 1 (.a (.v 0) (.a (.a (.v 1) (.n 1)) (.n 1))) (.a (.a (.v 0) (.a (.v 1) (.n 1))) (.n 1)) rfl ) (lq0 [_, _] 1 (.a (.a (.v 0) (.a (.v 1) (.n 1))) (.n 1)) (.a (.v 0) (.a (.a (.v 1) (.n 1)) (.n 1))) rfl )) hr
    have e : pre.length + ([c, -64] :: flatN (o ++ [n]) f).length = pre.length + [[c, -64]].length + (flatN (o ++ [n]) f).length := by simp; exact Nat.le_antisymm (lq0 [_, _] 1 (.a (.v 0) (.a (.v 1) (.n 1))) (.a (.a (.v 0) (.n 1)) (.v 1)) rfl ) (lq0 [_, _] 1 (.a (.a (.v 0) (.n 1)) (.v 1)) (.a (.v 0) (.a (.v 1) (.n 1))) rfl )
    rw [e] at this
    exact this
  | @in1l c n f r m m1 m2 R g e3 e hf _ ihf ih =>
    intro B pre post o lb t hB w nd ho hl h
    have hr := ih B pre post o lb t hB w nd ho hl h
    simp only [dptN_q0, dptN_q1, dpt1_q0, dpt1_q1, dpt1_q2, dpt1_q3] at hl
    rw [split1] at hB
    refine st_in hB w.1.1 e g (lq1 [_, _] (.le 1 (.a (.v 0) (.v 1)) (.n 900)) 1 (.v 0) (.n 900) rfl hl) ?_
    refine body_at (X := [[c, -64]]) (Y := [11] :: (flatN o r ++ post)) (by rw [hB]; simp) ihf w.1.2.2 nd w.1.2.1 ho (dp4 hl) rfl ?_
    subst e3
    exact jump_at ho (land_loop hB) hr
  | @in1b c n f r m m1 m2 R g e3 e hf _ ihf ih =>
    intro B pre post o lb t hB w nd ho hl h
    simp only [dptN_q0, dptN_q1, dpt1_q0, dpt1_q1, dpt1_q2, dpt1_q3] at hl
    rw [split1] at hB
    have hr := rest_at (pre := pre) (post := post) (X := [c, -64] :: (flatN (o ++ [n]) f ++ [[11]])) (m := m2) (t := t) (by rw [hB]; simp) (n2 := pre.length + (flatN o (.blk1 c n f :: r)).length) (by simp [flatN_q0, flatN_q1, flat1_q0, flat1_q1, flat1_q2, flat1_q3]; exact Nat.le_antisymm (lq0 [_, _, _] 1 (.a (.v 0) (.a (.a (.v 1) (.a (.v 2) (.n 1))) (.n 1))) (.a (.a (.v 0) (.a (.a (.v 1) (.n 1)) (.n 1))) (.v 2)) rfl ) (lq0 [_, _, _] 1 (.a (.a (.v 0) (.a (.a (.v 1) (.n 1)) (.n 1))) (.v 2)) (.a (.v 0) (.a (.a (.v 1) (.a (.v 2) (.n 1))) (.n 1))) rfl )) h ih w.2 nd ho (dp3 hl)
    refine st_in hB w.1.1 e g (lq1 [_, _] (.le 1 (.a (.v 0) (.v 1)) (.n 900)) 1 (.v 0) (.n 900) rfl hl) ?_
    refine body_at (X := [[c, -64]]) (Y := [11] :: (flatN o r ++ post)) (by rw [hB]; simp) ihf w.1.2.2 nd w.1.2.1 ho (dp4 hl) rfl ?_
    refine jump_at ho (land_end hB e3 (beh_end w.1.2.2 _)) ?_
    have e : pre.length + 1 + ((flatN (o ++ [n]) f).length + 1) = pre.length + ([c, -64] :: (flatN (o ++ [n]) f ++ [[11]])).length := by simp; exact Nat.le_antisymm (lq0 [_, _] 1 (.a (.a (.v 0) (.n 1)) (.a (.v 1) (.n 1))) (.a (.v 0) (.a (.a (.v 1) (.n 1)) (.n 1))) rfl ) (lq0 [_, _] 1 (.a (.v 0) (.a (.a (.v 1) (.n 1)) (.n 1))) (.a (.a (.v 0) (.n 1)) (.a (.v 1) (.n 1))) rfl )
    rw [e]
    exact hr
  | @in1g c n f r m m1 m2 x g e hf hx ihf =>
    intro B pre post o lb t hB w nd ho hl h
    simp only [dptN_q0, dptN_q1, dpt1_q0, dpt1_q1, dpt1_q2, dpt1_q3] at hl
    rw [split1] at hB
    refine st_in hB w.1.1 e g (lq1 [_, _] (.le 1 (.a (.v 0) (.v 1)) (.n 900)) 1 (.v 0) (.n 900) rfl hl) ?_
    exact body_at (X := [[c, -64]]) (Y := [11] :: (flatN o r ++ post)) (by rw [hB]; simp) ihf w.1.2.2 nd w.1.2.1 ho (dp4 hl) rfl (jump_in h ho)
  | @in1f c n f r m m1 u g e hf ihf =>
    intro B pre post o lb t hB w nd ho hl h
    simp only [dptN_q0, dptN_q1, dpt1_q0, dpt1_q1, dpt1_q2, dpt1_q3] at hl
    rw [split1] at hB
    refine st_in hB w.1.1 e g (lq1 [_, _] (.le 1 (.a (.v 0) (.v 1)) (.n 900)) 1 (.v 0) (.n 900) rfl hl) ?_
    exact body_at (X := [[c, -64]]) (Y := [11] :: (flatN o r ++ post)) (by rw [hB]; simp) ihf w.1.2.2 nd w.1.2.1 ho (dp4 hl) rfl h
  | @in2n c n f s r m m2 v R g e4 hv hf _ ihf ih =>
    intro B pre post o lb t hB w nd ho hl h
    simp only [dptN_q0, dptN_q1, dpt1_q0, dpt1_q1, dpt1_q2, dpt1_q3] at hl
    subst e4
    rw [split2] at hB
    refine run_two hB w.1.2.2.1 w.1.2.2.2 w.1.2.1 nd ho (dp1 hl) (dp2 hl) g hv hf ihf ?_
    have hr := rest_at (pre := pre) (post := post) (X := [4, -64] :: (flatN (o ++ [n]) f ++ [5] :: (flatN (o ++ [n]) s ++ [[11]]))) (m := m2) (t := t) (by rw [hB]; simp) (n2 := pre.length + (flatN o (.blk2 4 n f s :: r)).length) (by simp [flatN_q0, flatN_q1, flat1_q0, flat1_q1, flat1_q2, flat1_q3]; exact Nat.le_antisymm (lq0 [_, _, _, _] 1 (.a (.v 0) (.a (.a (.v 1) (.a (.a (.v 2) (.a (.v 3) (.n 1))) (.n 1))) (.n 1))) (.a (.a (.v 0) (.a (.a (.v 1) (.a (.a (.v 2) (.n 1)) (.n 1))) (.n 1))) (.v 3)) rfl ) (lq0 [_, _, _, _] 1 (.a (.a (.v 0) (.a (.a (.v 1) (.a (.a (.v 2) (.n 1)) (.n 1))) (.n 1))) (.v 3)) (.a (.v 0) (.a (.a (.v 1) (.a (.a (.v 2) (.a (.v 3) (.n 1))) (.n 1))) (.n 1))) rfl )) h ih w.2 nd ho (dp3 hl)
    have e : pre.length + ((flatN (o ++ [n]) f).length + (flatN (o ++ [n]) s).length + 3) = pre.length + ([4, -64] :: (flatN (o ++ [n]) f ++ [5] :: (flatN (o ++ [n]) s ++ [[11]]))).length := by simp; exact Nat.le_antisymm (lq0 [_, _] 1 (.a (.a (.v 0) (.v 1)) (.n 2)) (.a (.v 0) (.a (.a (.v 1) (.n 1)) (.n 1))) rfl ) (lq0 [_, _] 1 (.a (.v 0) (.a (.a (.v 1) (.n 1)) (.n 1))) (.a (.a (.v 0) (.v 1)) (.n 2)) rfl )
    rw [e]
    exact hr
  | @in2b c n f s r m m2 v R g e4 hv hf _ ihf ih =>
    intro B pre post o lb t hB w nd ho hl h
    simp only [dptN_q0, dptN_q1, dpt1_q0, dpt1_q1, dpt1_q2, dpt1_q3] at hl
    subst e4
    rw [split2] at hB
    refine run_two hB w.1.2.2.1 w.1.2.2.2 w.1.2.1 nd ho (dp1 hl) (dp2 hl) g hv hf ihf ?_
    have hr := rest_at (pre := pre) (post := post) (X := [4, -64] :: (flatN (o ++ [n]) f ++ [5] :: (flatN (o ++ [n]) s ++ [[11]]))) (m := m2) (t := t) (by rw [hB]; simp) (n2 := pre.length + (flatN o (.blk2 4 n f s :: r)).length) (by simp [flatN_q0, flatN_q1, flat1_q0, flat1_q1, flat1_q2, flat1_q3]; exact Nat.le_antisymm (lq0 [_, _, _, _] 1 (.a (.v 0) (.a (.a (.v 1) (.a (.a (.v 2) (.a (.v 3) (.n 1))) (.n 1))) (.n 1))) (.a (.a (.v 0) (.a (.a (.v 1) (.a (.a (.v 2) (.n 1)) (.n 1))) (.n 1))) (.v 3)) rfl ) (lq0 [_, _, _, _] 1 (.a (.a (.v 0) (.a (.a (.v 1) (.a (.a (.v 2) (.n 1)) (.n 1))) (.n 1))) (.v 3)) (.a (.v 0) (.a (.a (.v 1) (.a (.a (.v 2) (.a (.v 3) (.n 1))) (.n 1))) (.n 1))) rfl )) h ih w.2 nd ho (dp3 hl)
    have e : pre.length + ((flatN (o ++ [n]) f).length + (flatN (o ++ [n]) s).length + 3) = pre.length + ([4, -64] :: (flatN (o ++ [n]) f ++ [5] :: (flatN (o ++ [n]) s ++ [[11]]))).length := by simp; exact Nat.le_antisymm (lq0 [_, _] 1 (.a (.a (.v 0) (.v 1)) (.n 2)) (.a (.v 0) (.a (.a (.v 1) (.n 1)) (.n 1))) rfl ) (lq0 [_, _] 1 (.a (.v 0) (.a (.a (.v 1) (.n 1)) (.n 1))) (.a (.a (.v 0) (.v 1)) (.n 2)) rfl )
    simp only [if_true]
    rw [e]
    exact hr
  | @in2g c n f s r m m2 v x g e4 hv hf hx ihf =>
    intro B pre post o lb t hB w nd ho hl h
    simp only [dptN_q0, dptN_q1, dpt1_q0, dpt1_q1, dpt1_q2, dpt1_q3] at hl
    subst e4
    rw [split2] at hB
    refine run_two hB w.1.2.2.1 w.1.2.2.2 w.1.2.1 nd ho (dp1 hl) (dp2 hl) g hv hf ihf ?_
    simp only [if_neg hx]
    exact h
  | @in2f c n f s r m v u g e4 hv hf ihf =>
    intro B pre post o lb t hB w nd ho hl h
    simp only [dptN_q0, dptN_q1, dpt1_q0, dpt1_q1, dpt1_q2, dpt1_q3] at hl
    subst e4
    rw [split2] at hB
    exact run_two hB w.1.2.2.1 w.1.2.2.2 w.1.2.1 nd ho (dp1 hl) (dp2 hl) g hv hf ihf h

/- NmLo -/
structure Inv (m : MS) : Prop where
  st : m.st = []
  len : m.pl.length = 3
  nn : ∀ v ∈ m.pl, 0 ≤ v
  to : m.to.length < 12
theorem Inv.gd {m : MS} (i : Inv m) : Gd m := ⟨i.to, by rw [i.st]; simp⟩
noncomputable def Fine (L : List Int) (m : MS) : Rs → Prop
  | .nxt m1 => Inv m1 ∧ m.to.length ≤ m1.to.length
  | .go x m1 => Inv m1 ∧ m.to.length ≤ m1.to.length ∧ (x ∈ L → m.to.length < m1.to.length)
  | .full _ => True
theorem Fine.le {L : List Int} {m m' : MS} {R : Rs} (h : Fine L m' R) (e : m.to.length ≤ m'.to.length) : Fine L m R := by
  cases R with
  | nxt m1 => exact ⟨h.1, Nat.le_trans e h.2⟩
  | go x m1 => exact ⟨h.1, Nat.le_trans e h.2.1, fun k => Nat.lt_of_le_of_lt e (h.2.2 k)⟩
  | full t => trivial
theorem big_push {m : MS} {n : Int} {r : List Node} {R : Rs} (g : Gd m) (h : Big r ⟨m.st ++ [n], m.pl, m.to⟩ R) : Big (.op [65, n] :: r) m R :=
  .op g (m1 := ⟨m.st ++ [n], m.pl, m.to⟩) rfl g.1 h
theorem big_out {m : MS} {n : Int} (i : Inv m) (hl : m.to.length + 1 < 12) {r : List Node} {R : Rs} (h : Big r ⟨[], m.pl, m.to ++ [n]⟩ R) : Big (.op [65, n] :: .op [16, 0] :: r) m R := by
  refine big_push i.gd ?_
  rw [i.st]
  refine .op ⟨i.to, by simp⟩ (m1 := ⟨[], m.pl, m.to ++ [n]⟩) rfl ?_ h
  simpa using hl
theorem big_outF {m : MS} {n : Int} (i : Inv m) (hl : ¬ m.to.length + 1 < 12) {r : List Node} : Big (.op [65, n] :: .op [16, 0] :: r) m (.full (m.to ++ [n])) := by
  refine big_push i.gd ?_
  rw [i.st]
  refine .opF ⟨i.to, by simp⟩ (m1 := ⟨[], m.pl, m.to ++ [n]⟩) rfl ?_
  simpa using hl
theorem big_load {m : MS} {r : Int} (i : Inv m) (h0 : 0 ≤ r) (h3 : r < 3) : ∃ v, 0 ≤ v ∧ ∀ (l : List Node) (R : Rs), Big l ⟨[v], m.pl, m.to⟩ R → Big (.op [32, r] :: l) m R := by
  obtain ⟨v, hv⟩ : ∃ v, m.pl[r.toNat]? = some v := ⟨_, List.getElem?_eq_getElem (by rw [i.len]; exact (Int.toNat_lt h0).mpr h3)⟩
  refine ⟨v, i.nn v (List.mem_of_getElem? hv), fun l R h => .op i.gd (m1 := ⟨[v], m.pl, m.to⟩) ?_ i.to h⟩
  have e : code [32, r] = 32 := rfl
  have a : arg [32, r] = r := rfl
  unfold doF
  rw [e, a, if_pos rfl, if_pos ⟨by simp, h0⟩, hv, i.st]
  rfl
theorem big_neg {m : MS} {r w : Int} (i : Inv m) (h0 : 0 ≤ r) (h3 : r < 3) (w0 : 0 ≤ w) (w3 : w < 3) : ∃ m', Inv m' ∧ m'.to = m.to ∧ ∀ (l : List Node) (R : Rs), Big l m' R → Big (.op [32, r] :: .op [69] :: .op [33, w] :: l) m R := by
  obtain ⟨v, hv, hb⟩ := big_load i h0 h3
  refine ⟨⟨[], m.pl.set w.toNat (if v = 0 then 1 else 0), m.to⟩, ⟨rfl, by simpa using i.len, ?_, i.to⟩, rfl, fun l R h => hb _ _ ?_⟩
  · intro x hx
    rcases List.mem_or_eq_of_mem_set hx with hx | rfl
    · exact i.nn x hx
    · split <;> decide
  · refine .op ⟨i.to, by simp⟩ (m1 := ⟨[if v = 0 then 1 else 0], m.pl, m.to⟩) rfl i.to ?_
    refine .op ⟨i.to, by simp⟩ (m1 := ⟨[], m.pl.set w.toNat (if v = 0 then 1 else 0), m.to⟩) ?_ i.to h
    have e : code [33, w] = 33 := rfl
    have a : arg [33, w] = w := rfl
    unfold doF
    rw [e, a, if_neg (by decide), if_pos rfl, if_pos ⟨by simp, w0, by rw [i.len]; exact w3⟩]
    rfl
/-- a branch, its value on the stack -/
theorem big_br {m : MS} {c : Int} {g : List Int} {rr : Int} (i : Inv m) (hc : c = 12 ∨ c = 13 ∨ c = 14) (hg : g ≠ []) (h0 : 0 ≤ rr) (h3 : rr < 3) :
    (∃ x ∈ g, ∀ l, Big ((if c = 12 then [] else [.op [32, rr]]) ++ (.br c g :: l)) m (.go x m)) ∨ ∀ l R, Big l m R → Big ((if c = 12 then [] else [.op [32, rr]]) ++ (.br c g :: l)) m R := by
  have hpos := List.length_pos_iff.mpr hg
  obtain ⟨y, hy⟩ := get_some hpos
  have hm : (⟨[], m.pl, m.to⟩ : MS) = m := by rw [← i.st]
  by_cases h12 : c = 12
  · subst h12
    refine .inl ⟨y, List.mem_of_getElem? hy, fun l => ?_⟩
    refine .brT i.gd ?_
    unfold goN
    rw [if_neg (by decide), if_pos rfl, hy]
  · rw [if_neg h12]
    obtain ⟨v, hv, hb⟩ := big_load i h0 h3
    have gv : Gd (⟨[v], m.pl, m.to⟩ : MS) := ⟨i.to, by simp⟩
    by_cases h14 : c = 14
    · subst h14
      obtain ⟨z, hz⟩ := get_some (g := g) (i := min v.toNat (g.length - 1)) (minlt hpos)
      refine .inl ⟨z, List.mem_of_getElem? hz, fun l => hb _ _ (.brT gv ?_)⟩
      unfold goN
      rw [if_pos rfl]
      simp only [List.getLast?_singleton, Option.bind_some]
      rw [if_pos hv, hz]
      show some (some z, (⟨[], m.pl, m.to⟩ : MS)) = _
      rw [hm]
    · by_cases hv0 : v = 0
      · refine .inr fun l R h => hb _ _ (.brN gv (m1 := m) ?_ h)
        unfold goN
        rw [if_neg h14, if_neg h12]
        simp only [List.getLast?_singleton, Option.map_some]
        rw [if_neg (fun e => e hv0)]
        show some (none, (⟨[], m.pl, m.to⟩ : MS)) = _
        rw [hm]
      · refine .inl ⟨y, List.mem_of_getElem? hy, fun l => hb _ _ (.brT gv ?_)⟩
        unfold goN
        rw [if_neg h14, if_neg h12]
        simp only [List.getLast?_singleton, Option.map_some]
        rw [if_pos hv0, hy]
        show some (some y, (⟨[], m.pl, m.to⟩ : MS)) = _
        rw [hm]
theorem wt1_pos : ∀ x : St, 1 ≤ wt1 x
  | .nop => by simp [wt1_q0, wt1_q1, wt1_q2, wt1_q3, wt1_q4, wt1_q5, wt1_q6]
  | .out _ => by simp [wt1_q0, wt1_q1, wt1_q2, wt1_q3, wt1_q4, wt1_q5, wt1_q6]
  | .neg _ _ => by simp [wt1_q0, wt1_q1, wt1_q2, wt1_q3, wt1_q4, wt1_q5, wt1_q6]
  | .brn .. => by simp [wt1_q0, wt1_q1, wt1_q2, wt1_q3, wt1_q4, wt1_q5, wt1_q6]
  | .blk _ _ f => by simp [wt1_q0, wt1_q1, wt1_q2, wt1_q3, wt1_q4, wt1_q5, wt1_q6]; exact lq0 [_] 1 (.n 1) (.a (.n 2) (.v 0)) rfl 
  | .if1 _ _ f => by simp [wt1_q0, wt1_q1, wt1_q2, wt1_q3, wt1_q4, wt1_q5, wt1_q6]; exact lq0 [_] 1 (.n 1) (.a (.n 3) (.v 0)) rfl 
  | .if2 _ _ f s => by simp [wt1_q0, wt1_q1, wt1_q2, wt1_q3, wt1_q4, wt1_q5, wt1_q6]; exact lq0 [_, _] 1 (.n 1) (.a (.a (.n 4) (.v 0)) (.v 1)) rfl 
theorem total : ∀ (d w : Nat) (o L : List Int) (sts : List St) (m : MS), 12 - m.to.length ≤ d → wtS sts ≤ w → OkS o L sts → Inv m → ∃ R, Big (nodesS sts) m R ∧ Fine L m R
  | 0, _, _, _, _, m, hd, _, _, i => absurd i.to (Nat.not_lt.mpr (Nat.le_of_sub_eq_zero (Nat.le_zero.mp hd)))
  | d + 1, w, o, L, [], m, hd, hw, hok, i => ⟨.nxt m, .nil i.gd, i, Nat.le_refl _⟩
  | d + 1, 0, o, L, x :: r, m, hd, hw, hok, i => by
    exact absurd (Nat.le_trans (Nat.le_add_right _ _) hw) (Nat.not_le.mpr (wt1_pos x))
  | d + 1, w + 1, o, L, x :: r, m, hd, hw, hok, i => by
    have hx := wt1_pos x
    simp only [wtS_q0, wtS_q1] at hw
    /- the rest, from a later state -/
    have hr : ∀ m' : MS, m.to.length ≤ m'.to.length → Inv m' → ∃ R, Big (nodesS r) m' R ∧ Fine L m' R := fun m' e i' =>
      total (d + 1) w o L r m' (Nat.le_trans (Nat.sub_le_sub_left e 12) hd) (lq2 [_, _, _] (.le 1 (.a (.v 2) (.v 0)) (.a (.v 1) (.n 1))) (.le 1 (.n 1) (.v 2)) 1 (.v 0) (.v 1) rfl hw hx) hok.2 i'
    cases x with
    | nop =>
      obtain ⟨R, h1, h2⟩ := hr m (Nat.le_refl _) i
      exact ⟨R, .op i.gd (m1 := m) rfl i.to h1, h2⟩
    | out n =>
      by_cases hl : m.to.length + 1 < 12
      · obtain ⟨R, h1, h2⟩ := hr ⟨[], m.pl, m.to ++ [n]⟩ (by simp) ⟨rfl, i.len, i.nn, by simpa using hl⟩
        exact ⟨R, big_out i hl h1, h2.le (by simp)⟩
      · exact ⟨_, big_outF i hl, trivial⟩
    | neg a b =>
      obtain ⟨⟨a0, a3⟩, b0, b3⟩ := hok.1
      obtain ⟨m', i', e, hb⟩ := big_neg i a0 a3 b0 b3
      obtain ⟨R, h1, h2⟩ := hr m' (by rw [e]; exact Nat.le_refl _) i'
      exact ⟨R, hb _ _ h1, h2.le (by rw [e]; exact Nat.le_refl _)⟩
    | brn ob c g rr =>
      obtain ⟨hc, ho, ⟨hg, hg3⟩, h1, hL, r0, r3⟩ := hok.1
      have hn : ∀ l, nodes1 (.brn ob c g rr) ++ l = (if ob then [.op [65, 9], .op [16, 0]] else []) ++ ((if c = 12 then [] else [.op [32, rr]]) ++ (.br c g :: l)) := fun l => by simp [nodes1_q0, nodes1_q1, nodes1_q2, nodes1_q3, nodes1_q4, nodes1_q5, nodes1_q6]
      simp only [nodesS_q0, nodesS_q1]
      rw [hn]
      cases ob with
      | false =>
        rw [if_neg (by decide), List.nil_append]
        rcases big_br i hc hg r0 r3 with ⟨y, hy, hb⟩ | hb
        · exact ⟨_, hb _, i, Nat.le_refl _, fun k => absurd k (hL rfl y hy)⟩
        · obtain ⟨R, h1, h2⟩ := hr m (Nat.le_refl _) i
          exact ⟨R, hb _ _ h1, h2⟩
      | true =>
        rw [if_pos rfl]
        by_cases hl : m.to.length + 1 < 12
        · have i' : Inv ⟨[], m.pl, m.to ++ [9]⟩ := ⟨rfl, i.len, i.nn, by simpa using hl⟩
          rcases big_br i' hc hg r0 r3 with ⟨y, hy, hb⟩ | hb
          · exact ⟨_, big_out i hl (hb _), i', by simp, fun _ => by simp⟩
          · obtain ⟨R, h1, h2⟩ := hr ⟨[], m.pl, m.to ++ [9]⟩ (by simp) i'
            exact ⟨R, big_out i hl (hb _ _ h1), h2.le (by simp)⟩
        · exact ⟨_, big_outF i hl, trivial⟩
    | blk c n f =>
      obtain ⟨hc, hn, hf⟩ := hok.1
      simp only [wt1_q0, wt1_q1, wt1_q2, wt1_q3, wt1_q4, wt1_q5, wt1_q6] at hw
      have ent : Ent c m m := by unfold Ent; rw [if_neg (fun e => hc.elim (fun q => by rw [q] at e; cases e) fun q => by rw [q] at e; cases e)]
      obtain ⟨R1, b1, b2⟩ := total (d + 1) w _ _ f m (lq1 [_, _] (.le 1 (.v 0) (.a (.v 1) (.n 1))) 1 (.v 0) (.a (.v 1) (.n 1)) rfl hd) (lq1 [_, _, _] (.le 1 (.a (.a (.n 2) (.v 0)) (.v 2)) (.a (.v 1) (.n 1))) 1 (.v 0) (.v 1) rfl hw) hf i
      simp only [nodesS_q0, nodesS_q1, nodes1_q0, nodes1_q1, nodes1_q2, nodes1_q3, nodes1_q4, nodes1_q5, nodes1_q6, List.singleton_append]
      cases R1 with
      | full t => exact ⟨_, .in1f i.gd ent b1, trivial⟩
      | nxt m2 =>
        obtain ⟨R, h1, h2⟩ := hr m2 b2.2 b2.1
        exact ⟨R, .in1n i.gd ent b1 h1, h2.le b2.2⟩
      | go x m2 =>
        obtain ⟨i2, e2, k2⟩ := b2
        by_cases hx : x = n
        · subst hx
          by_cases h3 : c = 3
          · have k3 := k2 (by rw [if_pos h3]; simp)
            obtain ⟨R, h1, h2⟩ := total d (wtS (.blk c x f :: r)) o L (.blk c x f :: r) m2 (Nat.le_trans (Nat.sub_le_sub_left k3 12) (Nat.pred_le_pred hd)) (Nat.le_refl _) hok i2
            simp only [nodesS_q0, nodesS_q1, nodes1_q0, nodes1_q1, nodes1_q2, nodes1_q3, nodes1_q4, nodes1_q5, nodes1_q6, List.singleton_append] at h1
            exact ⟨R, .in1l i.gd h3 ent b1 h1, h2.le e2⟩
          · obtain ⟨R, h1, h2⟩ := hr m2 e2 i2
            exact ⟨R, .in1b i.gd h3 ent b1 h1, h2.le e2⟩
        · exact ⟨_, .in1g i.gd ent b1 hx, i2, e2, fun k => k2 (by split; exact List.mem_cons_of_mem _ k; exact k)⟩
    | if1 a n f =>
      obtain ⟨⟨a0, a3⟩, hn, hf⟩ := hok.1
      simp only [wt1_q0, wt1_q1, wt1_q2, wt1_q3, wt1_q4, wt1_q5, wt1_q6] at hw
      obtain ⟨v, hv, hb⟩ := big_load i a0 a3
      have gv : Gd (⟨[v], m.pl, m.to⟩ : MS) := ⟨i.to, by simp⟩
      have hm : popS (⟨[v], m.pl, m.to⟩ : MS) = m := by
        show (⟨[], m.pl, m.to⟩ : MS) = m
        rw [← i.st]
      simp only [nodesS_q0, nodesS_q1, nodes1_q0, nodes1_q1, nodes1_q2, nodes1_q3, nodes1_q4, nodes1_q5, nodes1_q6, List.cons_append, List.nil_append]
      by_cases hv0 : v = 0
      · obtain ⟨R, h1, h2⟩ := hr m (Nat.le_refl _) i
        exact ⟨R, hb _ _ (.skip gv rfl (by rw [hv0]; rfl) (by rw [hm]; exact h1)), h2⟩
      · have ent : Ent 4 (⟨[v], m.pl, m.to⟩ : MS) m := by
          have := Ent_pop (m := (⟨[v], m.pl, m.to⟩ : MS)) rfl hv0
          rwa [hm] at this
        obtain ⟨R1, b1, b2⟩ := total (d + 1) w _ _ f m (lq1 [_, _] (.le 1 (.v 0) (.a (.v 1) (.n 1))) 1 (.v 0) (.a (.v 1) (.n 1)) rfl hd) (lq1 [_, _, _] (.le 1 (.a (.a (.n 3) (.v 0)) (.v 2)) (.a (.v 1) (.n 1))) 1 (.v 0) (.v 1) rfl hw) hf i
        cases R1 with
        | full t => exact ⟨_, hb _ _ (.in1f gv ent b1), trivial⟩
        | nxt m2 =>
          obtain ⟨R, h1, h2⟩ := hr m2 b2.2 b2.1
          exact ⟨R, hb _ _ (.in1n gv ent b1 h1), h2.le b2.2⟩
        | go x m2 =>
          obtain ⟨i2, e2, k2⟩ := b2
          by_cases hx : x = n
          · subst hx
            obtain ⟨R, h1, h2⟩ := hr m2 e2 i2
            exact ⟨R, hb _ _ (.in1b gv (by decide) ent b1 h1), h2.le e2⟩
          · exact ⟨_, hb _ _ (.in1g gv ent b1 hx), i2, e2, k2⟩
    | if2 a n f s =>
      obtain ⟨⟨a0, a3⟩, hn, hf, hs⟩ := hok.1
      simp only [wt1_q0, wt1_q1, wt1_q2, wt1_q3, wt1_q4, wt1_q5, wt1_q6] at hw
      obtain ⟨v, hv, hb⟩ := big_load i a0 a3
      have gv : Gd (⟨[v], m.pl, m.to⟩ : MS) := ⟨i.to, by simp⟩
      have hm : popS (⟨[v], m.pl, m.to⟩ : MS) = m := by
        show (⟨[], m.pl, m.to⟩ : MS) = m
        rw [← i.st]
      simp only [nodesS_q0, nodesS_q1, nodes1_q0, nodes1_q1, nodes1_q2, nodes1_q3, nodes1_q4, nodes1_q5, nodes1_q6, List.cons_append, List.nil_append]
      have hbody : ∃ R1, Big (if v = 0 then nodesS s else nodesS f) m R1 ∧ Fine L m R1 := by
        by_cases hv0 : v = 0
        · rw [if_pos hv0]
          exact total (d + 1) w _ _ s m (lq1 [_, _] (.le 1 (.v 0) (.a (.v 1) (.n 1))) 1 (.v 0) (.a (.v 1) (.n 1)) rfl hd) (lq1 [_, _, _, _] (.le 1 (.a (.a (.a (.n 4) (.v 2)) (.v 0)) (.v 3)) (.a (.v 1) (.n 1))) 1 (.v 0) (.v 1) rfl hw) hs i
        · rw [if_neg hv0]
          exact total (d + 1) w _ _ f m (lq1 [_, _] (.le 1 (.v 0) (.a (.v 1) (.n 1))) 1 (.v 0) (.a (.v 1) (.n 1)) rfl hd) (lq1 [_, _, _, _] (.le 1 (.a (.a (.a (.n 4) (.v 0)) (.v 2)) (.v 3)) (.a (.v 1) (.n 1))) 1 (.v 0) (.v 1) rfl hw) hf i
      obtain ⟨R1, b1, b2⟩ := hbody
      cases R1 with
      | full t => exact ⟨_, hb _ _ (.in2f gv rfl rfl (by rw [hm]; exact b1)), trivial⟩
      | nxt m2 =>
        obtain ⟨R, h1, h2⟩ := hr m2 b2.2 b2.1
        exact ⟨R, hb _ _ (.in2n gv rfl rfl (by rw [hm]; exact b1) h1), h2.le b2.2⟩
      | go x m2 =>
        obtain ⟨i2, e2, k2⟩ := b2
        by_cases hx : x = n
        · subst hx
          obtain ⟨R, h1, h2⟩ := hr m2 e2 i2
          exact ⟨R, hb _ _ (.in2b gv rfl rfl (by rw [hm]; exact b1) h1), h2.le e2⟩
        · exact ⟨_, hb _ _ (.in2g gv rfl rfl (by rw [hm]; exact b1) hx), i2, e2, k2⟩

/- NmLp -/
mutual
theorem St1_WN {o L : List Int} : ∀ x : St, Ok1 o L x → WN o (nodes1 x)
  | .nop, h => ⟨⟨⟨by simp, by simp⟩, by decide, by decide, fun _ => rfl⟩, trivial⟩
  | .out n, h => by
    have e : code [65, n] = 65 := rfl
    refine ⟨⟨⟨by simp, by simp⟩, by rw [e]; decide, by rw [e]; decide, by rw [e]; lia⟩, ⟨⟨by simp, by simp⟩, by decide, by decide, by decide⟩, trivial⟩
  | .neg r w, h => by
    have e : code [32, r] = 32 := rfl
    have e2 : code [33, w] = 33 := rfl
    refine ⟨⟨⟨by simp, by simp⟩, by rw [e]; decide, by rw [e]; decide, by rw [e]; lia⟩, WN_69, ⟨⟨by simp, by simp⟩, by rw [e2]; decide, by rw [e2]; decide, by rw [e2]; lia⟩, trivial⟩
  | .brn ob c g r, h => by
    obtain ⟨hc, ho, hg, h1, hL, r0, r3⟩ := h
    have e : code [32, r] = 32 := rfl
    have e2 : code [65, (9 : Int)] = 65 := rfl
    simp only [nodes1_q0, nodes1_q1, nodes1_q2, nodes1_q3, nodes1_q4, nodes1_q5, nodes1_q6]
    refine WN_append.mpr ⟨WN_append.mpr ⟨?_, ?_⟩, ⟨hc, hg, ho, h1⟩, trivial⟩
    · split
      · exact ⟨⟨⟨by simp, by simp⟩, by decide, by decide, by decide⟩, ⟨⟨by simp, by simp⟩, by decide, by decide, by decide⟩, trivial⟩
      · trivial
    · split
      · trivial
      · exact ⟨⟨⟨by simp, by simp⟩, by rw [e]; decide, by rw [e]; decide, by rw [e]; lia⟩, trivial⟩
  | .blk c n f, h => ⟨⟨by have := h.1; lia, h.2.1, StS_WN f h.2.2⟩, trivial⟩
  | .if1 r n f, h => by
    have e : code [32, r] = 32 := rfl
    exact ⟨⟨⟨by simp, by simp⟩, by rw [e]; decide, by rw [e]; decide, by rw [e]; lia⟩, ⟨by lia, h.2.1, StS_WN f h.2.2⟩, trivial⟩
  | .if2 r n f s, h => by
    have e : code [32, r] = 32 := rfl
    exact ⟨⟨⟨by simp, by simp⟩, by rw [e]; decide, by rw [e]; decide, by rw [e]; lia⟩, ⟨rfl, h.2.1, StS_WN f h.2.2.1, StS_WN s h.2.2.2⟩, trivial⟩
theorem StS_WN {o L : List Int} : ∀ l : List St, OkS o L l → WN o (nodesS l)
  | [], _ => trivial
  | x :: r, h => WN_append.mpr ⟨St1_WN x h.1, StS_WN r h.2⟩
end
mutual
theorem St1_nms : ∀ x : St, nmsN (nodes1 x) = names1 x
  | .nop => rfl
  | .out n => rfl
  | .neg r w => rfl
  | .brn ob c g r => by
    simp only [nodes1_q0, nodes1_q1, nodes1_q2, nodes1_q3, nodes1_q4, nodes1_q5, nodes1_q6, nmsN_append, names1]
    cases ob <;> by_cases h : c = 12 <;> simp [h, nmsN_q0, nmsN_q1, nmsN1_q0, nmsN1_q1, nmsN1_q2, nmsN1_q3]
  | .blk c n f => by simp [nodes1_q0, nodes1_q1, nodes1_q2, nodes1_q3, nodes1_q4, nodes1_q5, nodes1_q6, nmsN_q0, nmsN_q1, nmsN1_q0, nmsN1_q1, nmsN1_q2, nmsN1_q3, names1, StS_nms f]
  | .if1 r n f => by simp [nodes1_q0, nodes1_q1, nodes1_q2, nodes1_q3, nodes1_q4, nodes1_q5, nodes1_q6, nmsN_q0, nmsN_q1, nmsN1_q0, nmsN1_q1, nmsN1_q2, nmsN1_q3, names1, StS_nms f]
  | .if2 r n f s => by simp [nodes1_q0, nodes1_q1, nodes1_q2, nodes1_q3, nodes1_q4, nodes1_q5, nodes1_q6, nmsN_q0, nmsN_q1, nmsN1_q0, nmsN1_q1, nmsN1_q2, nmsN1_q3, names1, StS_nms f, StS_nms s]
theorem StS_nms : ∀ l : List St, nmsN (nodesS l) = namesS l
  | [] => rfl
  | x :: r => by simp only [nodesS_q0, nodesS_q1, nmsN_append, namesS_q0, namesS_q1, St1_nms x, StS_nms r]
end
mutual
theorem St1_flat : ∀ (x : St) (o : List Int), (flatN o (nodes1 x)).length ≤ wt1 x
  | .nop, o => by simp [nodes1_q0, nodes1_q1, nodes1_q2, nodes1_q3, nodes1_q4, nodes1_q5, nodes1_q6, flatN_q0, flatN_q1, flat1_q0, flat1_q1, flat1_q2, flat1_q3, wt1_q0, wt1_q1, wt1_q2, wt1_q3, wt1_q4, wt1_q5, wt1_q6]
  | .out n, o => by simp [nodes1_q0, nodes1_q1, nodes1_q2, nodes1_q3, nodes1_q4, nodes1_q5, nodes1_q6, flatN_q0, flatN_q1, flat1_q0, flat1_q1, flat1_q2, flat1_q3, wt1_q0, wt1_q1, wt1_q2, wt1_q3, wt1_q4, wt1_q5, wt1_q6]
  | .neg r w, o => by simp [nodes1_q0, nodes1_q1, nodes1_q2, nodes1_q3, nodes1_q4, nodes1_q5, nodes1_q6, flatN_q0, flatN_q1, flat1_q0, flat1_q1, flat1_q2, flat1_q3, wt1_q0, wt1_q1, wt1_q2, wt1_q3, wt1_q4, wt1_q5, wt1_q6]
  | .brn ob c g r, o => by
    simp only [nodes1_q0, nodes1_q1, nodes1_q2, nodes1_q3, nodes1_q4, nodes1_q5, nodes1_q6, flatN_append, wt1_q0, wt1_q1, wt1_q2, wt1_q3, wt1_q4, wt1_q5, wt1_q6]
    cases ob <;> by_cases h : c = 12 <;> simp [h, flatN_q0, flatN_q1, flat1_q0, flat1_q1, flat1_q2, flat1_q3]
  | .blk c n f, o => by
    have := StS_flat f (o ++ [n])
    simp only [nodes1_q0, nodes1_q1, nodes1_q2, nodes1_q3, nodes1_q4, nodes1_q5, nodes1_q6, flatN_q0, flatN_q1, flat1_q0, flat1_q1, flat1_q2, flat1_q3, wt1_q0, wt1_q1, wt1_q2, wt1_q3, wt1_q4, wt1_q5, wt1_q6, List.length_append, List.length_cons, List.length_nil]
    exact lq1 [_, _] (.le 1 (.v 0) (.v 1)) 1 (.a (.a (.a (.a (.n 0) (.n 1)) (.v 0)) (.a (.n 0) (.n 1))) (.n 0)) (.a (.n 2) (.v 1)) rfl this
  | .if1 r n f, o => by
    have := StS_flat f (o ++ [n])
    simp only [nodes1_q0, nodes1_q1, nodes1_q2, nodes1_q3, nodes1_q4, nodes1_q5, nodes1_q6, flatN_q0, flatN_q1, flat1_q0, flat1_q1, flat1_q2, flat1_q3, wt1_q0, wt1_q1, wt1_q2, wt1_q3, wt1_q4, wt1_q5, wt1_q6, List.length_append, List.length_cons, List.length_nil]
    exact lq1 [_, _] (.le 1 (.v 0) (.v 1)) 1 (.a (.a (.n 0) (.n 1)) (.a (.a (.a (.a (.n 0) (.n 1)) (.v 0)) (.a (.n 0) (.n 1))) (.n 0))) (.a (.n 3) (.v 1)) rfl this
  | .if2 r n f s, o => by
    have := StS_flat f (o ++ [n])
    have := StS_flat s (o ++ [n])
    simp only [nodes1_q0, nodes1_q1, nodes1_q2, nodes1_q3, nodes1_q4, nodes1_q5, nodes1_q6, flatN_q0, flatN_q1, flat1_q0, flat1_q1, flat1_q2, flat1_q3, wt1_q0, wt1_q1, wt1_q2, wt1_q3, wt1_q4, wt1_q5, wt1_q6, List.length_append, List.length_cons, List.length_nil]
    lia
theorem StS_flat : ∀ (l : List St) (o : List Int), (flatN o (nodesS l)).length ≤ wtS l
  | [], o => by simp [nodesS_q0, nodesS_q1, flatN_q0, flatN_q1]
  | x :: r, o => by
    have := St1_flat x o
    have := StS_flat r o
    simp only [nodesS_q0, nodesS_q1, flatN_append, wtS_q0, wtS_q1, List.length_append]
    lia
end
theorem dptN_append : ∀ a b : List Node, dptN (a ++ b) = max (dptN a) (dptN b)
  | [], b => by simp [dptN_q0, dptN_q1]
  | x :: r, b => (congrArg (max (dpt1 x)) (dptN_append r b)).trans (Nat.max_assoc ..).symm
mutual
theorem St1_dep : ∀ x : St, dptN (nodes1 x) ≤ dep1 x
  | .nop => by simp [nodes1_q0, nodes1_q1, nodes1_q2, nodes1_q3, nodes1_q4, nodes1_q5, nodes1_q6, dptN_q0, dptN_q1, dpt1_q0, dpt1_q1, dpt1_q2, dpt1_q3, dep1]
  | .out n => by simp [nodes1_q0, nodes1_q1, nodes1_q2, nodes1_q3, nodes1_q4, nodes1_q5, nodes1_q6, dptN_q0, dptN_q1, dpt1_q0, dpt1_q1, dpt1_q2, dpt1_q3, dep1]
  | .neg r w => by simp [nodes1_q0, nodes1_q1, nodes1_q2, nodes1_q3, nodes1_q4, nodes1_q5, nodes1_q6, dptN_q0, dptN_q1, dpt1_q0, dpt1_q1, dpt1_q2, dpt1_q3, dep1]
  | .brn ob c g r => by
    simp only [nodes1_q0, nodes1_q1, nodes1_q2, nodes1_q3, nodes1_q4, nodes1_q5, nodes1_q6, dptN_append, dep1]
    cases ob <;> by_cases h : c = 12 <;> simp [h, dptN_q0, dptN_q1, dpt1_q0, dpt1_q1, dpt1_q2, dpt1_q3]
  | .blk c n f => by
    have := StS_dep f
    simp only [nodes1_q0, nodes1_q1, nodes1_q2, nodes1_q3, nodes1_q4, nodes1_q5, nodes1_q6, dptN_q0, dptN_q1, dpt1_q0, dpt1_q1, dpt1_q2, dpt1_q3, dep1]
    exact mx0 (Nat.succ_le_succ this)
  | .if1 r n f => by
    have := StS_dep f
    simp only [nodes1_q0, nodes1_q1, nodes1_q2, nodes1_q3, nodes1_q4, nodes1_q5, nodes1_q6, dptN_q0, dptN_q1, dpt1_q0, dpt1_q1, dpt1_q2, dpt1_q3, dep1]
    exact Nat.max_le.mpr ⟨Nat.zero_le _, mx0 (Nat.succ_le_succ this)⟩
  | .if2 r n f s => by
    have := StS_dep f
    have h2 := StS_dep s
    simp only [nodes1_q0, nodes1_q1, nodes1_q2, nodes1_q3, nodes1_q4, nodes1_q5, nodes1_q6, dptN_q0, dptN_q1, dpt1_q0, dpt1_q1, dpt1_q2, dpt1_q3, dep1]
    exact Nat.max_le.mpr ⟨Nat.zero_le _, mx0 (Nat.succ_le_succ (mxm this h2))⟩
theorem StS_dep : ∀ l : List St, dptN (nodesS l) ≤ depS l
  | [] => by simp [nodesS_q0, nodesS_q1, dptN_q0, dptN_q1]
  | x :: r => by
    have := St1_dep x
    have h2 := StS_dep r
    simp only [nodesS_q0, nodesS_q1, dptN_append, depS_q0, depS_q1]
    exact mxm this h2
end
mutual
theorem dpt1_pd (o : List Int) : ∀ x : Node, pd1 (pt1 o x) = dpt1 x
  | .op p => rfl
  | .br c g => rfl
  | .blk1 c n f => by simp only [pt1_q0, pt1_q1, pt1_q2, pt1_q3, pd1_q0, pd1_q1, pd1_q2, dpt1_q0, dpt1_q1, dpt1_q2, dpt1_q3, dptN_pd (o ++ [n]) f]
  | .blk2 c n f s => by simp only [pt1_q0, pt1_q1, pt1_q2, pt1_q3, pd1_q0, pd1_q1, pd1_q2, dpt1_q0, dpt1_q1, dpt1_q2, dpt1_q3, dptN_pd (o ++ [n]) f, dptN_pd (o ++ [n]) s]
theorem dptN_pd (o : List Int) : ∀ l : List Node, pdP (ptN o l) = dptN l
  | [] => rfl
  | x :: r => by simp only [ptN_q0, ptN_q1, pdP_q0, pdP_q1, dptN_q0, dptN_q1, dpt1_pd o x, dptN_pd o r]
end
theorem cutd_dpt {o : List Int} {l : List Node} (w : WN o l) : dptN (cutd l) ≤ dptN l := by
  rw [← dptN_pd o (cutd l), ← cutd_pt l w, ← dptN_pd o l]
  exact (cutP_tk _).2
theorem cutd_len {o : List Int} {l : List Node} (w : WN o l) : (flatN o (cutd l)).length ≤ (flatN o l).length := by
  rw [flatN_pt, flatN_pt, ← cutd_pt l w]
  exact (cutP_tk _).1
theorem opnd_dpt {o : List Int} {l : List Node} (w : WN o l) (nd : (o ++ nmsN l).Nodup) : dptN (opnd l) ≤ dptN l := by
  rw [← dptN_pd o (opnd l), ← openP_law w nd, ← dptN_pd o l]
  exact (openP_tk _).2
theorem opnd_len {o : List Int} {l : List Node} (w : WN o l) (nd : (o ++ nmsN l).Nodup) : (flatN o (opnd l)).length ≤ (flatN o l).length := by
  rw [flatN_pt, flatN_pt, ← openP_law w nd]
  exact (openP_tk _).1
theorem Big.goal_in {l : List Node} {m : MS} {R : Rs} (h : Big l m R) : ∀ x m1 o, R = .go x m1 → WN o l → x ∈ o := by
  induction h with
  | nil g => exact fun _ _ _ e => by cases e
  | op _ _ _ _ ih => exact fun x m1 o e w => ih x m1 o e w.2
  | opF _ _ _ => exact fun _ _ _ e => by cases e
  | brN _ _ _ ih => exact fun x m1 o e w => ih x m1 o e w.2
  | brT g e => exact fun x m1 o e2 w => by cases e2; exact w.1.2.2.1 _ (goN_mem e)
  | skip _ _ _ _ ih => exact fun x m1 o e w => ih x m1 o e w.2
  | in1n _ _ _ _ _ ih => exact fun x m1 o e w => ih x m1 o e w.2
  | in1l _ _ _ _ _ _ ih => exact ih
  | in1b _ _ _ _ _ _ ih => exact fun x m1 o e w => ih x m1 o e w.2
  | in1g _ _ _ hx ih =>
    intro x m1 o e w
    cases e
    have := ih _ _ _ rfl w.1.2.2
    simp only [List.mem_append, List.mem_singleton] at this
    exact this.resolve_right hx
  | in1f _ _ _ _ => exact fun _ _ _ e => by cases e
  | in2n _ _ _ _ _ _ ih => exact fun x m1 o e w => ih x m1 o e w.2
  | in2b _ _ _ _ _ _ ih => exact fun x m1 o e w => ih x m1 o e w.2
  | in2g _ _ _ _ hx ih =>
    intro x m1 o e w
    cases e
    have := ih _ _ _ rfl (WN_if w.1.2.2.1 w.1.2.2.2)
    simp only [List.mem_append, List.mem_singleton] at this
    exact this.resolve_right hx
  | in2f _ _ _ _ _ => exact fun _ _ _ e => by cases e
noncomputable def outT : Rs → List Int
  | .nxt m => m.to
  | .go _ m => m.to
  | .full t => t
theorem outT_q0 (m) : outT (.nxt m) = (m.to) := rfl
theorem outT_q1 (w1) (m) : outT (.go w1 m) = (m.to) := rfl
theorem outT_q2 (t) : outT (.full t) = (t) := rfl
/-- the flat body of the whole runs -/
theorem run_top {l : List Node} {m : MS} {R : Rs} (h : Big l m R) (w : WN [0] l) (hd : dptN l ≤ 900) : Goes (flatN [0] l ++ [[11]]) m [] 0 (outT R) := by
  refine run_big h (flatN [0] l ++ [[11]]) [] [[11]] [0] [] (outT R) rfl w (by simp) rfl (by simpa using hd) ?_
  cases R with
  | nxt m1 =>
    have g1 := h.gd.1 m1 rfl
    have : Goes (flatN [0] l ++ [[11]]) m1 [] (flatN [0] l).length m1.to := by
      refine st_end (pre := flatN [0] l) (r := []) rfl g1 (by simp) ?_
      exact ⟨0, .stop fun x => by have := x.1; simp at this⟩
    simpa [After_q0, After_q1, After_q2, outT_q0, outT_q1, outT_q2] using this
  | go x m1 =>
    have := h.goal_in x m1 [0] rfl w
    simp only [List.mem_singleton] at this
    subst this
    exact ⟨0, rfl, .inl ⟨rfl, rfl⟩⟩
  | full t => rfl
/-- all four bodies tell the same -/
theorem four {sts : List St} {L : List Int} {pl0 : List Int} (hok : OkS [0] L sts) (nd : ([0] ++ namesS sts).Nodup) (hd : depS sts ≤ 800) (hp : pl0.length = 3) (hp0 : ∀ v ∈ pl0, 0 ≤ v) :
    ∃ t, Goes (flatN [0] (nodesS sts) ++ [[11]]) ⟨[], pl0, []⟩ [] 0 t ∧ Goes (flatN [0] (cutd (nodesS sts)) ++ [[11]]) ⟨[], pl0, []⟩ [] 0 t ∧ Goes (flatN [0] (opnd (nodesS sts)) ++ [[11]]) ⟨[], pl0, []⟩ [] 0 t ∧ Goes (flatN [0] (cutd (opnd (nodesS sts))) ++ [[11]]) ⟨[], pl0, []⟩ [] 0 t := by
  have w := StS_WN sts hok
  have nd2 : ([0] ++ nmsN (nodesS sts)).Nodup := by rw [StS_nms]; exact nd
  have dp := StS_dep sts
  have wo : WN [0] (opnd (nodesS sts)) := openN_WN _ w fun _ h => h
  obtain ⟨R, h1, _⟩ := total 12 (wtS sts) [0] L sts ⟨[], pl0, []⟩ (by simp) (Nat.le_refl _) hok ⟨rfl, hp, hp0, by simp⟩
  have h2 := big_cut h1 [0] w
  have h3 := big_open h1 [0] w fun _ h => h
  have h4 := big_cut h3 [0] wo
  have d3 := opnd_dpt w nd2
  have d2 := cutd_dpt w
  have d4 := cutd_dpt wo
  exact ⟨outT R, run_top h1 w (lq2 [_, _] (.le 1 (.v 1) (.n 800)) (.le 1 (.v 0) (.v 1)) 1 (.v 0) (.n 900) rfl hd dp), run_top h2 (cutd_WN _ w) (lq3 [_, _, _] (.le 1 (.v 1) (.n 800)) (.le 1 (.v 2) (.v 1)) (.le 1 (.v 0) (.v 2)) 1 (.v 0) (.n 900) rfl hd dp d2), run_top h3 wo (lq3 [_, _, _] (.le 1 (.v 1) (.n 800)) (.le 1 (.v 2) (.v 1)) (.le 1 (.v 0) (.v 2)) 1 (.v 0) (.n 900) rfl hd dp d3), run_top h4 (cutd_WN _ wo) (lq4 [_, _, _, _] (.le 1 (.v 1) (.n 800)) (.le 1 (.v 2) (.v 1)) (.le 1 (.v 3) (.v 2)) (.le 1 (.v 0) (.v 3)) 1 (.v 0) (.n 900) rfl hd dp d3 d4)⟩

/- NmLq -/
theorem cntN_append : ∀ a b : List Node, cntN (a ++ b) = cntN a + cntN b
  | [], b => by simp [cntN_q0, cntN_q1]
  | x :: r, b => (congrArg (cnt1 x + ·) (cntN_append r b)).trans (Nat.add_assoc ..).symm
mutual
theorem St1_cnt : ∀ x : St, cntN (nodes1 x) ≤ wt1 x
  | .nop => by simp [nodes1_q0, nodes1_q1, nodes1_q2, nodes1_q3, nodes1_q4, nodes1_q5, nodes1_q6, cntN_q0, cntN_q1, cnt1_q0, cnt1_q1, cnt1_q2, cnt1_q3, wt1_q0, wt1_q1, wt1_q2, wt1_q3, wt1_q4, wt1_q5, wt1_q6]
  | .out n => by simp [nodes1_q0, nodes1_q1, nodes1_q2, nodes1_q3, nodes1_q4, nodes1_q5, nodes1_q6, cntN_q0, cntN_q1, cnt1_q0, cnt1_q1, cnt1_q2, cnt1_q3, wt1_q0, wt1_q1, wt1_q2, wt1_q3, wt1_q4, wt1_q5, wt1_q6]
  | .neg r w => by simp [nodes1_q0, nodes1_q1, nodes1_q2, nodes1_q3, nodes1_q4, nodes1_q5, nodes1_q6, cntN_q0, cntN_q1, cnt1_q0, cnt1_q1, cnt1_q2, cnt1_q3, wt1_q0, wt1_q1, wt1_q2, wt1_q3, wt1_q4, wt1_q5, wt1_q6]
  | .brn ob c g r => by
    simp only [nodes1_q0, nodes1_q1, nodes1_q2, nodes1_q3, nodes1_q4, nodes1_q5, nodes1_q6, cntN_append, wt1_q0, wt1_q1, wt1_q2, wt1_q3, wt1_q4, wt1_q5, wt1_q6]
    cases ob <;> by_cases h : c = 12 <;> simp [h, cntN_q0, cntN_q1, cnt1_q0, cnt1_q1, cnt1_q2, cnt1_q3]
  | .blk c n f => by
    have := StS_cnt f
    simp only [nodes1_q0, nodes1_q1, nodes1_q2, nodes1_q3, nodes1_q4, nodes1_q5, nodes1_q6, cntN_q0, cntN_q1, cnt1_q0, cnt1_q1, cnt1_q2, cnt1_q3, wt1_q0, wt1_q1, wt1_q2, wt1_q3, wt1_q4, wt1_q5, wt1_q6]
    exact lq1 [_, _] (.le 1 (.v 0) (.v 1)) 1 (.a (.a (.n 1) (.v 0)) (.n 0)) (.a (.n 2) (.v 1)) rfl this
  | .if1 r n f => by
    have := StS_cnt f
    simp only [nodes1_q0, nodes1_q1, nodes1_q2, nodes1_q3, nodes1_q4, nodes1_q5, nodes1_q6, cntN_q0, cntN_q1, cnt1_q0, cnt1_q1, cnt1_q2, cnt1_q3, wt1_q0, wt1_q1, wt1_q2, wt1_q3, wt1_q4, wt1_q5, wt1_q6]
    exact lq1 [_, _] (.le 1 (.v 0) (.v 1)) 1 (.a (.n 1) (.a (.a (.n 1) (.v 0)) (.n 0))) (.a (.n 3) (.v 1)) rfl this
  | .if2 r n f s => by
    have := StS_cnt f
    have := StS_cnt s
    simp only [nodes1_q0, nodes1_q1, nodes1_q2, nodes1_q3, nodes1_q4, nodes1_q5, nodes1_q6, cntN_q0, cntN_q1, cnt1_q0, cnt1_q1, cnt1_q2, cnt1_q3, wt1_q0, wt1_q1, wt1_q2, wt1_q3, wt1_q4, wt1_q5, wt1_q6]
    lia
theorem StS_cnt : ∀ l : List St, cntN (nodesS l) ≤ wtS l
  | [] => by simp [nodesS_q0, nodesS_q1, cntN_q0, cntN_q1]
  | x :: r => by
    have := St1_cnt x
    have := StS_cnt r
    simp only [nodesS_q0, nodesS_q1, cntN_append, wtS_q0, wtS_q1]
    lia
end
mutual
theorem St1_goals {o L : List Int} : ∀ x : St, Ok1 o L x → (goalsN (nodes1 x)).length ≤ wt1 x
  | .nop, _ => by simp [nodes1_q0, nodes1_q1, nodes1_q2, nodes1_q3, nodes1_q4, nodes1_q5, nodes1_q6, goalsN_q0, goalsN_q1, goals1_q0, goals1_q1, goals1_q2, goals1_q3]
  | .out n, _ => by simp [nodes1_q0, nodes1_q1, nodes1_q2, nodes1_q3, nodes1_q4, nodes1_q5, nodes1_q6, goalsN_q0, goalsN_q1, goals1_q0, goals1_q1, goals1_q2, goals1_q3]
  | .neg r w, _ => by simp [nodes1_q0, nodes1_q1, nodes1_q2, nodes1_q3, nodes1_q4, nodes1_q5, nodes1_q6, goalsN_q0, goalsN_q1, goals1_q0, goals1_q1, goals1_q2, goals1_q3]
  | .brn ob c g r, h => by
    have := h.2.2.1.2
    simp only [nodes1_q0, nodes1_q1, nodes1_q2, nodes1_q3, nodes1_q4, nodes1_q5, nodes1_q6, goalsN_append, wt1_q0, wt1_q1, wt1_q2, wt1_q3, wt1_q4, wt1_q5, wt1_q6]
    cases ob <;> by_cases h : c = 12 <;> simp [h, goalsN_q0, goalsN_q1, goals1_q0, goals1_q1, goals1_q2, goals1_q3] <;> lia
  | .blk c n f, h => by
    have := StS_goals f h.2.2
    simp only [nodes1_q0, nodes1_q1, nodes1_q2, nodes1_q3, nodes1_q4, nodes1_q5, nodes1_q6, goalsN_q0, goalsN_q1, goals1_q0, goals1_q1, goals1_q2, goals1_q3, wt1_q0, wt1_q1, wt1_q2, wt1_q3, wt1_q4, wt1_q5, wt1_q6, List.append_nil]
    exact lq1 [_, _] (.le 1 (.v 0) (.v 1)) 1 (.v 0) (.a (.n 2) (.v 1)) rfl this
  | .if1 r n f, h => by
    have := StS_goals f h.2.2
    simp only [nodes1_q0, nodes1_q1, nodes1_q2, nodes1_q3, nodes1_q4, nodes1_q5, nodes1_q6, goalsN_q0, goalsN_q1, goals1_q0, goals1_q1, goals1_q2, goals1_q3, wt1_q0, wt1_q1, wt1_q2, wt1_q3, wt1_q4, wt1_q5, wt1_q6, List.append_nil, List.nil_append]
    exact lq1 [_, _] (.le 1 (.v 0) (.v 1)) 1 (.v 0) (.a (.n 3) (.v 1)) rfl this
  | .if2 r n f s, h => by
    have := StS_goals f h.2.2.1
    have := StS_goals s h.2.2.2
    simp only [nodes1_q0, nodes1_q1, nodes1_q2, nodes1_q3, nodes1_q4, nodes1_q5, nodes1_q6, goalsN_q0, goalsN_q1, goals1_q0, goals1_q1, goals1_q2, goals1_q3, wt1_q0, wt1_q1, wt1_q2, wt1_q3, wt1_q4, wt1_q5, wt1_q6, List.append_nil, List.nil_append, List.length_append]
    lia
theorem StS_goals {o L : List Int} : ∀ l : List St, OkS o L l → (goalsN (nodesS l)).length ≤ wtS l
  | [], _ => by simp [nodesS_q0, nodesS_q1, goalsN_q0, goalsN_q1]
  | x :: r, h => by
    have := St1_goals x h.1
    have := StS_goals r h.2
    simp only [nodesS_q0, nodesS_q1, goalsN_append, wtS_q0, wtS_q1, List.length_append]
    lia
end
/-- pieces that the passes may be given -/
structure GP (ps : List PT) : Prop where
  tok : ∀ t ∈ ptoks ps, TOk t
  pc : pcP ps
  sz : (ptoks ps).length ≤ 100000
  dp : pdP ps ≤ 10
theorem GP.of {ns : List Node} (w : WN [0] ns) (hd : dptN ns ≤ 10) (hl : (flatN [0] ns).length ≤ 100000) : GP (ptN [0] ns) :=
  ⟨fun t ht => WN_TOk ns w t (by rw [flatN_pt]; exact ht), WN_pc ns w, by rw [← flatN_pt]; exact hl, by rw [dptN_pd]; exact hd⟩
structure Facts (ns : List Node) (pl0 t : List Int) : Prop where
  g0 : GP (ptN [0] ns)
  g1 : GP (cutP (ptN [0] ns))
  g2 : GP (openP (ptN [0] ns))
  g3 : GP (cutP (openP (ptN [0] ns)))
  f0 : FOkN [0] ns
  f2 : FOkN [0] (opnd ns)
  d0 : dptN ns ≤ 3
  d2 : dptN (opnd ns) ≤ 3
  l0 : (flatN [0] ns).length ≤ 10000
  l2 : (flatN [0] (opnd ns)).length ≤ 10000
  c0 : cntN ns ≤ 10000
  q0 : (goalsN ns).length ≤ 10000
  e0 : flatN [0] ns = ptoks (ptN [0] ns)
  e2 : flatN [0] (opnd ns) = ptoks (openP (ptN [0] ns))
  em : emptF (ptoks (ptN [0] ns) ++ [[11]]) = ptoks (cutP (ptN [0] ns)) ++ [[11]]
  hF : ∀ i p, ((((ptoks (ptN [0] ns) ++ [[11]]).dropLast.filter fun t => t ≠ [1]).foldl pushR []).reverse)[i]? = some p → code p = 4 → i + 1 < ((((ptoks (ptN [0] ns) ++ [[11]]).dropLast.filter fun t => t ≠ [1]).foldl pushR []).reverse).length
  r0 : Goes (ptoks (ptN [0] ns) ++ [[11]]) ⟨[], pl0, []⟩ [] 0 t
  r1 : Goes (ptoks (cutP (ptN [0] ns)) ++ [[11]]) ⟨[], pl0, []⟩ [] 0 t
  r2 : Goes (ptoks (openP (ptN [0] ns)) ++ [[11]]) ⟨[], pl0, []⟩ [] 0 t
  r3 : Goes (ptoks (cutP (openP (ptN [0] ns))) ++ [[11]]) ⟨[], pl0, []⟩ [] 0 t
  i1 : cutP (cutP (ptN [0] ns)) = cutP (ptN [0] ns)
  i2 : openP (openP (ptN [0] ns)) = openP (ptN [0] ns)
theorem law_facts {sts : List St} {n' : Int} {loops' : List Int} {m : Nat} {pl0 : List Int} (R : LR [0] [] 3 0 n' [] loops' m sts) (hm : m ≤ 9) (hp : pl0.length = 3) (hp0 : ∀ v ∈ pl0, 0 ≤ v) : ∃ t, Facts (nodesS sts) pl0 t := by
  have w := StS_WN sts R.ok
  have nd : ([0] ++ namesS sts).Nodup := by
    rw [List.singleton_append, List.nodup_cons]
    exact ⟨fun h => by have := R.nm 0 h; lia, R.nd⟩
  have nd2 : ([0] ++ nmsN (nodesS sts)).Nodup := by rw [StS_nms]; exact nd
  have hd := R.dp
  have dp := StS_dep sts
  have hw : wtS sts ≤ 9 * Bd 3 := Nat.le_trans R.wt (Nat.mul_le_mul_right _ hm)
  have hb : 9 * Bd 3 ≤ 10000 := by decide
  have fl := StS_flat sts [0]
  have wo : WN [0] (opnd (nodesS sts)) := openN_WN _ w fun _ h => h
  have ol := opnd_len w nd2
  have od := opnd_dpt w nd2
  have cl := cutd_len w
  have cd := cutd_dpt w
  have ocl := cutd_len wo
  have ocd := cutd_dpt wo
  obtain ⟨t, r0, r1, r2, r3⟩ := four R.ok nd (lq1 [_] (.le 1 (.v 0) (.n 3)) 1 (.v 0) (.n 800) rfl hd) hp hp0
  have E0 := flatN_pt [0] (nodesS sts)
  have E1 : ptN [0] (cutd (nodesS sts)) = cutP (ptN [0] (nodesS sts)) := (cutd_pt _ w).symm
  have E2 : ptN [0] (opnd (nodesS sts)) = openP (ptN [0] (nodesS sts)) := (openP_law w nd2).symm
  have E3 : ptN [0] (cutd (opnd (nodesS sts))) = cutP (openP (ptN [0] (nodesS sts))) := by rw [← cutd_pt _ wo, E2]
  refine ⟨t, ?_⟩
  refine
    { g0 := GP.of w (lq2 [_, _] (.le 1 (.v 1) (.n 3)) (.le 1 (.v 0) (.v 1)) 1 (.v 0) (.n 10) rfl hd dp) (lq3 [_, _, _] (.le 1 (.v 1) (.m 9 (.v 2))) (.le 1 (.m 9 (.v 2)) (.n 10000)) (.le 1 (.v 0) (.v 1)) 1 (.v 0) (.n 100000) rfl hw hb fl)
      g1 := by rw [← E1]; exact GP.of (cutd_WN _ w) (lq3 [_, _, _] (.le 1 (.v 1) (.n 3)) (.le 1 (.v 2) (.v 1)) (.le 1 (.v 0) (.v 2)) 1 (.v 0) (.n 10) rfl hd dp cd) (lq4 [_, _, _, _] (.le 1 (.v 1) (.m 9 (.v 2))) (.le 1 (.m 9 (.v 2)) (.n 10000)) (.le 1 (.v 3) (.v 1)) (.le 1 (.v 0) (.v 3)) 1 (.v 0) (.n 100000) rfl hw hb fl cl)
      g2 := by rw [← E2]; exact GP.of wo (lq3 [_, _, _] (.le 1 (.v 1) (.n 3)) (.le 1 (.v 2) (.v 1)) (.le 1 (.v 0) (.v 2)) 1 (.v 0) (.n 10) rfl hd dp od) (lq4 [_, _, _, _] (.le 1 (.v 1) (.m 9 (.v 2))) (.le 1 (.m 9 (.v 2)) (.n 10000)) (.le 1 (.v 3) (.v 1)) (.le 1 (.v 0) (.v 3)) 1 (.v 0) (.n 100000) rfl hw hb fl ol)
      g3 := by rw [← E3]; exact GP.of (cutd_WN _ wo) (lq4 [_, _, _, _] (.le 1 (.v 1) (.n 3)) (.le 1 (.v 2) (.v 1)) (.le 1 (.v 3) (.v 2)) (.le 1 (.v 0) (.v 3)) 1 (.v 0) (.n 10) rfl hd dp od ocd) (lq5 [_, _, _, _, _] (.le 1 (.v 1) (.m 9 (.v 2))) (.le 1 (.m 9 (.v 2)) (.n 10000)) (.le 1 (.v 3) (.v 1)) (.le 1 (.v 4) (.v 3)) (.le 1 (.v 0) (.v 4)) 1 (.v 0) (.n 100000) rfl hw hb fl ol ocl)
      f0 := WN_FOk _ w
      f2 := WN_FOk _ wo
      d0 := (lq2 [_, _] (.le 1 (.v 1) (.n 3)) (.le 1 (.v 0) (.v 1)) 1 (.v 0) (.n 3) rfl hd dp)
      d2 := (lq3 [_, _, _] (.le 1 (.v 1) (.n 3)) (.le 1 (.v 2) (.v 1)) (.le 1 (.v 0) (.v 2)) 1 (.v 0) (.n 3) rfl hd dp od)
      l0 := (lq3 [_, _, _] (.le 1 (.v 1) (.m 9 (.v 2))) (.le 1 (.m 9 (.v 2)) (.n 10000)) (.le 1 (.v 0) (.v 1)) 1 (.v 0) (.n 10000) rfl hw hb fl)
      l2 := (lq4 [_, _, _, _] (.le 1 (.v 1) (.m 9 (.v 2))) (.le 1 (.m 9 (.v 2)) (.n 10000)) (.le 1 (.v 3) (.v 1)) (.le 1 (.v 0) (.v 3)) 1 (.v 0) (.n 10000) rfl hw hb fl ol)
      c0 := by have := StS_cnt sts; exact lq3 [_, _, _] (.le 1 (.v 1) (.m 9 (.v 2))) (.le 1 (.m 9 (.v 2)) (.n 10000)) (.le 1 (.v 0) (.v 1)) 1 (.v 0) (.n 10000) rfl hw hb this
      q0 := by have := StS_goals sts R.ok; exact lq3 [_, _, _] (.le 1 (.v 1) (.m 9 (.v 2))) (.le 1 (.m 9 (.v 2)) (.n 10000)) (.le 1 (.v 0) (.v 1)) 1 (.v 0) (.n 10000) rfl hw hb this
      e0 := E0
      e2 := by rw [flatN_pt, E2]
      em := emptF_law (WN_pc _ w) (WN_nc _ w)
      hF := emptF_hyp (WN_pc _ w) (WN_nc _ w)
      r0 := by rw [← E0]; exact r0
      r1 := by rw [← E1, ← flatN_pt]; exact r1
      r2 := by rw [← E2, ← flatN_pt]; exact r2
      r3 := by rw [← E3, ← flatN_pt]; exact r3
      i1 := cutP_idem _
      i2 := by rw [openP_law w nd2]; exact openP_again w nd2 }

/- NmT -/
section
variable {b : Bs} {A : Around} {H : AH} {Q : V → AH → Prop}
theorem next_spec {tp : Addr} {ts : List Int} {n : Nat} (hC : CxOk (cx b)) (r : Rm A (n + 1)) (e : H tp = some (.list (ivs ts))) (hz : ts.length ≤ 1000)
    (h : Q (.int (ts.headD 0)) (H.set tp (.list (ivs ts.tail)))) : Cc (cx b) A (.ref 110) [.ref tp] H Q := by
  refine def_law_next hC r fun L he hr => ?_
  refine Ex_cons ?_
  (refine E1_Return ?_; refine Ev_IfExp ?_; refine Tr_Compare ?_; refine Ev_p (by assumption) (by rfl) ?_; refine Ev_List ?_; refine evs_nil ?_)
  refine .inl (Bo_ne_nil hr (.m e) .f ?_)
  (refine Th_bool ?_)
  refine ite_both (fun hb => ?_) (fun hb => ?_)
  · cases ts with
    | nil => simp at hb
    | cons t ts =>
      refine Ev_pop0 ?_
      (refine Ev_p (by assumption) (by rfl) ?_)
      refine ⟨tp, ivs ts, .int t, rfl, e, ?_, h⟩
      simp only [List.length_map, z24]
      simp only [List.length_cons] at hz
      exact lq1 [_] (.le 1 (.a (.v 0) (.n 1)) (.n 1000)) 1 (.a (.v 0) (.n 1)) (.n 16777216) rfl hz
  · cases ts with
    | nil =>
      (refine Ev_p (by assumption) (by rfl) ?_)
      rw [show H.set tp (.list (ivs [].tail)) = H from AH.set_eq H e] at h
      exact h
    | cons t ts => simp at hb
noncomputable def opV (p : Tk) : V := .tup [.str "op", pl p]
theorem op_spec1 {c : Int} {n : Nat} (hC : CxOk (cx b)) (r : Rm A (n + 1)) (h : Q (opV [c]) H) : Cc (cx b) A (.ref 117) [.int c, .none] H Q := by
  refine def_law_op hC r fun L he hr => ?_
  refine Ex_cons ?_
  (refine E1_Return ?_; refine Ev_Tuple ?_; refine evs_cons ?_; refine Ev_p (by assumption) (by rfl) ?_; refine evs_cons ?_; refine Ev_IfExp ?_; refine Tr_p (by assumption) (by rfl) ?_; refine if_t ?_; refine Ev_p (by assumption) (by rfl) ?_; refine evs_nil ?_)
  exact h
theorem op_spec2 {c a : Int} {n : Nat} (hC : CxOk (cx b)) (r : Rm A (n + 1)) (h : Q (opV [c, a]) H) : Cc (cx b) A (.ref 117) [.int c, .int a] H Q := by
  refine def_law_op hC r fun L he hr => ?_
  refine Ex_cons ?_
  (refine E1_Return ?_; refine Ev_Tuple ?_; refine evs_cons ?_; refine Ev_p (by assumption) (by rfl) ?_; refine evs_cons ?_; refine Ev_IfExp ?_; refine Tr_p (by assumption) (by rfl) ?_; refine if_f ?_; refine Ev_p (by assumption) (by rfl) ?_; refine evs_nil ?_)
  exact h
theorem output_spec {a : Int} {n : Nat} (hC : CxOk (cx b)) (r : Rm A (n + 2)) (h : Q (.lst [opV [65, a], opV [16, 0]]) H) : Cc (cx b) A (.ref 124) [.int a] H Q := by
  refine def_law_output hC r fun L he hr => ?_
  refine Ex_cons ?_
  (refine E1_Return ?_; refine Ev_List ?_; refine evs_cons ?_)
  refine call_law_op hC he ?_
  (refine Evs_p (by assumption) (by rfl) ?_)
  refine (op_spec2 hC hr ?_).cl
  (refine evs_cons ?_)
  refine call_law_op hC he ?_
  (refine Evs_p (by assumption) (by rfl) ?_)
  refine (op_spec2 hC hr ?_).cl
  (refine evs_nil ?_)
  exact .inl h
end

/- NmU -/
section
variable {b : Bs} {A : Around} {H : AH} {Q : V → AH → Prop}
noncomputable def wayC (w : Int) : Int := if w = 4 then 13 else if w = 5 then 14 else 12
theorem rngV_get {m i : Nat} {w : V} (h : (rngV m)[i]? = some w) : w = .int (i : Nat) ∧ i < m := by
  unfold rngV at h
  rw [List.getElem?_map] at h
  cases e : (List.range m)[i]? with
  | none => rw [e] at h; cases h
  | some j =>
    rw [e] at h
    have := List.getElem?_eq_some_iff.mp e
    obtain ⟨h1, h2⟩ := this
    simp only [List.length_range] at h1
    simp only [List.getElem_range] at h2
    subst h2
    simp only [Option.map_some, Option.some.injEq] at h
    exact ⟨h.symm, h1⟩
theorem rngV_len {m : Nat} : (rngV m).length = m := by simp [rngV]
theorem idx_mem {α : Type} {l : List α} {k : Int} (h0 : 0 ≤ k) (h1 : k < l.length) : ∃ x, idx l k = some x ∧ x ∈ l := by
  unfold idx
  rw [if_pos h0]
  have : k.toNat < l.length := by lia
  exact ⟨l[k.toNat], List.getElem?_eq_getElem this, List.getElem_mem this⟩
theorem idx_map {α β : Type} (f : α → β) {l : List α} {k : Int} : idx (l.map f) k = (idx l k).map f := by
  unfold idx
  simp only [List.length_map, List.getElem?_map]
  split
  · rfl
  · split <;> rfl
theorem pow3_pos (i : Nat) : (0 : Int) < 3 ^ i := by
  induction i with
  | zero => decide
  | succ i ih => rw [Int.pow_succ]; lia
theorem pow3_lt {i : Nat} (h : i < 3) : (3 : Int) ^ i < 1073741824 := by
  rcases i with _ | _ | _ | i
  · decide
  · decide
  · decide
  · lia
theorem branch_spec {sp la : Addr} {k : Int} {loops o : List Int} {rest way : Int} {n : Nat} (hC : CxOk (cx b)) (r : Rm A (n + 3)) (e1 : H sp = some (.sdict k la)) (e2 : H la = some (.list (ivs loops)))
    (ho : 1 ≤ o.length ∧ o.length ≤ 100) (hw : way = 4 ∨ way = 5 ∨ way = 6) (hl : True)
    (h : ∀ ob g v, (∀ x ∈ g, x ∈ o) → (g ≠ [] ∧ g.length ≤ 3) → (way ≠ 5 → g.length = 1) → (ob = false → ∀ x ∈ g, x ∉ loops) → 0 ≤ v → v < 3 → Q (.lst (nodesV (nodes1 (.brn ob (wayC way) g v)))) H) :
    Cc (cx b) A (.ref 129) [.ref sp, li o, .int rest, .int way] H Q := by
  refine def_law_branch hC r fun L he hr => ?_
  refine Ex_cons ?_
  refine E1_AssignComp' [("opened", li o), ("rest", .int rest)] he hr.handled (by rfl) (by (refine CapOk.cons ?_ (by rfl) (by rfl) (by rfl) (by rfl); refine CapOk.cons ?_ (by rfl) (by rfl) (by rfl) (by rfl); exact CapOk.nil (by rfl))) (by rfl) ?_ (by rfl)
  refine call_range hC he ?_
  refine evs_cons ?_
  refine Ev.cons (Q := fun v H1 => H1 = H ∧ ∃ m : Nat, v = .int m ∧ 1 ≤ m ∧ m ≤ 3 ∧ (way ≠ 5 → m = 1)) ?_ ?_
  · (refine Ev_IfExp ?_; refine Tr_p (by assumption) (by rfl) ?_)
    refine ite_both (fun hb => ?_) (fun hb => ?_)
    · (refine Ev_p (by assumption) (by rfl) ?_)
      simp only [beq_iff_eq] at hb
      exact ⟨rfl, (1 + rest % 3).toNat, congrArg V.int (by lia), by lia, by lia, by lia⟩
    · (refine Ev_p (by assumption) (by rfl) ?_)
      exact ⟨rfl, 1, rfl, (lq0 [] 1 (.n 1) (.n 1) rfl ), (lq0 [] 1 (.n 1) (.n 3) rfl ), fun _ => rfl⟩
  rintro v H1 ⟨rfl, m, rfl, hm1, hm3, hm5⟩
  (refine evs_nil ?_)
  refine Cl_range ?_
  refine ⟨rngV m, fun i acc H' => H' = H1 ∧ ∃ g : List Int, acc = ivs g ∧ g.length = i ∧ ∀ x ∈ g, x ∈ o, by rw [rngV_len, z24]; exact lq1 [_] (.le 1 (.v 0) (.n 3)) 1 (.v 0) (.n 16777216) rfl hm3, ⟨rfl, [], rfl, rfl, by simp⟩, fun i acc H' _ => .rng m (lq1 [_] (.le 1 (.v 0) (.n 3)) 1 (.v 0) (.n 1000000) rfl hm3), ?_, ?_⟩
  · rintro i w acc H' C' D he' hi ⟨rfl, g, rfl, hg1, hg2⟩ hD
    obtain ⟨rfl, hi2⟩ := rngV_get hi
    refine test_nil ?_
    refine Ev_Sub_list ?_
    (refine Ev_p (by assumption) (by rfl) ?_; refine Ev_BinOp ?_; refine Ev_BinOp ?_; refine Ev_p (by assumption) (by rfl) ?_; refine Ev_BinOp ?_; refine Ev_p (by assumption) (by rfl) ?_; refine Ev_p (by assumption) (by rfl) ?_)
    refine Bo_pow (by lia) ?_ ?_
    · have : (Builtin.Int.intBits 3 : Int) = 2 := by decide
      rw [this]
      lia
    refine Bo_div (by simpa using pow3_pos i) (by simpa using pow3_lt (Nat.lt_of_lt_of_le hi2 hm3)) ?_
    refine call_len hC he' ?_
    (refine Evs_p (by assumption) (by rfl) ?_)
    refine Cl_len .f (by rw [List.length_map, z24]; exact lq1 [_] (.le 1 (.v 0) (.n 100)) 1 (.v 0) (.n 16777216) rfl ho.2) ?_
    rw [List.length_map]
    refine Bo_mod (by lia) ?_
    obtain ⟨x, hx1, hx2⟩ := idx_mem (l := o) (k := rest / 3 ^ ((i : Int).toNat) % o.length) (Int.emod_nonneg _ (by lia)) (Int.emod_lt_of_pos _ (by lia))
    refine ⟨_, _, .int x, .f, rfl, by rw [idx_map, hx1]; rfl, by rw [List.length_map, z24]; exact lq1 [_] (.le 1 (.v 0) (.n 100)) 1 (.v 0) (.n 16777216) rfl ho.2, _, rfl, hD, rfl, g ++ [x], by simp, by simp [hg1], ?_⟩
    intro y hy
    simp only [List.mem_append, List.mem_singleton] at hy
    rcases hy with hy | rfl
    · exact hg2 y hy
    · exact hx2
  rintro acc H' ⟨rfl, g, rfl, hg1, hg2⟩
  rw [rngV_len] at hg1
  refine .inl ?_
  refine Ex_cons ?_
  refine E1_Assign he (by rfl) ?_
  refine Ev.cons (Q := fun v H1 => H1 = H' ∧ ∃ ob : Bool, v = .lst (nodesV (if ob then [.op [65, 9], .op [16, 0]] else [])) ∧ (ob = false → ∀ x ∈ g, x ∉ loops)) ?_ ?_
  · (refine Ev_IfExp ?_; refine Tr_Compare ?_)
    refine Ev_Comp' [("state", .ref sp)] he hr.handled (by (refine CapOk.cons ?_ (by rfl) (by rfl) (by rfl) (by rfl); exact CapOk.nil (by rfl))) (by rfl) ?_
    (refine Ev_p (by assumption) (by rfl) ?_)
    refine ⟨ivs g, fun i acc H1 => H1 = H' ∧ ∃ g2 : List Int, acc = ivs g2 ∧ (g2 = [] → ∀ j x, j < i → g[j]? = some x → x ∉ loops), by rw [List.length_map, z24]; exact lq2 [_, _] (.le 1 (.v 1) (.n 3)) (.eq 1 (.v 0) (.v 1)) 1 (.v 0) (.n 16777216) rfl hm3 hg1, ⟨rfl, [], rfl, fun _ j x hj => absurd hj (Nat.not_lt_zero _)⟩, fun i acc H' _ => .lst _, ?_, ?_⟩
    · rintro i w acc H1 C' D he' hi ⟨rfl, g2, rfl, hg3⟩ hD
      rw [List.getElem?_map] at hi
      cases hx : g[i]? with
      | none => rw [hx] at hi; cases hi
      | some x =>
      rw [hx] at hi
      cases hi
      have n1 : sp ≠ D := fun e => by rw [e, hD] at e1; cases e1
      have n2 : la ≠ D := fun e => by rw [e, hD] at e2; cases e2
      refine test_one ?_
      (refine Tr_Compare ?_; refine Ev_p (by assumption) (by rfl) ?_)
      refine Ev_Loops ?_
      (refine Ev_p (by assumption) (by rfl) ?_)
      refine ⟨sp, k, la, rfl, by rw [AH.set_ne _ _ n1]; exact e1, ?_⟩
      refine Bo_in_li (l := loops) hr (.m (by rw [AH.set_ne _ _ n2]; exact e2)) ?_
      (refine Th_bool ?_)
      refine ite_both (fun hb => ?_) (fun hb => ?_)
      · (refine Ev_p (by assumption) (by rfl) ?_)
        exact ⟨_, rfl, hD, rfl, g2 ++ [x], by simp, fun e => by simp at e⟩
      · refine ⟨_, rfl, hD, rfl, g2, rfl, fun e j y hj hy => ?_⟩
        rcases Nat.lt_succ_iff_lt_or_eq.mp hj with hj | rfl
        · exact hg3 e j y hj hy
        · rw [hx] at hy
          cases hy
          simpa using hb
    · rintro acc H1 ⟨rfl, g2, rfl, hg3⟩
      refine .inl ?_
      (refine Ev_List ?_; refine evs_nil ?_)
      refine .inl ?_
      refine Bo_ne_nil hr .f .f ?_
      (refine Th_bool ?_)
      refine ite_both (fun hb => ?_) (fun hb => ?_)
      · refine call_law_output hC he ?_
        (refine Evs_p (by assumption) (by rfl) ?_)
        exact (output_spec hC hr ⟨rfl, true, rfl, fun e => by cases e⟩).cl
      · (refine Ev_List ?_; refine evs_nil ?_)
        refine .inl ⟨rfl, false, rfl, fun _ x hx => ?_⟩
        have : g2 = [] := by
          cases g2 with
          | nil => rfl
          | cons => simp at hb
        obtain ⟨j, hj⟩ := List.getElem?_of_mem hx
        refine hg3 this j x ?_ hj
        rw [List.length_map]
        exact (List.getElem?_eq_some_iff.mp hj).1
  rintro v H1 ⟨rfl, ob, rfl, hob⟩
  refine Ex_cons ?_
  refine E1_Assign he (by rfl) ?_
  refine Ev.cons (Q := fun v H2 => H2 = H1 ∧ v = .lst (nodesV ((if ob then [.op [65, 9], .op [16, 0]] else []) ++ (if wayC way = 12 then [] else [.op [32, rest % 3]])))) ?_ ?_
  · (refine Ev_BinOp ?_; refine Ev_p (by assumption) (by rfl) ?_; refine Ev_IfExp ?_; refine Tr_p (by assumption) (by rfl) ?_)
    refine ite_both (fun hb => ?_) (fun hb => ?_)
    · (refine Ev_List ?_; refine evs_nil ?_)
      refine .inl ?_
      refine Bo_add_list .f .f (by rw [z24]; cases ob <;> simp [nodesV_q0, nodesV_q1]) ?_
      refine .inl ⟨rfl, ?_⟩
      simp only [beq_iff_eq] at hb
      subst hb
      cases ob <;> rfl
    · (refine Ev_List ?_; refine evs_cons ?_)
      refine call_law_op hC he ?_
      (refine Evs_p (by assumption) (by rfl) ?_)
      refine (op_spec2 hC hr ?_).cl
      (refine evs_nil ?_)
      refine .inl ?_
      refine Bo_add_list .f .f (by rw [z24]; cases ob <;> simp [nodesV_q0, nodesV_q1]) ?_
      refine .inl ⟨rfl, ?_⟩
      have h12 : wayC way ≠ 12 := by
        rcases hw with rfl | rfl | rfl
        · decide
        · decide
        · cases hb
      rw [nodesV_append, if_neg h12]
      rfl
  rintro v H2 ⟨rfl, rfl⟩
  refine Ex_cons ?_
  (refine E1_Return ?_; refine Ev_BinOp ?_; refine Ev_p (by assumption) (by rfl) ?_; refine Ev_List ?_; refine evs_cons ?_; refine Ev_Tuple ?_; refine evs_cons ?_; refine Ev_p (by assumption) (by rfl) ?_; refine evs_cons ?_)
  with_reducible refine Ev_Dict456 ?_
  (refine Ev_p (by assumption) (by rfl) ?_)
  refine ⟨way, wayC way, rfl, by rcases hw with rfl | rfl | rfl <;> rfl, ?_⟩
  refine Evs_p (by assumption) (by rfl) ?_
  refine .inl ?_
  refine Bo_add_list .f .f (by rw [z24, nodesV_append, nodesV_map, nodesV_map]; cases ob <;> by_cases h12 : wayC way = 12 <;> simp [h12]) ?_
  refine .inl ?_
  have := h ob g (rest % 3) hg2 ⟨by intro e; rw [e] at hg1; simp at hg1; exact fq2 [_] (.le 1 (.n 1) (.v 0)) (.qe 1 (.n 0) (.v 0)) rfl hm1 hg1, (lq2 [_, _] (.le 1 (.v 1) (.n 3)) (.eq 1 (.v 0) (.v 1)) 1 (.v 0) (.n 3) rfl hm3 hg1)⟩ (fun e => by rw [hg1]; exact hm5 e) hob (by lia) (by lia)
  simp only [nodes1_q0, nodes1_q1, nodes1_q2, nodes1_q3, nodes1_q4, nodes1_q5, nodes1_q6, nodesV_append, nodesV_q0, nodesV_q1, nodeV_q0, nodeV_q1, nodeV_q2, nodeV_q3] at this ⊢
  exact this
end

/- NmV -/
section
variable {b : Bs} {A : Around} {H : AH} {Q : V → AH → Prop}
noncomputable def ListC (b : Bs) (k : Nat) : Prop := ∀ {A : Around} {H : AH} {Q : V → AH → Prop} {tp sp la : Addr} {ts : List Int} {n : Int} {loops o L : List Int} {many : Nat}, CxOk (cx b) → Rm A (2 * k + 4) → ST H H tp sp la tp ts n loops → ts.length ≤ 1000 →
  o.length + k = 4 → 1 ≤ o.length → (∀ x ∈ o, x ≤ n) → (∀ x ∈ L, x ∈ loops) → loops.length + many * Bd k ≤ 1000000 → many ≤ 9 →
  (∀ sts H' ts' n' loops', ST H H' tp sp la tp ts' n' loops' → ts'.length ≤ ts.length → (∃ m, m ≤ many ∧ LR o L k n n' loops loops' m sts) → Q (.lst (nodesV (nodesS sts))) H') →
  Cc (cx b) A (.ref 143) [.ref tp, .ref sp, li o, .int many] H Q
theorem nodeV_b1 {c n : Int} {f : List St} : nodeV (bnode c n f none) = .tup [.str "block", .int c, .int n, .lst (nodesV (nodesS f)), .none] := rfl
theorem mod4 (x : Int) : ∃ m : Nat, x % 4 = m ∧ m ≤ 3 := ⟨(x % 4).toNat, (Int.toNat_of_nonneg (Int.emod_nonneg _ (by decide))).symm, Int.toNat_le.mpr (Int.le_of_lt_add_one (Int.emod_lt_of_pos _ (by decide)))⟩
theorem block_spec {k : Nat} (IH : ListC b k) {tp sp la : Addr} {ts : List Int} {n : Int} {loops o L : List Int} {code : Int} {els : Bool} (hC : CxOk (cx b)) (r : Rm A (2 * k + 5)) (S : ST H H tp sp la tp ts n loops) (hz : ts.length ≤ 1000)
    (ho : o.length + (k + 1) = 4) (ho1 : 1 ≤ o.length) (hn : ∀ x ∈ o, x ≤ n) (hL : ∀ x ∈ L, x ∈ loops) (hl : loops.length + 2 + 6 * Bd k ≤ 1000000)
    (h : ∀ f s H' ts' n' loops', ST H H' tp sp la tp ts' n' loops' → ts'.length ≤ ts.length → BR o L code k n n' loops loops' f s → s.isSome = els → Q (nodeV (bnode code (n + 1) f s)) H') :
    Cc (cx b) A (.ref 136) [.ref tp, .ref sp, li o, .int code, .bool els] H Q := by
  refine def_law_block hC r fun Lx he hr => ?_
  refine Ex_cons ?_
  refine E1_SetBlocks ?_
  (refine Ev_BinOp ?_)
  refine Ev_Blocks ?_
  (refine Ev_p (by assumption) (by rfl) ?_)
  refine ⟨sp, n, la, rfl, S.st, ?_⟩
  (refine Ev_p (by assumption) (by rfl) ?_; refine Bo_add ?_)
  refine ⟨_, rfl, ?_⟩
  (refine Ev_p (by assumption) (by rfl) ?_)
  refine ⟨sp, n, la, rfl, S.st, ?_⟩
  have S1 := S.setN (n' := n + 1)
  generalize H.set sp (.sdict (n + 1) la) = H1 at S1 ⊢
  (refine Ex_cons ?_; refine E1_Assign (by assumption) (by rfl) ?_)
  refine Ev_Blocks ?_
  (refine Ev_p (by assumption) (by rfl) ?_)
  refine ⟨sp, n + 1, la, rfl, S1.st, ?_⟩
  refine Ex_cons ?_
  refine E1.mono (R := Q) (N := fun ls' H2 => ls' = ([("name", .int (n + 1)), ("tape", .ref tp), ("state", .ref sp), ("opened", li o), ("code", .int code), ("has_else", .bool els)] : Ls) ∧
    ∃ loops1, ST H H2 tp sp la tp ts (n + 1) loops1 ∧ (∀ x ∈ loops, x ∈ loops1) ∧ (code = 3 → (n + 1) ∈ loops1) ∧ loops1.length ≤ loops.length + 1) ?_ (fun _ _ h => h) ?_
  · refine E1_If ?_
    (refine Tr_p (by assumption) (by rfl) ?_)
    refine ite_both (fun hb => ?_) (fun hb => ?_)
    · (refine Ex_cons ?_; refine E1_Expr ?_)
      refine Ev_append ?_
      refine Ev_Loops ?_
      (refine Ev_p (by assumption) (by rfl) ?_)
      refine ⟨sp, n + 1, la, rfl, S1.st, ?_⟩
      refine ⟨la, ivs loops, rfl, S1.lo, ?_⟩
      (refine Ev_p (by assumption) (by rfl) ?_)
      refine ⟨ivs loops, S1.lo, by rw [List.length_map, z24]; exact lq1 [_, _] (.le 1 (.a (.a (.v 0) (.n 2)) (.m 6 (.v 1))) (.n 1000000)) 1 (.v 0) (.n 16777216) rfl hl, ?_⟩
      have e : ivs loops ++ [V.int (n + 1)] = ivs (loops ++ [n + 1]) := by simp
      rw [e]
      (refine Ex_nil ?_)
      exact ⟨rfl, loops ++ [n + 1], S1.setLo, fun x hx => by simp [hx], fun _ => by simp, by simp⟩
    · (refine Ex_nil ?_)
      exact ⟨rfl, loops, S1, fun x hx => hx, fun e => by simp [e] at hb, (lq0 [_] 1 (.v 0) (.a (.v 0) (.n 1)) rfl )⟩
  rintro ls' H2 ⟨rfl, loops1, S2, hl1, hl2, hl3⟩
  (refine Ex_cons ?_; refine E1_Assign (by assumption) (by rfl) ?_)
  refine call_law_list hC he ?_
  (refine evs_cons ?_; refine Ev_p (by assumption) (by rfl) ?_; refine evs_cons ?_; refine Ev_p (by assumption) (by rfl) ?_; refine evs_cons ?_; refine Ev_BinOp ?_; refine Ev_p (by assumption) (by rfl) ?_; refine Ev_List ?_; refine Evs_p (by assumption) (by rfl) ?_)
  refine .inl ?_
  refine Bo_add_list (a := ivs o) (b := [V.int (n + 1)]) .f .f (by simp only [List.length_map, List.length_cons, List.length_nil, z24]; exact lq1 [_, _] (.eq 1 (.a (.v 0) (.a (.v 1) (.n 1))) (.n 4)) 1 (.a (.v 0) (.a (.n 0) (.n 1))) (.n 16777216) rfl ho) (.inl ?_)
  have e : ivs o ++ [V.int (n + 1)] = ivs (o ++ [n + 1]) := by simp
  rw [e]
  (refine evs_cons ?_; refine Ev_BinOp ?_)
  refine call_law_next hC he ?_
  (refine Evs_p (by assumption) (by rfl) ?_)
  refine (next_spec hC (hr.le (lq0 [_] 1 (.a (.n 0) (.n 1)) (.a (.m 2 (.v 0)) (.n 4)) rfl ) : Rm _ (0 + 1)) S2.tape hz ?_).cl
  have S3 := S2.setTape (ts' := ts.tail)
  generalize H2.set tp (.list (ivs ts.tail)) = H3 at S3 ⊢
  (refine Ev_p (by assumption) (by rfl) ?_; refine Bo_mod (by lia) ?_; refine evs_nil ?_)
  obtain ⟨m, hm, hm3⟩ := mod4 (ts.headD 0)
  rw [hm]
  have hon : ∀ x ∈ o ++ [n + 1], x ≤ n + 1 := fun x hx => by
    simp only [List.mem_append, List.mem_singleton] at hx
    rcases hx with hx | rfl
    · have := hn x hx; lia
    · lia
  have hB3 : m * Bd k ≤ 3 * Bd k := Nat.mul_le_mul_right _ hm3
  have hLn : ∀ x ∈ (if code = 3 then (n + 1) :: L else L), x ∈ loops1 := fun x hx => by
    by_cases hc : code = 3
    · rw [if_pos hc] at hx
      rcases List.mem_cons.mp hx with rfl | hx
      · exact hl2 hc
      · exact hl1 x (hL x hx)
    · rw [if_neg hc] at hx
      exact hl1 x (hL x hx)
  have htl : ts.tail.length ≤ ts.length := by simp
  refine (IH (L := if code = 3 then (n + 1) :: L else L) hC hr S3.here (lq2 [_, _] (.le 1 (.v 1) (.n 1000)) (.le 1 (.v 0) (.v 1)) 1 (.v 0) (.n 1000) rfl hz htl) (by rw [List.length_append, List.length_singleton]; exact Nat.le_antisymm (lq1 [_, _] (.eq 1 (.a (.v 0) (.a (.v 1) (.n 1))) (.n 4)) 1 (.a (.a (.v 0) (.n 1)) (.v 1)) (.n 4) rfl ho) (lq1 [_, _] (.qe 1 (.a (.v 0) (.a (.v 1) (.n 1))) (.n 4)) 1 (.n 4) (.a (.a (.v 0) (.n 1)) (.v 1)) rfl ho)) (by simp) hon hLn (lq3 [_, _, _, _] (.le 1 (.a (.a (.v 2) (.n 2)) (.m 6 (.v 3))) (.n 1000000)) (.le 1 (.v 0) (.a (.v 2) (.n 1))) (.le 1 (.v 1) (.m 3 (.v 3))) 1 (.a (.v 0) (.v 1)) (.n 1000000) rfl hl hl3 hB3) (lq1 [_] (.le 1 (.v 0) (.n 3)) 1 (.v 0) (.n 9) rfl hm3) ?_).cl
  rintro f H4 ts4 n4 loops4 S4 ht4 ⟨m4, hm4, R4⟩
  have hB4 : m4 * Bd k ≤ 3 * Bd k := Nat.mul_le_mul_right _ (lq2 [_, _] (.le 1 (.v 1) (.n 3)) (.le 1 (.v 0) (.v 1)) 1 (.v 0) (.n 3) rfl hm3 hm4)
  have S5 := S3.trans S4
  have w4 := R4.wt
  have ll4 := R4.ll
  have le4 := R4.le
  refine Ex_cons ?_
  refine E1_Assign he (by rfl) ?_
  let I1 : V → AH → Prop := fun v H5 => ∃ s : Option (List St), v = (match s with | none => .none | some s => .lst (nodesV (nodesS s))) ∧ ∃ ts5 n5 loops5, ST H H5 tp sp la tp ts5 n5 loops5 ∧ ts5.length ≤ ts.length ∧ BR o L code k n n5 loops loops5 f s ∧ s.isSome = els
  refine Ev.cons (Q := I1) ?_ ?_
  · (refine Ev_IfExp ?_; refine Tr_p (by assumption) (by rfl) ?_)
    refine ite_both (fun hb => ?_) (fun hb => ?_)
    · subst hb
      refine call_law_list hC he ?_
      (refine evs_cons ?_; refine Ev_p (by assumption) (by rfl) ?_; refine evs_cons ?_; refine Ev_p (by assumption) (by rfl) ?_; refine evs_cons ?_; refine Ev_BinOp ?_; refine Ev_p (by assumption) (by rfl) ?_; refine Ev_List ?_; refine Evs_p (by assumption) (by rfl) ?_)
      refine .inl ?_
      refine Bo_add_list (a := ivs o) (b := [V.int (n + 1)]) .f .f (by simp only [List.length_map, List.length_cons, List.length_nil, z24]; exact lq1 [_, _] (.eq 1 (.a (.v 0) (.a (.v 1) (.n 1))) (.n 4)) 1 (.a (.v 0) (.a (.n 0) (.n 1))) (.n 16777216) rfl ho) (.inl ?_)
      rw [e]
      (refine evs_cons ?_; refine Ev_BinOp ?_)
      refine call_law_next hC he ?_
      (refine Evs_p (by assumption) (by rfl) ?_)
      refine (next_spec hC (hr.le (lq0 [_] 1 (.a (.n 0) (.n 1)) (.a (.m 2 (.v 0)) (.n 4)) rfl ) : Rm _ (0 + 1)) S5.tape (lq3 [_, _, _] (.le 1 (.v 1) (.n 1000)) (.le 1 (.v 2) (.v 1)) (.le 1 (.v 0) (.v 2)) 1 (.v 0) (.n 1000) rfl hz htl ht4) ?_).cl
      have S6 := S5.setTape (ts' := ts4.tail)
      generalize H4.set tp (.list (ivs ts4.tail)) = H6 at S6 ⊢
      (refine Ev_p (by assumption) (by rfl) ?_; refine Bo_mod (by lia) ?_; refine evs_nil ?_)
      obtain ⟨m', hm', hm3'⟩ := mod4 (ts4.headD 0)
      rw [hm']
      have hB3' : m' * Bd k ≤ 3 * Bd k := Nat.mul_le_mul_right _ hm3'
      have htl4 : ts4.tail.length ≤ ts4.length := by simp
      refine (IH (L := if code = 3 then (n + 1) :: L else L) hC hr S6.here (lq4 [_, _, _, _] (.le 1 (.v 1) (.n 1000)) (.le 1 (.v 2) (.v 1)) (.le 1 (.v 3) (.v 2)) (.le 1 (.v 0) (.v 3)) 1 (.v 0) (.n 1000) rfl hz htl ht4 htl4) (by rw [List.length_append, List.length_singleton]; exact Nat.le_antisymm (lq1 [_, _] (.eq 1 (.a (.v 0) (.a (.v 1) (.n 1))) (.n 4)) 1 (.a (.a (.v 0) (.n 1)) (.v 1)) (.n 4) rfl ho) (lq1 [_, _] (.qe 1 (.a (.v 0) (.a (.v 1) (.n 1))) (.n 4)) 1 (.n 4) (.a (.a (.v 0) (.n 1)) (.v 1)) rfl ho)) (by simp) (fun x hx => by have := hon x hx; lia) (fun x hx => R4.lp x (hLn x hx)) (lq6 [_, _, _, _, _, _, _] (.le 1 (.a (.a (.v 2) (.n 2)) (.m 6 (.v 3))) (.n 1000000)) (.le 1 (.v 4) (.a (.v 2) (.n 1))) (.le 1 (.v 5) (.m 3 (.v 3))) (.le 1 (.v 6) (.v 5)) (.le 1 (.v 0) (.a (.v 4) (.v 6))) (.le 1 (.v 1) (.m 3 (.v 3))) 1 (.a (.v 0) (.v 1)) (.n 1000000) rfl hl hl3 hB4 w4 ll4 hB3') (lq1 [_] (.le 1 (.v 0) (.n 3)) 1 (.v 0) (.n 9) rfl hm3') ?_).cl
      rintro s H7 ts7 n7 loops7 S7 ht7 ⟨m7, hm7, R7⟩
      have hB7 : m7 * Bd k ≤ 3 * Bd k := Nat.mul_le_mul_right _ (lq2 [_, _] (.le 1 (.v 1) (.n 3)) (.le 1 (.v 0) (.v 1)) 1 (.v 0) (.n 3) rfl hm3' hm7)
      have w7 := R7.wt
      have ll7 := R7.ll
      have le7 := R7.le
      refine ⟨some s, rfl, ts7, n7, loops7, S6.trans S7, (lq4 [_, _, _, _, _] (.le 1 (.v 2) (.v 1)) (.le 1 (.v 3) (.v 2)) (.le 1 (.v 4) (.v 3)) (.le 1 (.v 0) (.v 4)) 1 (.v 0) (.v 1) rfl htl ht4 htl4 ht7), ⟨R4.ok, fun l e => by cases e; exact R7.ok, ?_, ?_, by lia, fun x hx => R7.lp x (R4.lp x (hl1 x hx)), by simp only [Option.getD_some]; exact lq3 [_, _, _, _, _, _] (.le 1 (.v 4) (.a (.v 1) (.n 1))) (.le 1 (.v 5) (.a (.v 4) (.v 2))) (.le 1 (.v 0) (.a (.v 5) (.v 3))) 1 (.v 0) (.a (.a (.a (.v 1) (.n 1)) (.v 2)) (.v 3)) rfl hl3 ll4 ll7, (lq2 [_, _, _] (.le 1 (.v 2) (.m 3 (.v 1))) (.le 1 (.v 0) (.v 2)) 1 (.v 0) (.m 3 (.v 1)) rfl hB4 w4), by simp only [Option.getD_some]; exact lq2 [_, _, _] (.le 1 (.v 2) (.m 3 (.v 1))) (.le 1 (.v 0) (.v 2)) 1 (.v 0) (.m 3 (.v 1)) rfl hB7 w7, R4.dp, R7.dp⟩, rfl⟩
      · intro x hx
        simp only [Option.getD_some, List.mem_append] at hx
        rcases hx with hx | hx
        · exact ⟨(R4.nm x hx).1, Int.le_trans (R4.nm x hx).2 R7.le⟩
        · exact ⟨Int.lt_of_le_of_lt R4.le (R7.nm x hx).1, (R7.nm x hx).2⟩
      · simp only [Option.getD_some, List.nodup_append]
        refine ⟨R4.nd, R7.nd, fun y hy z hz e => ?_⟩
        subst e
        exact absurd (Int.lt_of_lt_of_le (R7.nm y hz).1 (R4.nm y hy).2) (Int.lt_irrefl _)
    · subst hb
      (refine Ev_p (by assumption) (by rfl) ?_)
      refine ⟨none, rfl, ts4, n4, loops4, S5, (lq2 [_, _, _] (.le 1 (.v 2) (.v 1)) (.le 1 (.v 0) (.v 2)) 1 (.v 0) (.v 1) rfl htl ht4), ⟨R4.ok, fun l e => (by cases e), ?_, ?_, by lia, fun x hx => R4.lp x (hl1 x hx), by simp only [Option.getD_none, wtS_q0, wtS_q1]; exact lq2 [_, _, _, _] (.le 1 (.v 3) (.a (.v 1) (.n 1))) (.le 1 (.v 0) (.a (.v 3) (.v 2))) 1 (.v 0) (.a (.a (.a (.v 1) (.n 1)) (.v 2)) (.n 0)) rfl hl3 ll4, (lq2 [_, _, _] (.le 1 (.v 2) (.m 3 (.v 1))) (.le 1 (.v 0) (.v 2)) 1 (.v 0) (.m 3 (.v 1)) rfl hB4 w4), by simp [wtS_q0, wtS_q1], R4.dp, by simp [depS_q0, depS_q1]⟩, rfl⟩
      · intro x hx
        simp only [Option.getD_none, namesS_q0, namesS_q1, List.append_nil] at hx
        exact R4.nm x hx
      · simpa only [Option.getD_none, namesS_q0, namesS_q1, List.append_nil] using R4.nd
  rintro v H5 ⟨s, rfl, ts5, n5, loops5, S6, ht5, B5, he5⟩
  (refine Ex_cons ?_; refine E1_Return ?_; refine Ev_p (by assumption) (by rfl) ?_)
  have := h f s H5 ts5 n5 loops5 S6 ht5 B5 he5
  cases s with
  | none => exact this
  | some s => exact this
end

/- NmW -/
section
variable {b : Bs} {A : Around} {H : AH} {Q : V → AH → Prop}
theorem wayC_ok (w : Int) : wayC w = 12 ∨ wayC w = 13 ∨ wayC w = 14 := by
  unfold wayC
  split
  · simp
  · split <;> simp
theorem list_step {k : Nat} (IH : k = 0 ∨ ∃ k', k = k' + 1 ∧ ListC b k') : ListC b k := by
  intro A H Q tp sp la ts n loops o L many hC r S hz ho ho1 hn hL hl hm h
  refine def_law_list hC r fun Lx he hr => ?_
  refine Ex_cons ?_
  refine E1_Assign he (by rfl) ?_
  (refine Ev_List ?_; refine evs_nil ?_)
  refine .inr fun a ha => ?_
  obtain ⟨S1, na1, na2, na3⟩ := ST.own (H' := H) S a ha (.list [])
  have e0 : (H.set a (.list [])) a = some (.list (nodesV (nodesS []))) := AH.set_self _ _ _
  generalize H.set a (.list []) = H1 at S1 e0 ⊢
  have fin : ∀ (ls : Ls) (H2 : AH) (sts : List St) (ts' : List Int) (n' : Int) (loops' : List Int), List.lookup ("nodes" : Str) ls = some (.ref a) → H2 a = some (.list (nodesV (nodesS sts))) → ST H H2 tp sp la a ts' n' loops' → ts'.length ≤ ts.length → (∃ m, m ≤ many ∧ LR o L k n n' loops loops' m sts) →
      ∀ pos ppos N, E1 (cx b) (A.deeper (env_law_list b Lx)) (env_law_list b Lx) (.Return (some (.Name "nodes" ppos)) pos) ls H2 Q N := by
    intro ls H2 sts ts' n' loops' hlk e2 S2 ht R2 pos ppos N
    refine E1_Return (Ev.fix (Ev_var he hlk ?_))
    exact ⟨a, _, rfl, e2, h sts _ ts' n' loops' (S2.drop ha na1 na2 na3) ht R2⟩
  let I : Nat → Ls → AH → Prop := fun i ls' H' => ls' = ([("nodes", .ref a), ("tape", .ref tp), ("state", .ref sp), ("opened", li o), ("many", .int many)] : Ls) ∧ ∃ sts ts' n' loops', H' a = some (.list (nodesV (nodesS sts))) ∧ ST H H' tp sp la a ts' n' loops' ∧ ts'.length ≤ ts.length ∧ LR o L k n n' loops loops' i sts
  refine Ex_cons ?_
  refine E1_For he hr.handled (by rfl) ?_
  refine call_range hC he ?_
  (refine Evs_p (by assumption) (by rfl) ?_)
  refine Cl_range ?_
  refine ⟨rngV many, I,
    ⟨rfl, [], ts, n, loops, e0, S1, (lq0 [_] 1 (.v 0) (.v 0) rfl ), LR.nil⟩, fun i ls' H' _ => .rng many (lq1 [_] (.le 1 (.v 0) (.n 9)) 1 (.v 0) (.n 1000000) rfl hm), ?_, ?_⟩
  · rintro i w ls' H2 hi ⟨rfl, sts, ts2, n2, loops2, e2, S2, ht2, R2⟩
    obtain ⟨rfl, him⟩ := rngV_get hi
    have hB2 : i * Bd k ≤ many * Bd k := Nat.mul_le_mul_right _ (lq1 [_, _] (.le 1 (.a (.v 0) (.n 1)) (.v 1)) 1 (.v 0) (.v 1) rfl him)
    have hB3 : (i + 1) * Bd k ≤ many * Bd k := Nat.mul_le_mul_right _ (lq1 [_, _] (.le 1 (.a (.v 0) (.n 1)) (.v 1)) 1 (.a (.v 0) (.n 1)) (.v 1) rfl him)
    rw [Nat.add_mul, Nat.one_mul] at hB3
    have hll2 := R2.ll
    have hwt2 := R2.wt
    have hle2 := R2.le
    refine Ex_cons ?_
    refine E1_Assign he (by rfl) ?_
    refine call_law_next hC he ?_
    (refine Evs_p (by assumption) (by rfl) ?_)
    refine (next_spec hC (hr.le (lq0 [_] 1 (.a (.n 0) (.n 1)) (.a (.m 2 (.v 0)) (.n 3)) rfl ) : Rm _ (0 + 1)) S2.tape (lq2 [_, _] (.le 1 (.v 1) (.n 1000)) (.le 1 (.v 0) (.v 1)) 1 (.v 0) (.n 1000) rfl hz ht2) ?_).cl
    have S3 := S2.setTape (ts' := ts2.tail)
    have e3 : (H2.set tp (.list (ivs ts2.tail))) a = some (.list (nodesV (nodesS sts))) := by rw [AH.set_ne _ _ na1]; exact e2
    have ht3 : ts2.tail.length ≤ ts.length := by rw [List.length_tail]; exact Nat.le_trans (Nat.sub_le _ _) ht2
    generalize H2.set tp (.list (ivs ts2.tail)) = H3 at S3 e3 ⊢
    generalize ts2.headD 0 = number
    generalize ts2.tail = ts3 at S3 ht3
    refine Ex_cons ?_
    refine E1_Swap (names := ["way", "rest"]) he hr.handled (by rfl) (by rfl) (mem2 (by rfl) (by rfl)) ?_
    (refine Evs_p (by assumption) (by rfl) ?_)
    have nxt : ∀ (ls3 : Ls) (H4 : AH) (st : St) (ts4 : List Int) (n4 : Int) (loops4 : List Int), Sub ([("nodes", .ref a), ("tape", .ref tp), ("state", .ref sp), ("opened", li o), ("many", .int many)] : Ls) ls3 → H4 a = some (.list (nodesV (nodesS (sts ++ [st])))) → ST H H4 tp sp la a ts4 n4 loops4 → ts4.length ≤ ts.length → LR o L k n2 n4 loops2 loops4 1 [st] →
        SubN (I (i + 1)) ls3 H4 :=
      fun ls3 H4 st ts4 n4 loops4 sb e4 S4 ht4 R4 => ⟨_, sb, rfl, sts ++ [st], ts4, n4, loops4, e4, S4, ht4, R2.snoc R4⟩
    have nv : ∀ st, nodesV (nodesS (sts ++ [st])) = nodesV (nodesS sts) ++ nodesV (nodes1 st) := fun st => by
      rw [nodesS_append, nodesV_append]
      congr 1
      simp [nodesS_q0, nodesS_q1]
    have hsz : (nodesV (nodesS sts)).length ≤ 1000000 := by
      have := nodesS_len sts
      rw [nodesV_map, List.length_map]
      exact lq4 [_, _, _, _, _] (.le 1 (.a (.v 1) (.v 2)) (.n 1000000)) (.le 1 (.v 3) (.v 2)) (.le 1 (.v 4) (.v 3)) (.le 1 (.v 0) (.v 4)) 1 (.v 0) (.n 1000000) rfl hl hB2 hwt2 this
    have hBk := Bd_ge k
    have hw0 : 0 ≤ number % 8 := Int.emod_nonneg _ (by decide)
    have hw8 : number % 8 < 8 := Int.emod_lt_of_pos _ (by decide)
    generalize number % 8 = way at hw0 hw8 ⊢
    generalize number / 8 = rest
    refine Ex_cons ?_
    refine E1_If ?_
    refine Tr.cons (Q := fun bb H4 => H4 = H3 ∧ (bb = true ∨ (way ≠ 0 ∧ (way = 2 ∨ way = 3 → k ≠ 0)))) ?_ ?_
    · (refine Tr_or ?_; refine Tr_and ?_; refine Tr_Compare ?_; refine Ev_p (by assumption) (by rfl) ?_; refine Ev_p (by assumption) (by rfl) ?_)
      refine Bo_in_pl (l := [2, 3]) hr ?_
      (refine Th_bool ?_)
      refine ite_both (fun hb => ?_) (fun hb => ?_)
      · (refine Tr_and ?_; refine Tr_Compare ?_)
        refine call_len hC he ?_
        (refine Evs_p (by assumption) (by rfl) ?_)
        refine Cl_len .f (by rw [List.length_map, z24]; exact lq1 [_, _] (.eq 1 (.a (.v 0) (.v 1)) (.n 4)) 1 (.v 0) (.n 16777216) rfl ho) ?_
        rw [List.length_map]
        (refine Ev_p (by assumption) (by rfl) ?_; refine Bo_gt ?_; refine Th_bool ?_)
        refine ite_both (fun hb2 => ?_) (fun hb2 => ?_)
        · (refine Tr_and_nil ?_; refine if_t ?_)
          exact ⟨rfl, .inl rfl⟩
        · simp only [decide_eq_false_iff_not] at hb2
          (refine if_f ?_; refine Tr_or ?_; refine Tr_p (by assumption) (by rfl) ?_)
          refine ite_both (fun hb3 => ?_) (fun hb3 => ?_)
          · exact ⟨rfl, .inl rfl⟩
          · (refine Tr_or_nil ?_)
            exact ⟨rfl, .inr ⟨by simpa using hb3, fun _ => by lia⟩⟩
      · simp only [decide_eq_false_iff_not, List.mem_cons, List.not_mem_nil, or_false, not_or] at hb
        (refine if_f ?_; refine Tr_or ?_; refine Tr_p (by assumption) (by rfl) ?_)
        refine ite_both (fun hb3 => ?_) (fun hb3 => ?_)
        · exact ⟨rfl, .inl rfl⟩
        · (refine Tr_or_nil ?_)
          exact ⟨rfl, .inr ⟨by simpa using hb3, fun h => by lia⟩⟩
    rintro bb H4 ⟨rfl, hbb⟩
    refine ite_both (fun hb => ?_) (fun hb => ?_)
    · (refine Ex_cons ?_; refine E1_Expr ?_)
      refine Ev_append ?_
      (refine Ev_p (by assumption) (by rfl) ?_)
      refine ⟨a, _, rfl, e3, ?_⟩
      (refine Ev_p (by assumption) (by rfl) ?_)
      refine ⟨_, e3, by rw [z24]; exact lq1 [_] (.le 1 (.v 0) (.n 1000000)) 1 (.v 0) (.n 16777216) rfl hsz, ?_⟩
      (refine Ex_nil ?_; refine Ex_nil ?_)
      refine nxt _ _ .nop ts3 n2 loops2 (by (refine Sub.cons (by rfl) ?_; refine Sub.cons (by rfl) ?_; refine Sub.cons (by rfl) ?_; refine Sub.cons (by rfl) ?_; refine Sub.cons (by rfl) ?_; exact Sub.nil _)) ?_ (S3.setOwn na1 na2 na3) ht3 (LR.one trivial rfl (by simp [wt1_q0, wt1_q1, wt1_q2, wt1_q3, wt1_q4, wt1_q5, wt1_q6]) rfl)
      rw [AH.set_self, nv]
      rfl
    have hbb : way ≠ 0 ∧ (way = 2 ∨ way = 3 → k ≠ 0) := by
      rcases hbb with h | h
      · rw [h] at hb; cases hb
      · exact h
    refine Ex_cons ?_
    refine E1_If ?_
    (refine Tr_p (by assumption) (by rfl) ?_)
    refine ite_both (fun hb => ?_) (fun hb => ?_)
    · (refine Ex_cons ?_; refine E1_Expr ?_)
      refine Ev_extend ?_
      (refine Ev_p (by assumption) (by rfl) ?_)
      refine ⟨a, _, rfl, e3, ?_⟩
      refine call_law_output hC he ?_
      (refine Evs_p (by assumption) (by rfl) ?_)
      refine (output_spec hC (hr.le (lq0 [_] 1 (.a (.n 0) (.n 2)) (.a (.m 2 (.v 0)) (.n 3)) rfl ) : Rm _ (0 + 2)) ?_).cl
      refine ⟨_, _, e3, .f, by rw [z24]; simp only [List.length_cons, List.length_nil]; exact lq1 [_] (.le 1 (.v 0) (.n 1000000)) 1 (.a (.v 0) (.a (.a (.n 0) (.n 1)) (.n 1))) (.n 16777216) rfl hsz, ?_⟩
      (refine Ex_nil ?_; refine Ex_nil ?_; refine Ex_nil ?_)
      refine nxt _ _ (.out (rest % 7)) ts3 n2 loops2 (by (refine Sub.cons (by rfl) ?_; refine Sub.cons (by rfl) ?_; refine Sub.cons (by rfl) ?_; refine Sub.cons (by rfl) ?_; refine Sub.cons (by rfl) ?_; exact Sub.nil _)) ?_ (S3.setOwn na1 na2 na3) ht3 (LR.one trivial rfl (by simp [wt1_q0, wt1_q1, wt1_q2, wt1_q3, wt1_q4, wt1_q5, wt1_q6]) rfl)
      rw [AH.set_self, nv]
      rfl
    simp only [beq_eq_false_iff_ne] at hb
    refine Ex_cons ?_
    refine E1_If ?_
    (refine Tr_p (by assumption) (by rfl) ?_)
    refine ite_both (fun hb2 => ?_) (fun hb2 => ?_)
    · simp only [beq_iff_eq] at hb2
      obtain ⟨k', rfl, IH'⟩ : ∃ k', k = k' + 1 ∧ ListC b k' := IH.resolve_left (hbb.2 (.inl hb2))
      (refine Ex_cons ?_; refine E1_Expr ?_)
      refine Ev_append ?_
      (refine Ev_p (by assumption) (by rfl) ?_)
      refine ⟨a, _, rfl, e3, ?_⟩
      refine call_law_block hC he ?_
      (refine Evs_p (by assumption) (by rfl) ?_)
      refine (block_spec (k := k') IH' (L := L) hC (hr.le (lq0 [_] 1 (.a (.m 2 (.v 0)) (.n 5)) (.a (.m 2 (.a (.v 0) (.n 1))) (.n 3)) rfl )) S3.here (lq2 [_, _] (.le 1 (.v 1) (.n 1000)) (.le 1 (.v 0) (.v 1)) 1 (.v 0) (.n 1000) rfl hz ht3) (Nat.le_antisymm (lq1 [_, _] (.eq 1 (.a (.v 0) (.a (.v 1) (.n 1))) (.n 4)) 1 (.a (.v 0) (.a (.v 1) (.n 1))) (.n 4) rfl ho) (lq1 [_, _] (.qe 1 (.a (.v 0) (.a (.v 1) (.n 1))) (.n 4)) 1 (.n 4) (.a (.v 0) (.a (.v 1) (.n 1))) rfl ho)) ho1 (fun x hx => by have := hn x hx; lia) (fun x hx => R2.lp x (hL x hx)) (by have e : Bd (k' + 1) = 4 + 6 * Bd k' := rfl; exact lq5 [_, _, _, _, _, _, _] (.le 1 (.v 0) (.a (.v 2) (.v 3))) (.le 1 (.a (.v 2) (.v 4)) (.n 1000000)) (.le 1 (.a (.v 5) (.v 6)) (.v 4)) (.le 1 (.v 3) (.v 5)) (.qe 1 (.v 6) (.a (.n 4) (.m 6 (.v 1)))) 1 (.a (.a (.v 0) (.n 2)) (.m 6 (.v 1))) (.n 1000000) rfl hll2 hl hB3 hwt2 e) ?_).cl
      rintro f s H5 ts5 n5 loops5 S5 ht5 B5 he5
      cases s with
      | some s => cases he5
      | none =>
      refine ⟨_, (S5.out a na1 na2 na3 na1).trans e3, by rw [z24]; exact lq1 [_] (.le 1 (.v 0) (.n 1000000)) 1 (.v 0) (.n 16777216) rfl hsz, ?_⟩
      (refine Ex_nil ?_; refine Ex_nil ?_; refine Ex_nil ?_; refine Ex_nil ?_)
      refine nxt _ _ (.blk (2 + rest % 2) (n2 + 1) f) ts5 n5 loops5 (by (refine Sub.cons (by rfl) ?_; refine Sub.cons (by rfl) ?_; refine Sub.cons (by rfl) ?_; refine Sub.cons (by rfl) ?_; refine Sub.cons (by rfl) ?_; exact Sub.nil _)) ?_ ((S3.trans S5).setOwn na1 na2 na3) (lq2 [_, _, _] (.le 1 (.v 2) (.v 1)) (.le 1 (.v 0) (.v 2)) 1 (.v 0) (.v 1) rfl ht3 ht5) (B5.blk (by lia) (fun x hx => by have := hn x hx; lia))
      rw [AH.set_self, nv]
      rfl
    simp only [beq_eq_false_iff_ne] at hb2
    refine Ex_cons ?_
    refine E1_If ?_
    (refine Tr_p (by assumption) (by rfl) ?_)
    refine ite_both (fun hb3 => ?_) (fun hb3 => ?_)
    · simp only [beq_iff_eq] at hb3
      obtain ⟨k', rfl, IH'⟩ : ∃ k', k = k' + 1 ∧ ListC b k' := IH.resolve_left (hbb.2 (.inr hb3))
      (refine Ex_cons ?_; refine E1_Expr ?_)
      refine Ev_append ?_
      (refine Ev_p (by assumption) (by rfl) ?_)
      refine ⟨a, _, rfl, e3, ?_⟩
      refine call_law_op hC he ?_
      (refine Evs_p (by assumption) (by rfl) ?_)
      refine (op_spec2 hC (hr.le (lq0 [_] 1 (.a (.n 0) (.n 1)) (.a (.m 2 (.a (.v 0) (.n 1))) (.n 3)) rfl ) : Rm _ (0 + 1)) ?_).cl
      refine ⟨_, e3, by rw [z24]; exact lq1 [_] (.le 1 (.v 0) (.n 1000000)) 1 (.v 0) (.n 16777216) rfl hsz, ?_⟩
      have S4 := S3.setOwn (o := .list (nodesV (nodesS sts) ++ [opV [32, rest % 3]])) na1 na2 na3
      have e4 : (H4.set a (.list (nodesV (nodesS sts) ++ [opV [32, rest % 3]]))) a = some (.list (nodesV (nodesS sts) ++ [opV [32, rest % 3]])) := AH.set_self _ _ _
      generalize H4.set a (.list (nodesV (nodesS sts) ++ [opV [32, rest % 3]])) = H5 at S4 e4 ⊢
      (refine Ex_cons ?_; refine E1_Expr ?_)
      refine Ev_append ?_
      (refine Ev_p (by assumption) (by rfl) ?_)
      refine ⟨a, _, rfl, e4, ?_⟩
      refine call_law_block hC he ?_
      (refine Evs_p (by assumption) (by rfl) ?_)
      refine (block_spec (k := k') IH' (L := L) hC (hr.le (lq0 [_] 1 (.a (.m 2 (.v 0)) (.n 5)) (.a (.m 2 (.a (.v 0) (.n 1))) (.n 3)) rfl )) S4.here (lq2 [_, _] (.le 1 (.v 1) (.n 1000)) (.le 1 (.v 0) (.v 1)) 1 (.v 0) (.n 1000) rfl hz ht3) (Nat.le_antisymm (lq1 [_, _] (.eq 1 (.a (.v 0) (.a (.v 1) (.n 1))) (.n 4)) 1 (.a (.v 0) (.a (.v 1) (.n 1))) (.n 4) rfl ho) (lq1 [_, _] (.qe 1 (.a (.v 0) (.a (.v 1) (.n 1))) (.n 4)) 1 (.n 4) (.a (.v 0) (.a (.v 1) (.n 1))) rfl ho)) ho1 (fun x hx => by have := hn x hx; lia) (fun x hx => R2.lp x (hL x hx)) (by have e : Bd (k' + 1) = 4 + 6 * Bd k' := rfl; exact lq5 [_, _, _, _, _, _, _] (.le 1 (.v 0) (.a (.v 2) (.v 3))) (.le 1 (.a (.v 2) (.v 4)) (.n 1000000)) (.le 1 (.a (.v 5) (.v 6)) (.v 4)) (.le 1 (.v 3) (.v 5)) (.qe 1 (.v 6) (.a (.n 4) (.m 6 (.v 1)))) 1 (.a (.a (.v 0) (.n 2)) (.m 6 (.v 1))) (.n 1000000) rfl hll2 hl hB3 hwt2 e) ?_).cl
      rintro f s H6 ts6 n6 loops6 S6 ht6 B6 he6
      refine ⟨_, (S6.out a na1 na2 na3 na1).trans e4, by rw [z24, List.length_append, List.length_singleton]; exact lq1 [_] (.le 1 (.v 0) (.n 1000000)) 1 (.a (.v 0) (.n 1)) (.n 16777216) rfl hsz, ?_⟩
      (refine Ex_nil ?_; refine Ex_nil ?_; refine Ex_nil ?_; refine Ex_nil ?_; refine Ex_nil ?_)
      have hon : ∀ x ∈ o, x ≤ n2 := fun x hx => by have := hn x hx; lia
      cases s with
      | none =>
        refine nxt _ _ (.if1 (rest % 3) (n2 + 1) f) ts6 n6 loops6 (by (refine Sub.cons (by rfl) ?_; refine Sub.cons (by rfl) ?_; refine Sub.cons (by rfl) ?_; refine Sub.cons (by rfl) ?_; refine Sub.cons (by rfl) ?_; exact Sub.nil _)) ?_ ((S4.trans S6).setOwn na1 na2 na3) (lq2 [_, _, _] (.le 1 (.v 2) (.v 1)) (.le 1 (.v 0) (.v 2)) 1 (.v 0) (.v 1) rfl ht3 ht6) (B6.if1 ⟨Int.emod_nonneg _ (by decide), Int.emod_lt_of_pos _ (by decide)⟩ hon)
        rw [AH.set_self, nv, List.append_assoc]
        rfl
      | some s =>
        refine nxt _ _ (.if2 (rest % 3) (n2 + 1) f s) ts6 n6 loops6 (by (refine Sub.cons (by rfl) ?_; refine Sub.cons (by rfl) ?_; refine Sub.cons (by rfl) ?_; refine Sub.cons (by rfl) ?_; refine Sub.cons (by rfl) ?_; exact Sub.nil _)) ?_ ((S4.trans S6).setOwn na1 na2 na3) (lq2 [_, _, _] (.le 1 (.v 2) (.v 1)) (.le 1 (.v 0) (.v 2)) 1 (.v 0) (.v 1) rfl ht3 ht6) (B6.if2 ⟨Int.emod_nonneg _ (by decide), Int.emod_lt_of_pos _ (by decide)⟩ hon)
        rw [AH.set_self, nv, List.append_assoc]
        rfl
    simp only [beq_eq_false_iff_ne] at hb3
    refine Ex_cons ?_
    refine E1_If ?_
    (refine Tr_p (by assumption) (by rfl) ?_)
    refine ite_both (fun hb7 => ?_) (fun hb7 => ?_)
    · (refine Ex_cons ?_; refine E1_Expr ?_)
      refine Ev_extend ?_
      (refine Ev_p (by assumption) (by rfl) ?_)
      refine ⟨a, _, rfl, e3, ?_⟩
      (refine Ev_List ?_; refine evs_cons ?_)
      refine call_law_op hC he ?_
      (refine Evs_p (by assumption) (by rfl) ?_)
      refine (op_spec2 hC (hr.le (lq0 [_] 1 (.a (.n 0) (.n 1)) (.a (.m 2 (.v 0)) (.n 3)) rfl ) : Rm _ (0 + 1)) ?_).cl
      (refine evs_cons ?_)
      refine call_law_op hC he ?_
      (refine Evs_p (by assumption) (by rfl) ?_)
      refine (op_spec1 hC (hr.le (lq0 [_] 1 (.a (.n 0) (.n 1)) (.a (.m 2 (.v 0)) (.n 3)) rfl ) : Rm _ (0 + 1)) ?_).cl
      (refine evs_cons ?_)
      refine call_law_op hC he ?_
      (refine Evs_p (by assumption) (by rfl) ?_)
      refine (op_spec2 hC (hr.le (lq0 [_] 1 (.a (.n 0) (.n 1)) (.a (.m 2 (.v 0)) (.n 3)) rfl ) : Rm _ (0 + 1)) ?_).cl
      (refine evs_nil ?_)
      refine .inl ?_
      refine ⟨_, _, e3, .f, by rw [z24]; simp only [List.length_cons, List.length_nil]; exact lq1 [_] (.le 1 (.v 0) (.n 1000000)) 1 (.a (.v 0) (.a (.a (.a (.n 0) (.n 1)) (.n 1)) (.n 1))) (.n 16777216) rfl hsz, ?_⟩
      (refine Ex_nil ?_; refine Ex_nil ?_; refine Ex_nil ?_; refine Ex_nil ?_; refine Ex_nil ?_; refine Ex_nil ?_)
      refine nxt _ _ (.neg (rest % 3) (rest / 3 % 3)) ts3 n2 loops2 (by (refine Sub.cons (by rfl) ?_; refine Sub.cons (by rfl) ?_; refine Sub.cons (by rfl) ?_; refine Sub.cons (by rfl) ?_; refine Sub.cons (by rfl) ?_; exact Sub.nil _)) ?_ (S3.setOwn na1 na2 na3) ht3 (LR.one ⟨⟨Int.emod_nonneg _ (by decide), Int.emod_lt_of_pos _ (by decide)⟩, ⟨Int.emod_nonneg _ (by decide), Int.emod_lt_of_pos _ (by decide)⟩⟩ rfl (by simp [wt1_q0, wt1_q1, wt1_q2, wt1_q3, wt1_q4, wt1_q5, wt1_q6]) rfl)
      rw [AH.set_self, nv]
      rfl
    simp only [beq_eq_false_iff_ne] at hb7
    have hw : way = 4 ∨ way = 5 ∨ way = 6 := by lia
    (refine Ex_cons ?_; refine E1_Expr ?_)
    refine Ev_extend ?_
    (refine Ev_p (by assumption) (by rfl) ?_)
    refine ⟨a, _, rfl, e3, ?_⟩
    refine call_law_branch hC he ?_
    (refine Evs_p (by assumption) (by rfl) ?_)
    refine (branch_spec hC (hr.le (lq0 [_] 1 (.a (.n 0) (.n 3)) (.a (.m 2 (.v 0)) (.n 3)) rfl ) : Rm _ (0 + 3)) S3.st S3.lo ⟨ho1, (lq1 [_, _] (.eq 1 (.a (.v 0) (.v 1)) (.n 4)) 1 (.v 0) (.n 100) rfl ho)⟩ hw trivial ?_).cl
    intro ob g v g1 g2 g3 g4 v1 v2
    refine ⟨_, _, e3, .f, ?_, ?_⟩
    · have := nodes1_len (.brn ob (wayC way) g v)
      simp only [wt1_q0, wt1_q1, wt1_q2, wt1_q3, wt1_q4, wt1_q5, wt1_q6] at this
      rw [z24, nodesV_map (nodes1 _), List.length_map]
      exact lq2 [_, _] (.le 1 (.v 0) (.n 1000000)) (.le 1 (.v 1) (.n 4)) 1 (.a (.v 0) (.v 1)) (.n 16777216) rfl hsz this
    have R4 : LR o L k n2 n2 loops2 loops2 1 [.brn ob (wayC way) g v] := by
      refine LR.one ⟨wayC_ok way, g1, g2, fun e => g3 fun e5 => e (by rw [e5]; rfl), fun e x hx hxL => g4 e x hx (R2.lp x (hL x hxL)), v1, v2⟩ rfl (by simp [wt1_q0, wt1_q1, wt1_q2, wt1_q3, wt1_q4, wt1_q5, wt1_q6]) rfl
    have e4 : (H4.set a (.list (nodesV (nodesS sts) ++ nodesV (nodes1 (.brn ob (wayC way) g v))))) a = some (.list (nodesV (nodesS (sts ++ [.brn ob (wayC way) g v])))) := by rw [AH.set_self, nv]
    have S4 := S3.setOwn (o := .list (nodesV (nodesS sts) ++ nodesV (nodes1 (.brn ob (wayC way) g v)))) na1 na2 na3
    refine Ex_cons ?_
    refine E1_If ?_
    (refine Tr_p (by assumption) (by rfl) ?_)
    refine ite_both (fun hb4 => ?_) (fun hb4 => ?_)
    · refine Ex_cons ?_
      exact fin _ _ _ ts3 n2 loops2 (by rfl) e4 S4 ht3 ⟨i + 1, (lq1 [_, _] (.le 1 (.a (.v 0) (.n 1)) (.v 1)) 1 (.a (.v 0) (.n 1)) (.v 1) rfl him), R2.snoc R4⟩ _ _ _
    · (refine Ex_nil ?_; refine Ex_nil ?_; refine Ex_nil ?_; refine Ex_nil ?_; refine Ex_nil ?_; refine Ex_nil ?_; refine Ex_nil ?_)
      exact nxt _ _ (.brn ob (wayC way) g v) ts3 n2 loops2 (by (refine Sub.cons (by rfl) ?_; refine Sub.cons (by rfl) ?_; refine Sub.cons (by rfl) ?_; refine Sub.cons (by rfl) ?_; refine Sub.cons (by rfl) ?_; exact Sub.nil _)) e4 S4 ht3 R4
  · rintro ls' H' ⟨rfl, sts, ts', n', loops', e2, S2, ht, R2⟩
    rw [rngV_len] at R2
    refine Ex_cons ?_
    exact fin _ _ sts ts' n' loops' (by rfl) e2 S2 ht ⟨many, Nat.le_refl _, R2⟩ _ _ _
theorem list_spec : ∀ k : Nat, ListC b k
  | 0 => list_step (.inl rfl)
  | k + 1 => list_step (.inr ⟨k, rfl, list_spec k⟩)
end

/- NmX -/
section
variable {b : Bs} {A : Around} {H : AH} {Q : V → AH → Prop}
noncomputable def FlatC (b : Bs) (d : Nat) : Prop := ∀ {A : Around} {H : AH} {Q : V → AH → Prop} {ns : List Node} {o : List Int}, CxOk (cx b) → Rm A (d + 1) → dptN ns ≤ d → FOkN o ns → o.length + d ≤ 1000 → (flatN o ns).length ≤ 1000000 →
  Q (bd (flatN o ns)) H → Cc (cx b) A (.ref 148) [.lst (nodesV ns), li o] H Q
theorem idxOf_first : ∀ {l : List Int} {x : Int}, x ∈ l → l[l.idxOf x]? = some x ∧ ∀ m, m < l.idxOf x → l[m]? ≠ some x
  | y :: r, x, h => by
    rw [List.idxOf_cons]
    by_cases e : y = x
    · subst e
      simp
    · have h' : x ∈ r := by
        rcases List.mem_cons.mp h with rfl | h
        · exact absurd rfl e
        · exact h
      obtain ⟨h1, h2⟩ := idxOf_first h'
      have e' : (y == x) = false := by simpa using e
      rw [e']
      refine ⟨by simpa using h1, fun m hm => ?_⟩
      cases m with
      | zero => simpa using e
      | succ m => exact h2 m (by simpa using hm)
theorem flat_step {d : Nat} (IH : ∀ d', d' < d → FlatC b d') : FlatC b d := by
  intro A H Q ns o hC r hd hF ho hz h
  refine def_law_flat hC r fun Lx he hr => ?_
  refine Ex_cons ?_
  refine E1_Assign he (by rfl) ?_
  (refine Ev_List ?_; refine evs_nil ?_)
  refine .inr fun a0 ha0 => ?_
  refine Ex_cons ?_
  refine E1_For he hr.handled (by rfl) ?_
  (refine Ev_p (by assumption) (by rfl) ?_)
  let I1 : Nat → Ls → AH → Prop := fun i ls' H' => ∃ a, H a = none ∧ H' = H.set a (.list ((flatN o (ns.take i)).map pl)) ∧ ls' = ([("body", .ref a), ("nodes", .lst (nodesV ns)), ("opened", li o)] : Ls)
  refine ⟨nodesV ns, I1, ⟨a0, ha0, rfl, rfl⟩, fun i ls' H' _ => .lst _, ?_, ?_⟩
  · rintro i w ls' H' hi ⟨a, ha, rfl, rfl⟩
    obtain ⟨nd, hnd, rfl⟩ := nodesV_get hi
    have hmem := List.mem_of_getElem? hnd
    have hdn := dptN_mem hmem
    have hFn := FOkN_mem hF hmem
    have hlen := flat_le o ns i
    have hlen1 := flat_le o ns (i + 1)
    have hft := flat_take (o := o) hnd
    have hlen2 := hlen1
    rw [hft, List.length_append] at hlen2
    have ea : (H.set a (.list ((flatN o (ns.take i)).map pl))) a = some (.list ((flatN o (ns.take i)).map pl)) := AH.set_self _ _ _
    cases nd with
    | op p =>
      refine Ex_cons ?_
      refine E1_If ?_
      (refine Tr_p (by assumption) (by rfl) ?_)
      refine ite_t (by decide) ?_
      (refine Ex_cons ?_; refine E1_Expr ?_)
      refine Ev_append ?_
      (refine Ev_p (by assumption) (by rfl) ?_)
      refine ⟨a, _, rfl, ea, ?_⟩
      refine Ev_Sub_tup ?_
      (refine Ev_p (by assumption) (by rfl) ?_; refine Ev_p (by assumption) (by rfl) ?_)
      (refine ⟨_, _, _, rfl, rfl, by rfl, by simp [z24], ?_⟩)
      refine ⟨_, ea, by rw [z24, List.length_map]; exact lq2 [_, _] (.le 1 (.v 1) (.n 1000000)) (.le 1 (.v 0) (.v 1)) 1 (.v 0) (.n 16777216) rfl hz hlen, ?_⟩
      rw [AH.set_set]
      (refine Ex_nil ?_; refine Ex_nil ?_)
      refine ⟨_, by (refine Sub.cons (by rfl) ?_; refine Sub.cons (by rfl) ?_; refine Sub.cons (by rfl) ?_; exact Sub.nil _), a, ha, ?_, rfl⟩
      rw [hft, List.map_append]
      rfl
    | br c g =>
      refine Ex_cons ?_
      refine E1_If ?_
      (refine Tr_p (by assumption) (by rfl) ?_)
      refine ite_f (by decide) ?_
      refine Ex_cons ?_
      refine E1_If ?_
      (refine Tr_p (by assumption) (by rfl) ?_)
      refine ite_t (by decide) ?_
      (refine Ex_cons ?_; refine E1_Expr ?_)
      refine Ev_append ?_
      (refine Ev_p (by assumption) (by rfl) ?_)
      refine ⟨a, _, rfl, ea, ?_⟩
      refine call_tuple hC he ?_
      (refine evs_cons ?_; refine Ev_BinOp ?_; refine Ev_List ?_; refine Evs_p (by assumption) (by rfl) ?_)
      refine .inl ?_
      have hro : (ivs o).reverse = ivs o.reverse := (List.map_reverse (f := V.int)).symm
      refine Ev_Comp' [("opened", li o)] he hr.handled (by (refine CapOk.cons ?_ (by rfl) (by rfl) (by rfl) (by rfl); exact CapOk.nil (by rfl))) (by rfl) ?_
      refine Ev_Sub_tup ?_
      (refine Ev_p (by assumption) (by rfl) ?_; refine Ev_p (by assumption) (by rfl) ?_)
      (refine ⟨_, _, _, rfl, rfl, by rfl, by simp [z24], ?_⟩)
      let I2 : Nat → List V → AH → Prop := fun j acc H' => H' = H.set a (.list ((flatN o (ns.take i)).map pl)) ∧ acc = (ivs ((g.take j).map fun x => ((o.reverse.idxOf x : Nat) : Int)))
      refine ⟨ivs g, I2, by rw [List.length_map, z24]; have := hFn.2; exact lq1 [_] (.le 1 (.v 0) (.n 1000)) 1 (.v 0) (.n 16777216) rfl this, ⟨rfl, rfl⟩, fun i acc H' _ => .lst _, ?_, ?_⟩
      · rintro j w acc H' C' D he' hj ⟨rfl, rfl⟩ hD
        rw [List.getElem?_map] at hj
        cases hx : g[j]? with
        | none => rw [hx] at hj; cases hj
        | some x =>
        rw [hx] at hj
        cases hj
        have hxo : x ∈ o.reverse := List.mem_reverse.mpr (hFn.1 x (List.mem_of_getElem? hx))
        refine test_nil ?_
        refine Ev_index ?_
        refine Ev_Rev ?_
        (refine Ev_p (by assumption) (by rfl) ?_)
        refine ⟨ivs o, .f, by rw [List.length_map, z24]; exact lq1 [_, _] (.le 1 (.a (.v 0) (.v 1)) (.n 1000)) 1 (.v 0) (.n 16777216) rfl ho, .inl ?_⟩
        rw [hro]
        refine ⟨_, .f, ?_⟩
        (refine Ev_p (by assumption) (by rfl) ?_)
        refine ⟨o.reverse, x, o.reverse.idxOf x, .f, rfl, (idxOf_first hxo).1, (idxOf_first hxo).2, by rw [List.length_reverse, z24]; exact lq1 [_, _] (.le 1 (.a (.v 0) (.v 1)) (.n 1000)) 1 (.v 0) (.n 16777216) rfl ho, ?_⟩
        refine ⟨_, rfl, hD, rfl, ?_⟩
        rw [take_step hx]
        simp
      · rintro acc H' ⟨rfl, rfl⟩
        have hgl := hFn.2
        refine .inl ?_
        refine Bo_add_list .f .f (by rw [z24]; simp only [List.length_map, List.length_take, List.length_cons, List.length_nil]; lia) (.inl ?_)
        (refine evs_nil ?_)
        refine Cl_tuple .f (by rw [z24]; simp only [List.length_append, List.length_map, List.length_take, List.length_cons, List.length_nil]; lia) ?_
        refine ⟨_, ea, by rw [z24, List.length_map]; exact lq2 [_, _] (.le 1 (.v 1) (.n 1000000)) (.le 1 (.v 0) (.v 1)) 1 (.v 0) (.n 16777216) rfl hz hlen, ?_⟩
        rw [AH.set_set]
        (refine Ex_nil ?_; refine Ex_nil ?_; refine Ex_nil ?_)
        refine ⟨_, by (refine Sub.cons (by rfl) ?_; refine Sub.cons (by rfl) ?_; refine Sub.cons (by rfl) ?_; exact Sub.nil _), a, ha, ?_, rfl⟩
        rw [hft, List.map_append, List.length_map, List.take_length]
        rfl
    | blk1 c n f =>
      have hdf : dptN f < d := by simp only [dpt1_q0, dpt1_q1, dpt1_q2, dpt1_q3] at hdn; exact lq2 [_, _, _] (.le 1 (.v 2) (.v 1)) (.le 1 (.a (.v 0) (.n 1)) (.v 2)) 1 (.a (.v 0) (.n 1)) (.v 1) rfl hd hdn
      simp only [flat1_q0, flat1_q1, flat1_q2, flat1_q3, List.length_append, List.length_cons, List.length_nil] at hlen2
      refine Ex_cons ?_
      refine E1_If ?_
      (refine Tr_p (by assumption) (by rfl) ?_)
      refine ite_f (by decide) ?_
      refine Ex_cons ?_
      refine E1_If ?_
      (refine Tr_p (by assumption) (by rfl) ?_)
      refine ite_f (by decide) ?_
      (refine Ex_cons ?_; refine E1_Assign (by assumption) (by rfl) ?_; refine Ev_BinOp ?_; refine Ev_p (by assumption) (by rfl) ?_; refine Ev_List ?_; refine Evs_p (by assumption) (by rfl) ?_)
      refine .inl ?_
      refine Bo_add_list (a := ivs o) (b := [V.int n]) .f .f (by simp only [List.length_map, List.length_cons, List.length_nil, z24]; exact lq1 [_, _] (.le 1 (.a (.v 0) (.v 1)) (.n 1000)) 1 (.a (.v 0) (.a (.n 0) (.n 1))) (.n 16777216) rfl ho) (.inl ?_)
      have e : ivs o ++ [V.int n] = ivs (o ++ [n]) := by simp
      rw [e]
      refine Ex_cons ?_
      refine E1_Assign he (by rfl) ?_
      (refine Ev_BinOp ?_; refine Ev_BinOp ?_; refine Ev_p (by assumption) (by rfl) ?_; refine Ev_List ?_; refine Evs_p (by assumption) (by rfl) ?_)
      refine .inl ?_
      refine Bo_add_list (.m ea) .f (by rw [z24]; simp only [List.length_map, List.length_cons, List.length_nil]; exact lq2 [_, _] (.le 1 (.v 1) (.n 1000000)) (.le 1 (.v 0) (.v 1)) 1 (.a (.v 0) (.a (.n 0) (.n 1))) (.n 16777216) rfl hz hlen) (.inl ?_)
      refine call_law_flat hC he ?_
      (refine Evs_p (by assumption) (by rfl) ?_)
      refine (IH _ hdf hC (hr.le (lq1 [_, _] (.le 1 (.a (.v 0) (.n 1)) (.v 1)) 1 (.a (.v 0) (.n 1)) (.v 1) rfl hdf)) (Nat.le_refl _) hFn (by rw [List.length_append, List.length_singleton]; exact lq2 [_, _, _] (.le 1 (.a (.v 0) (.v 2)) (.n 1000)) (.le 1 (.a (.v 1) (.n 1)) (.v 2)) 1 (.a (.a (.v 0) (.n 1)) (.v 1)) (.n 1000) rfl ho hdf) (lq2 [_, _, _] (.le 1 (.v 1) (.n 1000000)) (.le 1 (.a (.v 2) (.a (.a (.a (.n 0) (.n 1)) (.v 0)) (.a (.n 0) (.n 1)))) (.v 1)) 1 (.v 0) (.n 1000000) rfl hz hlen2) ?_).cl
      refine Bo_add_list .f .f (by rw [z24]; simp only [List.length_append, List.length_map, List.length_cons, List.length_nil]; exact lq2 [_, _, _] (.le 1 (.v 2) (.n 1000000)) (.le 1 (.a (.v 0) (.a (.a (.a (.n 0) (.n 1)) (.v 1)) (.a (.n 0) (.n 1)))) (.v 2)) 1 (.a (.a (.v 0) (.a (.n 0) (.n 1))) (.v 1)) (.n 16777216) rfl hz hlen2) (.inl ?_)
      refine Ex_drop ea ?_
      rw [AH.del_set _ ha]
      (refine Ex_cons ?_; refine E1_Assign (by assumption) (by rfl) ?_; refine Ev_BinOp ?_; refine Ev_BinOp ?_; refine Ev_p (by assumption) (by rfl) ?_; refine Ev_IfExp ?_; refine Tr_p (by assumption) (by rfl) ?_; refine if_t ?_; refine Ev_List ?_; refine evs_nil ?_)
      refine .inl ?_
      refine Bo_add_list .f .f (by rw [z24]; simp only [List.length_append, List.length_map, List.length_cons, List.length_nil]; exact lq2 [_, _, _] (.le 1 (.v 2) (.n 1000000)) (.le 1 (.a (.v 0) (.a (.a (.a (.n 0) (.n 1)) (.v 1)) (.a (.n 0) (.n 1)))) (.v 2)) 1 (.a (.a (.a (.v 0) (.a (.n 0) (.n 1))) (.v 1)) (.n 0)) (.n 16777216) rfl hz hlen2) (.inl ?_)
      (refine Ev_List ?_; refine Evs_p (by assumption) (by rfl) ?_)
      refine .inl ?_
      refine Bo_add_list .f .f (by rw [z24]; simp only [List.length_append, List.length_map, List.length_cons, List.length_nil]; exact lq2 [_, _, _] (.le 1 (.v 2) (.n 1000000)) (.le 1 (.a (.v 0) (.a (.a (.a (.n 0) (.n 1)) (.v 1)) (.a (.n 0) (.n 1)))) (.v 2)) 1 (.a (.a (.a (.a (.v 0) (.a (.n 0) (.n 1))) (.v 1)) (.n 0)) (.a (.n 0) (.n 1))) (.n 16777216) rfl hz hlen2) (.inr fun a2 ha2 => ?_)
      (refine Ex_nil ?_; refine Ex_nil ?_; refine Ex_nil ?_)
      refine ⟨_, by (refine Sub.cons (by rfl) ?_; refine Sub.cons (by rfl) ?_; refine Sub.cons (by rfl) ?_; exact Sub.nil _), a2, ha2, ?_, rfl⟩
      rw [hft]
      simp [flat1_q0, flat1_q1, flat1_q2, flat1_q3]
      rfl
    | blk2 c n f s =>
      have hdf : dptN f < d := by simp only [dpt1_q0, dpt1_q1, dpt1_q2, dpt1_q3] at hdn; lia
      have hds : dptN s < d := by simp only [dpt1_q0, dpt1_q1, dpt1_q2, dpt1_q3] at hdn; lia
      simp only [flat1_q0, flat1_q1, flat1_q2, flat1_q3, List.length_append, List.length_cons, List.length_nil] at hlen2
      refine Ex_cons ?_
      refine E1_If ?_
      (refine Tr_p (by assumption) (by rfl) ?_)
      refine ite_f (by decide) ?_
      refine Ex_cons ?_
      refine E1_If ?_
      (refine Tr_p (by assumption) (by rfl) ?_)
      refine ite_f (by decide) ?_
      (refine Ex_cons ?_; refine E1_Assign (by assumption) (by rfl) ?_; refine Ev_BinOp ?_; refine Ev_p (by assumption) (by rfl) ?_; refine Ev_List ?_; refine Evs_p (by assumption) (by rfl) ?_)
      refine .inl ?_
      refine Bo_add_list (a := ivs o) (b := [V.int n]) .f .f (by simp only [List.length_map, List.length_cons, List.length_nil, z24]; exact lq1 [_, _] (.le 1 (.a (.v 0) (.v 1)) (.n 1000)) 1 (.a (.v 0) (.a (.n 0) (.n 1))) (.n 16777216) rfl ho) (.inl ?_)
      have e : ivs o ++ [V.int n] = ivs (o ++ [n]) := by simp
      rw [e]
      refine Ex_cons ?_
      refine E1_Assign he (by rfl) ?_
      (refine Ev_BinOp ?_; refine Ev_BinOp ?_; refine Ev_p (by assumption) (by rfl) ?_; refine Ev_List ?_; refine Evs_p (by assumption) (by rfl) ?_)
      refine .inl ?_
      refine Bo_add_list (.m ea) .f (by rw [z24]; simp only [List.length_map, List.length_cons, List.length_nil]; exact lq2 [_, _] (.le 1 (.v 1) (.n 1000000)) (.le 1 (.v 0) (.v 1)) 1 (.a (.v 0) (.a (.n 0) (.n 1))) (.n 16777216) rfl hz hlen) (.inl ?_)
      refine call_law_flat hC he ?_
      (refine Evs_p (by assumption) (by rfl) ?_)
      refine (IH _ hdf hC (hr.le (lq1 [_, _] (.le 1 (.a (.v 0) (.n 1)) (.v 1)) 1 (.a (.v 0) (.n 1)) (.v 1) rfl hdf)) (Nat.le_refl _) hFn.1 (by rw [List.length_append, List.length_singleton]; exact lq2 [_, _, _] (.le 1 (.a (.v 0) (.v 2)) (.n 1000)) (.le 1 (.a (.v 1) (.n 1)) (.v 2)) 1 (.a (.a (.v 0) (.n 1)) (.v 1)) (.n 1000) rfl ho hdf) (lq2 [_, _, _, _] (.le 1 (.v 1) (.n 1000000)) (.le 1 (.a (.v 2) (.a (.a (.a (.a (.n 0) (.n 1)) (.v 0)) (.a (.a (.n 0) (.n 1)) (.v 3))) (.a (.n 0) (.n 1)))) (.v 1)) 1 (.v 0) (.n 1000000) rfl hz hlen2) ?_).cl
      refine Bo_add_list .f .f (by rw [z24]; simp only [List.length_append, List.length_map, List.length_cons, List.length_nil]; exact lq2 [_, _, _, _] (.le 1 (.v 2) (.n 1000000)) (.le 1 (.a (.v 0) (.a (.a (.a (.a (.n 0) (.n 1)) (.v 1)) (.a (.a (.n 0) (.n 1)) (.v 3))) (.a (.n 0) (.n 1)))) (.v 2)) 1 (.a (.a (.v 0) (.a (.n 0) (.n 1))) (.v 1)) (.n 16777216) rfl hz hlen2) (.inl ?_)
      refine Ex_drop ea ?_
      rw [AH.del_set _ ha]
      (refine Ex_cons ?_; refine E1_Assign (by assumption) (by rfl) ?_; refine Ev_BinOp ?_; refine Ev_BinOp ?_; refine Ev_p (by assumption) (by rfl) ?_; refine Ev_IfExp ?_; refine Tr_p (by assumption) (by rfl) ?_; refine if_f ?_; refine Ev_BinOp ?_; refine Ev_List ?_; refine Evs_p (by assumption) (by rfl) ?_)
      refine .inl ?_
      refine call_law_flat hC he ?_
      (refine Evs_p (by assumption) (by rfl) ?_)
      refine (IH _ hds hC (hr.le (lq1 [_, _] (.le 1 (.a (.v 0) (.n 1)) (.v 1)) 1 (.a (.v 0) (.n 1)) (.v 1) rfl hds)) (Nat.le_refl _) hFn.2 (by rw [List.length_append, List.length_singleton]; exact lq2 [_, _, _] (.le 1 (.a (.v 0) (.v 2)) (.n 1000)) (.le 1 (.a (.v 1) (.n 1)) (.v 2)) 1 (.a (.a (.v 0) (.n 1)) (.v 1)) (.n 1000) rfl ho hds) (lq2 [_, _, _, _] (.le 1 (.v 1) (.n 1000000)) (.le 1 (.a (.v 2) (.a (.a (.a (.a (.n 0) (.n 1)) (.v 3)) (.a (.a (.n 0) (.n 1)) (.v 0))) (.a (.n 0) (.n 1)))) (.v 1)) 1 (.v 0) (.n 1000000) rfl hz hlen2) ?_).cl
      refine Bo_add_list .f .f (by rw [z24]; simp only [List.length_append, List.length_map, List.length_cons, List.length_nil]; exact lq2 [_, _, _, _] (.le 1 (.v 1) (.n 1000000)) (.le 1 (.a (.v 2) (.a (.a (.a (.a (.n 0) (.n 1)) (.v 3)) (.a (.a (.n 0) (.n 1)) (.v 0))) (.a (.n 0) (.n 1)))) (.v 1)) 1 (.a (.a (.n 0) (.n 1)) (.v 0)) (.n 16777216) rfl hz hlen2) (.inl ?_)
      refine Bo_add_list .f .f (by rw [z24]; simp only [List.length_append, List.length_map, List.length_cons, List.length_nil]; exact lq2 [_, _, _, _] (.le 1 (.v 3) (.n 1000000)) (.le 1 (.a (.v 0) (.a (.a (.a (.a (.n 0) (.n 1)) (.v 1)) (.a (.a (.n 0) (.n 1)) (.v 2))) (.a (.n 0) (.n 1)))) (.v 3)) 1 (.a (.a (.a (.v 0) (.a (.n 0) (.n 1))) (.v 1)) (.a (.a (.n 0) (.n 1)) (.v 2))) (.n 16777216) rfl hz hlen2) (.inl ?_)
      (refine Ev_List ?_; refine Evs_p (by assumption) (by rfl) ?_)
      refine .inl ?_
      refine Bo_add_list .f .f (by rw [z24]; simp only [List.length_append, List.length_map, List.length_cons, List.length_nil]; exact lq2 [_, _, _, _] (.le 1 (.v 3) (.n 1000000)) (.le 1 (.a (.v 0) (.a (.a (.a (.a (.n 0) (.n 1)) (.v 1)) (.a (.a (.n 0) (.n 1)) (.v 2))) (.a (.n 0) (.n 1)))) (.v 3)) 1 (.a (.a (.a (.a (.v 0) (.a (.n 0) (.n 1))) (.v 1)) (.a (.a (.n 0) (.n 1)) (.v 2))) (.a (.n 0) (.n 1))) (.n 16777216) rfl hz hlen2) (.inr fun a2 ha2 => ?_)
      (refine Ex_nil ?_; refine Ex_nil ?_; refine Ex_nil ?_)
      refine ⟨_, by (refine Sub.cons (by rfl) ?_; refine Sub.cons (by rfl) ?_; refine Sub.cons (by rfl) ?_; exact Sub.nil _), a2, ha2, ?_, rfl⟩
      rw [hft]
      simp [flat1_q0, flat1_q1, flat1_q2, flat1_q3]
      rfl
  · rintro ls' H' ⟨a, ha, rfl, rfl⟩
    rw [nodesV_length, List.take_length]
    refine Ex_cons ?_
    refine E1_Return (Ev.fix ?_)
    (refine Ev_p (by assumption) (by rfl) ?_)
    refine ⟨a, _, rfl, AH.set_self _ _ _, ?_⟩
    rw [AH.del_set _ ha]
    exact h
theorem flat_spec (d : Nat) : FlatC b d := by
  induction d using Nat.strongRecOn with
  | ind d IH => exact flat_step IH
end

/- NmY -/
section
variable {b : Bs} {A : Around} {H : AH} {Q : V → AH → Prop}
noncomputable def GoalsC (b : Bs) (d : Nat) : Prop := ∀ {A : Around} {H : AH} {Q : V → AH → Prop} {ns : List Node}, CxOk (cx b) → Rm A (d + 1) → dptN ns ≤ d → (goalsN ns).length ≤ 1000000 →
  Q (li (goalsN ns)) H → Cc (cx b) A (.ref 155) [.lst (nodesV ns)] H Q
theorem goals_step {d : Nat} (IH : ∀ d', d' < d → GoalsC b d') : GoalsC b d := by
  intro A H Q ns hC r hd hz h
  refine def_law_goals hC r fun Lx he hr => ?_
  refine Ex_cons ?_
  refine E1_Assign he (by rfl) ?_
  (refine Ev_List ?_; refine evs_nil ?_)
  refine .inr fun a ha => ?_
  refine Ex_cons ?_
  refine E1_For he hr.handled (by rfl) ?_
  (refine Ev_p (by assumption) (by rfl) ?_)
  let I1 : Nat → Ls → AH → Prop := fun i ls' H' => H' = H.set a (.list (ivs (goalsN (ns.take i)))) ∧ ls' = ([("found", .ref a), ("nodes", .lst (nodesV ns))] : Ls)
  refine ⟨nodesV ns, I1, ⟨rfl, rfl⟩, fun i ls' H' _ => .lst _, ?_, ?_⟩
  · rintro i w ls' H' hi ⟨rfl, rfl⟩
    obtain ⟨nd, hnd, rfl⟩ := nodesV_get hi
    have hmem := List.mem_of_getElem? hnd
    have hdn := dptN_mem hmem
    have hlen := goals_le ns i
    have hlen2 := goals_le ns (i + 1)
    have hft := goals_take hnd
    rw [hft, List.length_append] at hlen2
    have ea : (H.set a (.list (ivs (goalsN (ns.take i))))) a = some (.list (ivs (goalsN (ns.take i)))) := AH.set_self _ _ _
    cases nd with
    | op p =>
      (refine Ex_cons ?_; refine E1_If ?_; refine Tr_p (by assumption) (by rfl) ?_)
      refine ite_f (by decide) ?_
      (refine Ex_cons ?_; refine E1_If ?_; refine Tr_p (by assumption) (by rfl) ?_)
      refine ite_f (by decide) ?_
      (refine Ex_nil ?_; refine Ex_nil ?_; refine Ex_nil ?_)
      refine ⟨_, by (refine Sub.cons (by rfl) ?_; refine Sub.cons (by rfl) ?_; exact Sub.nil _), ?_, rfl⟩
      rw [hft, goals1, List.append_nil]
    | br c g =>
      (refine Ex_cons ?_; refine E1_If ?_; refine Tr_p (by assumption) (by rfl) ?_)
      refine ite_t (by decide) ?_
      (refine Ex_cons ?_; refine E1_Expr ?_)
      refine Ev_extend ?_
      (refine Ev_p (by assumption) (by rfl) ?_)
      refine ⟨a, _, rfl, ea, ?_⟩
      (refine Ev_p (by assumption) (by rfl) ?_)
      simp only [goals1_q0, goals1_q1, goals1_q2, goals1_q3] at hlen2
      refine ⟨_, _, ea, .f, by rw [z24]; simp only [List.length_map]; exact lq2 [_, _, _] (.le 1 (.v 2) (.n 1000000)) (.le 1 (.a (.v 0) (.v 1)) (.v 2)) 1 (.a (.v 0) (.v 1)) (.n 16777216) rfl hz hlen2, ?_⟩
      rw [AH.set_set]
      (refine Ex_nil ?_; refine Ex_nil ?_)
      refine ⟨_, by (refine Sub.cons (by rfl) ?_; refine Sub.cons (by rfl) ?_; exact Sub.nil _), ?_, rfl⟩
      simp only [hft, goals1_q0, goals1_q1, goals1_q2, goals1_q3, ivs, List.map_append, List.append_nil]
    | blk1 c n f =>
      have hdf : dptN f < d := by simp only [dpt1_q0, dpt1_q1, dpt1_q2, dpt1_q3] at hdn; exact lq2 [_, _, _] (.le 1 (.v 2) (.v 1)) (.le 1 (.a (.v 0) (.n 1)) (.v 2)) 1 (.a (.v 0) (.n 1)) (.v 1) rfl hd hdn
      simp only [goals1_q0, goals1_q1, goals1_q2, goals1_q3] at hlen2
      (refine Ex_cons ?_; refine E1_If ?_; refine Tr_p (by assumption) (by rfl) ?_)
      refine ite_f (by decide) ?_
      (refine Ex_cons ?_; refine E1_If ?_; refine Tr_p (by assumption) (by rfl) ?_)
      refine ite_t (by decide) ?_
      (refine Ex_cons ?_; refine E1_Expr ?_)
      refine Ev_extend ?_
      (refine Ev_p (by assumption) (by rfl) ?_)
      refine ⟨a, _, rfl, ea, ?_⟩
      (refine Ev_BinOp ?_)
      refine call_law_goals hC he ?_
      (refine Evs_p (by assumption) (by rfl) ?_)
      skip
      skip
      refine (IH _ hdf hC (hr.le (lq1 [_, _] (.le 1 (.a (.v 0) (.n 1)) (.v 1)) 1 (.a (.v 0) (.n 1)) (.v 1) rfl hdf)) (Nat.le_refl _) (lq2 [_, _, _] (.le 1 (.v 1) (.n 1000000)) (.le 1 (.a (.v 2) (.v 0)) (.v 1)) 1 (.v 0) (.n 1000000) rfl hz hlen2) ?_).cl
      (refine Ev_IfExp ?_; refine Tr_p (by assumption) (by rfl) ?_; refine if_t ?_; refine Ev_List ?_; refine evs_nil ?_)
      skip
      skip
      try refine ite_t (by rfl) ?_
      skip
      refine .inl ?_
      refine Bo_add_list .f .f (by rw [z24]; simp only [List.length_map, List.length_nil]; exact lq2 [_, _, _] (.le 1 (.v 1) (.n 1000000)) (.le 1 (.a (.v 2) (.v 0)) (.v 1)) 1 (.a (.v 0) (.n 0)) (.n 16777216) rfl hz hlen2) (.inl ?_)
      refine ⟨_, _, ea, .f, by rw [z24]; simp only [List.length_map, List.length_append, List.length_nil]; exact lq2 [_, _, _] (.le 1 (.v 2) (.n 1000000)) (.le 1 (.a (.v 0) (.v 1)) (.v 2)) 1 (.a (.v 0) (.a (.v 1) (.n 0))) (.n 16777216) rfl hz hlen2, ?_⟩
      rw [AH.set_set]
      (refine Ex_nil ?_; refine Ex_nil ?_; refine Ex_nil ?_)
      refine ⟨_, by (refine Sub.cons (by rfl) ?_; refine Sub.cons (by rfl) ?_; exact Sub.nil _), ?_, rfl⟩
      simp only [hft, goals1_q0, goals1_q1, goals1_q2, goals1_q3, ivs, List.map_append, List.append_nil]
    | blk2 c n f s =>
      have hdf : dptN f < d := by simp only [dpt1_q0, dpt1_q1, dpt1_q2, dpt1_q3] at hdn; lia
      have hds : dptN s < d := by simp only [dpt1_q0, dpt1_q1, dpt1_q2, dpt1_q3] at hdn; lia
      simp only [goals1_q0, goals1_q1, goals1_q2, goals1_q3, List.length_append] at hlen2
      (refine Ex_cons ?_; refine E1_If ?_; refine Tr_p (by assumption) (by rfl) ?_)
      refine ite_f (by decide) ?_
      (refine Ex_cons ?_; refine E1_If ?_; refine Tr_p (by assumption) (by rfl) ?_)
      refine ite_t (by decide) ?_
      (refine Ex_cons ?_; refine E1_Expr ?_)
      refine Ev_extend ?_
      (refine Ev_p (by assumption) (by rfl) ?_)
      refine ⟨a, _, rfl, ea, ?_⟩
      (refine Ev_BinOp ?_)
      refine call_law_goals hC he ?_
      (refine Evs_p (by assumption) (by rfl) ?_)
      skip
      skip
      refine (IH _ hdf hC (hr.le (lq1 [_, _] (.le 1 (.a (.v 0) (.n 1)) (.v 1)) 1 (.a (.v 0) (.n 1)) (.v 1) rfl hdf)) (Nat.le_refl _) (lq2 [_, _, _, _] (.le 1 (.v 1) (.n 1000000)) (.le 1 (.a (.v 2) (.a (.v 0) (.v 3))) (.v 1)) 1 (.v 0) (.n 1000000) rfl hz hlen2) ?_).cl
      (refine Ev_IfExp ?_; refine Tr_p (by assumption) (by rfl) ?_; refine if_f ?_)
      skip
      skip
      try refine ite_f (by rfl) ?_
      refine call_law_goals hC he ?_
      (refine Evs_p (by assumption) (by rfl) ?_)
      skip
      skip
      refine (IH _ hds hC (hr.le (lq1 [_, _] (.le 1 (.a (.v 0) (.n 1)) (.v 1)) 1 (.a (.v 0) (.n 1)) (.v 1) rfl hds)) (Nat.le_refl _) (lq2 [_, _, _, _] (.le 1 (.v 1) (.n 1000000)) (.le 1 (.a (.v 2) (.a (.v 3) (.v 0))) (.v 1)) 1 (.v 0) (.n 1000000) rfl hz hlen2) ?_).cl
      refine Bo_add_list .f .f (by rw [z24]; simp only [List.length_map]; exact lq2 [_, _, _, _] (.le 1 (.v 2) (.n 1000000)) (.le 1 (.a (.v 3) (.a (.v 0) (.v 1))) (.v 2)) 1 (.a (.v 0) (.v 1)) (.n 16777216) rfl hz hlen2) (.inl ?_)
      refine ⟨_, _, ea, .f, by rw [z24]; simp only [List.length_map, List.length_append]; exact lq2 [_, _, _, _] (.le 1 (.v 3) (.n 1000000)) (.le 1 (.a (.v 0) (.a (.v 1) (.v 2))) (.v 3)) 1 (.a (.v 0) (.a (.v 1) (.v 2))) (.n 16777216) rfl hz hlen2, ?_⟩
      rw [AH.set_set]
      (refine Ex_nil ?_; refine Ex_nil ?_; refine Ex_nil ?_)
      refine ⟨_, by (refine Sub.cons (by rfl) ?_; refine Sub.cons (by rfl) ?_; exact Sub.nil _), ?_, rfl⟩
      simp only [hft, goals1_q0, goals1_q1, goals1_q2, goals1_q3, ivs, List.map_append, List.append_nil]
  · rintro ls' H' ⟨rfl, rfl⟩
    rw [nodesV_length, List.take_length]
    refine Ex_cons ?_
    refine E1_Return (Ev.fix ?_)
    (refine Ev_p (by assumption) (by rfl) ?_)
    refine ⟨a, _, rfl, AH.set_self _ _ _, ?_⟩
    rw [AH.del_set _ ha]
    exact h
theorem goals_spec (d : Nat) : GoalsC b d := by
  induction d using Nat.strongRecOn with
  | ind d IH => exact goals_step IH
noncomputable def OpenedC (b : Bs) (d : Nat) : Prop := ∀ {A : Around} {H : AH} {Q : V → AH → Prop} {ns : List Node} {m : List Int}, CxOk (cx b) → Rm A (d + 1) → dptN ns ≤ d → cntN ns ≤ 1000000 →
  Q (.lst (nodesV (openN m ns))) H → Cc (cx b) A (.ref 162) [.lst (nodesV ns), li m] H Q
theorem opened_step {d : Nat} (IH : ∀ d', d' < d → OpenedC b d') : OpenedC b d := by
  intro A H Q ns m hC r hd hz h
  refine def_law_opened hC r fun Lx he hr => ?_
  refine Ex_cons ?_
  refine E1_Assign he (by rfl) ?_
  (refine Ev_List ?_; refine evs_nil ?_)
  refine .inr fun a ha => ?_
  refine Ex_cons ?_
  refine E1_For he hr.handled (by rfl) ?_
  (refine Ev_p (by assumption) (by rfl) ?_)
  let I2 : Nat → Ls → AH → Prop := fun i ls' H' => H' = H.set a (.list (nodesV (openN m (ns.take i)))) ∧ ls' = ([("found", .ref a), ("nodes", .lst (nodesV ns)), ("meant", li m)] : Ls)
  refine ⟨nodesV ns, I2, ⟨rfl, rfl⟩, fun i ls' H' _ => .lst _, ?_, ?_⟩
  · rintro i w ls' H' hi ⟨rfl, rfl⟩
    obtain ⟨nd, hnd, rfl⟩ := nodesV_get hi
    have hmem := List.mem_of_getElem? hnd
    have hdn := dptN_mem hmem
    have hcn := cntN_mem hmem
    have hcm := openN_cnt m ns
    have hlen := open_le m ns i
    have hlen2 := open_le m ns (i + 1)
    have hft := open_take (m := m) hnd
    rw [hft, List.length_append] at hlen2
    have ea : (H.set a (.list (nodesV (openN m (ns.take i))))) a = some (.list (nodesV (openN m (ns.take i)))) := AH.set_self _ _ _
    cases nd with
    | op p =>
      (refine Ex_cons ?_; refine E1_If ?_; refine Tr_p (by assumption) (by rfl) ?_)
      refine ite_t (by decide) ?_
      (refine Ex_cons ?_; refine E1_Expr ?_)
      refine Ev_append ?_
      (refine Ev_p (by assumption) (by rfl) ?_)
      refine ⟨a, _, rfl, ea, ?_⟩
      (refine Ev_p (by assumption) (by rfl) ?_)
      refine ⟨_, ea, by rw [z24, nodesV_length]; exact lq3 [_, _, _] (.le 1 (.v 1) (.n 1000000)) (.le 1 (.v 2) (.v 1)) (.le 1 (.v 0) (.v 2)) 1 (.v 0) (.n 16777216) rfl hz hcm hlen, ?_⟩
      rw [AH.set_set]
      (refine Ex_nil ?_; refine Ex_nil ?_)
      refine ⟨_, by (refine Sub.cons (by rfl) ?_; refine Sub.cons (by rfl) ?_; refine Sub.cons (by rfl) ?_; exact Sub.nil _), ?_, rfl⟩
      rw [hft, nodesV_append]
      rfl
    | br c g =>
      (refine Ex_cons ?_; refine E1_If ?_; refine Tr_p (by assumption) (by rfl) ?_)
      refine ite_t (by decide) ?_
      (refine Ex_cons ?_; refine E1_Expr ?_)
      refine Ev_append ?_
      (refine Ev_p (by assumption) (by rfl) ?_)
      refine ⟨a, _, rfl, ea, ?_⟩
      (refine Ev_p (by assumption) (by rfl) ?_)
      refine ⟨_, ea, by rw [z24, nodesV_length]; exact lq3 [_, _, _] (.le 1 (.v 1) (.n 1000000)) (.le 1 (.v 2) (.v 1)) (.le 1 (.v 0) (.v 2)) 1 (.v 0) (.n 16777216) rfl hz hcm hlen, ?_⟩
      rw [AH.set_set]
      (refine Ex_nil ?_; refine Ex_nil ?_)
      refine ⟨_, by (refine Sub.cons (by rfl) ?_; refine Sub.cons (by rfl) ?_; refine Sub.cons (by rfl) ?_; exact Sub.nil _), ?_, rfl⟩
      rw [hft, nodesV_append]
      rfl
    | blk1 c n f =>
      have hdf : dptN f < d := by simp only [dpt1_q0, dpt1_q1, dpt1_q2, dpt1_q3] at hdn; exact lq2 [_, _, _] (.le 1 (.v 2) (.v 1)) (.le 1 (.a (.v 0) (.n 1)) (.v 2)) 1 (.a (.v 0) (.n 1)) (.v 1) rfl hd hdn
      simp only [cnt1_q0, cnt1_q1, cnt1_q2, cnt1_q3] at hcn
      (refine Ex_cons ?_; refine E1_If ?_; refine Tr_p (by assumption) (by rfl) ?_)
      refine ite_f (by decide) ?_
      refine Ex_cons ?_
      refine E1_If ?_
      let I3 : Bool → AH → Prop := fun bb H4 => H4 = H.set a (.list (nodesV (openN m (ns.take i)))) ∧ (bb = true ↔ (c < 4 ∧ n ∉ m))
      refine Tr.cons (Q := I3) ?_ ?_
      · refine Tr_and ?_
        refine Tr_Compare ?_
        (refine Ev_p (by assumption) (by rfl) ?_; refine Ev_p (by assumption) (by rfl) ?_; refine Bo_lt ?_; refine Th_bool ?_)
        skip
        refine ite_both (fun hb => ?_) (fun hb => ?_)
        · refine Tr_and ?_
          refine Tr_Compare ?_
          (refine Ev_p (by assumption) (by rfl) ?_; refine Ev_p (by assumption) (by rfl) ?_)
          skip
          refine Bo_notin_li (hr.le (Nat.zero_le _)) .f ?_
          (refine Th_bool ?_)
          refine ite_both (fun hb2 => ?_) (fun hb2 => ?_)
          · refine Tr_and_nil ⟨rfl, ?_⟩
            simp only [decide_eq_true_eq, Bool.not_eq_true', decide_eq_false_iff_not] at hb hb2
            exact ⟨fun _ => ⟨hb, hb2⟩, fun _ => rfl⟩
          · refine ⟨rfl, ?_⟩
            simp only [Bool.not_eq_false', decide_eq_true_eq] at hb2
            exact ⟨fun e => (by cases e), fun e => absurd hb2 e.2⟩
        · simp only [decide_eq_false_iff_not] at hb
          exact ⟨rfl, fun e => (by cases e), fun e => absurd e.1 hb⟩
      rintro bb H4 ⟨rfl, hbb⟩
      refine ite_both (fun hb => ?_) (fun hb => ?_)
      · have ho : open1 m (.blk1 c n f) = openN m f := by rw [open1, if_pos (hbb.mp hb)]
        rw [ho] at hlen2
        (refine Ex_cons ?_; refine E1_Expr ?_)
        refine Ev_extend ?_
        (refine Ev_p (by assumption) (by rfl) ?_)
        refine ⟨a, _, rfl, ea, ?_⟩
        refine call_law_opened hC he ?_
        (refine Evs_p (by assumption) (by rfl) ?_)
        skip
        skip
        refine (IH _ hdf hC (hr.le (lq1 [_, _] (.le 1 (.a (.v 0) (.n 1)) (.v 1)) 1 (.a (.v 0) (.n 1)) (.v 1) rfl hdf)) (Nat.le_refl _) (lq2 [_, _] (.le 1 (.v 1) (.n 1000000)) (.le 1 (.a (.n 1) (.v 0)) (.v 1)) 1 (.v 0) (.n 1000000) rfl hz hcn) ?_).cl
        refine ⟨_, _, ea, .f, by rw [z24, nodesV_length, nodesV_length]; exact lq3 [_, _, _, _] (.le 1 (.v 2) (.n 1000000)) (.le 1 (.v 3) (.v 2)) (.le 1 (.a (.v 0) (.v 1)) (.v 3)) 1 (.a (.v 0) (.v 1)) (.n 16777216) rfl hz hcm hlen2, ?_⟩
        rw [AH.set_set]
        (refine Ex_nil ?_; refine Ex_nil ?_; refine Ex_nil ?_)
        refine ⟨_, by (refine Sub.cons (by rfl) ?_; refine Sub.cons (by rfl) ?_; refine Sub.cons (by rfl) ?_; exact Sub.nil _), ?_, rfl⟩
        rw [hft, nodesV_append, ho]
      · have ho : open1 m (.blk1 c n f) = [.blk1 c n (openN m f)] := by rw [open1, if_neg (fun e => by rw [hbb.mpr e] at hb; cases hb)]
        rw [ho] at hlen2
        (refine Ex_cons ?_; refine E1_Assign (by assumption) (by rfl) ?_; refine Ev_IfExp ?_; refine Tr_p (by assumption) (by rfl) ?_; refine if_t ?_; refine Ev_p (by assumption) (by rfl) ?_; refine Ex_cons ?_; refine E1_Expr ?_)
        skip
        skip
        try refine ite_t (by rfl) ?_
        skip
        refine Ev_append ?_
        (refine Ev_p (by assumption) (by rfl) ?_)
        refine ⟨a, _, rfl, ea, ?_⟩
        (refine Ev_Tuple ?_; refine evs_cons ?_; refine Ev_p (by assumption) (by rfl) ?_; refine evs_cons ?_; refine Ev_p (by assumption) (by rfl) ?_; refine evs_cons ?_; refine Ev_p (by assumption) (by rfl) ?_; refine evs_cons ?_)
        skip
        skip
        skip
        skip
        refine call_law_opened hC he ?_
        (refine Evs_p (by assumption) (by rfl) ?_)
        skip
        skip
        refine (IH _ hdf hC (hr.le (lq1 [_, _] (.le 1 (.a (.v 0) (.n 1)) (.v 1)) 1 (.a (.v 0) (.n 1)) (.v 1) rfl hdf)) (Nat.le_refl _) (lq2 [_, _] (.le 1 (.v 1) (.n 1000000)) (.le 1 (.a (.n 1) (.v 0)) (.v 1)) 1 (.v 0) (.n 1000000) rfl hz hcn) ?_).cl
        (refine Evs_p (by assumption) (by rfl) ?_)
        refine ⟨_, ea, by rw [z24, nodesV_length]; exact lq3 [_, _, _] (.le 1 (.v 1) (.n 1000000)) (.le 1 (.v 2) (.v 1)) (.le 1 (.v 0) (.v 2)) 1 (.v 0) (.n 16777216) rfl hz hcm hlen, ?_⟩
        rw [AH.set_set]
        (refine Ex_nil ?_; refine Ex_nil ?_; refine Ex_nil ?_)
        refine ⟨_, by (refine Sub.cons (by rfl) ?_; refine Sub.cons (by rfl) ?_; refine Sub.cons (by rfl) ?_; exact Sub.nil _), ?_, rfl⟩
        rw [hft, nodesV_append, ho]
        rfl
    | blk2 c n f s =>
      have hdf : dptN f < d := by simp only [dpt1_q0, dpt1_q1, dpt1_q2, dpt1_q3] at hdn; lia
      have hds : dptN s < d := by simp only [dpt1_q0, dpt1_q1, dpt1_q2, dpt1_q3] at hdn; lia
      simp only [cnt1_q0, cnt1_q1, cnt1_q2, cnt1_q3] at hcn
      (refine Ex_cons ?_; refine E1_If ?_; refine Tr_p (by assumption) (by rfl) ?_)
      refine ite_f (by decide) ?_
      refine Ex_cons ?_
      refine E1_If ?_
      let I4 : Bool → AH → Prop := fun bb H4 => H4 = H.set a (.list (nodesV (openN m (ns.take i)))) ∧ (bb = true ↔ (c < 4 ∧ n ∉ m))
      refine Tr.cons (Q := I4) ?_ ?_
      · refine Tr_and ?_
        refine Tr_Compare ?_
        (refine Ev_p (by assumption) (by rfl) ?_; refine Ev_p (by assumption) (by rfl) ?_; refine Bo_lt ?_; refine Th_bool ?_)
        skip
        refine ite_both (fun hb => ?_) (fun hb => ?_)
        · refine Tr_and ?_
          refine Tr_Compare ?_
          (refine Ev_p (by assumption) (by rfl) ?_; refine Ev_p (by assumption) (by rfl) ?_)
          skip
          refine Bo_notin_li (hr.le (Nat.zero_le _)) .f ?_
          (refine Th_bool ?_)
          refine ite_both (fun hb2 => ?_) (fun hb2 => ?_)
          · refine Tr_and_nil ⟨rfl, ?_⟩
            simp only [decide_eq_true_eq, Bool.not_eq_true', decide_eq_false_iff_not] at hb hb2
            exact ⟨fun _ => ⟨hb, hb2⟩, fun _ => rfl⟩
          · refine ⟨rfl, ?_⟩
            simp only [Bool.not_eq_false', decide_eq_true_eq] at hb2
            exact ⟨fun e => (by cases e), fun e => absurd hb2 e.2⟩
        · simp only [decide_eq_false_iff_not] at hb
          exact ⟨rfl, fun e => (by cases e), fun e => absurd e.1 hb⟩
      rintro bb H4 ⟨rfl, hbb⟩
      refine ite_both (fun hb => ?_) (fun hb => ?_)
      · have ho : open1 m (.blk2 c n f s) = openN m f := by rw [open1, if_pos (hbb.mp hb)]
        rw [ho] at hlen2
        (refine Ex_cons ?_; refine E1_Expr ?_)
        refine Ev_extend ?_
        (refine Ev_p (by assumption) (by rfl) ?_)
        refine ⟨a, _, rfl, ea, ?_⟩
        refine call_law_opened hC he ?_
        (refine Evs_p (by assumption) (by rfl) ?_)
        skip
        skip
        refine (IH _ hdf hC (hr.le (lq1 [_, _] (.le 1 (.a (.v 0) (.n 1)) (.v 1)) 1 (.a (.v 0) (.n 1)) (.v 1) rfl hdf)) (Nat.le_refl _) (lq2 [_, _, _] (.le 1 (.v 1) (.n 1000000)) (.le 1 (.a (.a (.n 1) (.v 0)) (.v 2)) (.v 1)) 1 (.v 0) (.n 1000000) rfl hz hcn) ?_).cl
        refine ⟨_, _, ea, .f, by rw [z24, nodesV_length, nodesV_length]; exact lq3 [_, _, _, _] (.le 1 (.v 2) (.n 1000000)) (.le 1 (.v 3) (.v 2)) (.le 1 (.a (.v 0) (.v 1)) (.v 3)) 1 (.a (.v 0) (.v 1)) (.n 16777216) rfl hz hcm hlen2, ?_⟩
        rw [AH.set_set]
        (refine Ex_nil ?_; refine Ex_nil ?_; refine Ex_nil ?_)
        refine ⟨_, by (refine Sub.cons (by rfl) ?_; refine Sub.cons (by rfl) ?_; refine Sub.cons (by rfl) ?_; exact Sub.nil _), ?_, rfl⟩
        rw [hft, nodesV_append, ho]
      · have ho : open1 m (.blk2 c n f s) = [.blk2 c n (openN m f) (openN m s)] := by rw [open1, if_neg (fun e => by rw [hbb.mpr e] at hb; cases hb)]
        rw [ho] at hlen2
        (refine Ex_cons ?_; refine E1_Assign (by assumption) (by rfl) ?_; refine Ev_IfExp ?_; refine Tr_p (by assumption) (by rfl) ?_; refine if_f ?_)
        skip
        skip
        try refine ite_f (by rfl) ?_
        refine call_law_opened hC he ?_
        (refine Evs_p (by assumption) (by rfl) ?_)
        skip
        skip
        refine (IH _ hds hC (hr.le (lq1 [_, _] (.le 1 (.a (.v 0) (.n 1)) (.v 1)) 1 (.a (.v 0) (.n 1)) (.v 1) rfl hds)) (Nat.le_refl _) (lq2 [_, _, _] (.le 1 (.v 1) (.n 1000000)) (.le 1 (.a (.a (.n 1) (.v 2)) (.v 0)) (.v 1)) 1 (.v 0) (.n 1000000) rfl hz hcn) ?_).cl
        (refine Ex_cons ?_; refine E1_Expr ?_)
        refine Ev_append ?_
        (refine Ev_p (by assumption) (by rfl) ?_)
        refine ⟨a, _, rfl, ea, ?_⟩
        (refine Ev_Tuple ?_; refine evs_cons ?_; refine Ev_p (by assumption) (by rfl) ?_; refine evs_cons ?_; refine Ev_p (by assumption) (by rfl) ?_; refine evs_cons ?_; refine Ev_p (by assumption) (by rfl) ?_; refine evs_cons ?_)
        skip
        skip
        skip
        skip
        refine call_law_opened hC he ?_
        (refine Evs_p (by assumption) (by rfl) ?_)
        skip
        skip
        refine (IH _ hdf hC (hr.le (lq1 [_, _] (.le 1 (.a (.v 0) (.n 1)) (.v 1)) 1 (.a (.v 0) (.n 1)) (.v 1) rfl hdf)) (Nat.le_refl _) (lq2 [_, _, _] (.le 1 (.v 1) (.n 1000000)) (.le 1 (.a (.a (.n 1) (.v 0)) (.v 2)) (.v 1)) 1 (.v 0) (.n 1000000) rfl hz hcn) ?_).cl
        (refine Evs_p (by assumption) (by rfl) ?_)
        refine ⟨_, ea, by rw [z24, nodesV_length]; exact lq3 [_, _, _] (.le 1 (.v 1) (.n 1000000)) (.le 1 (.v 2) (.v 1)) (.le 1 (.v 0) (.v 2)) 1 (.v 0) (.n 16777216) rfl hz hcm hlen, ?_⟩
        rw [AH.set_set]
        (refine Ex_nil ?_; refine Ex_nil ?_; refine Ex_nil ?_)
        refine ⟨_, by (refine Sub.cons (by rfl) ?_; refine Sub.cons (by rfl) ?_; refine Sub.cons (by rfl) ?_; exact Sub.nil _), ?_, rfl⟩
        rw [hft, nodesV_append, ho]
        rfl
  · rintro ls' H' ⟨rfl, rfl⟩
    rw [nodesV_length, List.take_length]
    refine Ex_cons ?_
    refine E1_Return (Ev.fix ?_)
    (refine Ev_p (by assumption) (by rfl) ?_)
    refine ⟨a, _, rfl, AH.set_self _ _ _, ?_⟩
    rw [AH.del_set _ ha]
    exact h
theorem opened_spec (d : Nat) : OpenedC b d := by
  induction d using Nat.strongRecOn with
  | ind d IH => exact opened_step IH
end

/- NmZ0 -/
section
/-- a plain instruction's code -/
theorem Ev_head {C : Cx} {A : Around} {env : Env} {ls : Ls} {H : AH} {Q : V → AH → Prop} {value : Expr} {k p pos} (h : Ev C A env value ls H fun o H1 => ∃ t, o = pl t ∧ TOk t ∧ Q (.int (code t)) H1)
    (hs : ∀ a k' u, subscripted (.Constant (.int 0) k p) false (.ref a) (.int k' u) = operate [.ref a, .int k' u] (getItem (.ref a) (.int k' u)) := by intro _ _ _; with_unfolding_all rfl) :
    Ev C A env (.Subscript value (.Constant (.int 0) k p) pos) ls H Q := by
  refine Ev_Sub_tup (h.cons fun o H1 x => ?_) hs
  obtain ⟨t, rfl, ok, q⟩ := x
  refine Ev_int ?_
  cases t with
  | nil => exact absurd rfl ok.1
  | cons c r => exact ⟨ivs (c :: r), 0, .int c, rfl, rfl, rfl, by rw [z24, List.length_map]; have := ok.2; exact lq1 [_] (.le 1 (.a (.v 0) (.n 1)) (.n 1000)) 1 (.a (.v 0) (.n 1)) (.n 16777216) rfl this, q⟩
end

/- NmZ -/
section
variable {b : Bs} {A : Around} {H : AH} {Q : V → AH → Prop}
theorem two_spec {a c : Tk} {n : Nat} (hC : CxOk (cx b)) (r : Rm A (n + 1)) (ha : TOk a) (hc : TOk c)
    (h : Q (match two? a c with | none => .none | some l => bd l) H) : Cc (cx b) A (.ref 169) [pl a, pl c] H Q := by
  refine def_law_two hC r fun L he hr => ?_
  refine Ex_cons ?_
  refine E1_If ?_
  let I1 : Bool → AH → Prop := fun bb H1 => H1 = H ∧ (bb = true ↔ (code c ≠ 11 ∨ ¬ (2 ≤ code a ∧ code a ≤ 5)))
  refine Tr.cons (Q := I1) ?_ ?_
  · refine Tr_or ?_
    refine Tr_Compare ?_
    refine Ev_head ?_
    (refine Ev_p (by assumption) (by rfl) ?_)
    refine ⟨c, rfl, hc, ?_⟩
    (refine Ev_p (by assumption) (by rfl) ?_; refine Bo_ne_int ?_; refine Th_bool ?_)
    refine ite_both (fun hb => ?_) (fun hb => ?_)
    · simp only [bne_iff_ne] at hb
      exact ⟨rfl, fun _ => .inl hb, fun _ => rfl⟩
    · simp only [bne_eq_false_iff_eq] at hb
      refine Tr_or ?_
      refine Tr_not ?_
      refine Tr_Chain ?_
      (refine Ev_p (by assumption) (by rfl) ?_)
      refine Ev_head ?_
      (refine Ev_p (by assumption) (by rfl) ?_)
      refine ⟨a, rfl, ha, ?_⟩
      (refine Bo_le ?_; refine Th_bool ?_)
      refine ite_both (fun hb2 => ?_) (fun hb2 => ?_)
      · simp only [decide_eq_true_eq] at hb2
        refine chain_end_T ?_
        (refine Ev_p (by assumption) (by rfl) ?_; refine Bo_le ?_; refine Th_bool ?_)
        refine ite_both (fun hb3 => ?_) (fun hb3 => ?_)
        · simp only [Bool.not_eq_true', decide_eq_false_iff_not] at hb3
          exact ⟨rfl, fun _ => .inr (by lia), fun _ => rfl⟩
        · simp only [Bool.not_eq_false', decide_eq_true_eq] at hb3
          (refine Tr_or_nil ?_)
          exact ⟨rfl, fun e => (by cases e), fun e => (by lia)⟩
      · simp only [decide_eq_false_iff_not] at hb2
        show I1 true H
        exact ⟨rfl, fun _ => .inr (by lia), fun _ => rfl⟩
  rintro bb H1 ⟨rfl, hbb⟩
  refine ite_both (fun hb => ?_) (fun hb => ?_)
  · have e : two? a c = none := by rw [two?, if_pos (hbb.mp hb)]
    rw [e] at h
    (refine Ex_cons ?_; refine E1_Return ?_; refine Ev_p (by assumption) (by rfl) ?_)
    exact h
  · have e : two? a c = some (if code a < 4 then [] else if code a = 4 then [[26]] else [c]) := by
      rw [two?, if_neg (fun e => by rw [hbb.mpr e] at hb; cases hb)]
    rw [e] at h
    refine Ex_nil ?_
    refine Ex_cons ?_
    refine E1_Return ?_
    refine Ev_IfExp ?_
    refine Tr_Compare ?_
    refine Ev_head ?_
    (refine Ev_p (by assumption) (by rfl) ?_)
    refine ⟨a, rfl, ha, ?_⟩
    (refine Ev_p (by assumption) (by rfl) ?_; refine Bo_lt ?_; refine Th_bool ?_)
    refine ite_both (fun hb2 => ?_) (fun hb2 => ?_)
    · simp only [decide_eq_true_eq] at hb2
      rw [if_pos hb2] at h
      (refine Ev_List ?_; refine evs_nil ?_)
      exact .inl h
    · simp only [decide_eq_false_iff_not] at hb2
      rw [if_neg hb2] at h
      refine Ev_IfExp ?_
      refine Tr_Compare ?_
      refine Ev_head ?_
      (refine Ev_p (by assumption) (by rfl) ?_)
      refine ⟨a, rfl, ha, ?_⟩
      (refine Ev_p (by assumption) (by rfl) ?_; refine Bo_eq_int ?_; refine Th_bool ?_)
      refine ite_both (fun hb3 => ?_) (fun hb3 => ?_)
      · simp only [beq_iff_eq] at hb3
        rw [if_pos hb3] at h
        (refine Ev_List ?_; refine Evs_p (by assumption) (by rfl) ?_)
        exact .inl h
      · simp only [beq_eq_false_iff_ne] at hb3
        rw [if_neg hb3] at h
        (refine Ev_List ?_; refine Evs_p (by assumption) (by rfl) ?_)
        exact .inl h
theorem lt_pred {n m : Nat} (h : (n : Int) < (m : Int) - 1) : n + 1 < m := Int.ofNat_lt.mp (Int.add_lt_of_lt_sub_right h)
theorem not_lt_pred {n m : Nat} (h : ¬ (n : Int) < (m : Int) - 1) : m ≤ n + 1 := Nat.le_of_not_lt fun q => h (Int.lt_sub_right_of_add_lt (Int.ofNat_lt.mpr q))
theorem max2 : ∀ n : Nat, (if (0 : Int) < (n : Int) - 2 then (n : Int) - 2 else 0) = ((n - 2 : Nat) : Int)
  | 0 => rfl
  | 1 => rfl
  | n + 2 => by
    rw [show ((n + 2 : Nat) : Int) - 2 = n from Int.add_sub_cancel (n : Int) 2]
    cases n with
    | zero => rfl
    | succ n => exact if_pos (Int.ofNat_lt.mpr (Nat.succ_pos n))
theorem clip_nat {n m : Nat} (h : n ≤ m) : clipAt m (n : Int) = n := by
  unfold clipAt
  rw [if_neg (Int.not_lt.mpr (Int.natCast_nonneg n)), Int.min_eq_left (Int.ofNat_le.mpr h), Int.max_eq_right (Int.natCast_nonneg n), Int.toNat_natCast]
theorem neg1 (m : Nat) : (-1 : Int) + ((m + 1 : Nat) : Int) = m := (Int.add_comm _ _).trans (Int.add_sub_cancel (m : Int) 1)
theorem clip_init (n : Nat) : clipAt n (-1) = n - 1 := by
  cases n with
  | zero => rfl
  | succ m =>
    unfold clipAt
    rw [if_pos (by decide), neg1, Int.min_eq_left (Int.ofNat_le.mpr (Nat.le_succ m)), Int.max_eq_right (Int.natCast_nonneg m), Int.toNat_natCast]; rfl
theorem cut_take {α : Type} (l : List α) (n : Nat) (h : n ≤ l.length) : cut l none (some (n : Int)) = l.take n :=
  congrArg (fun k => l.take k) (clip_nat h)
theorem cut_drop {α : Type} (l : List α) (n : Nat) (h : n ≤ l.length) : cut l (some (n : Int)) none = l.drop n := by
  unfold cut
  simp only [Option.elim]
  rw [clip_nat h]
  exact List.take_of_length_le (Nat.le_of_eq (List.length_drop ..))
theorem cut_init {α : Type} (l : List α) : cut l none (some (-1)) = l.dropLast :=
  (congrArg (fun k => l.take k) (clip_init _)).trans (List.dropLast_eq_take ..).symm
theorem idx_nat {α : Type} {l : List α} {n : Nat} {x : α} (h : l[n]? = some x) : idx l (n : Int) = some x := by
  unfold idx
  rw [if_pos (Int.natCast_nonneg n), Int.toNat_natCast, h]
theorem bd_get {F : List Tk} {n : Nat} {t : Tk} (h : F[n]? = some t) : (F.map pl)[n]? = some (pl t) := by rw [List.getElem?_map, h]; rfl
theorem idx_pred {F : List Tk} {i : Nat} (h : i < F.length) : ∃ x, idx F ((i : Int) - 1) = some x ∧ x ∈ F := by
  cases i with
  | zero =>
    have e : ((0 : Nat) : Int) - 1 + F.length = ((F.length - 1 : Nat) : Int) := by
      cases F with
      | nil => cases h
      | cons => exact neg1 _
    unfold idx
    rw [if_neg (by decide), e, if_pos (Int.natCast_nonneg _), Int.toNat_natCast]
    exact ⟨_, List.getElem?_eq_getElem (Nat.sub_lt h Nat.one_pos), List.getElem_mem _⟩
  | succ i =>
    rw [show ((i + 1 : Nat) : Int) - 1 = (i : Int) from Int.add_sub_cancel (i : Int) 1]
    exact ⟨_, idx_nat (List.getElem?_eq_getElem (Nat.lt_of_succ_lt h)), List.getElem_mem _⟩
theorem map_snoc {F : List Tk} {t : Tk} : F.map pl ++ [pl t] = (F ++ [t]).map pl := by simp
theorem emptied_spec {B : List Tk} (hC : CxOk (cx b)) (r : Rm A 3) (hB : ∀ t ∈ B, TOk t) (hz : B.length ≤ 1000000)
    (hF : ∀ i p, (((B.dropLast.filter fun t => t ≠ [1]).foldl pushR []).reverse)[i]? = some p → code p = 4 → i + 1 < (((B.dropLast.filter fun t => t ≠ [1]).foldl pushR []).reverse).length)
    (h : Q (bd (emptF B)) H) : Cc (cx b) A (.ref 174) [bd B] H Q := by
  refine def_law_emptied hC r fun L he hr => ?_
  refine Ex_cons ?_
  refine E1_Swap (names := ["found", "at"]) he hr.handled (by rfl) (by rfl) (mem2 (by rfl) (by rfl)) ?_
  refine evs_cons ?_
  have hdl : B.dropLast.length ≤ 1000000 := by rw [List.length_dropLast]; exact Nat.le_trans (Nat.sub_le _ _) hz
  refine Ev_Comp' [] he hr.handled (by (exact CapOk.nil (by rfl))) (by rfl) ?_
  refine Ev_Cut ?_
  (refine Ev_p (by assumption) (by rfl) ?_)
  refine Ev_Neg ?_
  refine ⟨-1, rfl, B.map pl, .f, by rw [z24, List.length_map]; exact lq1 [_] (.le 1 (.v 0) (.n 1000000)) 1 (.v 0) (.n 16777216) rfl hz, .inl ?_⟩
  rw [cut_init, ← List.map_dropLast]
  let I2 : Nat → List V → AH → Prop := fun i acc H' => H' = H ∧ acc = ((B.dropLast.take i).filter fun t => t ≠ [1]).map pl
  refine ⟨B.dropLast.map pl, I2, by rw [z24, List.length_map]; exact lq1 [_] (.le 1 (.v 0) (.n 1000000)) 1 (.v 0) (.n 16777216) rfl hdl, ⟨rfl, rfl⟩, fun i acc H' _ => .lst _, ?_, ?_⟩
  · rintro i w acc H' C' D he' hi ⟨rfl, rfl⟩ hD
    rw [List.getElem?_map] at hi
    cases hx : B.dropLast[i]? with
    | none => rw [hx] at hi; cases hi
    | some t =>
    rw [hx] at hi
    cases hi
    refine test_one ?_
    (refine Tr_Compare ?_; refine Ev_p (by assumption) (by rfl) ?_; refine Ev_p (by assumption) (by rfl) ?_)
    refine Bo_ne_pl (b := [1]) hr ?_
    (refine Th_bool ?_)
    refine ite_both (fun hb => ?_) (fun hb => ?_)
    · simp only [Bool.not_eq_true', decide_eq_false_iff_not] at hb
      (refine Ev_p (by assumption) (by rfl) ?_)
      refine ⟨_, rfl, hD, rfl, ?_⟩
      rw [take_step hx, List.filter_append, List.map_append]
      simp [hb]
    · simp only [Bool.not_eq_false', decide_eq_true_eq] at hb
      refine ⟨_, rfl, hD, rfl, ?_⟩
      rw [take_step hx, List.filter_append, List.map_append]
      simp [hb]
  rintro acc H' ⟨rfl, rfl⟩
  rw [List.length_map, List.take_length]
  have hok : ∀ t ∈ B.dropLast.filter fun t => t ≠ [1], TOk t := fun t ht => hB t (List.dropLast_subset _ (List.mem_filter.mp ht).1)
  have hlen : (B.dropLast.filter fun t => t ≠ [1]).length ≤ 1000000 := Nat.le_trans (List.length_filter_le _ _) hdl
  have hQ : emptF B = finF ((B.dropLast.filter fun t => t ≠ [1]).foldl pushR []).reverse ++ [[11]] := rfl
  generalize (B.dropLast.filter fun t => t ≠ [1]) = F0 at hok hlen hQ hF
  refine .inl ?_
  (refine Evs_p (by assumption) (by rfl) ?_)
  refine Ex.sub (ls' := ([("found", bd F0), ("at", .int ((0 : Nat) : Int))] : Ls)) ?_ (by (refine Sub.cons (by rfl) ?_; refine Sub.cons (by rfl) ?_; exact Sub.nil _))
  refine Ex_cons ?_
  let I3 : Nat → Ls → AH → Prop := fun m ls' H1 => H1 = H' ∧ ∃ F : List Tk, ∃ at' : Nat, ls' = ([("found", bd F), ("at", .int at')] : Ls) ∧ (∀ t ∈ F, TOk t) ∧ F.foldl pushR [] = F0.foldl pushR [] ∧ Irr F at' ∧ F.length ≤ 1000000 ∧ m + at' = 3 * F.length + 3 ∧ at' ≤ F.length
  refine E1_While (I3) (3 * F0.length + 3)
    ⟨rfl, F0, 0, rfl, hok, rfl, fun j _ _ hj => absurd hj (Nat.not_lt_zero _), hlen, rfl, Nat.zero_le _⟩ ?_
  rintro m ls' H1 ⟨rfl, F, at', rfl, hFok, hFn, hIrr, hFl, hm, hat⟩
  (refine Tr_Compare ?_; refine Ev_p (by assumption) (by rfl) ?_; refine Ev_BinOp ?_)
  refine call_len hC he ?_
  (refine Evs_p (by assumption) (by rfl) ?_)
  refine Cl_len .f (by rw [List.length_map, z24]; exact lq1 [_] (.le 1 (.v 0) (.n 1000000)) 1 (.v 0) (.n 16777216) rfl hFl) ?_
  rw [List.length_map]
  (refine Ev_p (by assumption) (by rfl) ?_; refine Bo_sub ?_; refine Bo_lt ?_; refine Th_bool ?_)
  refine ite_both (fun hb => ?_) (fun hb => ?_)
  · simp only [decide_eq_true_eq] at hb
    have h1 : at' + 1 < F.length := lt_pred hb
    have g1 : F[at']? = some F[at'] := List.getElem?_eq_getElem (lq1 [_, _] (.le 1 (.a (.a (.v 0) (.n 1)) (.n 1)) (.v 1)) 1 (.a (.v 0) (.n 1)) (.v 1) rfl h1)
    have g2 : F[at' + 1]? = some F[at' + 1] := List.getElem?_eq_getElem h1
    have o1 := hFok _ (List.mem_of_getElem? g1)
    have o2 := hFok _ (List.mem_of_getElem? g2)
    generalize F[at'] = ta at g1 o1
    generalize F[at' + 1] = tb at g2 o2
    refine Ex_cons ?_
    refine E1_Assign he (by rfl) ?_
    refine call_law_two hC he ?_
    refine evs_cons ?_
    refine Ev_Sub_list ?_
    (refine Ev_p (by assumption) (by rfl) ?_; refine Ev_p (by assumption) (by rfl) ?_)
    refine ⟨_, _, _, .f, rfl, idx_nat (bd_get g1), by rw [List.length_map, z24]; exact lq1 [_] (.le 1 (.v 0) (.n 1000000)) 1 (.v 0) (.n 16777216) rfl hFl, ?_⟩
    refine evs_cons ?_
    refine Ev_Sub_list ?_
    (refine Ev_p (by assumption) (by rfl) ?_; refine Ev_p (by assumption) (by rfl) ?_)
    refine ⟨F.map pl, _, _, .f, rfl, idx_nat (n := at' + 1) (bd_get g2), by rw [List.length_map, z24]; exact lq1 [_] (.le 1 (.v 0) (.n 1000000)) 1 (.v 0) (.n 16777216) rfl hFl, ?_⟩
    (refine evs_nil ?_)
    refine (two_spec hC hr o1 o2 ?_).cl
    cases htw : two? ta tb with
    | none =>
      refine Ex_cons ?_
      refine E1_If ?_
      (refine Tr_p (by assumption) (by rfl) ?_)
      try refine ite_f (by rfl) ?_
      refine Ex_nil ?_
      refine Ex_cons ?_
      refine E1_Assign he (by rfl) ?_
      (refine Ev_IfExp ?_; refine Tr_p (by assumption) (by rfl) ?_; refine if_t ?_; refine Ev_p (by assumption) (by rfl) ?_; refine Ex_nil ?_)
      try refine ite_t (by rfl) ?_
      skip
      have hm0 : 1 ≤ m := lq2 [_, _, _] (.qe 1 (.a (.v 0) (.v 1)) (.a (.m 3 (.v 2)) (.n 3))) (.le 1 (.a (.a (.v 1) (.n 1)) (.n 1)) (.v 2)) 1 (.n 1) (.v 0) rfl hm h1
      refine ⟨m - 1, _, Nat.sub_lt hm0 Nat.one_pos, ?_, rfl, F, at' + 1, rfl, hFok, hFn, ?_, hFl, (by rw [Nat.add_comm at' 1, ← Nat.add_assoc, Nat.sub_add_cancel hm0]; exact hm), (lq1 [_, _] (.le 1 (.a (.a (.v 0) (.n 1)) (.n 1)) (.v 1)) 1 (.a (.v 0) (.n 1)) (.v 1) rfl h1)⟩
      · (refine Sub.cons (by rfl) ?_; refine Sub.cons (by rfl) ?_; exact Sub.nil _)
      · intro j x y hj hx hy
        by_cases e : j = at'
        · subst e
          rw [g1] at hx
          rw [g2] at hy
          cases hx
          cases hy
          exact htw
        · exact hIrr j x y (Nat.lt_of_le_of_ne (Nat.le_of_lt_succ hj) e) hx hy
    | some l =>
      obtain ⟨p1, p2⟩ := rewrite_at g1 g2 htw
      have hlen2 : F.length ≤ 1000000 := hFl
      have hl1 : l.length ≤ 1 := (two_push htw []).2
      refine Ex_cons ?_
      refine E1_If ?_
      (refine Tr_p (by assumption) (by rfl) ?_)
      try refine ite_t (by rfl) ?_
      (refine Ex_cons ?_; refine E1_Assign (by assumption) (by rfl) ?_; refine Ev_BinOp ?_; refine Ev_BinOp ?_)
      refine Ev_Cut ?_
      (refine Ev_p (by assumption) (by rfl) ?_)
      refine pt_none (pt_some ?_)
      (refine Ev_p (by assumption) (by rfl) ?_)
      refine ⟨at', rfl, F.map pl, .f, by rw [z24, List.length_map]; exact lq1 [_] (.le 1 (.v 0) (.n 1000000)) 1 (.v 0) (.n 16777216) rfl hFl, .inl ?_⟩
      rw [cut_take _ _ (by rw [List.length_map]; exact lq1 [_, _] (.le 1 (.a (.a (.v 0) (.n 1)) (.n 1)) (.v 1)) 1 (.v 0) (.v 1) rfl h1), ← List.map_take]
      (refine Ev_p (by assumption) (by rfl) ?_)
      refine Bo_add_list .f .f (by rw [z24]; simp only [List.length_map, List.length_take]; exact lq3 [_, _, _] (.le 1 (.v 0) (.v 2)) (.le 1 (.v 1) (.n 1)) (.le 1 (.v 2) (.n 1000000)) 1 (.a (.v 0) (.v 1)) (.n 16777216) rfl (Nat.min_le_right _ _) hl1 hFl) (.inl ?_)
      refine Ev_Cut ?_
      (refine Ev_p (by assumption) (by rfl) ?_)
      refine pt_some ?_
      (refine Ev_p (by assumption) (by rfl) ?_)
      refine ⟨_, rfl, pt_none ?_⟩
      refine ⟨F.map pl, .f, by rw [z24, List.length_map]; exact lq1 [_] (.le 1 (.v 0) (.n 1000000)) 1 (.v 0) (.n 16777216) rfl hFl, .inl ?_⟩
      have e2 : (at' : Int) + 2 = ((at' + 2 : Nat) : Int) := rfl
      rw [e2, cut_drop _ _ (by rw [List.length_map]; exact lq1 [_, _] (.le 1 (.a (.a (.v 0) (.n 1)) (.n 1)) (.v 1)) 1 (.a (.v 0) (.n 2)) (.v 1) rfl h1), ← List.map_drop]
      refine Bo_add_list .f .f (by rw [z24]; simp only [List.length_append, List.length_map, List.length_take, List.length_drop]; exact lq4 [_, _, _, _] (.le 1 (.v 0) (.v 2)) (.le 1 (.v 1) (.n 1)) (.le 3 (.v 2) (.n 1000000)) (.le 1 (.v 3) (.v 2)) 1 (.a (.a (.v 0) (.v 1)) (.v 3)) (.n 16777216) rfl (Nat.min_le_right _ _) hl1 hFl (Nat.sub_le _ _)) (.inl ?_)
      rw [← List.map_append, ← List.map_append]
      refine Ex_nil ?_
      refine Ex_cons ?_
      refine E1_Assign he (by rfl) ?_
      (refine Ev_IfExp ?_; refine Tr_p (by assumption) (by rfl) ?_; refine if_f ?_)
      try refine ite_f (by rfl) ?_
      refine call_max hC he ?_
      (refine Evs_p (by assumption) (by rfl) ?_)
      refine Cl_max hr.handled ?_
      (refine Ex_nil ?_)
      rw [max2]
      have hl3 : (F.take at' ++ l ++ F.drop (at' + 2)).length + 2 = F.length + l.length := by
        have hw := Nat.sub_add_cancel h1
        rw [List.length_append, List.length_append, List.length_take, List.length_drop, Nat.min_eq_left (Nat.le_of_lt (Nat.lt_of_succ_lt h1))]
        exact Nat.le_antisymm (lq1 [_, _, _, _] (.eq 1 (.a (.v 2) (.a (.v 0) (.n 2))) (.v 3)) 1 (.a (.a (.a (.v 0) (.v 1)) (.v 2)) (.n 2)) (.a (.v 3) (.v 1)) rfl hw) (lq1 [_, _, _, _] (.qe 1 (.a (.v 2) (.a (.v 0) (.n 2))) (.v 3)) 1 (.a (.v 3) (.v 1)) (.a (.a (.a (.v 0) (.v 1)) (.v 2)) (.n 2)) rfl hw)
      generalize hF' : F.take at' ++ l ++ F.drop (at' + 2) = F' at p1 p2 hl3
      have hd : at' - 2 ≤ F'.length := lq3 [_, _, _, _, _] (.le 1 (.v 0) (.v 2)) (.le 1 (.a (.a (.v 2) (.n 1)) (.n 1)) (.v 3)) (.qe 1 (.a (.v 1) (.n 2)) (.a (.v 3) (.v 4))) 1 (.v 0) (.v 1) rfl (Nat.sub_le at' 2) h1 hl3
      have hx : 3 * F'.length + 3 - (at' - 2) + (at' - 2) = 3 * F'.length + 3 := Nat.sub_add_cancel (lq1 [_, _] (.le 1 (.v 0) (.v 1)) 1 (.v 0) (.a (.m 3 (.v 1)) (.n 3)) rfl hd)
      refine ⟨3 * F'.length + 3 - (at' - 2), ([("found", bd F'), ("at", .int ((at' - 2 : Nat) : Int))] : Ls), lq5 [_, _, _, _, _, _, _] (.eq 1 (.a (.v 0) (.v 2)) (.a (.m 3 (.v 3)) (.n 3))) (.eq 3 (.a (.v 3) (.n 2)) (.a (.v 5) (.v 6))) (.le 3 (.v 6) (.n 1)) (.qe 1 (.a (.v 1) (.v 4)) (.a (.m 3 (.v 5)) (.n 3))) (.le 1 (.v 4) (.a (.v 2) (.n 2))) 1 (.a (.v 0) (.n 1)) (.v 1) rfl hx hl3 hl1 hm (sle at' 2), ?_, rfl, F', at' - 2, rfl, ?_, p1.trans hFn, ?_, (lq2 [_, _] (.le 1 (.v 1) (.n 1000000)) (.le 1 (.a (.v 0) (.n 1)) (.v 1)) 1 (.v 0) (.n 1000000) rfl hFl p2), hx, hd⟩
      · (refine Sub.cons (by rfl) ?_; refine Sub.cons (by rfl) ?_; exact Sub.nil _)
      · intro t ht
        rw [← hF'] at ht
        simp only [List.mem_append] at ht
        rcases ht with (ht | ht) | ht
        · exact hFok t (List.mem_of_mem_take ht)
        · unfold two? at htw
          split at htw
          · cases htw
          · simp only [Option.some.injEq] at htw
            rw [← htw] at ht
            split at ht
            · cases ht
            · split at ht
              · rw [List.mem_singleton.mp ht]; exact ⟨by decide, by simp⟩
              · rw [List.mem_singleton.mp ht]; exact o2
        · exact hFok t (List.mem_of_mem_drop ht)
      · rw [← hF']
        exact irr_rewrite (lq1 [_, _] (.le 1 (.a (.a (.v 0) (.n 1)) (.n 1)) (.v 1)) 1 (.v 0) (.v 1) rfl h1) hIrr rfl
  simp only [decide_eq_false_iff_not] at hb
  have hI : Irr F F.length := fun j x y hj hx hy => by
    have := (List.getElem?_eq_some_iff.mp hy).1
    exact hIrr j x y (Nat.lt_of_succ_lt_succ (Nat.lt_of_lt_of_le this (not_lt_pred hb))) hx hy
  have hrev : (F0.foldl pushR []).reverse = F := by rw [← hFn, irr_nf hI, List.reverse_reverse]
  rw [hrev] at hF hQ
  refine Ex_cons ?_
  refine E1_Assign he (by rfl) ?_
  (refine Ev_List ?_; refine evs_nil ?_)
  refine .inr fun a ha => ?_
  refine Ex.sub (ls' := ([("out", .ref a), ("found", bd F)] : Ls)) ?_ (by (refine Sub.cons (by rfl) ?_; refine Sub.cons (by rfl) ?_; exact Sub.nil _))
  refine Ex_cons ?_
  refine E1_ForEnum hC he hr.handled (by rfl) (by rfl) (by rfl) gb_enumerate bb_enumerate ?_
  (refine Ev_p (by assumption) (by rfl) ?_)
  refine ⟨F.map pl, fun i ls' H2 => H2 = H1.set a (.list ((finTo F i).map pl)) ∧ ls' = ([("out", .ref a), ("found", bd F)] : Ls), rfl, ⟨rfl, rfl⟩, ?_, ?_⟩
  · rintro i w ls' H2 hi ⟨rfl, rfl⟩
    rw [List.getElem?_map] at hi
    cases hx : F[i]? with
    | none => rw [hx] at hi; cases hi
    | some p =>
    rw [hx] at hi
    cases hi
    have hip : i < F.length := (List.getElem?_eq_some_iff.mp hx).1
    have op : TOk p := hFok p (List.mem_of_getElem? hx)
    have ea : (H1.set a (.list ((finTo F i).map pl))) a = some (.list ((finTo F i).map pl)) := AH.set_self _ _ _
    have hl1 := finTo_len F i (lq1 [_, _] (.le 1 (.a (.v 0) (.n 1)) (.v 1)) 1 (.v 0) (.v 1) rfl hip)
    refine Ex_cons ?_
    refine E1.mono (R := Q) (N := fun ls' H3 => ls' = ([("plain", pl p), ("at", .int i), ("out", .ref a), ("found", bd F)] : Ls) ∧ H3 = H1.set a (.list ((finTo F i ++ (if code p = 4 ∧ code (F.getD (i + 1) []) = 5 then [[69]] else [])).map pl))) ?_ (fun _ _ h => h) ?_
    · refine E1_If ?_
      refine Tr.cons (Q := fun bb H3 => H3 = H1.set a (.list ((finTo F i).map pl)) ∧ (bb = true ↔ code p = 4 ∧ code (F.getD (i + 1) []) = 5)) ?_ ?_
      · refine Tr_and ?_
        refine Tr_Compare ?_
        (refine Ev_head ?_; refine Ev_p (by assumption) (by rfl) ?_; refine ⟨_, rfl, by assumption, ?_⟩)
        (refine Ev_p (by assumption) (by rfl) ?_; refine Bo_eq_int ?_; refine Th_bool ?_)
        refine ite_both (fun hb2 => ?_) (fun hb2 => ?_)
        · simp only [beq_iff_eq] at hb2
          have hi1 := hF i p hx hb2
          have g2 : F[i + 1]? = some F[i + 1] := List.getElem?_eq_getElem hi1
          have hgd : F.getD (i + 1) [] = F[i + 1] := by rw [List.getD_eq_getElem?_getD, g2]; rfl
          have o2 := hFok _ (List.mem_of_getElem? g2)
          rw [hgd]
          generalize F[i + 1] = tb at g2 o2
          refine Tr_and ?_
          refine Tr_Compare ?_
          refine Ev_head ?_
          refine Ev_Sub_list ?_
          (refine Ev_p (by assumption) (by rfl) ?_; refine Ev_p (by assumption) (by rfl) ?_)
          refine ⟨F.map pl, _, _, .f, rfl, idx_nat (n := i + 1) (bd_get g2), by rw [List.length_map, z24]; exact lq1 [_] (.le 1 (.v 0) (.n 1000000)) 1 (.v 0) (.n 16777216) rfl hFl, ?_⟩
          refine ⟨tb, rfl, o2, ?_⟩
          (refine Ev_p (by assumption) (by rfl) ?_; refine Bo_eq_int ?_; refine Th_bool ?_)
          refine ite_both (fun hb3 => ?_) (fun hb3 => ?_)
          · simp only [beq_iff_eq] at hb3
            exact Tr_and_nil ⟨rfl, fun _ => ⟨hb2, hb3⟩, fun _ => rfl⟩
          · simp only [beq_eq_false_iff_ne] at hb3
            exact ⟨rfl, fun e => (by cases e), fun e => absurd e.2 hb3⟩
        · simp only [beq_eq_false_iff_ne] at hb2
          exact ⟨rfl, fun e => (by cases e), fun e => absurd e.1 hb2⟩
      rintro bb H3 ⟨rfl, hbb⟩
      refine ite_both (fun hb2 => ?_) (fun hb2 => ?_)
      · rw [if_pos (hbb.mp hb2)]
        (refine Ex_cons ?_; refine E1_Expr ?_)
        refine Ev_append ?_
        (refine Ev_p (by assumption) (by rfl) ?_)
        refine ⟨a, _, rfl, ea, ?_⟩
        (refine Ev_p (by assumption) (by rfl) ?_)
        refine ⟨_, ea, by rw [z24, List.length_map]; exact lq3 [_, _, _] (.le 2 (.v 1) (.n 1000000)) (.le 2 (.a (.v 2) (.n 1)) (.v 1)) (.le 1 (.v 0) (.m 2 (.v 2))) 1 (.v 0) (.n 16777216) rfl hFl hip hl1, ?_⟩
        rw [AH.set_set]
        (refine Ex_nil ?_)
        refine ⟨rfl, ?_⟩
        rw [← map_snoc]
        rfl
      · rw [if_neg (fun e => by rw [hbb.mpr e] at hb2; cases hb2), List.append_nil]
        exact Ex_nil ⟨rfl, rfl⟩
    rintro ls' H3 ⟨rfl, rfl⟩
    have hl2 : (finTo F i ++ (if code p = 4 ∧ code (F.getD (i + 1) []) = 5 then [[69]] else [])).length ≤ 2 * i + 1 := by
      rw [List.length_append]
      split
      · simp only [List.length_cons, List.length_nil]; exact lq1 [_, _] (.le 1 (.v 0) (.m 2 (.v 1))) 1 (.a (.v 0) (.a (.n 0) (.n 1))) (.a (.m 2 (.v 1)) (.n 1)) rfl hl1
      · simp only [List.length_nil]; exact lq1 [_, _] (.le 1 (.v 0) (.m 2 (.v 1))) 1 (.a (.v 0) (.n 0)) (.a (.m 2 (.v 1)) (.n 1)) rfl hl1
    have hst : finTo F (i + 1) = (finTo F i ++ (if code p = 4 ∧ code (F.getD (i + 1) []) = 5 then [[69]] else [])) ++ (if code p ≠ 5 ∨ code ((idx F ((i : Int) - 1)).getD []) ≠ 4 then [p] else []) := by
      rw [finTo_step hx, finAt, List.append_assoc]
    generalize finTo F i ++ (if code p = 4 ∧ code (F.getD (i + 1) []) = 5 then [[69]] else []) = G at hl2 hst
    obtain ⟨y, hy1, hy2⟩ := idx_pred hip
    have oy := hFok y hy2
    rw [hy1, Option.getD_some] at hst
    refine Ex_cons ?_
    refine E1_If ?_
    refine Tr.cons (Q := fun bb H3 => H3 = H1.set a (.list (G.map pl)) ∧ (bb = true ↔ code p ≠ 5 ∨ code y ≠ 4)) ?_ ?_
    · refine Tr_or ?_
      refine Tr_Compare ?_
      (refine Ev_head ?_; refine Ev_p (by assumption) (by rfl) ?_; refine ⟨_, rfl, by assumption, ?_⟩)
      (refine Ev_p (by assumption) (by rfl) ?_; refine Bo_ne_int ?_; refine Th_bool ?_)
      refine ite_both (fun hb2 => ?_) (fun hb2 => ?_)
      · simp only [bne_iff_ne] at hb2
        exact ⟨rfl, fun _ => .inl hb2, fun _ => rfl⟩
      · simp only [bne_eq_false_iff_eq] at hb2
        refine Tr_or ?_
        refine Tr_Compare ?_
        refine Ev_head ?_
        refine Ev_Sub_list ?_
        (refine Ev_p (by assumption) (by rfl) ?_; refine Ev_p (by assumption) (by rfl) ?_)
        refine ⟨F.map pl, _, pl y, .f, rfl, by rw [idx_map, hy1]; rfl, by rw [List.length_map, z24]; exact lq1 [_] (.le 1 (.v 0) (.n 1000000)) 1 (.v 0) (.n 16777216) rfl hFl, ?_⟩
        refine ⟨y, rfl, oy, ?_⟩
        (refine Ev_p (by assumption) (by rfl) ?_; refine Bo_ne_int ?_; refine Th_bool ?_)
        refine ite_both (fun hb3 => ?_) (fun hb3 => ?_)
        · simp only [bne_iff_ne] at hb3
          exact ⟨rfl, fun _ => .inr hb3, fun _ => rfl⟩
        · simp only [bne_eq_false_iff_eq] at hb3
          exact Tr_or_nil ⟨rfl, fun e => (by cases e), fun e => by rcases e with e | e <;> contradiction⟩
    rintro bb H3 ⟨rfl, hbb⟩
    have eg : (H1.set a (.list (G.map pl))) a = some (.list (G.map pl)) := AH.set_self _ _ _
    refine ite_both (fun hb2 => ?_) (fun hb2 => ?_)
    · rw [if_pos (hbb.mp hb2)] at hst
      (refine Ex_cons ?_; refine E1_Expr ?_)
      refine Ev_append ?_
      (refine Ev_p (by assumption) (by rfl) ?_)
      refine ⟨a, _, rfl, eg, ?_⟩
      (refine Ev_p (by assumption) (by rfl) ?_)
      refine ⟨_, eg, by rw [z24, List.length_map]; exact lq3 [_, _, _] (.le 2 (.v 1) (.n 1000000)) (.le 2 (.a (.v 2) (.n 1)) (.v 1)) (.le 1 (.v 0) (.a (.m 2 (.v 2)) (.n 1))) 1 (.v 0) (.n 16777216) rfl hFl hip hl2, ?_⟩
      rw [AH.set_set]
      (refine Ex_nil ?_; refine Ex_nil ?_)
      refine ⟨_, by (refine Sub.cons (by rfl) ?_; refine Sub.cons (by rfl) ?_; exact Sub.nil _), ?_, rfl⟩
      rw [hst, ← map_snoc]
    · rw [if_neg (fun e => by rw [hbb.mpr e] at hb2; cases hb2), List.append_nil] at hst
      refine Ex_nil (Ex_nil ⟨_, by (refine Sub.cons (by rfl) ?_; refine Sub.cons (by rfl) ?_; exact Sub.nil _), ?_, rfl⟩)
      rw [hst]
  · rintro ls' H2 ⟨rfl, rfl⟩
    rw [List.length_map, finTo_all]
    have hl := finTo_len F F.length (Nat.le_refl _)
    rw [finTo_all] at hl
    refine Ex_fix (x := "out") (by rfl) (AH.set_self _ _ _) ?_
    rw [AH.del_set _ ha]
    (refine Ex_cons ?_; refine E1_Return ?_; refine Ev_BinOp ?_; refine Ev_p (by assumption) (by rfl) ?_; refine Ev_List ?_; refine Evs_p (by assumption) (by rfl) ?_)
    refine .inl ?_
    refine Bo_add_list .f .f (by rw [z24]; simp only [List.length_map, List.length_cons, List.length_nil]; exact lq2 [_, _] (.le 2 (.v 1) (.n 1000000)) (.le 1 (.v 0) (.m 2 (.v 1))) 1 (.a (.v 0) (.a (.n 0) (.n 1))) (.n 16777216) rfl hFl hl) (.inl ?_)
    rw [hQ] at h
    have e : V.lst ((finF F).map pl ++ [pl [11]]) = bd (finF F ++ [[11]]) := by rw [map_snoc]
    rw [← e] at h
    exact h
end

/- NmAA -/
section
variable {b : Bs} {A : Around} {H : AH} {Q : V → AH → Prop}
theorem behind_spec {B : List Tk} {n k : Nat} {e : Bool} (hC : CxOk (cx b)) (r : Rm A 1) (hB : ∀ t ∈ B, TOk t) (hz : B.length ≤ 1000000) (hk : behF e 0 (B.drop n) = some k)
    (h : Q (.int ((n + k : Nat) : Int)) H) : Cc (cx b) A (.ref 181) [bd B, .int n, .bool e] H Q := by
  refine def_law_behind (n := 0) hC r fun L he hr => ?_
  refine Ex_cons ?_
  refine E1_Assign he (by rfl) ?_
  (refine Ev_p (by assumption) (by rfl) ?_)
  refine Ex.sub (ls' := ([("deep", .int ((0 : Nat) : Int)), ("body", bd B), ("at", .int n), ("is_else", .bool e)] : Ls)) ?_ (by (refine Sub.cons (by rfl) ?_; refine Sub.cons (by rfl) ?_; refine Sub.cons (by rfl) ?_; refine Sub.cons (by rfl) ?_; exact Sub.nil _))
  refine Ex_cons ?_
  let I1 : Nat → Ls → AH → Prop := fun m ls' H1 => H1 = H ∧ ∃ d n1 k1 : Nat, ls' = ([("deep", .int d), ("body", bd B), ("at", .int n1), ("is_else", .bool e)] : Ls) ∧ behF e d (B.drop n1) = some k1 ∧ n1 + k1 = n + k ∧ m = k1
  refine E1_While (I1) k
    ⟨rfl, 0, n, k, rfl, hk, rfl, rfl⟩ ?_
  rintro m ls' H1 ⟨rfl, d, n1, k1, rfl, hk1, hnk, rfl⟩
  obtain ⟨t, rr, hdr⟩ := behF_ne hk1
  have hn1 : n1 < B.length := by
    have := congrArg List.length hdr
    simp only [List.length_drop, List.length_cons] at this
    exact Nat.lt_of_sub_pos (this ▸ Nat.succ_pos _)
  have ht : B[n1]? = some t := by
    have := congrArg List.head? hdr
    rw [List.head?_drop] at this
    exact this
  have hrr : B.drop (n1 + 1) = rr := by
    have := congrArg List.tail hdr
    rw [List.tail_drop] at this
    exact this
  have ot := hB t (List.mem_of_getElem? ht)
  rw [hdr, behF] at hk1
  let I2 : Bool → AH → Prop := fun bb H2 => H2 = H1 ∧ (bb = false ↔ (d = 0 ∧ (code t = 11 ∨ (e = true ∧ code t = 5))))
  refine Tr.cons (Q := I2) ?_ ?_
  · refine Tr_or ?_
    (refine Tr_p (by assumption) (by rfl) ?_)
    refine ite_both (fun hb => ?_) (fun hb => ?_)
    · simp only [decide_eq_true_eq] at hb
      exact ⟨rfl, fun e => (by cases e), fun e => by lia⟩
    · simp only [decide_eq_false_iff_not] at hb
      refine Tr_or ?_
      refine Tr_and ?_
      refine Tr_Compare ?_
      (refine Ev_head ?_; refine Ev_Sub_list ?_; refine Ev_p (by assumption) (by rfl) ?_; refine Ev_p (by assumption) (by rfl) ?_; refine ⟨_, _, _, .f, rfl, idx_nat (bd_get (by assumption)), by rw [List.length_map, z24]; exact lq1 [_] (.le 1 (.v 0) (.n 1000000)) 1 (.v 0) (.n 16777216) rfl hz, _, rfl, by assumption, ?_⟩)
      (refine Ev_p (by assumption) (by rfl) ?_; refine Bo_ne_int ?_; refine Th_bool ?_)
      refine ite_both (fun hb2 => ?_) (fun hb2 => ?_)
      · simp only [bne_iff_ne] at hb2
        refine Tr_and ?_
        refine Tr_not ?_
        refine Tr_and ?_
        (refine Tr_p (by assumption) (by rfl) ?_)
        refine ite_both (fun hb3 => ?_) (fun hb3 => ?_)
        · refine Tr_and ?_
          refine Tr_Compare ?_
          (refine Ev_head ?_; refine Ev_Sub_list ?_; refine Ev_p (by assumption) (by rfl) ?_; refine Ev_p (by assumption) (by rfl) ?_; refine ⟨_, _, _, .f, rfl, idx_nat (bd_get (by assumption)), by rw [List.length_map, z24]; exact lq1 [_] (.le 1 (.v 0) (.n 1000000)) 1 (.v 0) (.n 16777216) rfl hz, _, rfl, by assumption, ?_⟩)
          (refine Ev_p (by assumption) (by rfl) ?_; refine Bo_eq_int ?_; refine Th_bool ?_)
          refine ite_both (fun hb4 => ?_) (fun hb4 => ?_)
          · simp only [beq_iff_eq] at hb4
            refine Tr_and_nil ?_
            refine Tr_or_nil ⟨rfl, fun _ => ⟨by lia, .inr ⟨hb3, hb4⟩⟩, fun _ => rfl⟩
          · simp only [beq_eq_false_iff_ne] at hb4
            refine Tr_and_nil ?_
            show I2 true H1
            refine ⟨rfl, fun e => (by cases e), fun ⟨_, x⟩ => ?_⟩
            rcases x with x | x
            · exact absurd x hb2
            · exact absurd x.2 hb4
        · refine Tr_and_nil ?_
          show I2 true H1
          refine ⟨rfl, fun e => (by cases e), fun ⟨_, x⟩ => ?_⟩
          rcases x with x | x
          · exact absurd x hb2
          · rw [x.1] at hb3; cases hb3
      · simp only [bne_eq_false_iff_eq] at hb2
        exact Tr_or_nil ⟨rfl, fun _ => ⟨by lia, .inl hb2⟩, fun _ => rfl⟩
  rintro bb H2 ⟨rfl, hbb⟩
  refine ite_both (fun hb => ?_) (fun hb => ?_)
  · rw [if_neg (fun x => by rw [hbb.mpr x] at hb; cases hb)] at hk1
    obtain ⟨k2, hk2, rfl⟩ := Option.map_eq_some_iff.mp hk1
    refine Ex_cons ?_
    refine E1_Assign he (by rfl) ?_
    refine Ev_BinOp ?_
    refine Ev_BinOp ?_
    (refine Ev_p (by assumption) (by rfl) ?_)
    refine call_int hC he ?_
    refine evs_cons ?_
    refine Ev.cons (Q := fun v H1 => H1 = H2 ∧ v = .bool (decide (2 ≤ code t ∧ code t ≤ 4))) ?_ ?_
    · refine Ev_Chain ?_
      (refine Ev_p (by assumption) (by rfl) ?_)
      (refine Ev_head ?_; refine Ev_Sub_list ?_; refine Ev_p (by assumption) (by rfl) ?_; refine Ev_p (by assumption) (by rfl) ?_; refine ⟨_, _, _, .f, rfl, idx_nat (bd_get (by assumption)), by rw [List.length_map, z24]; exact lq1 [_] (.le 1 (.v 0) (.n 1000000)) 1 (.v 0) (.n 16777216) rfl hz, _, rfl, by assumption, ?_⟩)
      (refine Bo_le ?_; refine Th_bool ?_)
      refine ite_both (fun hb2 => ?_) (fun hb2 => ?_)
      · simp only [decide_eq_true_eq] at hb2
        refine chain_end_E ?_
        (refine Ev_p (by assumption) (by rfl) ?_; refine Bo_le ?_)
        refine ⟨rfl, ?_⟩
        congr 1
        simp only [hb2, true_and]
      · simp only [decide_eq_false_iff_not] at hb2
        refine ⟨rfl, ?_⟩
        congr 1
        simp only [hb2, false_and]
    rintro v H3 ⟨rfl, rfl⟩
    (refine evs_nil ?_)
    refine Cl_int_bool ?_
    (refine Bo_add ?_)
    refine call_int hC he ?_
    refine evs_cons ?_
    refine Ev_Compare ?_
    (refine Ev_head ?_; refine Ev_Sub_list ?_; refine Ev_p (by assumption) (by rfl) ?_; refine Ev_p (by assumption) (by rfl) ?_; refine ⟨_, _, _, .f, rfl, idx_nat (bd_get (by assumption)), by rw [List.length_map, z24]; exact lq1 [_] (.le 1 (.v 0) (.n 1000000)) 1 (.v 0) (.n 16777216) rfl hz, _, rfl, by assumption, ?_⟩)
    (refine Ev_p (by assumption) (by rfl) ?_; refine Bo_eq_int ?_; refine evs_nil ?_)
    refine Cl_int_bool ?_
    (refine Bo_sub ?_; refine Ex_cons ?_; refine E1_Assign (by assumption) (by rfl) ?_; refine Ev_p (by assumption) (by rfl) ?_; refine Ex_nil ?_)
    have ed : (d : Int) + (if decide (2 ≤ code t ∧ code t ≤ 4) = true then 1 else 0) - (if (code t == 11) = true then 1 else 0) = ((if 2 ≤ code t ∧ code t ≤ 4 then d + 1 else if code t = 11 then d - 1 else d : Nat) : Int) := by
      simp only [decide_eq_true_eq, beq_iff_eq]
      by_cases h1 : 2 ≤ code t ∧ code t ≤ 4
      · rw [if_pos h1, if_pos h1, if_neg (by lia)]
        lia
      · rw [if_neg h1, if_neg h1]
        by_cases h2 : code t = 11
        · rw [if_pos h2, if_pos h2]
          have : d ≠ 0 := fun hd => by
            rw [hbb.mpr ⟨hd, .inl h2⟩] at hb
            cases hb
          exact (Int.ofNat_sub (Nat.pos_of_ne_zero this)).symm
        · rw [if_neg h2, if_neg h2]
          lia
    rw [ed]
    refine ⟨k2, ([("deep", .int ((if 2 ≤ code t ∧ code t ≤ 4 then d + 1 else if code t = 11 then d - 1 else d : Nat) : Int)), ("body", bd B), ("at", .int ((n1 + 1 : Nat) : Int)), ("is_else", .bool e)] : Ls), (lq0 [_] 1 (.a (.v 0) (.n 1)) (.a (.v 0) (.n 1)) rfl ), ?_, rfl, _, n1 + 1, k2, rfl, by rw [hrr]; exact hk2, (Nat.le_antisymm (lq1 [_, _, _, _] (.eq 1 (.a (.v 0) (.a (.v 1) (.n 1))) (.a (.v 2) (.v 3))) 1 (.a (.a (.v 0) (.n 1)) (.v 1)) (.a (.v 2) (.v 3)) rfl hnk) (lq1 [_, _, _, _] (.qe 1 (.a (.v 2) (.a (.v 3) (.n 1))) (.a (.v 0) (.v 1))) 1 (.a (.v 0) (.v 1)) (.a (.a (.v 2) (.n 1)) (.v 3)) rfl hnk)), rfl⟩
    (refine Sub.cons (by rfl) ?_; refine Sub.cons (by rfl) ?_; refine Sub.cons (by rfl) ?_; refine Sub.cons (by rfl) ?_; exact Sub.nil _)
  · rw [if_pos (hbb.mp hb)] at hk1
    cases hk1
    (refine Ex_cons ?_; refine E1_Return ?_; refine Ev_p (by assumption) (by rfl) ?_)
    have e : ((n + k : Nat) : Int) = (n1 : Int) + 1 := by lia
    rw [e] at h
    exact h
end

/- NmAB -/
section
variable {b : Bs} {A : Around} {H : AH} {Q : V → AH → Prop}
structure MH (H H' : AH) (sa pa ta : Addr) (m : MS) : Prop where
  s : H' sa = some (.list (ivs m.st))
  p : H' pa = some (.list (ivs m.pl))
  t : H' ta = some (.list (ivs m.to))
  n1 : sa ≠ pa
  n2 : sa ≠ ta
  n3 : pa ≠ ta
  out : ∀ c, c ≠ sa → c ≠ pa → c ≠ ta → H' c = H c
theorem MH.setS {H H' : AH} {sa pa ta : Addr} {m : MS} (M : MH H H' sa pa ta m) (l : List Int) : MH H (H'.set sa (.list (ivs l))) sa pa ta ⟨l, m.pl, m.to⟩ :=
  ⟨AH.set_self _ _ _, by rw [AH.set_ne _ _ M.n1.symm]; exact M.p, by rw [AH.set_ne _ _ M.n2.symm]; exact M.t, M.n1, M.n2, M.n3, fun c h1 h2 h3 => by rw [AH.set_ne _ _ h1]; exact M.out c h1 h2 h3⟩
theorem MH.setP {H H' : AH} {sa pa ta : Addr} {m : MS} (M : MH H H' sa pa ta m) (l : List Int) : MH H (H'.set pa (.list (ivs l))) sa pa ta ⟨m.st, l, m.to⟩ :=
  ⟨by rw [AH.set_ne _ _ M.n1]; exact M.s, AH.set_self _ _ _, by rw [AH.set_ne _ _ M.n3.symm]; exact M.t, M.n1, M.n2, M.n3, fun c h1 h2 h3 => by rw [AH.set_ne _ _ h2]; exact M.out c h1 h2 h3⟩
theorem MH.setT {H H' : AH} {sa pa ta : Addr} {m : MS} (M : MH H H' sa pa ta m) (l : List Int) : MH H (H'.set ta (.list (ivs l))) sa pa ta ⟨m.st, m.pl, l⟩ :=
  ⟨by rw [AH.set_ne _ _ M.n2]; exact M.s, by rw [AH.set_ne _ _ M.n3]; exact M.p, AH.set_self _ _ _, M.n1, M.n2, M.n3, fun c h1 h2 h3 => by rw [AH.set_ne _ _ h3]; exact M.out c h1 h2 h3⟩
theorem if_some {α : Type} {c : Prop} [Decidable c] {x : Option α} {y : α} (h : (if c then x else none) = some y) : c ∧ x = some y := by
  split at h
  · exact ⟨by assumption, h⟩
  · cases h
theorem last_split {l : List Int} {v : Int} (h : l.getLast? = some v) : l = l.dropLast ++ [v] := by
  obtain ⟨ys, rfl⟩ := List.getLast?_eq_some_iff.mp h
  simp
theorem Ev_arg {C : Cx} {A : Around} {env : Env} {ls : Ls} {H : AH} {Q : V → AH → Prop} {value : Expr} {k p pos} (h : Ev C A env value ls H fun o H1 => ∃ t, o = pl t ∧ TOk t ∧ 2 ≤ t.length ∧ Q (.int (arg t)) H1)
    (hs : ∀ a k' u, subscripted (.Constant (.int 1) k p) false (.ref a) (.int k' u) = operate [.ref a, .int k' u] (getItem (.ref a) (.int k' u)) := by intro _ _ _; with_unfolding_all rfl) :
    Ev C A env (.Subscript value (.Constant (.int 1) k p) pos) ls H Q := by
  refine Ev_Sub_tup (h.cons fun o H1 x => ?_) hs
  obtain ⟨t, rfl, ok, h2, q⟩ := x
  refine Ev_int ?_
  match t, h2 with
  | c :: d :: r, _ => exact ⟨ivs (c :: d :: r), 1, .int d, rfl, rfl, rfl, by rw [z24, List.length_map]; have := ok.2; omega, q⟩
/-- the stack's last goes -/
theorem Ev_popS {C : Cx} {A : Around} {env : Env} {ls : Ls} {H H0 : AH} {Q : V → AH → Prop} {o : Str} {np apos pos : Pos} {sa pa ta : Addr} {m : MS} {v : Int} (he : EnvOk env) (M : MH H0 H sa pa ta m) (hl : m.st.length ≤ 100000) (hx : ls.lookup o = some (.ref sa)) (hv : m.st.getLast? = some v)
    (h : MH H0 (H.set sa (.list (ivs m.st.dropLast))) sa pa ta ⟨m.st.dropLast, m.pl, m.to⟩ → Q (.int v) (H.set sa (.list (ivs m.st.dropLast))))
    (hbase : attributeBase (.Name o np) "pop" env (eval (.Name o np) env) = eval (.Name o np) env := by rfl) (hline : (apos.endLine == pos.line) = true := by rfl) (hd : (o == ("__debug__" : Str)) = false := by decide) :
    Ev C A env (.Call (.Attribute (.Name o np) "pop" apos) [] [] pos) ls H Q := by
  refine Ev_pop (Ev_var he hx ?_ hd) hbase hline
  have e := M.s
  rw [last_split hv] at e
  refine ⟨sa, ivs m.st.dropLast, .int v, rfl, ?_, ?_, h (M.setS _)⟩
  · rw [e]; simp
  · rw [List.length_map, List.length_dropLast, z24]; omega
theorem do_spec {sa pa ta : Addr} {H0 : AH} {p : Tk} {m m1 : MS} (hC : CxOk (cx b)) (r : Rm A 1) (op : TOk p) (M : MH H0 H sa pa ta m) (h1 : doF p m = some m1) (z1 : m.st.length ≤ 100000) (z2 : m.pl.length ≤ 100000) (z3 : m.to.length ≤ 100000)
    (h : ∀ H', MH H0 H' sa pa ta m1 → Q .none H') : Cc (cx b) A (.ref 188) [pl p, .ref sa, .ref pa, .ref ta] H Q := by
  refine def_law_do (n := 0) hC r fun L he hr => ?_
  unfold doF at h1
  refine Ex_cons ?_
  refine E1_If ?_
  refine Tr_Compare ?_
  (refine Ev_head ?_; refine Ev_p (by assumption) (by rfl) ?_; refine ⟨_, rfl, by assumption, ?_⟩)
  (refine Ev_p (by assumption) (by rfl) ?_; refine Bo_eq_int ?_; refine Th_bool ?_)
  refine ite_both (fun hb => ?_) (fun hb => ?_)
  · simp only [beq_iff_eq] at hb
    rw [if_pos hb] at h1
    obtain ⟨hp, h1⟩ := if_some h1
    obtain ⟨v, hv, rfl⟩ := Option.map_eq_some_iff.mp h1
    (refine Ex_cons ?_; refine E1_Expr ?_)
    refine Ev_append ?_
    (refine Ev_p (by assumption) (by rfl) ?_)
    refine ⟨sa, _, rfl, M.s, ?_⟩
    refine Ev_Sub_list ?_
    (refine Ev_p (by assumption) (by rfl) ?_)
    refine Ev_arg ?_
    (refine Ev_p (by assumption) (by rfl) ?_)
    refine ⟨p, rfl, op, hp.1, ivs m.pl, arg p, .int v, .m M.p, rfl, ?_, by rw [List.length_map, z24]; omega, ?_⟩
    · rw [idx_map]
      unfold idx
      rw [if_pos hp.2, hv]
      rfl
    refine ⟨_, M.s, by rw [List.length_map, z24]; omega, ?_⟩
    have e : ivs m.st ++ [V.int v] = ivs (m.st ++ [v]) := by simp
    rw [e]
    (refine Ex_nil ?_; refine Ex_nil ?_)
    exact h _ (M.setS _)
  simp only [beq_eq_false_iff_ne] at hb
  rw [if_neg hb] at h1
  refine Ex_cons ?_
  refine E1_If ?_
  refine Tr_Compare ?_
  (refine Ev_head ?_; refine Ev_p (by assumption) (by rfl) ?_; refine ⟨_, rfl, by assumption, ?_⟩)
  (refine Ev_p (by assumption) (by rfl) ?_; refine Bo_eq_int ?_; refine Th_bool ?_)
  refine ite_both (fun hb => ?_) (fun hb => ?_)
  · simp only [beq_iff_eq] at hb
    rw [if_pos hb] at h1
    obtain ⟨hp, h1⟩ := if_some h1
    obtain ⟨v, hv, rfl⟩ := Option.map_eq_some_iff.mp h1
    refine Ex_cons ?_
    refine E1_SetInt ?_
    refine Ev_popS he M z1 (by rfl) hv fun M1 => ?_
    (refine Ev_p (by assumption) (by rfl) ?_)
    refine Ev_arg ?_
    (refine Ev_p (by assumption) (by rfl) ?_)
    refine ⟨p, rfl, op, hp.1, pa, _, arg p, rfl, M1.p, rfl, hp.2.1, ?_, ?_, ?_⟩
    · rw [List.length_map]; exact hp.2.2
    · rw [List.length_map, z24]; exact Nat.le_trans z2 (by omega)
    (refine Ex_nil ?_; refine Ex_nil ?_; refine Ex_nil ?_)
    have e : (ivs m.pl).set (arg p).toNat (V.int v) = ivs (m.pl.set (arg p).toNat v) := (List.map_set (f := V.int)).symm
    rw [e]
    exact h _ (M1.setP _)
  simp only [beq_eq_false_iff_ne] at hb
  rw [if_neg hb] at h1
  refine Ex_cons ?_
  refine E1_If ?_
  refine Tr_Compare ?_
  (refine Ev_head ?_; refine Ev_p (by assumption) (by rfl) ?_; refine ⟨_, rfl, by assumption, ?_⟩)
  (refine Ev_p (by assumption) (by rfl) ?_; refine Bo_eq_int ?_; refine Th_bool ?_)
  refine ite_both (fun hb => ?_) (fun hb => ?_)
  · simp only [beq_iff_eq] at hb
    rw [if_pos hb] at h1
    obtain ⟨hp, h1⟩ := if_some h1
    cases h1
    (refine Ex_cons ?_; refine E1_Expr ?_)
    refine Ev_append ?_
    (refine Ev_p (by assumption) (by rfl) ?_)
    refine ⟨sa, _, rfl, M.s, ?_⟩
    refine Ev_arg ?_
    (refine Ev_p (by assumption) (by rfl) ?_)
    refine ⟨p, rfl, op, hp, _, M.s, by rw [List.length_map, z24]; omega, ?_⟩
    have e : ivs m.st ++ [V.int (arg p)] = ivs (m.st ++ [arg p]) := by simp
    rw [e]
    (refine Ex_nil ?_; refine Ex_nil ?_; refine Ex_nil ?_; refine Ex_nil ?_)
    exact h _ (M.setS _)
  simp only [beq_eq_false_iff_ne] at hb
  rw [if_neg hb] at h1
  refine Ex_cons ?_
  refine E1_If ?_
  refine Tr_Compare ?_
  (refine Ev_head ?_; refine Ev_p (by assumption) (by rfl) ?_; refine ⟨_, rfl, by assumption, ?_⟩)
  (refine Ev_p (by assumption) (by rfl) ?_; refine Bo_eq_int ?_; refine Th_bool ?_)
  refine ite_both (fun hb => ?_) (fun hb => ?_)
  · simp only [beq_iff_eq] at hb
    rw [if_pos hb] at h1
    obtain ⟨v, hv, rfl⟩ := Option.map_eq_some_iff.mp h1
    (refine Ex_cons ?_; refine E1_Expr ?_)
    refine Ev_append ?_
    (refine Ev_p (by assumption) (by rfl) ?_)
    refine ⟨sa, _, rfl, M.s, ?_⟩
    refine call_int hC he ?_
    refine evs_cons ?_
    refine Ev_Compare ?_
    refine Ev_popS he M z1 (by rfl) hv fun M1 => ?_
    (refine Ev_p (by assumption) (by rfl) ?_; refine Bo_eq_int ?_; refine evs_nil ?_)
    refine Cl_int_bool ?_
    refine ⟨_, M1.s, by rw [List.length_map, List.length_dropLast, z24]; omega, ?_⟩
    have e : ivs m.st.dropLast ++ [V.int (if (v == 0) = true then 1 else 0)] = ivs (m.st.dropLast ++ [if v = 0 then 1 else 0]) := by
      by_cases hv0 : v = 0 <;> simp [hv0]
    rw [e]
    (refine Ex_nil ?_; refine Ex_nil ?_; refine Ex_nil ?_; refine Ex_nil ?_; refine Ex_nil ?_)
    exact h _ (M1.setS _)
  simp only [beq_eq_false_iff_ne] at hb
  rw [if_neg hb] at h1
  refine Ex_cons ?_
  refine E1_If ?_
  refine Tr_Compare ?_
  (refine Ev_head ?_; refine Ev_p (by assumption) (by rfl) ?_; refine ⟨_, rfl, by assumption, ?_⟩)
  (refine Ev_p (by assumption) (by rfl) ?_; refine Bo_eq_int ?_; refine Th_bool ?_)
  refine ite_both (fun hb => ?_) (fun hb => ?_)
  · simp only [beq_iff_eq] at hb
    rw [if_pos hb] at h1
    obtain ⟨v, hv, rfl⟩ := Option.map_eq_some_iff.mp h1
    (refine Ex_cons ?_; refine E1_Expr ?_)
    refine Ev_popS he M z1 (by rfl) hv fun M1 => ?_
    (refine Ex_nil ?_; refine Ex_nil ?_; refine Ex_nil ?_; refine Ex_nil ?_; refine Ex_nil ?_; refine Ex_nil ?_)
    exact h _ M1
  simp only [beq_eq_false_iff_ne] at hb
  rw [if_neg hb] at h1
  refine Ex_cons ?_
  refine E1_If ?_
  refine Tr_Compare ?_
  (refine Ev_head ?_; refine Ev_p (by assumption) (by rfl) ?_; refine ⟨_, rfl, by assumption, ?_⟩)
  (refine Ev_p (by assumption) (by rfl) ?_; refine Bo_eq_int ?_; refine Th_bool ?_)
  refine ite_both (fun hb => ?_) (fun hb => ?_)
  · simp only [beq_iff_eq] at hb
    rw [if_pos hb] at h1
    obtain ⟨v, hv, rfl⟩ := Option.map_eq_some_iff.mp h1
    (refine Ex_cons ?_; refine E1_Expr ?_)
    refine Ev_append ?_
    (refine Ev_p (by assumption) (by rfl) ?_)
    refine ⟨ta, _, rfl, M.t, ?_⟩
    refine Ev_popS he M z1 (by rfl) hv fun M1 => ?_
    refine ⟨_, M1.t, by rw [List.length_map, z24]; exact Nat.le_trans z3 (by omega), ?_⟩
    have e : ivs m.to ++ [V.int v] = ivs (m.to ++ [v]) := by simp
    rw [e]
    (refine Ex_nil ?_; refine Ex_nil ?_; refine Ex_nil ?_; refine Ex_nil ?_; refine Ex_nil ?_; refine Ex_nil ?_; refine Ex_nil ?_)
    exact h _ (M1.setT _)
  simp only [beq_eq_false_iff_ne] at hb
  rw [if_neg hb] at h1
  cases h1
  (refine Ex_nil ?_; refine Ex_nil ?_; refine Ex_nil ?_; refine Ex_nil ?_; refine Ex_nil ?_; refine Ex_nil ?_; refine Ex_nil ?_)
  exact h _ M
theorem goal_spec {sa pa ta : Addr} {H0 : AH} {p : Tk} {m : MS} {g : Int} {st : List Int} (hC : CxOk (cx b)) (r : Rm A 1) (op : TOk p) (M : MH H0 H sa pa ta m) (h1 : goalF p m.st = some (g, st)) (z1 : m.st.length ≤ 100000)
    (h : ∀ H', MH H0 H' sa pa ta ⟨st, m.pl, m.to⟩ → Q (.int g) H') : Cc (cx b) A (.ref 195) [pl p, .ref sa] H Q := by
  refine def_law_goal (n := 0) hC r fun L he hr => ?_
  unfold goalF at h1
  refine Ex_cons ?_
  refine E1_If ?_
  refine Tr_Compare ?_
  (refine Ev_head ?_; refine Ev_p (by assumption) (by rfl) ?_; refine ⟨_, rfl, by assumption, ?_⟩)
  (refine Ev_p (by assumption) (by rfl) ?_; refine Bo_eq_int ?_; refine Th_bool ?_)
  refine ite_both (fun hb => ?_) (fun hb => ?_)
  · simp only [beq_iff_eq] at hb
    rw [if_pos hb] at h1
    obtain ⟨v, hv, h1⟩ := Option.bind_eq_some_iff.mp h1
    obtain ⟨hp, h1⟩ := if_some h1
    simp only [Option.some.injEq, Prod.mk.injEq] at h1
    obtain ⟨rfl, rfl⟩ := h1
    (refine Ex_cons ?_; refine E1_Return ?_)
    refine Ev_Sub_tup ?_
    (refine Ev_p (by assumption) (by rfl) ?_)
    refine call_min hC he ?_
    refine evs_cons ?_
    refine Ev_BinOp ?_
    (refine Ev_p (by assumption) (by rfl) ?_)
    refine Ev_popS he M z1 (by rfl) hv fun M1 => ?_
    (refine Bo_add ?_; refine evs_cons ?_; refine Ev_BinOp ?_)
    refine call_len hC he ?_
    (refine Evs_p (by assumption) (by rfl) ?_)
    refine Cl_len_tup (by rw [List.length_map, z24]; have := op.2; omega) ?_
    (refine Ev_p (by assumption) (by rfl) ?_; refine Bo_sub ?_; refine evs_nil ?_)
    refine Cl_min hr.handled ?_
    rw [List.length_map]
    have e : (if (p.length : Int) - 1 < 1 + v then (p.length : Int) - 1 else 1 + v) = min (1 + v) ((p.length : Int) - 1) := by
      rw [Int.min_def]
      split <;> split <;> omega
    rw [e]
    have e2 : 0 ≤ min (1 + v) ((p.length : Int) - 1) := by omega
    have e3 : (min (1 + v) ((p.length : Int) - 1)).toNat < p.length := by omega
    refine ⟨_, _, .int (p.getD (min (1 + v) ((p.length : Int) - 1)).toNat 0), rfl, rfl, ?_, by rw [List.length_map, z24]; have := op.2; omega, h _ M1⟩
    rw [idx_map]
    unfold idx
    rw [if_pos e2, List.getElem?_eq_getElem e3, List.getD_eq_getElem?_getD, List.getElem?_eq_getElem e3]
    rfl
  simp only [beq_eq_false_iff_ne] at hb
  rw [if_neg hb] at h1
  refine Ex_nil ?_
  refine Ex_cons ?_
  refine E1_Return ?_
  refine Ev_IfExp ?_
  by_cases h12 : code p = 12
  · rw [if_pos h12] at h1
    obtain ⟨hp, h1⟩ := if_some h1
    simp only [Option.some.injEq, Prod.mk.injEq] at h1
    obtain ⟨rfl, rfl⟩ := h1
    refine Tr_or ?_
    refine Tr_Compare ?_
    (refine Ev_head ?_; refine Ev_p (by assumption) (by rfl) ?_; refine ⟨_, rfl, by assumption, ?_⟩)
    (refine Ev_p (by assumption) (by rfl) ?_; refine Bo_eq_int ?_; refine Th_bool ?_)
    refine ite_t (by rw [h12]; rfl) ?_
    refine ite_t rfl ?_
    refine Ev_arg ?_
    (refine Ev_p (by assumption) (by rfl) ?_)
    exact ⟨p, rfl, op, hp, h _ M⟩
  rw [if_neg h12] at h1
  by_cases h13 : code p = 13
  · rw [if_pos h13] at h1
    obtain ⟨hp, h1⟩ := if_some h1
    obtain ⟨v, hv, h1⟩ := Option.map_eq_some_iff.mp h1
    simp only [Prod.mk.injEq] at h1
    obtain ⟨rfl, rfl⟩ := h1
    refine Tr_or ?_
    refine Tr_Compare ?_
    (refine Ev_head ?_; refine Ev_p (by assumption) (by rfl) ?_; refine ⟨_, rfl, by assumption, ?_⟩)
    (refine Ev_p (by assumption) (by rfl) ?_; refine Bo_eq_int ?_; refine Th_bool ?_)
    refine ite_f (by rw [h13]; rfl) ?_
    refine Tr_or ?_
    refine Tr_and ?_
    refine Tr_Compare ?_
    (refine Ev_head ?_; refine Ev_p (by assumption) (by rfl) ?_; refine ⟨_, rfl, by assumption, ?_⟩)
    (refine Ev_p (by assumption) (by rfl) ?_; refine Bo_eq_int ?_; refine Th_bool ?_)
    refine ite_t (by rw [h13]; rfl) ?_
    refine Tr_and ?_
    refine Tr_Compare ?_
    refine Ev_popS he M z1 (by rfl) hv fun M1 => ?_
    (refine Ev_p (by assumption) (by rfl) ?_; refine Bo_ne_int ?_; refine Th_bool ?_)
    refine ite_both (fun hb3 => ?_) (fun hb3 => ?_)
    · simp only [bne_iff_ne] at hb3
      rw [if_pos hb3] at h
      refine Tr_and_nil ?_
      refine ite_t rfl ?_
      refine ite_t rfl ?_
      refine Ev_arg ?_
      (refine Ev_p (by assumption) (by rfl) ?_)
      exact ⟨p, rfl, op, hp, h _ M1⟩
    · simp only [bne_eq_false_iff_eq] at hb3
      rw [if_neg (fun e => e hb3)] at h
      refine ite_f rfl ?_
      refine Tr_or_nil ?_
      refine ite_f rfl ?_
      (refine Ev_p (by assumption) (by rfl) ?_)
      exact h _ M1
  rw [if_neg h13] at h1
  simp only [Option.some.injEq, Prod.mk.injEq] at h1
  obtain ⟨rfl, rfl⟩ := h1
  refine Tr_or ?_
  refine Tr_Compare ?_
  (refine Ev_head ?_; refine Ev_p (by assumption) (by rfl) ?_; refine ⟨_, rfl, by assumption, ?_⟩)
  (refine Ev_p (by assumption) (by rfl) ?_; refine Bo_eq_int ?_; refine Th_bool ?_)
  refine ite_f (by simpa using h12) ?_
  refine Tr_or ?_
  refine Tr_and ?_
  refine Tr_Compare ?_
  (refine Ev_head ?_; refine Ev_p (by assumption) (by rfl) ?_; refine ⟨_, rfl, by assumption, ?_⟩)
  (refine Ev_p (by assumption) (by rfl) ?_; refine Bo_eq_int ?_; refine Th_bool ?_)
  refine ite_f (by simpa using h13) ?_
  refine ite_f rfl ?_
  refine Tr_or_nil ?_
  refine ite_f rfl ?_
  (refine Ev_p (by assumption) (by rfl) ?_)
  exact h _ M
end

/- NmAC -/
theorem bh0 {n j L : Nat} (h1 : 1 ≤ j) (h2 : j ≤ L - (n + 1)) : n + 1 < L := Nat.lt_of_sub_pos (Nat.lt_of_lt_of_le h1 h2)
theorem bh1 {n j L : Nat} (h1 : 1 ≤ j) (h2 : j ≤ L - (n + 1)) : n + 1 + j - 1 < L :=
  Nat.lt_of_lt_of_le (Nat.sub_lt (Nat.add_pos_right _ h1) Nat.one_pos) (Nat.le_trans (Nat.le_of_eq (Nat.add_comm _ _)) (Nat.add_le_of_le_sub (Nat.le_of_lt (bh0 h1 h2)) h2))
theorem doF_len {p : Tk} {m m1 : MS} (h : doF p m = some m1) : m1.pl.length = m.pl.length ∧ m1.st.length ≤ m.st.length + 1 ∧ m1.to.length ≤ m.to.length + 1 := by
  unfold doF at h
  split at h
  · obtain ⟨_, h⟩ := if_some h
    obtain ⟨v, _, rfl⟩ := Option.map_eq_some_iff.mp h
    simp
  split at h
  · obtain ⟨_, h⟩ := if_some h
    obtain ⟨v, _, rfl⟩ := Option.map_eq_some_iff.mp h
    simp
    exact lq0 [_] 1 (.v 0) (.a (.a (.v 0) (.n 1)) (.n 1)) rfl 
  split at h
  · obtain ⟨_, h⟩ := if_some h
    cases h
    simp
  split at h
  · obtain ⟨v, _, rfl⟩ := Option.map_eq_some_iff.mp h
    simp
  split at h
  · obtain ⟨v, _, rfl⟩ := Option.map_eq_some_iff.mp h
    simp
    exact lq0 [_] 1 (.v 0) (.a (.a (.v 0) (.n 1)) (.n 1)) rfl 
  split at h
  · obtain ⟨v, _, rfl⟩ := Option.map_eq_some_iff.mp h
    simp
    exact lq0 [_] 1 (.v 0) (.a (.a (.v 0) (.n 1)) (.n 1)) rfl 
  · cases h
    simp
theorem RunsTo.turn {B : List Tk} {k n : Nat} {m : MS} {lb : List Nat} {t : List Int} (h : RunsTo B k m lb n t) : (¬ (n < B.length ∧ m.to.length < 12) ∧ t = m.to) ∨
    ∃ p m1 n2 st2 lb2 g st3, m.to.length < 12 ∧ B[n]? = some p ∧ m.st.length ≤ 1000 ∧ lb.length ≤ 1000 ∧ doF p m = some m1 ∧ jumpF B p (n + 1) m1.st (lblF p n lb) = some (n2, st2, lb2) ∧ goalF p st2 = some (g, st3) ∧
      (((lb2.length : Int) ≤ g ∧ t = m1.to) ∨
       (∃ (gn n3 : Nat) (lb3 : List Nat) (k' : Nat), g = (gn : Int) ∧ gn < lb2.length ∧ backF B lb2 gn = some (n3, lb3) ∧ k' < k ∧ RunsTo B k' ⟨st3, m1.pl, m1.to⟩ (if code p = 11 then lb3.dropLast else lb3) n3 t) ∨
       (g < 0 ∧ ∃ k', k' < k ∧ RunsTo B k' ⟨st3, m1.pl, m1.to⟩ (if code p = 11 then lb2.dropLast else lb2) n2 t)) := by
  cases h with
  | stop h => exact .inl ⟨h, rfl⟩
  | ret a b c d e f g i => exact .inr ⟨_, _, _, _, _, _, _, a, b, c, d, e, f, g, .inl ⟨i, rfl⟩⟩
  | jump a b c d e f g i j l => exact .inr ⟨_, _, _, _, _, _, _, a, b, c, d, e, f, g, .inr (.inl ⟨_, _, _, _, rfl, i, j, Nat.lt_succ_self _, l⟩)⟩
  | go a b c d e f g i l => exact .inr ⟨_, _, _, _, _, _, _, a, b, c, d, e, f, g, .inr (.inr ⟨i, _, Nat.lt_succ_self _, l⟩)⟩
noncomputable abbrev nvs (l : List Nat) : List V := l.map fun n : Nat => .int n
structure RI (H0 H' : AH) (sa pa ta la : Addr) (m : MS) (lb : List Nat) : Prop where
  s : H' sa = some (.list (ivs m.st))
  p : H' pa = some (.list (ivs m.pl))
  t : H' ta = some (.list (ivs m.to))
  l : H' la = some (.list (nvs lb))
  n1 : sa ≠ pa
  n2 : sa ≠ ta
  n3 : pa ≠ ta
  n4 : la ≠ sa
  n5 : la ≠ pa
  n6 : la ≠ ta
  ft : H0 ta = none
  fl : H0 la = none
  fs : H0 sa = none
  keep : ∀ c, c ≠ pa → H0 c ≠ none → H' c = H0 c
theorem RI.mh {H0 H' : AH} {sa pa ta la : Addr} {m : MS} {lb : List Nat} (R : RI H0 H' sa pa ta la m lb) : MH H' H' sa pa ta m := ⟨R.s, R.p, R.t, R.n1, R.n2, R.n3, fun _ _ _ _ => rfl⟩
theorem RI.step {H0 H' H'' : AH} {sa pa ta la : Addr} {m m1 : MS} {lb : List Nat} (R : RI H0 H' sa pa ta la m lb) (M : MH H' H'' sa pa ta m1) : RI H0 H'' sa pa ta la m1 lb :=
  ⟨M.s, M.p, M.t, (M.out la R.n4 R.n5 R.n6).trans R.l, R.n1, R.n2, R.n3, R.n4, R.n5, R.n6, R.ft, R.fl, R.fs, fun c h1 h2 => (M.out c (fun e => h2 (e ▸ R.fs)) h1 (fun e => h2 (e ▸ R.ft))).trans (R.keep c h1 h2)⟩
theorem RI.lab {H0 H' : AH} {sa pa ta la : Addr} {m : MS} {lb : List Nat} (R : RI H0 H' sa pa ta la m lb) (l : List Nat) : RI H0 (H'.set la (.list (nvs l))) sa pa ta la m l :=
  ⟨by rw [AH.set_ne _ _ R.n4.symm]; exact R.s, by rw [AH.set_ne _ _ R.n5.symm]; exact R.p, by rw [AH.set_ne _ _ R.n6.symm]; exact R.t, AH.set_self _ _ _, R.n1, R.n2, R.n3, R.n4, R.n5, R.n6, R.ft, R.fl, R.fs,
    fun c h1 h2 => by
      have hc : c ≠ la := fun e => h2 (e ▸ R.fl)
      rw [AH.set_ne _ _ hc]; exact R.keep c h1 h2⟩
theorem RI.newl {H0 H' : AH} {sa pa ta la : Addr} {m : MS} {lb : List Nat} (R : RI H0 H' sa pa ta la m lb) (hp : H0 pa ≠ none) {a : Addr} (ha : H' a = none) (l : List Nat) : RI H0 (H'.set a (.list (nvs l))) sa pa ta a m l := by
  have h1 : a ≠ sa := fun e => by rw [e, R.s] at ha; cases ha
  have h2 : a ≠ pa := fun e => by rw [e, R.p] at ha; cases ha
  have h3 : a ≠ ta := fun e => by rw [e, R.t] at ha; cases ha
  have h4 : H0 a = none := by
    cases e : H0 a with
    | none => rfl
    | some x =>
      have := R.keep a h2 (by rw [e]; simp)
      rw [this, e] at ha
      cases ha
  exact ⟨by rw [AH.set_ne _ _ h1.symm]; exact R.s, by rw [AH.set_ne _ _ h2.symm]; exact R.p, by rw [AH.set_ne _ _ h3.symm]; exact R.t, AH.set_self _ _ _, R.n1, R.n2, R.n3, h1, h2, h3, R.ft, h4, R.fs,
    fun c k1 k2 => by
      have hc : c ≠ a := fun e => k2 (e ▸ h4)
      rw [AH.set_ne _ _ hc]; exact R.keep c k1 k2⟩
section
variable {b : Bs} {A : Around} {H : AH} {Q : V → AH → Prop}
theorem nvs_snoc {lb : List Nat} {n : Nat} : nvs lb ++ [V.int ((n : Nat) : Int)] = nvs (lb ++ [n]) := by simp
theorem run_spec {B : List Tk} {k : Nat} {t pl0 : List Int} {pa : Addr} (hC : CxOk (cx b)) (r : Rm A 3) (hB : ∀ t ∈ B, TOk t) (hz : B.length ≤ 1000000) (hp : H pa = some (.list (ivs pl0))) (hpl : pl0.length = 3)
    (hrun : RunsTo B k ⟨[], pl0, []⟩ [] 0 t)
    (h : ∀ H', (∀ c, c ≠ pa → H c ≠ none → H' c = H c) → Q (.lst (ivs t)) H') : Cc (cx b) A (.ref 202) [bd B, .ref pa] H Q := by
  refine def_law_run hC r fun L he hr => ?_
  refine Ex_cons ?_
  refine E1_Unpack (names := ["told", "stack", "labels", "at"]) he hr.handled (by rfl) (mem4 (.inl (by rfl)) (.inl (by rfl)) (.inl (by rfl)) (.inl (by rfl))) ?_ (by rfl)
  refine Ev_Tuple ?_
  refine evs_cons ?_
  (refine Ev_List ?_; refine evs_nil ?_)
  refine .inr fun ta hta => ?_
  refine evs_cons ?_
  (refine Ev_List ?_; refine evs_nil ?_)
  refine .inr fun sa hsa => ?_
  refine evs_cons ?_
  (refine Ev_List ?_; refine evs_nil ?_)
  refine .inr fun la hla => ?_
  (refine Evs_p (by assumption) (by rfl) ?_)
  refine ⟨_, rfl, rfl, ?_⟩
  have R0 : RI H (((H.set ta (.list [])).set sa (.list [])).set la (.list [])) sa pa ta la ⟨[], pl0, []⟩ [] := by
    have n1 : sa ≠ ta := fun e => by rw [e, AH.set_self] at hsa; cases hsa
    have n2 : la ≠ sa := fun e => by rw [e, AH.set_self] at hla; cases hla
    rw [AH.set_ne _ _ n2] at hla
    have n3 : la ≠ ta := fun e => by rw [e, AH.set_self] at hla; cases hla
    rw [AH.set_ne _ _ n3] at hla
    rw [AH.set_ne _ _ n1] at hsa
    have p1 : pa ≠ ta := fun e => by rw [e, hta] at hp; cases hp
    have p2 : pa ≠ sa := fun e => by rw [e, hsa] at hp; cases hp
    have p3 : pa ≠ la := fun e => by rw [e, hla] at hp; cases hp
    refine ⟨by rw [AH.set_ne _ _ n2.symm]; exact AH.set_self _ _ _, by rw [AH.set_ne _ _ p3, AH.set_ne _ _ p2, AH.set_ne _ _ p1]; exact hp, by rw [AH.set_ne _ _ n3.symm, AH.set_ne _ _ n1.symm]; exact AH.set_self _ _ _, AH.set_self _ _ _, p2.symm, n1, p1, n2, p3.symm, n3, hta, hla, hsa, fun c _ h2 => ?_⟩
    have c1 : c ≠ la := fun e => h2 (e ▸ hla)
    have c2 : c ≠ sa := fun e => h2 (e ▸ hsa)
    have c3 : c ≠ ta := fun e => h2 (e ▸ hta)
    rw [AH.set_ne _ _ c1, AH.set_ne _ _ c2, AH.set_ne _ _ c3]
  generalize ((H.set ta (.list [])).set sa (.list [])).set la (.list []) = H1 at R0 ⊢
  have ret : ∀ (ls : Ls) (H2 : AH) (la : Addr) (m : MS) (lb : List Nat), List.lookup ("told" : Str) ls = some (.ref ta) → RI H H2 sa pa ta la m lb → t = m.to → ∀ pos ppos N, E1 (cx b) (A.deeper (env_law_run b L)) (env_law_run b L) (.Return (some (.Name "told" ppos)) pos) ls H2 Q N := by
    intro ls H2 la m lb hlk R e pos ppos N
    refine E1_Return (Ev.fix (Ev_var he hlk ?_))
    refine ⟨ta, _, rfl, R.t, ?_⟩
    rw [← e]
    refine h _ fun c h1 h2 => ?_
    have hc : c ≠ ta := fun e => h2 (e ▸ R.ft)
    rw [AH.del_ne _ hc]
    exact R.keep c h1 h2
  refine Ex.sub (ls' := ([("labels", .ref la), ("at", .int ((0 : Nat) : Int)), ("told", .ref ta), ("stack", .ref sa), ("body", bd B), ("places", .ref pa)] : Ls)) ?_ (by (refine Sub.cons (by rfl) ?_; refine Sub.cons (by rfl) ?_; refine Sub.cons (by rfl) ?_; refine Sub.cons (by rfl) ?_; refine Sub.cons (by rfl) ?_; refine Sub.cons (by rfl) ?_; exact Sub.nil _))
  refine Ex_cons ?_
  let I1 : Nat → Ls → AH → Prop := fun k ls' H2 => ∃ (m : MS) (lb : List Nat) (n : Nat) (la : Addr), ls' = ([("labels", .ref la), ("at", .int n), ("told", .ref ta), ("stack", .ref sa), ("body", bd B), ("places", .ref pa)] : Ls) ∧ RI H H2 sa pa ta la m lb ∧ RunsTo B k m lb n t ∧ m.pl.length = 3 ∧ m.to.length ≤ 100
  refine E1_While (I1) k
    ⟨_, _, 0, la, rfl, R0, hrun, hpl, by simp⟩ ?_
  rintro k ls' H2 ⟨m, lb, n, la, rfl, R, hrun, hml, hmt⟩
  let I2 : Bool → AH → Prop := fun bb H3 => H3 = H2 ∧ (bb = true ↔ (n < B.length ∧ m.to.length < 12))
  refine Tr.cons (Q := I2) ?_ ?_
  · refine Tr_and ?_
    (refine Tr_Compare ?_; refine Ev_p (by assumption) (by rfl) ?_)
    refine call_len hC he ?_
    (refine Evs_p (by assumption) (by rfl) ?_)
    refine Cl_len .f (by rw [List.length_map, z24]; exact lq1 [_] (.le 1 (.v 0) (.n 1000000)) 1 (.v 0) (.n 16777216) rfl hz) ?_
    rw [List.length_map]
    (refine Bo_lt ?_; refine Th_bool ?_)
    refine ite_both (fun hb => ?_) (fun hb => ?_)
    · simp only [decide_eq_true_eq] at hb
      refine Tr_and ?_
      (refine Tr_Compare ?_)
      refine call_len hC he ?_
      (refine Evs_p (by assumption) (by rfl) ?_)
      refine Cl_len (.m R.t) (by rw [List.length_map, z24]; exact lq1 [_] (.le 1 (.v 0) (.n 100)) 1 (.v 0) (.n 16777216) rfl hmt) ?_
      rw [List.length_map]
      (refine Ev_p (by assumption) (by rfl) ?_; refine Bo_lt ?_; refine Th_bool ?_)
      refine ite_both (fun hb2 => ?_) (fun hb2 => ?_)
      · simp only [decide_eq_true_eq] at hb2
        exact Tr_and_nil ⟨rfl, fun _ => ⟨by lia, by lia⟩, fun _ => rfl⟩
      · simp only [decide_eq_false_iff_not] at hb2
        exact ⟨rfl, fun e => (by cases e), fun e => by lia⟩
    · simp only [decide_eq_false_iff_not] at hb
      exact ⟨rfl, fun e => (by cases e), fun e => by lia⟩
  rintro bb H3 ⟨rfl, hbb⟩
  rcases hrun.turn with ⟨hst, ht⟩ | ⟨p, m1, n2, st2, lb2, g, st3, d1, d2, d3, d4, d5, d6, d7, d8⟩
  · refine ite_f ?_ ?_
    · cases bb with
      | false => rfl
      | true => exact absurd (hbb.mp rfl) hst
    refine Ex_cons ?_
    exact ret _ _ _ _ _ (by rfl) R ht _ _ _
  have hnB : n < B.length := (List.getElem?_eq_some_iff.mp d2).1
  refine ite_t (hbb.mpr ⟨hnB, d1⟩) ?_
  have op := hB p (List.mem_of_getElem? d2)
  obtain ⟨q1, q2, q3⟩ := doF_len d5
  refine Ex_cons ?_
  refine E1_Swap (names := ["plain", "at"]) he hr.handled (by rfl) (by rfl) (mem2 (by rfl) (by rfl)) ?_
  refine evs_cons ?_
  refine Ev_Sub_list ?_
  (refine Ev_p (by assumption) (by rfl) ?_; refine Ev_p (by assumption) (by rfl) ?_)
  refine ⟨_, _, _, .f, rfl, idx_nat (bd_get d2), by rw [List.length_map, z24]; exact lq1 [_] (.le 1 (.v 0) (.n 1000000)) 1 (.v 0) (.n 16777216) rfl hz, ?_⟩
  (refine Evs_p (by assumption) (by rfl) ?_)
  refine Ex.sub (ls' := ([("plain", pl p), ("at", .int ((n + 1 : Nat) : Int)), ("labels", .ref la), ("told", .ref ta), ("stack", .ref sa), ("body", bd B), ("places", .ref pa)] : Ls)) ?_ (by (refine Sub.cons (by rfl) ?_; refine Sub.cons (by rfl) ?_; refine Sub.cons (by rfl) ?_; refine Sub.cons (by rfl) ?_; refine Sub.cons (by rfl) ?_; refine Sub.cons (by rfl) ?_; refine Sub.cons (by rfl) ?_; exact Sub.nil _))
  (refine Ex_cons ?_; refine E1_Expr ?_)
  refine call_law_do hC he ?_
  (refine Evs_p (by assumption) (by rfl) ?_)
  refine (do_spec hC (hr.le (lq0 [] 1 (.n 1) (.n 2) rfl )) op R.mh d5 (lq1 [_] (.le 1 (.v 0) (.n 1000)) 1 (.v 0) (.n 100000) rfl d3) (lq1 [_] (.eq 1 (.v 0) (.n 3)) 1 (.v 0) (.n 100000) rfl hml) (lq1 [_] (.le 1 (.a (.v 0) (.n 1)) (.n 12)) 1 (.v 0) (.n 100000) rfl d1) fun H4 M4 => ?_).cl
  have R4 := R.step M4
  refine Ex_cons ?_
  refine E1.mono (R := Q) (N := fun ls' H5 => ls' = ([("plain", pl p), ("at", .int ((n + 1 : Nat) : Int)), ("labels", .ref la), ("told", .ref ta), ("stack", .ref sa), ("body", bd B), ("places", .ref pa)] : Ls) ∧ RI H H5 sa pa ta la m1 (lblF p n lb)) ?_ (fun _ _ h => h) ?_
  · refine E1_If ?_
    refine Tr.cons (Q := fun bb H5 => H5 = H4 ∧ (bb = true ↔ (2 ≤ code p ∧ code p ≤ 4))) ?_ ?_
    · refine Tr_Chain ?_
      (refine Ev_p (by assumption) (by rfl) ?_)
      (refine Ev_head ?_; refine Ev_p (by assumption) (by rfl) ?_; refine ⟨_, rfl, by assumption, ?_⟩)
      (refine Bo_le ?_; refine Th_bool ?_)
      refine ite_both (fun hb2 => ?_) (fun hb2 => ?_)
      · simp only [decide_eq_true_eq] at hb2
        refine chain_end_T ?_
        (refine Ev_p (by assumption) (by rfl) ?_; refine Bo_le ?_; refine Th_bool ?_)
        refine ⟨rfl, ?_⟩
        simp only [decide_eq_true_eq, hb2, true_and]
      · simp only [decide_eq_false_iff_not] at hb2
        exact ⟨rfl, fun e => (by cases e), fun e => absurd e.1 hb2⟩
    rintro bb H5 ⟨rfl, hbb2⟩
    unfold lblF
    refine ite_both (fun hb2 => ?_) (fun hb2 => ?_)
    · rw [if_pos (hbb2.mp hb2)]
      (refine Ex_cons ?_; refine E1_Expr ?_)
      refine Ev_append ?_
      (refine Ev_p (by assumption) (by rfl) ?_)
      refine ⟨la, _, rfl, R4.l, ?_⟩
      (refine Ev_p (by assumption) (by rfl) ?_)
      refine ⟨_, R4.l, by rw [List.length_map, z24]; exact lq1 [_] (.le 1 (.v 0) (.n 1000)) 1 (.v 0) (.n 16777216) rfl d4, ?_⟩
      have e : ((n + 1 : Nat) : Int) - 1 = (n : Nat) := Int.add_sub_cancel (n : Int) 1
      rw [e, nvs_snoc]
      (refine Ex_nil ?_)
      exact ⟨rfl, R4.lab _⟩
    · rw [if_neg (fun e => by rw [hbb2.mpr e] at hb2; cases hb2)]
      exact Ex_nil ⟨rfl, R4⟩
  rintro ls' H5 ⟨rfl, R5⟩
  have hlbl : (lblF p n lb).length ≤ 1001 := by
    unfold lblF
    split
    · rw [List.length_append, List.length_singleton]; exact lq1 [_] (.le 1 (.v 0) (.n 1000)) 1 (.a (.v 0) (.n 1)) (.n 1001) rfl d4
    · exact lq1 [_] (.le 1 (.v 0) (.n 1000)) 1 (.v 0) (.n 1001) rfl d4
  generalize lblF p n lb = lb1 at R5 d6 hlbl
  refine Ex_cons ?_
  refine E1.mono (R := Q) (N := fun ls' H6 => ∃ la2, Sub ([("plain", pl p), ("at", .int n2), ("labels", .ref la2), ("told", .ref ta), ("stack", .ref sa), ("body", bd B), ("places", .ref pa)] : Ls) ls' ∧ RI H H6 sa pa ta la2 ⟨st2, m1.pl, m1.to⟩ lb2 ∧ lb2.length ≤ 1001) ?_ (fun _ _ h => h) ?_
  · refine E1_If ?_
    let I3 : Bool → AH → Prop := fun bb H6 => RI H H6 sa pa ta la ⟨st2, m1.pl, m1.to⟩ lb1 ∧ ((bb = true ∧ landF B (code p == 4) (n + 1) lb1 = some (n2, lb2)) ∨ (bb = false ∧ n2 = n + 1 ∧ lb2 = lb1))
    refine Tr.cons (Q := I3) ?_ ?_
    · unfold jumpF at d6
      refine Tr_or ?_
      refine Tr_Compare ?_
      (refine Ev_head ?_; refine Ev_p (by assumption) (by rfl) ?_; refine ⟨_, rfl, by assumption, ?_⟩)
      (refine Ev_p (by assumption) (by rfl) ?_; refine Bo_eq_int ?_; refine Th_bool ?_)
      refine ite_both (fun hb2 => ?_) (fun hb2 => ?_)
      · simp only [beq_iff_eq] at hb2
        rw [if_pos hb2] at d6
        obtain ⟨x, hx, hx2⟩ := Option.map_eq_some_iff.mp d6
        simp only [Prod.mk.injEq] at hx2
        obtain ⟨rfl, rfl, rfl⟩ := hx2
        refine ⟨R5, .inl ⟨rfl, ?_⟩⟩
        rw [hb2]
        exact hx
      · simp only [beq_eq_false_iff_ne] at hb2
        rw [if_neg hb2] at d6
        refine Tr_or ?_
        refine Tr_and ?_
        refine Tr_Compare ?_
        (refine Ev_head ?_; refine Ev_p (by assumption) (by rfl) ?_; refine ⟨_, rfl, by assumption, ?_⟩)
        (refine Ev_p (by assumption) (by rfl) ?_; refine Bo_eq_int ?_; refine Th_bool ?_)
        refine ite_both (fun hb3 => ?_) (fun hb3 => ?_)
        · simp only [beq_iff_eq] at hb3
          rw [if_pos hb3] at d6
          obtain ⟨v, hv, d6⟩ := Option.bind_eq_some_iff.mp d6
          refine Tr_and ?_
          refine Tr_Compare ?_
          refine Ev_popS he R5.mh (lq2 [_, _] (.le 1 (.v 1) (.n 1000)) (.le 1 (.v 0) (.a (.v 1) (.n 1))) 1 (.v 0) (.n 100000) rfl d3 q2) (by rfl) hv fun M6 => ?_
          have R6 := R5.step M6
          (refine Ev_p (by assumption) (by rfl) ?_; refine Bo_eq_int ?_; refine Th_bool ?_)
          refine ite_both (fun hb4 => ?_) (fun hb4 => ?_)
          · simp only [beq_iff_eq] at hb4
            rw [if_pos hb4] at d6
            obtain ⟨x, hx, hx2⟩ := Option.map_eq_some_iff.mp d6
            simp only [Prod.mk.injEq] at hx2
            obtain ⟨rfl, rfl, rfl⟩ := hx2
            refine Tr_and_nil ?_
            refine ite_t rfl ?_
            refine ⟨R6, .inl ⟨rfl, ?_⟩⟩
            rw [hb3]
            exact hx
          · simp only [beq_eq_false_iff_ne] at hb4
            rw [if_neg hb4] at d6
            simp only [Option.some.injEq, Prod.mk.injEq] at d6
            obtain ⟨rfl, rfl, rfl⟩ := d6
            refine ite_f rfl ?_
            exact Tr_or_nil ⟨R6, .inr ⟨rfl, rfl, rfl⟩⟩
        · simp only [beq_eq_false_iff_ne] at hb3
          rw [if_neg hb3] at d6
          simp only [Option.some.injEq, Prod.mk.injEq] at d6
          obtain ⟨rfl, rfl, rfl⟩ := d6
          refine ite_f rfl ?_
          exact Tr_or_nil ⟨R5, .inr ⟨rfl, rfl, rfl⟩⟩
    rintro bb H6 ⟨R6, x⟩
    rcases x with ⟨rfl, hl⟩ | ⟨rfl, rfl, rfl⟩
    · refine ite_t rfl ?_
      unfold landF at hl
      obtain ⟨j, hj, hj2⟩ := Option.map_eq_some_iff.mp hl
      simp only [Prod.mk.injEq] at hj2
      obtain ⟨rfl, rfl⟩ := hj2
      have hjl := behF_lt hj
      rw [List.length_drop] at hjl
      (refine Ex_cons ?_; refine E1_Assign (by assumption) (by rfl) ?_)
      refine call_law_behind hC he ?_
      (refine evs_cons ?_; refine Ev_p (by assumption) (by rfl) ?_; refine evs_cons ?_; refine Ev_p (by assumption) (by rfl) ?_; refine evs_cons ?_; refine Ev_Compare ?_)
      (refine Ev_head ?_; refine Ev_p (by assumption) (by rfl) ?_; refine ⟨_, rfl, by assumption, ?_⟩)
      (refine Ev_p (by assumption) (by rfl) ?_; refine Bo_eq_int ?_; refine evs_nil ?_)
      refine (behind_spec hC (hr.le (lq0 [] 1 (.n 1) (.n 2) rfl )) hB hz hj ?_).cl
      have hbh := bh1 hjl.1 hjl.2
      have g2 : B[n + 1 + j - 1]? = some B[n + 1 + j - 1] := List.getElem?_eq_getElem hbh
      have hgd : B.getD (n + 1 + j - 1) [] = B[n + 1 + j - 1] := by rw [List.getD_eq_getElem?_getD, g2]; rfl
      have o2 := hB _ (List.mem_of_getElem? g2)
      rw [hgd]
      generalize B[n + 1 + j - 1] = tb at g2 o2
      refine Ex_cons ?_
      refine E1_Assign he (by rfl) ?_
      refine Ev_IfExp ?_
      refine Tr_Compare ?_
      refine Ev_head ?_
      refine Ev_Sub_list ?_
      (refine Ev_p (by assumption) (by rfl) ?_; refine Ev_p (by assumption) (by rfl) ?_)
      have e : ((n + 1 + j : Nat) : Int) - 1 = ((n + 1 + j - 1 : Nat) : Int) := (Int.ofNat_sub (Nat.le_add_left_of_le hjl.1)).symm
      rw [e]
      refine ⟨_, _, _, .f, rfl, idx_nat (bd_get g2), by rw [List.length_map, z24]; exact lq1 [_] (.le 1 (.v 0) (.n 1000000)) 1 (.v 0) (.n 16777216) rfl hz, tb, rfl, o2, ?_⟩
      (refine Ev_p (by assumption) (by rfl) ?_; refine Bo_eq_int ?_; refine Th_bool ?_)
      refine ite_both (fun hb2 => ?_) (fun hb2 => ?_)
      · simp only [beq_iff_eq] at hb2
        rw [if_pos hb2]
        refine Ev_Cut ?_
        (refine Ev_p (by assumption) (by rfl) ?_)
        refine pt_none (pt_some ?_)
        refine Ev_Neg ?_
        refine ⟨-1, rfl, nvs lb1, .m R6.l, by rw [z24, List.length_map]; exact lq1 [_] (.le 1 (.v 0) (.n 1001)) 1 (.v 0) (.n 16777216) rfl hlbl, .inr fun a ha => ?_⟩
        rw [cut_init, ← List.map_dropLast]
        refine Ex_nil ⟨a, ?_, R6.newl (by rw [hp]; simp) ha _, by rw [List.length_dropLast]; exact Nat.le_trans (Nat.sub_le _ _) hlbl⟩
        (refine Sub.cons (by rfl) ?_; refine Sub.cons (by rfl) ?_; refine Sub.cons (by rfl) ?_; refine Sub.cons (by rfl) ?_; refine Sub.cons (by rfl) ?_; refine Sub.cons (by rfl) ?_; refine Sub.cons (by rfl) ?_; exact Sub.nil _)
      · simp only [beq_eq_false_iff_ne] at hb2
        rw [if_neg hb2]
        (refine Ev_p (by assumption) (by rfl) ?_; refine Ex_nil ?_)
        refine ⟨la, ?_, R6, (lq1 [_] (.le 1 (.v 0) (.n 1001)) 1 (.v 0) (.n 1001) rfl hlbl)⟩
        (refine Sub.cons (by rfl) ?_; refine Sub.cons (by rfl) ?_; refine Sub.cons (by rfl) ?_; refine Sub.cons (by rfl) ?_; refine Sub.cons (by rfl) ?_; refine Sub.cons (by rfl) ?_; refine Sub.cons (by rfl) ?_; exact Sub.nil _)
    · refine ite_f rfl (Ex_nil ⟨la, ?_, R6, (lq1 [_] (.le 1 (.v 0) (.n 1001)) 1 (.v 0) (.n 1001) rfl hlbl)⟩)
      (refine Sub.cons (by rfl) ?_; refine Sub.cons (by rfl) ?_; refine Sub.cons (by rfl) ?_; refine Sub.cons (by rfl) ?_; refine Sub.cons (by rfl) ?_; refine Sub.cons (by rfl) ?_; refine Sub.cons (by rfl) ?_; exact Sub.nil _)
  rintro ls' H6 ⟨la2, sb, R6, hl2⟩
  refine Ex.sub (ls' := ([("plain", pl p), ("at", .int n2), ("labels", .ref la2), ("told", .ref ta), ("stack", .ref sa), ("body", bd B), ("places", .ref pa)] : Ls)) ?_ sb
  (refine Ex_cons ?_; refine E1_Assign (by assumption) (by rfl) ?_)
  refine call_law_goal hC he ?_
  (refine Evs_p (by assumption) (by rfl) ?_)
  have hz6 : st2.length ≤ 1002 := by
    unfold jumpF at d6
    split at d6
    · obtain ⟨x, hx, hx2⟩ := Option.map_eq_some_iff.mp d6
      simp only [Prod.mk.injEq] at hx2
      rw [← hx2.2.1]
      exact lq2 [_, _] (.le 1 (.v 1) (.n 1000)) (.le 1 (.v 0) (.a (.v 1) (.n 1))) 1 (.v 0) (.n 1002) rfl d3 q2
    split at d6
    · obtain ⟨v, hv, d6⟩ := Option.bind_eq_some_iff.mp d6
      split at d6
      · obtain ⟨x, hx, hx2⟩ := Option.map_eq_some_iff.mp d6
        simp only [Prod.mk.injEq] at hx2
        rw [← hx2.2.1, List.length_dropLast]
        exact Nat.le_trans (Nat.sub_le _ _) (lq2 [_, _] (.le 1 (.v 1) (.n 1000)) (.le 1 (.v 0) (.a (.v 1) (.n 1))) 1 (.v 0) (.n 1002) rfl d3 q2)
      · simp only [Option.some.injEq, Prod.mk.injEq] at d6
        rw [← d6.2.1, List.length_dropLast]
        exact Nat.le_trans (Nat.sub_le _ _) (lq2 [_, _] (.le 1 (.v 1) (.n 1000)) (.le 1 (.v 0) (.a (.v 1) (.n 1))) 1 (.v 0) (.n 1002) rfl d3 q2)
    · simp only [Option.some.injEq, Prod.mk.injEq] at d6
      rw [← d6.2.1]
      exact lq2 [_, _] (.le 1 (.v 1) (.n 1000)) (.le 1 (.v 0) (.a (.v 1) (.n 1))) 1 (.v 0) (.n 1002) rfl d3 q2
  refine (goal_spec hC (hr.le (lq0 [] 1 (.n 1) (.n 2) rfl )) op R6.mh d7 (by show st2.length ≤ 100000; exact lq1 [_] (.le 1 (.v 0) (.n 1002)) 1 (.v 0) (.n 100000) rfl hz6) fun H7 M7 => ?_).cl
  have R7 := R6.step M7
  refine Ex_cons ?_
  refine E1_If ?_
  (refine Tr_Compare ?_; refine Ev_p (by assumption) (by rfl) ?_)
  refine call_len hC he ?_
  (refine Evs_p (by assumption) (by rfl) ?_)
  refine Cl_len (.m R7.l) (by rw [List.length_map, z24]; exact lq1 [_] (.le 1 (.v 0) (.n 1001)) 1 (.v 0) (.n 16777216) rfl hl2) ?_
  rw [List.length_map]
  (refine Bo_ge ?_; refine Th_bool ?_)
  rcases d8 with ⟨hg, ht⟩ | d8
  · refine ite_t (by simpa using hg) ?_
    refine Ex_cons ?_
    exact ret _ _ _ _ _ (by rfl) R7 ht _ _ _
  have hgl : g < (lb2.length : Int) := by
    rcases d8 with ⟨gn, n3, lb3, k', rfl, hg, _⟩ | ⟨hg, _⟩
    · lia
    · lia
  refine ite_f (by simpa using hgl) ?_
  refine Ex_nil ?_
  refine Ex_cons ?_
  let I4 : Ls → AH → Prop := fun ls' H8 => ∃ (la3 : Addr) (lb4 : List Nat) (n4 k' : Nat), Sub ([("plain", pl p), ("at", .int n4), ("labels", .ref la3), ("told", .ref ta), ("stack", .ref sa), ("body", bd B), ("places", .ref pa)] : Ls) ls' ∧ RI H H8 sa pa ta la3 ⟨st3, m1.pl, m1.to⟩ lb4 ∧ lb4.length ≤ 1001 ∧ k' < k ∧ RunsTo B k' ⟨st3, m1.pl, m1.to⟩ (if code p = 11 then lb4.dropLast else lb4) n4 t
  refine E1.mono (R := Q) (N := I4) ?_ (fun _ _ h => h) ?_
  · refine E1_If ?_
    (refine Tr_p (by assumption) (by rfl) ?_)
    rcases d8 with ⟨gn, n3, lb3, k', rfl, hg, hbk, hk', hrun'⟩ | ⟨hg, k', hk', hrun'⟩
    · refine ite_t (by simp) ?_
      unfold backF at hbk
      obtain ⟨nb, hnb, hbk⟩ := Option.bind_eq_some_iff.mp hbk
      obtain ⟨a3, ha3, hbk⟩ := Option.map_eq_some_iff.mp hbk
      simp only [Prod.mk.injEq] at hbk
      obtain ⟨rfl, rfl⟩ := hbk
      have hnbB : nb < B.length := by
        by_cases e3 : code (B.getD nb []) = 3
        · refine Decidable.byContradiction fun hn => ?_
          rw [List.getD_eq_getElem?_getD, List.getElem?_eq_none (Nat.le_of_not_lt hn)] at e3
          exact absurd e3 (by decide)
        · rw [if_neg e3] at ha3
          obtain ⟨j, hj, _⟩ := Option.map_eq_some_iff.mp ha3
          have := behF_lt hj
          rw [List.length_drop] at this
          exact Nat.lt_of_succ_lt (bh0 this.1 this.2)
      have g2 : B[nb]? = some B[nb] := List.getElem?_eq_getElem hnbB
      have hgd : B.getD nb [] = B[nb] := by rw [List.getD_eq_getElem?_getD, g2]; rfl
      have o2 := hB _ (List.mem_of_getElem? g2)
      rw [hgd] at ha3
      generalize B[nb] = tb at g2 o2 ha3
      have ei : (lb2.length : Int) - 1 - (gn : Int) = ((lb2.length - 1 - gn : Nat) : Int) := by rw [Int.ofNat_sub (Nat.le_sub_one_of_lt (Int.ofNat_lt.mp hgl)), Int.ofNat_sub (Nat.lt_of_le_of_lt (Nat.zero_le _) (Int.ofNat_lt.mp hgl))]; rfl
      refine Ex_cons ?_
      refine E1_Assign he (by rfl) ?_
      refine Ev_Sub_list ?_
      (refine Ev_p (by assumption) (by rfl) ?_; refine Ev_BinOp ?_; refine Ev_BinOp ?_)
      refine call_len hC he ?_
      (refine Evs_p (by assumption) (by rfl) ?_)
      refine Cl_len (.m R7.l) (by rw [List.length_map, z24]; exact lq1 [_] (.le 1 (.v 0) (.n 1001)) 1 (.v 0) (.n 16777216) rfl hl2) ?_
      rw [List.length_map]
      (refine Ev_p (by assumption) (by rfl) ?_; refine Bo_sub ?_; refine Ev_p (by assumption) (by rfl) ?_; refine Bo_sub ?_)
      rw [ei]
      refine ⟨nvs lb2, _, .int nb, .m R7.l, rfl, idx_nat (by rw [List.getElem?_map, hnb]; rfl), by rw [List.length_map, z24]; exact lq1 [_] (.le 1 (.v 0) (.n 1001)) 1 (.v 0) (.n 16777216) rfl hl2, ?_⟩
      refine Ex_cons ?_
      refine E1_Assign he (by rfl) ?_
      refine Ev_Cut ?_
      (refine Ev_p (by assumption) (by rfl) ?_)
      refine pt_none (pt_some ?_)
      refine Ev_BinOp ?_
      refine Ev_BinOp ?_
      refine call_len hC he ?_
      (refine Evs_p (by assumption) (by rfl) ?_)
      refine Cl_len (.m R7.l) (by rw [List.length_map, z24]; exact lq1 [_] (.le 1 (.v 0) (.n 1001)) 1 (.v 0) (.n 16777216) rfl hl2) ?_
      rw [List.length_map]
      (refine Ev_p (by assumption) (by rfl) ?_; refine Bo_sub ?_; refine Ev_p (by assumption) (by rfl) ?_; refine Bo_sub ?_)
      rw [ei]
      refine ⟨_, rfl, nvs lb2, .m R7.l, by rw [List.length_map, z24]; exact lq1 [_] (.le 1 (.v 0) (.n 1001)) 1 (.v 0) (.n 16777216) rfl hl2, .inr fun a ha => ?_⟩
      rw [cut_take _ _ (by rw [List.length_map]; exact Nat.le_trans (Nat.sub_le _ _) (Nat.sub_le _ _)), ← List.map_take]
      have R8 := R7.newl (by rw [hp]; simp) ha (lb2.take (lb2.length - 1 - gn))
      generalize H7.set a (.list (nvs (lb2.take (lb2.length - 1 - gn)))) = H8 at R8 ⊢
      have hl3 : (lb2.take (lb2.length - 1 - gn)).length ≤ 1001 := by rw [List.length_take]; exact Nat.le_trans (Nat.min_le_right _ _) hl2
      refine Ex_cons ?_
      refine E1_Assign he (by rfl) ?_
      refine Ev_IfExp ?_
      refine Tr_Compare ?_
      (refine Ev_head ?_; refine Ev_Sub_list ?_; refine Ev_p (by assumption) (by rfl) ?_; refine Ev_p (by assumption) (by rfl) ?_; refine ⟨_, _, _, .f, rfl, idx_nat (bd_get (by assumption)), by rw [List.length_map, z24]; exact lq1 [_] (.le 1 (.v 0) (.n 1000000)) 1 (.v 0) (.n 16777216) rfl hz, _, rfl, by assumption, ?_⟩)
      (refine Ev_p (by assumption) (by rfl) ?_; refine Bo_eq_int ?_; refine Th_bool ?_)
      refine ite_both (fun hb2 => ?_) (fun hb2 => ?_)
      · simp only [beq_iff_eq] at hb2
        rw [if_pos hb2] at ha3
        cases ha3
        (refine Ev_p (by assumption) (by rfl) ?_; refine Ex_nil ?_)
        refine ⟨a, _, nb, k', ?_, R8, hl3, hk', hrun'⟩
        (refine Sub.cons (by rfl) ?_; refine Sub.cons (by rfl) ?_; refine Sub.cons (by rfl) ?_; refine Sub.cons (by rfl) ?_; refine Sub.cons (by rfl) ?_; refine Sub.cons (by rfl) ?_; refine Sub.cons (by rfl) ?_; exact Sub.nil _)
      · simp only [beq_eq_false_iff_ne] at hb2
        rw [if_neg hb2] at ha3
        obtain ⟨j, hj, rfl⟩ := Option.map_eq_some_iff.mp ha3
        refine call_law_behind hC he ?_
        (refine Evs_p (by assumption) (by rfl) ?_)
        have e1 : (nb : Int) + 1 = ((nb + 1 : Nat) : Int) := rfl
        rw [e1]
        refine (behind_spec hC (hr.le (lq0 [] 1 (.n 1) (.n 2) rfl )) hB hz hj ?_).cl
        refine Ex_nil ⟨a, _, nb + 1 + j, k', ?_, R8, hl3, hk', hrun'⟩
        (refine Sub.cons (by rfl) ?_; refine Sub.cons (by rfl) ?_; refine Sub.cons (by rfl) ?_; refine Sub.cons (by rfl) ?_; refine Sub.cons (by rfl) ?_; refine Sub.cons (by rfl) ?_; refine Sub.cons (by rfl) ?_; exact Sub.nil _)
    · refine ite_f (by simpa using hg) ?_
      refine Ex_nil ⟨la2, lb2, n2, k', ?_, R7, hl2, hk', hrun'⟩
      (refine Sub.cons (by rfl) ?_; refine Sub.cons (by rfl) ?_; refine Sub.cons (by rfl) ?_; refine Sub.cons (by rfl) ?_; refine Sub.cons (by rfl) ?_; refine Sub.cons (by rfl) ?_; refine Sub.cons (by rfl) ?_; exact Sub.nil _)
  rintro ls' H8 ⟨la3, lb4, n4, k', sb4, R8, hl4, hk', hrun'⟩
  refine Ex.sub (ls' := ([("plain", pl p), ("at", .int n4), ("labels", .ref la3), ("told", .ref ta), ("stack", .ref sa), ("body", bd B), ("places", .ref pa)] : Ls)) ?_ sb4
  refine Ex_cons ?_
  refine E1_If ?_
  refine Tr_Compare ?_
  (refine Ev_head ?_; refine Ev_p (by assumption) (by rfl) ?_; refine ⟨_, rfl, by assumption, ?_⟩)
  (refine Ev_p (by assumption) (by rfl) ?_; refine Bo_eq_int ?_; refine Th_bool ?_)
  refine ite_both (fun hb2 => ?_) (fun hb2 => ?_)
  · simp only [beq_iff_eq] at hb2
    rw [if_pos hb2] at hrun'
    refine Ex_cons ?_
    refine E1_Assign he (by rfl) ?_
    refine Ev_Cut ?_
    (refine Ev_p (by assumption) (by rfl) ?_)
    refine pt_none (pt_some ?_)
    refine Ev_Neg ?_
    refine ⟨-1, rfl, nvs lb4, .m R8.l, by rw [z24, List.length_map]; exact lq1 [_] (.le 1 (.v 0) (.n 1001)) 1 (.v 0) (.n 16777216) rfl hl4, .inr fun a ha => ?_⟩
    rw [cut_init, ← List.map_dropLast]
    refine Ex_nil (Ex_nil ⟨k', _, hk', ?_, ⟨st3, m1.pl, m1.to⟩, lb4.dropLast, n4, a, rfl, R8.newl (by rw [hp]; simp) ha _, hrun', by show m1.pl.length = 3; exact Nat.le_antisymm (lq2 [_, _] (.eq 1 (.v 1) (.n 3)) (.eq 1 (.v 0) (.v 1)) 1 (.v 0) (.n 3) rfl hml q1) (lq2 [_, _] (.qe 1 (.v 1) (.n 3)) (.qe 1 (.v 0) (.v 1)) 1 (.n 3) (.v 0) rfl hml q1), by show m1.to.length ≤ 100; exact lq2 [_, _] (.le 1 (.a (.v 1) (.n 1)) (.n 12)) (.le 1 (.v 0) (.a (.v 1) (.n 1))) 1 (.v 0) (.n 100) rfl d1 q3⟩)
    (refine Sub.cons (by rfl) ?_; refine Sub.cons (by rfl) ?_; refine Sub.cons (by rfl) ?_; refine Sub.cons (by rfl) ?_; refine Sub.cons (by rfl) ?_; refine Sub.cons (by rfl) ?_; exact Sub.nil _)
  · simp only [beq_eq_false_iff_ne] at hb2
    rw [if_neg hb2] at hrun'
    refine Ex_nil (Ex_nil ⟨k', _, hk', ?_, ⟨st3, m1.pl, m1.to⟩, lb4, n4, la3, rfl, R8, hrun', by show m1.pl.length = 3; exact Nat.le_antisymm (lq2 [_, _] (.eq 1 (.v 1) (.n 3)) (.eq 1 (.v 0) (.v 1)) 1 (.v 0) (.n 3) rfl hml q1) (lq2 [_, _] (.qe 1 (.v 1) (.n 3)) (.qe 1 (.v 0) (.v 1)) 1 (.n 3) (.v 0) rfl hml q1), by show m1.to.length ≤ 100; exact lq2 [_, _] (.le 1 (.a (.v 1) (.n 1)) (.n 12)) (.le 1 (.v 0) (.a (.v 1) (.n 1))) 1 (.v 0) (.n 100) rfl d1 q3⟩)
    (refine Sub.cons (by rfl) ?_; refine Sub.cons (by rfl) ?_; refine Sub.cons (by rfl) ?_; refine Sub.cons (by rfl) ?_; refine Sub.cons (by rfl) ?_; refine Sub.cons (by rfl) ?_; exact Sub.nil _)
end

/- NmAD -/
section
variable {b : Bs} {A : Around} {H : AH} {Q : V → AH → Prop}
theorem Rm.make {n : Nat} {a : Addr} {rs : List Value} (r : Rm A (n + 1)) : Rm (A.under (.builtin "type.__call__" ⟨.ref a :: rs, []⟩)) n :=
  ⟨r.handled, by have := r.depth; rw [depth_under_make]; exact lq1 [_, _] (.le 1 (.a (.v 0) (.m 4 (.a (.v 1) (.n 1)))) (.n 900)) 1 (.a (.a (.v 0) (.n 1)) (.m 4 (.v 1))) (.n 900) rfl this, by have := r.units; rw [units_under_make]; exact lq1 [_, _] (.le 1 (.a (.v 0) (.m 20 (.a (.v 1) (.n 1)))) (.n 9000)) 1 (.a (.a (.v 0) (.n 1)) (.m 20 (.v 1))) (.n 9000) rfl this⟩
noncomputable def bindK (fd : FuncData) (rs : List Value) : {k : Option (Array Value) → Sem (List (Str × Value)) // bindArgs fd ⟨rs, []⟩ = seqItems? fd.defaults >>= k} := ⟨_, rfl⟩
theorem init_spec {x dx : Addr} {p : Tk} {F : V} {vs : List V} {n : Nat} (hC : CxOk (cx b)) (r : Rm A (n + 1)) (e : H x = some (.inst dx [])) (hv : vs = [.ref x, pl p] ∧ F = .none ∨ vs = [.ref x, pl p, F])
    (h : Q .none (H.set x (.inst dx (fsOf p F .none)))) : Cc (cx b) A (.ref 29) vs H Q := by
  refine Cc_defG (ns := ["self", "plain", "first", "second"]) (vs' := [.ref x, pl p, F, .none]) hC fd_init r ?_ (by decide) ?_ fun L => ?_
  · intro s rs O hr
    have X := hC.kin.keeps O.base
    obtain ⟨o, n0, ho, hs⟩ : ∃ o n0, s.heap.get? 22 = some o ∧ o.data = .seq #[.none, .none] n0 := ⟨_, _, X 22 _ (by rfl), rfl⟩
    rcases hv with ⟨rfl, rfl⟩ | rfl
    · obtain ⟨r1, r2, rfl, h1, h2⟩ := hr.two
      exact ⟨[r1, r2, .none, .none], .cons h1 (.cons h2 (.cons .none (.cons .none .nil))), BindsTo.of_defaults (by rfl) ho hs (bindK (fdOf (cx b).K 29) [r1, r2]).2 (by kernel_rfl)⟩
    · cases hr with
      | @cons r1 _ _ _ h1 hr =>
      obtain ⟨r2, r3, rfl, h2, h3⟩ := hr.two
      exact ⟨[r1, r2, r3, .none], .cons h1 (.cons h2 (.cons h3 (.cons .none .nil))), BindsTo.of_defaults (by rfl) ho hs (bindK (fdOf (cx b).K 29) [r1, r2, r3]).2 (by kernel_rfl)⟩
  · intro m y hy
    simp only [List.mem_cons, List.not_mem_nil, or_false] at hy
    rcases hy with rfl | rfl | rfl | rfl <;> exact .inl (by rfl)
  have he : EnvOk (callEnvC (fdOf (cx b).K 29) L 29) := fd_init.envOk L
  refine Ex_cons ?_
  refine E1_SetAttr hC pieceOk (by decide) ?_
  (refine Ev_p (by assumption) (by rfl) ?_; refine Ev_p (by assumption) (by rfl) ?_)
  refine ⟨x, dx, [], rfl, e, by decide, ?_⟩
  refine Ex_cons ?_
  refine E1_SetAttr hC pieceOk (by decide) ?_
  (refine Ev_p (by assumption) (by rfl) ?_; refine Ev_p (by assumption) (by rfl) ?_)
  refine ⟨x, dx, _, rfl, AH.set_self _ _ _, Nat.le_trans (putF_len _ _ _) (by decide), ?_⟩
  rw [AH.set_set]
  refine Ex_cons ?_
  refine E1_SetAttr hC pieceOk (by decide) ?_
  (refine Ev_p (by assumption) (by rfl) ?_; refine Ev_p (by assumption) (by rfl) ?_)
  refine ⟨x, dx, _, rfl, AH.set_self _ _ _, Nat.le_trans (putF_len _ _ _) (Nat.succ_le_succ (Nat.le_trans (putF_len _ _ _) (by decide))), ?_⟩
  rw [AH.set_set]
  refine Ex_nil ?_
  exact h
end

/- NmAE -/
section
variable {b : Bs} {A : Around} {H : AH} {Q : V → AH → Prop} {env : Env} {ls : Ls}
theorem make_spec1 {p : Tk} {n : Nat} (hC : CxOk (cx b)) (r : Rm A (n + 2)) (h : ∀ x dx, H x = none → H dx = none → x ≠ dx → Q (.ref x) ((H.set dx .attrs).set x (.inst dx (fsOf p .none .none)))) : Cc (cx b) A (.ref 52) [pl p] H Q := by
  refine Cc_make (C := cx b) (fI := 29) hC pieceOk (by rfl) (by rfl) fun rs x dx hx hdx ne => ?_
  refine init_spec (dx := dx) (p := p) (F := .none) hC r.make (AH.set_self _ _ _) (.inl ⟨rfl, rfl⟩) ⟨rfl, ?_⟩
  rw [AH.set_set]
  exact h x dx hx hdx ne
theorem make_spec2 {p : Tk} {F : V} {n : Nat} (hC : CxOk (cx b)) (r : Rm A (n + 2)) (h : ∀ x dx, H x = none → H dx = none → x ≠ dx → Q (.ref x) ((H.set dx .attrs).set x (.inst dx (fsOf p F .none)))) : Cc (cx b) A (.ref 52) [pl p, F] H Q := by
  refine Cc_make (C := cx b) (fI := 29) hC pieceOk (by rfl) (by rfl) fun rs x dx hx hdx ne => ?_
  refine init_spec (dx := dx) (p := p) (F := F) hC r.make (AH.set_self _ _ _) (.inr rfl) ⟨rfl, ?_⟩
  rw [AH.set_set]
  exact h x dx hx hdx ne
noncomputable def FV (v : V) : Prop := v = .none ∨ ∃ a, v = .ref a
theorem FV.nb {v : V} (h : FV v) : ∀ i, v ≠ .bi i := by
  rintro i rfl
  rcases h with h | ⟨a, h⟩ <;> cases h
theorem HT.fvOk : ∀ t : HT, FV t.fv
  | .leaf _ _ _ => .inl rfl
  | .one _ _ _ a _ => .inr ⟨a, rfl⟩
  | .two _ _ _ a _ _ _ => .inr ⟨a, rfl⟩
theorem HT.svOk : ∀ t : HT, FV t.sv
  | .leaf _ _ _ => .inl rfl
  | .one _ _ _ _ _ => .inl rfl
  | .two _ _ _ _ _ a _ => .inr ⟨a, rfl⟩
/-- the attributes -/
theorem Ev_plain {x : Str} {np pos : Pos} {p : Tk} {F S : V} (hC : CxOk (cx b)) (h : Ev (cx b) A env (.Name x np) ls H fun v H1 => ∃ a dx, v = .ref a ∧ H1 a = some (.inst dx (fsOf p F S)) ∧ Q (pl p) H1) : Ev (cx b) A env (.Attribute (.Name x np) "plain" pos) ls H Q :=
  Ev_Attr hC pieceOk (by decide) (h.cons fun v H1 ⟨a, dx, e1, e2, q⟩ => ⟨a, dx, _, pl p, e1, e2, by rfl, (by intro i e; cases e), q⟩)
theorem Ev_first {x : Str} {np pos : Pos} {p : Tk} {F S : V} (hC : CxOk (cx b)) (hF : FV F) (h : Ev (cx b) A env (.Name x np) ls H fun v H1 => ∃ a dx, v = .ref a ∧ H1 a = some (.inst dx (fsOf p F S)) ∧ Q F H1) : Ev (cx b) A env (.Attribute (.Name x np) "first" pos) ls H Q :=
  Ev_Attr hC pieceOk (by decide) (h.cons fun v H1 ⟨a, dx, e1, e2, q⟩ => ⟨a, dx, _, F, e1, e2, by rfl, hF.nb, q⟩)
theorem Ev_second {x : Str} {np pos : Pos} {p : Tk} {F S : V} (hC : CxOk (cx b)) (hS : FV S) (h : Ev (cx b) A env (.Name x np) ls H fun v H1 => ∃ a dx, v = .ref a ∧ H1 a = some (.inst dx (fsOf p F S)) ∧ Q S H1) : Ev (cx b) A env (.Attribute (.Name x np) "second" pos) ls H Q :=
  Ev_Attr hC pieceOk (by decide) (h.cons fun v H1 ⟨a, dx, e1, e2, q⟩ => ⟨a, dx, _, S, e1, e2, by rfl, hS.nb, q⟩)
theorem code_spec {x dx : Addr} {p : Tk} {F S : V} {n : Nat} (hC : CxOk (cx b)) (r : Rm A (n + 1)) (e : H x = some (.inst dx (fsOf p F S))) (op : TOk p) (h : Q (.int (code p)) H) : Cc (cx b) A (.ref 36) [.ref x] H Q := by
  refine def_code hC r fun L he hr => ?_
  refine Ex_cons ?_
  refine E1_Return ?_
  refine Ev_head ?_
  refine Ev_plain (p := p) (F := F) (S := S) hC ?_
  (refine Ev_p (by assumption) (by rfl) ?_)
  exact ⟨x, dx, rfl, e, p, rfl, op, h⟩
theorem code_find : ∀ od, lookIn "code" od = some none → findObj (cx b).K (cx b).piece (some od) "code" = some (.bind (.builtin "property.__get__") (.ref 37)) := fun od _ => by kernel_rfl
theorem Ev_code {x : Str} {np pos : Pos} {p : Tk} {F S : V} {n : Nat} (hC : CxOk (cx b)) (r : Rm A (n + 2)) (op : TOk p) (h : Ev (cx b) A env (.Name x np) ls H fun v H1 => ∃ a dx, v = .ref a ∧ H1 a = some (.inst dx (fsOf p F S)) ∧ Q (.int (code p)) H1) : Ev (cx b) A env (.Attribute (.Name x np) "code" pos) ls H Q :=
  Ev_Prop (p := 37) (f := 36) hC pieceOk code_find (by rfl) (h.cons fun v H1 ⟨a, dx, e1, e2, q⟩ => ⟨a, dx, _, e1, e2, by rfl, code_spec hC r.in1 e2 op ⟨(by intro i e; cases e), q⟩⟩)
theorem parts_spec {x dx : Addr} {p : Tk} {F S : V} {n : Nat} (hC : CxOk (cx b)) (r : Rm A (n + 1)) (e : H x = some (.inst dx (fsOf p F S))) (hF : FV F) (hS : FV S) (h : Q (.lst ([F, S].filter fun v => !v.isNone)) H) : Cc (cx b) A (.ref 42) [.ref x] H Q := by
  refine def_parts hC r fun L he hr => ?_
  refine Ex_cons ?_
  refine E1_Return ?_
  refine Ev_Comp' [] he hr.handled (by (exact CapOk.nil (by rfl))) (by rfl) ?_
  refine Ev_Tuple ?_
  refine evs_cons ?_
  refine Ev_first (p := p) (F := F) (S := S) hC hF ?_
  (refine Ev_p (by assumption) (by rfl) ?_)
  refine ⟨x, dx, rfl, e, ?_⟩
  refine evs_cons ?_
  refine Ev_second (p := p) (F := F) (S := S) hC hS ?_
  (refine Ev_p (by assumption) (by rfl) ?_)
  refine ⟨x, dx, rfl, e, ?_⟩
  refine evs_nil ?_
  let I1 : Nat → List V → AH → Prop := fun i acc H' => H' = H ∧ acc = ([F, S].take i).filter fun v => !v.isNone
  refine ⟨[F, S], I1, by simp [z24], ⟨rfl, rfl⟩, fun i acc H' _ => .tup _, ?_, ?_⟩
  · rintro i w acc H' C' D he' hi ⟨rfl, rfl⟩ hD
    have hw : FV w := by
      have := List.mem_of_getElem? hi
      simp only [List.mem_cons, List.not_mem_nil, or_false] at this
      rcases this with rfl | rfl
      · exact hF
      · exact hS
    refine test_one ?_
    refine Tr_Compare ?_
    (refine Ev_p (by assumption) (by rfl) ?_; refine Ev_p (by assumption) (by rfl) ?_)
    refine Bo_isnot_none ?_ hw.nb
    (refine Th_bool ?_)
    refine ite_both (fun hb => ?_) (fun hb => ?_)
    · (refine Ev_p (by assumption) (by rfl) ?_)
      refine ⟨_, rfl, hD, rfl, ?_⟩
      rw [take_step hi, List.filter_append]
      simp [hb]
    · refine ⟨_, rfl, hD, rfl, ?_⟩
      rw [take_step hi, List.filter_append]
      simp [hb]
  · rintro acc H' ⟨rfl, rfl⟩
    exact .inl h
theorem labels_spec {x dx : Addr} {p : Tk} {F S : V} {n : Nat} (hC : CxOk (cx b)) (r : Rm A (n + 3)) (e : H x = some (.inst dx (fsOf p F S))) (op : TOk p) (h : Q (pl (labelsT p)) H) : Cc (cx b) A (.ref 49) [.ref x] H Q := by
  refine def_labels hC r fun L he hr => ?_
  refine Ex_cons ?_
  refine E1_Return ?_
  refine Ev_IfExp ?_
  refine Tr_Compare ?_
  refine Ev_code (p := p) (F := F) (S := S) hC hr op ?_
  (refine Ev_p (by assumption) (by rfl) ?_)
  refine ⟨x, dx, rfl, e, ?_⟩
  refine Ev_Tuple ?_
  refine evs_cons (ev_BR hC he ?_)
  refine evs_cons (ev_BR_IF hC he ?_)
  refine evs_cons (ev_BR_TABLE hC he ?_)
  refine evs_nil ?_
  refine Bo_in_pl (l := [12, 13, 14]) hr ?_
  (refine Th_bool ?_)
  unfold labelsT at h
  refine ite_both (fun hb => ?_) (fun hb => ?_)
  · simp only [decide_eq_true_eq, List.mem_cons, List.not_mem_nil, or_false] at hb
    rw [if_pos hb] at h
    refine Ev_CutTup (i := 0) ?_
    refine Ev_plain (p := p) (F := F) (S := S) hC ?_
    (refine Ev_p (by assumption) (by rfl) ?_)
    refine ⟨x, dx, rfl, e, ivs p, rfl, ?_, ?_, ?_⟩
    · rw [List.length_map]
      have := op.1
      cases p with
      | nil => exact absurd rfl this
      | cons => simp
    · rw [List.length_map, z24]; have := op.2; exact lq1 [_] (.le 1 (.v 0) (.n 1000)) 1 (.v 0) (.n 16777216) rfl this
    · rw [← List.map_drop, List.drop_one]
      exact h
  · simp only [decide_eq_false_iff_not, List.mem_cons, List.not_mem_nil, or_false] at hb
    rw [if_neg hb] at h
    refine Ev_Tuple ?_
    exact evs_nil h
theorem Ev_parts {x : Str} {np apos pos : Pos} {p : Tk} {F S : V} {n : Nat} (hC : CxOk (cx b)) (r : Rm A (n + 1)) (hF : FV F) (hS : FV S)
    (h : Ev (cx b) A env (.Name x np) ls H fun v H1 => ∃ a dx, v = .ref a ∧ H1 a = some (.inst dx (fsOf p F S)) ∧ Q (.lst ([F, S].filter fun v => !v.isNone)) H1) (hline : (apos.endLine == pos.line) = true := by rfl) (hb : attributeBase (.Name x np) "parts" env (eval (.Name x np) env) = eval (.Name x np) env := by rfl) :
    Ev (cx b) A env (.Call (.Attribute (.Name x np) "parts" apos) [] [] pos) ls H Q :=
  Ev_Meth0 (f := 42) hC pieceOk (by rfl) (by rfl) (by rfl) (h.cons fun v H1 ⟨a, dx, e1, e2, q⟩ => ⟨a, dx, _, e1, e2, by rfl, (parts_spec hC r e2 hF hS q).cl⟩) hline hb
theorem Ev_labels {x : Str} {np apos pos : Pos} {p : Tk} {F S : V} {n : Nat} (hC : CxOk (cx b)) (r : Rm A (n + 3)) (op : TOk p)
    (h : Ev (cx b) A env (.Name x np) ls H fun v H1 => ∃ a dx, v = .ref a ∧ H1 a = some (.inst dx (fsOf p F S)) ∧ Q (pl (labelsT p)) H1) (hline : (apos.endLine == pos.line) = true := by rfl) (hb : attributeBase (.Name x np) "labels" env (eval (.Name x np) env) = eval (.Name x np) env := by rfl) :
    Ev (cx b) A env (.Call (.Attribute (.Name x np) "labels" apos) [] [] pos) ls H Q :=
  Ev_Meth0 (f := 49) hC pieceOk (by rfl) (by rfl) (by rfl) (h.cons fun v H1 ⟨a, dx, e1, e2, q⟩ => ⟨a, dx, _, e1, e2, by rfl, (labels_spec hC r e2 op q).cl⟩) hline hb
theorem HT.parts_eq (t : HT) : ([t.fv, t.sv].filter fun v => !v.isNone) = t.parts := by
  cases t <;> rfl
end

/- NmAF -/
section
variable {b : Bs} {A : Around} {H : AH} {Q : V → AH → Prop} {env : Env} {ls : Ls}
theorem named_mem {d : Int} : ∀ {l : List HT} {t : HT}, t ∈ l → named1 d (er1 t) = true → namedP d (erL l) = true
  | y :: r, x, h, e => by
    simp only [erL_q0, erL_q1, namedP_q0, namedP_q1, Bool.or_eq_true]
    rcases List.mem_cons.mp h with rfl | h
    · exact .inl e
    · exact .inr (named_mem h e)
theorem named_none {d : Int} : ∀ {l : List HT}, (∀ t ∈ l, named1 d (er1 t) = false) → namedP d (erL l) = false
  | [], _ => rfl
  | y :: r, h => by
    simp only [erL_q0, erL_q1, namedP_q0, namedP_q1, Bool.or_eq_false_iff]
    exact ⟨h y (by simp), named_none fun t ht => h t (by simp [ht])⟩
noncomputable def NamedC (b : Bs) (k : Nat) : Prop := ∀ {A : Around} {H : AH} {Q : V → AH → Prop} {a : Addr} {ts : List HT} {d : Int}, CxOk (cx b) → Rm A (k + 4) → hdL ts ≤ k → H a = some (.list (refs ts)) → AtL H ts →
  Q (.bool (namedP d (erL ts))) H → Cc (cx b) A (.ref 84) [.ref a, .int d] H Q
theorem named_parts {t : HT} {d : Int} : named1 d (er1 t) = (decide (d ∈ labelsT t.p) || t.subs.any fun q => namedP (d + 1) (erL q.2)) := by
  cases t
  · simp only [er1_q0, er1_q1, er1_q2, named1_q0, named1_q1, named1_q2, HT.p_q0, HT.p_q1, HT.p_q2, HT.subs_q0, HT.subs_q1, HT.subs_q2, List.any_nil, Bool.or_false]
    rfl
  · simp only [er1_q0, er1_q1, er1_q2, named1_q0, named1_q1, named1_q2, HT.p_q0, HT.p_q1, HT.p_q2, HT.subs_q0, HT.subs_q1, HT.subs_q2, List.any_cons, List.any_nil, Bool.or_false]
    rfl
  · simp only [er1_q0, er1_q1, er1_q2, named1_q0, named1_q1, named1_q2, HT.p_q0, HT.p_q1, HT.p_q2, HT.subs_q0, HT.subs_q1, HT.subs_q2, List.any_cons, List.any_nil, Bool.or_false, Bool.or_assoc]
    rfl
theorem named_step {k : Nat} (IH : ∀ k', k' < k → NamedC b k') : NamedC b k := by
  intro A H Q a ts d hC r hk ha hA h
  refine def_is_named hC r fun L he hr => ?_
  refine Ex_cons ?_
  refine E1_For he hr.handled (by rfl) ?_
  (refine Ev_p (by assumption) (by rfl) ?_)
  let I1 : Nat → Ls → AH → Prop := fun i ls' H' => H' = H ∧ ls' = ([("pieces", .ref a), ("depth", .int d)] : Ls) ∧ ∀ j t, j < i → ts[j]? = some t → named1 d (er1 t) = false
  refine ⟨refs ts, I1, ⟨rfl, rfl, fun j _ hj => absurd hj (Nat.not_lt_zero _)⟩, fun i ls' H' hI => .ref (hI.1 ▸ ha), ?_, ?_⟩
  · rintro i w ls' H' hi ⟨rfl, rfl, hno⟩
    obtain ⟨t, ht, rfl⟩ := refs_get hi
    have hm := List.mem_of_getElem? ht
    have hAt := AtL_mem hA hm
    have hdt := hdL_mem hm
    obtain ⟨hx, op⟩ := hAt.inst
    refine Ex_cons ?_
    refine E1_If ?_
    refine Tr_Compare ?_
    (refine Ev_p (by assumption) (by rfl) ?_)
    refine Ev_labels (p := t.p) (F := t.fv) (S := t.sv) hC (hr.le (lq0 [_] 1 (.a (.v 0) (.n 3)) (.a (.v 0) (.n 3)) rfl ) : Rm _ (k + 3)) op ?_
    (refine Ev_p (by assumption) (by rfl) ?_)
    refine ⟨t.x, t.dx, rfl, hx, ?_⟩
    refine Bo_in_pl hr ?_
    (refine Th_bool ?_)
    refine ite_both (fun hb => ?_) (fun hb => ?_)
    · simp only [decide_eq_true_eq] at hb
      (refine Ex_cons ?_; refine E1_Return ?_; refine Ev_p (by assumption) (by rfl) ?_)
      have e : namedP d (erL ts) = true := named_mem hm (by rw [named_parts]; simp [hb])
      rw [e] at h
      exact h
    simp only [decide_eq_false_iff_not] at hb
    refine Ex_nil ?_
    refine Ex_cons ?_
    refine E1_For he hr.handled (by rfl) ?_
    refine Ev_parts (p := t.p) (F := t.fv) (S := t.sv) hC hr t.fvOk t.svOk ?_
    (refine Ev_p (by assumption) (by rfl) ?_)
    refine ⟨t.x, t.dx, rfl, hx, ?_⟩
    rw [t.parts_eq]
    rw [t.parts_subs]
    let I2 : Nat → Ls → AH → Prop := fun j ls' H2 => H2 = H' ∧ ls' = ([("piece", .ref t.x), ("pieces", .ref a), ("depth", .int d)] : Ls) ∧ ∀ m q, m < j → t.subs[m]? = some q → namedP (d + 1) (erL q.2) = false
    refine ⟨_, I2, ⟨rfl, rfl, fun m _ hj => absurd hj (Nat.not_lt_zero _)⟩, fun i ls' H' _ => .lst _, ?_, ?_⟩
    · rintro j w ls' H2 hj ⟨rfl, rfl, hpre⟩
      rw [List.getElem?_map] at hj
      obtain ⟨q, hq, rfl⟩ := Option.map_eq_some_iff.mp hj
      have hqm := List.mem_of_getElem? hq
      have hlk := HT.subs_hd q hqm
      obtain ⟨e1, e2⟩ := hAt.subs q hqm
      refine Ex_cons ?_
      refine E1_If ?_
      refine Tr_val ?_
      refine call_is_named hC he ?_
      (refine Evs_p (by assumption) (by rfl) ?_)
      refine (IH (hdL q.2) (lq3 [_, _, _, _] (.le 1 (.v 2) (.v 1)) (.le 1 (.v 3) (.v 2)) (.le 1 (.a (.v 0) (.n 1)) (.v 3)) 1 (.a (.v 0) (.n 1)) (.v 1) rfl hk hdt hlk) hC (hr.le (lq3 [_, _, _, _] (.le 1 (.v 2) (.v 1)) (.le 1 (.v 3) (.v 2)) (.le 1 (.a (.v 0) (.n 1)) (.v 3)) 1 (.a (.v 0) (.n 4)) (.a (.v 1) (.n 3)) rfl hk hdt hlk)) (Nat.le_refl _) e1 e2 ?_).cl
      (refine Th_bool ?_)
      refine ite_both (fun hb2 => ?_) (fun hb2 => ?_)
      · (refine Ex_cons ?_; refine E1_Return ?_; refine Ev_p (by assumption) (by rfl) ?_)
        have e : namedP d (erL ts) = true := named_mem hm (by
          rw [named_parts, Bool.or_eq_true]
          exact .inr (List.any_eq_true.mpr ⟨q, hqm, hb2⟩))
        rw [e] at h
        exact h
      · refine Ex_nil (Ex_nil ⟨_, by (refine Sub.cons (by rfl) ?_; refine Sub.cons (by rfl) ?_; refine Sub.cons (by rfl) ?_; exact Sub.nil _), rfl, rfl, ?_⟩)
        intro m q2 hmj g1
        by_cases e : m = j
        · subst e
          rw [hq] at g1
          cases g1
          exact hb2
        · exact hpre m q2 (by lia) g1
    · rintro ls' H2 ⟨rfl, rfl, hpre⟩
      rw [List.length_map] at hpre
      refine Ex_nil ⟨_, by (refine Sub.cons (by rfl) ?_; refine Sub.cons (by rfl) ?_; exact Sub.nil _), rfl, rfl, ?_⟩
      intro j t2 hj g1
      by_cases e : j = i
      · subst e
        rw [ht] at g1
        cases g1
        rw [named_parts, Bool.or_eq_false_iff]
        refine ⟨by simpa using hb, ?_⟩
        rw [List.any_eq_false]
        intro q hq
        obtain ⟨m, hm2⟩ := List.getElem?_of_mem hq
        simp [hpre m q (List.getElem?_eq_some_iff.mp hm2).1 hm2]
      · exact hno j t2 (by lia) g1
  · rintro ls' H' ⟨rfl, rfl, hno⟩
    rw [List.length_map] at hno
    have e : namedP d (erL ts) = false := named_none fun t ht => by
      obtain ⟨j, hj⟩ := List.getElem?_of_mem ht
      exact hno j t (List.getElem?_eq_some_iff.mp hj).1 hj
    rw [e] at h
    (refine Ex_cons ?_; refine E1_Return ?_; refine Ev_p (by assumption) (by rfl) ?_)
    exact h
theorem named_spec (k : Nat) : NamedC b k := by
  induction k using Nat.strongRecOn with
  | ind k IH => exact named_step IH
end

/- NmAG -/
theorem ptoks_append : ∀ a b : List PT, ptoks (a ++ b) = ptoks a ++ ptoks b
  | [], b => rfl
  | x :: r, b => (congrArg (ptok1 x ++ ·) (ptoks_append r b)).trans (List.append_assoc ..).symm
theorem fpL_mem : ∀ {l : List HT} {t : HT}, t ∈ l → ∀ c ∈ fp1 t, c ∈ fpL l
  | y :: r, x, h, c, hc => by
    simp only [fpL_q0, fpL_q1, List.mem_append]
    rcases List.mem_cons.mp h with rfl | h
    · exact .inl hc
    · exact .inr (fpL_mem h c hc)
theorem put_take {ts : List HT} {i : Nat} {t : HT} (h : ts[i]? = some t) : ptoks (erL (ts.take (i + 1))) = ptoks (erL (ts.take i)) ++ ptok1 (er1 t) := by
  rw [take_step h, erL_append, ptoks_append]
  simp [erL_q0, erL_q1, ptoks_q0, ptoks_q1]
theorem put_le (ts : List HT) (i : Nat) : (ptoks (erL (ts.take i))).length ≤ (ptoks (erL ts)).length := by
  have := congrArg (fun l => (ptoks (erL l)).length) (List.take_append_drop i ts)
  simp only [erL_append, ptoks_append, List.length_append] at this
  exact lq1 [_, _, _] (.eq 1 (.a (.v 0) (.v 2)) (.v 1)) 1 (.v 0) (.v 1) rfl this
section
variable {b : Bs} {A : Around} {H : AH} {Q : V → AH → Prop} {env : Env} {ls : Ls}
noncomputable def PutC (b : Bs) (k : Nat) : Prop := ∀ {A : Around} {H : AH} {Q : V → AH → Prop} {a bo : Addr} {ts : List HT} {B : List Tk}, CxOk (cx b) → Rm A (k + 3) → hdL ts ≤ k → H a = some (.list (refs ts)) → AtL H ts → H bo = some (.list (B.map pl)) → bo ≠ a → bo ∉ fpL ts →
  B.length + (ptoks (erL ts)).length ≤ 1000000 → Q .none (H.set bo (.list ((B ++ ptoks (erL ts)).map pl))) → Cc (cx b) A (.ref 70) [.ref a, .ref bo] H Q
theorem put_step {k : Nat} (IH : ∀ k', k' < k → PutC b k') : PutC b k := by
  intro A H Q a bo ts B hC r hk ha hA hbo hne hfp hz h
  refine def_put_pieces hC r fun L he hr => ?_
  refine Ex_cons ?_
  refine E1_For he hr.handled (by rfl) ?_
  (refine Ev_p (by assumption) (by rfl) ?_)
  let I1 : Nat → Ls → AH → Prop := fun i ls' H' => H' = H.set bo (.list ((B ++ ptoks (erL (ts.take i))).map pl)) ∧ ls' = ([("pieces", .ref a), ("body", .ref bo)] : Ls)
  refine ⟨refs ts, I1, ⟨?_, rfl⟩, ?_, ?_, ?_⟩
  · simp only [List.take_zero, erL_q0, erL_q1, ptoks_q0, ptoks_q1, List.append_nil]
    exact (AH.set_eq H hbo).symm
  · rintro i ls' H' ⟨rfl, _⟩
    exact .ref (by rw [AH.set_ne _ _ hne.symm]; exact ha)
  · rintro i w ls' H' hi ⟨rfl, rfl⟩
    obtain ⟨t, ht, rfl⟩ := refs_get hi
    have hm := List.mem_of_getElem? ht
    have hlen := put_le ts i
    have hlen2 := put_le ts (i + 1)
    have hst := put_take ht
    rw [hst, List.length_append] at hlen2
    have hAt : ∀ o, At1 (H.set bo o) t := fun o => (AtL_mem hA hm).frame fun c hc => AH.set_ne _ _ fun e => hfp (by rw [← e]; exact fpL_mem hm c hc)
    have hdt := hdL_mem hm
    have eb : ∀ o, (H.set bo o) bo = some o := fun o => AH.set_self _ _ _
    have op := ((hAt (.list [])).inst).2
    have hx := fun o => ((hAt o).inst).1
    have hnf : ∀ q ∈ t.subs, bo ≠ q.1 ∧ bo ∉ fpL q.2 := by
      intro q hq
      have hh : ∀ c ∈ fp1 t, c ≠ bo := fun c hc e => hfp (by rw [← e]; exact fpL_mem hm c hc)
      cases t with
      | leaf x dx p => cases hq
      | one x dx p a2 f =>
        simp only [HT.subs_q0, HT.subs_q1, HT.subs_q2, List.mem_singleton] at hq
        subst hq
        exact ⟨fun e => hh a2 (by simp [fp1_q0, fp1_q1, fp1_q2]) e.symm, fun e => hh bo (by simp [fp1_q0, fp1_q1, fp1_q2, e]) rfl⟩
      | two x dx p a2 f a3 s =>
        simp only [HT.subs_q0, HT.subs_q1, HT.subs_q2, List.mem_cons, List.not_mem_nil, or_false] at hq
        rcases hq with rfl | rfl
        · exact ⟨fun e => hh a2 (by simp [fp1_q0, fp1_q1, fp1_q2]) e.symm, fun e => hh bo (by simp [fp1_q0, fp1_q1, fp1_q2, e]) rfl⟩
        · exact ⟨fun e => hh a3 (by simp [fp1_q0, fp1_q1, fp1_q2]) e.symm, fun e => hh bo (by simp [fp1_q0, fp1_q1, fp1_q2, e]) rfl⟩
    generalize hG : B ++ ptoks (erL (ts.take i)) = G
    have hGl : G.length ≤ B.length + (ptoks (erL (ts.take i))).length := by rw [← hG, List.length_append]; exact lq0 [_, _] 1 (.a (.v 0) (.v 1)) (.a (.v 0) (.v 1)) rfl 
    have fin : B ++ ptoks (erL (ts.take (i + 1))) = G ++ ptok1 (er1 t) := by rw [hst, ← List.append_assoc, hG]
    (refine Ex_cons ?_; refine E1_Expr ?_)
    refine Ev_append ?_
    (refine Ev_p (by assumption) (by rfl) ?_)
    refine ⟨bo, _, rfl, eb _, ?_⟩
    refine Ev_plain (p := t.p) (F := t.fv) (S := t.sv) hC ?_
    (refine Ev_p (by assumption) (by rfl) ?_)
    refine ⟨t.x, t.dx, rfl, hx _, ?_⟩
    refine ⟨_, eb _, by rw [List.length_map, z24]; exact lq3 [_, _, _, _] (.le 1 (.a (.v 1) (.v 2)) (.n 1000000)) (.le 1 (.v 3) (.v 2)) (.le 1 (.v 0) (.a (.v 1) (.v 3))) 1 (.v 0) (.n 16777216) rfl hz hlen hGl, ?_⟩
    rw [AH.set_set, map_snoc]
    refine Ex_cons ?_
    refine E1_If ?_
    refine Tr_Compare ?_
    refine Ev_first (p := t.p) (F := t.fv) (S := t.sv) hC t.fvOk ?_
    (refine Ev_p (by assumption) (by rfl) ?_)
    refine ⟨t.x, t.dx, rfl, hx _, ?_⟩
    (refine Ev_p (by assumption) (by rfl) ?_)
    refine Bo_isnot_none ?_ t.fvOk.nb
    (refine Th_bool ?_)
    cases t with
    | leaf x dx p =>
      refine ite_f rfl (Ex_nil (Ex_nil ⟨_, by (refine Sub.cons (by rfl) ?_; refine Sub.cons (by rfl) ?_; exact Sub.nil _), ?_, rfl⟩))
      rw [fin]
      rfl
    | one x dx p a2 f =>
      obtain ⟨e1, e2⟩ := (hAt (.list ((G ++ [p]).map pl))).subs (a2, f) (by simp [HT.subs_q0, HT.subs_q1, HT.subs_q2])
      obtain ⟨n1, n2⟩ := hnf (a2, f) (by simp [HT.subs_q0, HT.subs_q1, HT.subs_q2])
      simp only [hd1_q0, hd1_q1, hd1_q2] at hdt
      simp only [er1_q0, er1_q1, er1_q2, ptok1_q0, ptok1_q1, ptok1_q2, List.length_append, List.length_cons, List.length_nil] at hlen2
      refine ite_t rfl ?_
      (refine Ex_cons ?_; refine E1_Expr ?_)
      refine call_put_pieces hC he ?_
      refine evs_cons ?_
      refine Ev_first (p := p) (F := .ref a2) (S := .none) hC (.inr ⟨_, rfl⟩) ?_
      (refine Ev_p (by assumption) (by rfl) ?_)
      refine ⟨x, dx, rfl, hx _, ?_⟩
      (refine Evs_p (by assumption) (by rfl) ?_)
      refine (IH (hdL f) (lq2 [_, _, _] (.le 1 (.v 2) (.v 1)) (.le 1 (.a (.v 0) (.n 1)) (.v 2)) 1 (.a (.v 0) (.n 1)) (.v 1) rfl hk hdt) hC (hr.le (lq2 [_, _, _] (.le 1 (.v 2) (.v 1)) (.le 1 (.a (.v 0) (.n 1)) (.v 2)) 1 (.a (.v 0) (.n 3)) (.a (.v 1) (.n 2)) rfl hk hdt)) (Nat.le_refl _) e1 e2 (eb _) n1 n2 (by rw [List.length_append, List.length_singleton]; exact lq3 [_, _, _, _, _] (.le 1 (.a (.v 2) (.v 3)) (.n 1000000)) (.le 1 (.v 0) (.a (.v 2) (.v 4))) (.le 1 (.a (.v 4) (.a (.a (.v 1) (.n 1)) (.a (.n 0) (.n 1)))) (.v 3)) 1 (.a (.a (.v 0) (.n 1)) (.v 1)) (.n 1000000) rfl hz hGl hlen2) ?_).cl
      rw [AH.set_set]
      refine Ex_cons ?_
      refine E1_If ?_
      refine Tr_Compare ?_
      refine Ev_second (p := p) (F := .ref a2) (S := .none) hC (.inl rfl) ?_
      (refine Ev_p (by assumption) (by rfl) ?_)
      refine ⟨x, dx, rfl, hx _, ?_⟩
      (refine Ev_p (by assumption) (by rfl) ?_; refine Bo_isnot_none ?_; refine Th_bool ?_)
      refine ite_f rfl ?_
      (refine Ex_nil ?_; refine Ex_cons ?_; refine E1_Expr ?_)
      refine Ev_append ?_
      (refine Ev_p (by assumption) (by rfl) ?_)
      refine ⟨bo, _, rfl, eb _, ?_⟩
      refine Ev_Tuple ?_
      refine evs_cons (ev_END hC he (evs_nil ?_))
      refine ⟨_, eb _, by rw [List.length_map, List.length_append, List.length_append, List.length_singleton, z24]; exact lq3 [_, _, _, _, _] (.le 1 (.a (.v 2) (.v 3)) (.n 1000000)) (.le 1 (.v 0) (.a (.v 2) (.v 4))) (.le 1 (.a (.v 4) (.a (.a (.v 1) (.n 1)) (.a (.n 0) (.n 1)))) (.v 3)) 1 (.a (.a (.v 0) (.n 1)) (.v 1)) (.n 16777216) rfl hz hGl hlen2, ?_⟩
      rw [AH.set_set]
      have e : (G ++ [p] ++ ptoks (erL f)).map pl ++ [V.tup [V.int 11]] = (G ++ ptok1 (er1 (.one x dx p a2 f))).map pl := by
        have := map_snoc (F := G ++ [p] ++ ptoks (erL f)) (t := [11])
        refine this.trans ?_
        simp [er1_q0, er1_q1, er1_q2, ptok1_q0, ptok1_q1, ptok1_q2]
      rw [e]
      (refine Ex_nil ?_; refine Ex_nil ?_)
      exact ⟨_, by (refine Sub.cons (by rfl) ?_; refine Sub.cons (by rfl) ?_; exact Sub.nil _), by rw [fin], rfl⟩
    | two x dx p a2 f a3 s =>
      obtain ⟨e1, e2⟩ := (hAt (.list ((G ++ [p]).map pl))).subs (a2, f) (by simp [HT.subs_q0, HT.subs_q1, HT.subs_q2])
      obtain ⟨e3, e4⟩ := (hAt (.list ((G ++ [p] ++ ptoks (erL f) ++ [[5]]).map pl))).subs (a3, s) (by simp [HT.subs_q0, HT.subs_q1, HT.subs_q2])
      obtain ⟨n1, n2⟩ := hnf (a2, f) (by simp [HT.subs_q0, HT.subs_q1, HT.subs_q2])
      obtain ⟨n3, n4⟩ := hnf (a3, s) (by simp [HT.subs_q0, HT.subs_q1, HT.subs_q2])
      simp only [hd1_q0, hd1_q1, hd1_q2] at hdt
      simp only [er1_q0, er1_q1, er1_q2, ptok1_q0, ptok1_q1, ptok1_q2, List.length_append, List.length_cons, List.length_nil] at hlen2
      refine ite_t rfl ?_
      (refine Ex_cons ?_; refine E1_Expr ?_)
      refine call_put_pieces hC he ?_
      refine evs_cons ?_
      refine Ev_first (p := p) (F := .ref a2) (S := .ref a3) hC (.inr ⟨_, rfl⟩) ?_
      (refine Ev_p (by assumption) (by rfl) ?_)
      refine ⟨x, dx, rfl, hx _, ?_⟩
      (refine Evs_p (by assumption) (by rfl) ?_)
      refine (IH (hdL f) (by lia) hC (hr.le (by lia)) (Nat.le_refl _) e1 e2 (eb _) n1 n2 (by rw [List.length_append, List.length_singleton]; exact lq3 [_, _, _, _, _, _] (.le 1 (.a (.v 2) (.v 3)) (.n 1000000)) (.le 1 (.v 0) (.a (.v 2) (.v 4))) (.le 1 (.a (.v 4) (.a (.a (.a (.v 1) (.n 1)) (.a (.v 5) (.n 1))) (.a (.n 0) (.n 1)))) (.v 3)) 1 (.a (.a (.v 0) (.n 1)) (.v 1)) (.n 1000000) rfl hz hGl hlen2) ?_).cl
      rw [AH.set_set]
      refine Ex_cons ?_
      refine E1_If ?_
      refine Tr_Compare ?_
      refine Ev_second (p := p) (F := .ref a2) (S := .ref a3) hC (.inr ⟨_, rfl⟩) ?_
      (refine Ev_p (by assumption) (by rfl) ?_)
      refine ⟨x, dx, rfl, hx _, ?_⟩
      (refine Ev_p (by assumption) (by rfl) ?_; refine Bo_isnot_none ?_; refine Th_bool ?_)
      refine ite_t rfl ?_
      (refine Ex_cons ?_; refine E1_Expr ?_)
      refine Ev_append ?_
      (refine Ev_p (by assumption) (by rfl) ?_)
      refine ⟨bo, _, rfl, eb _, ?_⟩
      refine Ev_Tuple ?_
      refine evs_cons (ev_ELSE hC he (evs_nil ?_))
      refine ⟨_, eb _, by rw [List.length_map, List.length_append, List.length_append, List.length_singleton, z24]; exact lq3 [_, _, _, _, _, _] (.le 1 (.a (.v 2) (.v 3)) (.n 1000000)) (.le 1 (.v 0) (.a (.v 2) (.v 4))) (.le 1 (.a (.v 4) (.a (.a (.a (.v 1) (.n 1)) (.a (.v 5) (.n 1))) (.a (.n 0) (.n 1)))) (.v 3)) 1 (.a (.a (.v 0) (.n 1)) (.v 1)) (.n 16777216) rfl hz hGl hlen2, ?_⟩
      rw [AH.set_set]
      have e : (G ++ [p] ++ ptoks (erL f)).map pl ++ [V.tup [V.int 5]] = (G ++ [p] ++ ptoks (erL f) ++ [[5]]).map pl := map_snoc (F := G ++ [p] ++ ptoks (erL f)) (t := [5])
      rw [e]
      (refine Ex_cons ?_; refine E1_Expr ?_)
      refine call_put_pieces hC he ?_
      refine evs_cons ?_
      refine Ev_second (p := p) (F := .ref a2) (S := .ref a3) hC (.inr ⟨_, rfl⟩) ?_
      (refine Ev_p (by assumption) (by rfl) ?_)
      refine ⟨x, dx, rfl, hx _, ?_⟩
      (refine Evs_p (by assumption) (by rfl) ?_)
      refine (IH (hdL s) (by lia) hC (hr.le (by lia)) (Nat.le_refl _) e3 e4 (eb _) n3 n4 (by simp only [List.length_append, List.length_singleton]; exact lq3 [_, _, _, _, _, _] (.le 1 (.a (.v 3) (.v 4)) (.n 1000000)) (.le 1 (.v 0) (.a (.v 3) (.v 5))) (.le 1 (.a (.v 5) (.a (.a (.a (.v 1) (.n 1)) (.a (.v 2) (.n 1))) (.a (.n 0) (.n 1)))) (.v 4)) 1 (.a (.a (.a (.a (.v 0) (.n 1)) (.v 1)) (.n 1)) (.v 2)) (.n 1000000) rfl hz hGl hlen2) ?_).cl
      rw [AH.set_set]
      (refine Ex_nil ?_; refine Ex_cons ?_; refine E1_Expr ?_)
      refine Ev_append ?_
      (refine Ev_p (by assumption) (by rfl) ?_)
      refine ⟨bo, _, rfl, eb _, ?_⟩
      refine Ev_Tuple ?_
      refine evs_cons (ev_END hC he (evs_nil ?_))
      refine ⟨_, eb _, by simp only [List.length_map, List.length_append, List.length_singleton, z24]; exact lq3 [_, _, _, _, _, _] (.le 1 (.a (.v 3) (.v 4)) (.n 1000000)) (.le 1 (.v 0) (.a (.v 3) (.v 5))) (.le 1 (.a (.v 5) (.a (.a (.a (.v 1) (.n 1)) (.a (.v 2) (.n 1))) (.a (.n 0) (.n 1)))) (.v 4)) 1 (.a (.a (.a (.a (.v 0) (.n 1)) (.v 1)) (.n 1)) (.v 2)) (.n 16777216) rfl hz hGl hlen2, ?_⟩
      rw [AH.set_set]
      have e : (G ++ [p] ++ ptoks (erL f) ++ [[5]] ++ ptoks (erL s)).map pl ++ [V.tup [V.int 11]] = (G ++ ptok1 (er1 (.two x dx p a2 f a3 s))).map pl := by
        have := map_snoc (F := G ++ [p] ++ ptoks (erL f) ++ [[5]] ++ ptoks (erL s)) (t := [11])
        refine this.trans ?_
        simp [er1_q0, er1_q1, er1_q2, ptok1_q0, ptok1_q1, ptok1_q2]
      rw [e]
      (refine Ex_nil ?_; refine Ex_nil ?_)
      exact ⟨_, by (refine Sub.cons (by rfl) ?_; refine Sub.cons (by rfl) ?_; exact Sub.nil _), by rw [fin], rfl⟩
  · rintro ls' H' ⟨rfl, rfl⟩
    rw [List.length_map, List.take_length]
    exact Ex_nil h
theorem put_spec (k : Nat) : PutC b k := by
  induction k using Nat.strongRecOn with
  | ind k IH => exact put_step IH
/-- the flat body of a tree of pieces -/
theorem body_spec {a : Addr} {ts : List HT} {k : Nat} (hC : CxOk (cx b)) (r : Rm A (k + 4)) (hk : hdL ts ≤ k) (ha : H a = some (.list (refs ts))) (hA : AtL H ts) (hz : (ptoks (erL ts)).length ≤ 100000)
    (h : Q (bd (ptoks (erL ts) ++ [[11]])) H) : Cc (cx b) A (.ref 77) [.ref a] H Q := by
  refine def_body_of hC r fun L he hr => ?_
  refine Ex_cons ?_
  refine E1_Assign he (by rfl) ?_
  (refine Ev_List ?_; refine evs_nil ?_)
  refine .inr fun bo hbo => ?_
  have n1 : bo ≠ a := fun e => by rw [e, ha] at hbo; cases hbo
  have n2 : bo ∉ fpL ts := fun e => hA.live bo e hbo
  (refine Ex_cons ?_; refine E1_Expr ?_)
  refine call_put_pieces hC he ?_
  (refine Evs_p (by assumption) (by rfl) ?_)
  refine (put_spec k hC (hr.le (lq0 [_] 1 (.a (.v 0) (.n 3)) (.a (.v 0) (.n 3)) rfl )) hk (by rw [AH.set_ne _ _ n1.symm]; exact ha) (hA.frame fun c hc => AH.set_ne _ _ fun e => n2 (by rw [← e]; exact hc)) (B := []) (AH.set_self _ _ _) n1 n2 (by simp only [List.length_nil]; exact lq1 [_] (.le 1 (.v 0) (.n 100000)) 1 (.a (.n 0) (.v 0)) (.n 1000000) rfl hz) ?_).cl
  rw [AH.set_set, List.nil_append]
  (refine Ex_cons ?_; refine E1_Expr ?_)
  refine Ev_append ?_
  (refine Ev_p (by assumption) (by rfl) ?_)
  refine ⟨bo, _, rfl, AH.set_self _ _ _, ?_⟩
  refine Ev_Tuple ?_
  refine evs_cons (ev_END hC he (evs_nil ?_))
  refine ⟨_, AH.set_self _ _ _, by rw [List.length_map, z24]; exact lq1 [_] (.le 1 (.v 0) (.n 100000)) 1 (.v 0) (.n 16777216) rfl hz, ?_⟩
  rw [AH.set_set]
  have e : (ptoks (erL ts)).map pl ++ [V.tup [V.int 11]] = (ptoks (erL ts) ++ [[11]]).map pl := map_snoc (F := ptoks (erL ts)) (t := [11])
  rw [e]
  refine Ex_cons ?_
  refine E1_Return (Ev.fix ?_)
  (refine Ev_p (by assumption) (by rfl) ?_)
  refine ⟨bo, _, rfl, AH.set_self _ _ _, ?_⟩
  rw [AH.del_set _ hbo]
  exact h
end

/- NmAH -/
section
variable {b : Bs} {A : Around} {H : AH} {Q : V → AH → Prop} {env : Env} {ls : Ls} {R : V → AH → Prop} {N : Ls → AH → Prop}
/-- each of a piece's lists in turn -/
theorem parts_loop {P : List HT → List HT → Prop} {base : Ls} {t : HT} {body : List Stmt} {p np apos pos fpos : Pos} {n : Nat} (hC : CxOk (cx b)) (he : EnvOk env) (r : Rm A (n + 1)) (hk : env.kindOf "part" = some .local) (hx : base.lookup ("piece" : Str) = some (.ref t.x)) (hAt : At1 H t) (hnd : (fp1 t).Nodup)
    (hbody : ∀ q ∈ t.subs, ∀ (H1 : AH) (N : Ls → AH → Prop), H1 q.1 = some (.list (refs q.2)) → AtL H1 q.2 → (q.1 :: fpL q.2).Nodup → (∀ H2 l' ls2, P q.2 l' → Chg H1 H2 q.1 q.2 l' → Sub base ls2 → N ls2 H2) →
      Ex (cx b) A env body ((("part" : Str), .ref q.1) :: base) H1 R N)
    (h : ∀ H2 t', SubR P t t' → Chg1 H H2 t t' → N base H2)
    (hline : (apos.endLine == pos.line) = true := by rfl) (hb : attributeBase (.Name "piece" np) "parts" env (eval (.Name "piece" np) env) = eval (.Name "piece" np) env := by rfl)
    (hs : ∀ x, foldedSetIterable (.Call (.Attribute (.Name "piece" np) "parts" apos) [] [] pos) env x = pure x := by intro _; rfl) :
    E1 (cx b) A env (.For (.Name "part" p) (.Call (.Attribute (.Name "piece" np) "parts" apos) [] [] pos) body [] fpos) base H R N := by
  refine E1_For he r.handled hk ?_ hs
  refine Ev_parts (p := t.p) (F := t.fv) (S := t.sv) hC r t.fvOk t.svOk ?_ hline hb
  refine Ev_var he hx ?_
  refine ⟨t.x, t.dx, rfl, hAt.inst.1, ?_⟩
  rw [t.parts_eq, t.parts_subs]
  refine ⟨_, fun j ls' H1 => ls' = base ∧ ∃ t1, SubP P j t t1 ∧ Chg1 H H1 t t1, ⟨rfl, t, SubP.zero t, Chg1.refl hAt hnd⟩, fun i ls' H' _ => .lst _, ?_, ?_⟩
  · rintro j w ls' H1 hj ⟨rfl, t1, hP, hch⟩
    rw [List.getElem?_map] at hj
    obtain ⟨q, hq, rfl⟩ := Option.map_eq_some_iff.mp hj
    obtain ⟨e1, e2, e3, _, e4⟩ := hP.next hq hch.at' hch.nd
    refine hbody q (List.mem_of_getElem? hq) H1 _ e1 e2 e3 fun H2 l' ls2 hp hc sb => ?_
    obtain ⟨t2, h1, h2⟩ := e4 H2 l' hp hc
    exact ⟨_, sb, rfl, t2, h1, hch.trans h2⟩
  · rintro ls' H1 ⟨rfl, t1, hP, hch⟩
    exact h H1 t1 (hP.all (by rw [List.length_map])) hch
mutual
noncomputable def low1H (d : Int) : HT → HT
  | .leaf x dx p => .leaf x dx (lowT d p)
  | .one x dx p a f => .one x dx (lowT d p) a (lowLH (d + 1) f)
  | .two x dx p a f a2 s => .two x dx (lowT d p) a (lowLH (d + 1) f) a2 (lowLH (d + 1) s)
noncomputable def lowLH (d : Int) : List HT → List HT
  | [] => []
  | t :: r => low1H d t :: lowLH d r
end
mutual
theorem low1H_er (d : Int) : ∀ t : HT, er1 (low1H d t) = low1 d (er1 t)
  | .leaf _ _ _ => rfl
  | .one _ _ _ _ f => by simp only [low1H, er1_q0, er1_q1, er1_q2, low1_q0, low1_q1, low1_q2, lowLH_er (d + 1) f]
  | .two _ _ _ _ f _ s => by simp only [low1H, er1_q0, er1_q1, er1_q2, low1_q0, low1_q1, low1_q2, lowLH_er (d + 1) f, lowLH_er (d + 1) s]
theorem lowLH_er (d : Int) : ∀ l : List HT, erL (lowLH d l) = lowP d (erL l)
  | [] => rfl
  | t :: r => by simp only [lowLH, erL_q0, erL_q1, lowP_q0, lowP_q1, low1H_er d t, lowLH_er d r]
end
mutual
theorem low1H_fp (d : Int) : ∀ t : HT, fp1 (low1H d t) = fp1 t
  | .leaf _ _ _ => rfl
  | .one _ _ _ _ f => by simp only [low1H, fp1_q0, fp1_q1, fp1_q2, lowLH_fp (d + 1) f]
  | .two _ _ _ _ f _ s => by simp only [low1H, fp1_q0, fp1_q1, fp1_q2, lowLH_fp (d + 1) f, lowLH_fp (d + 1) s]
theorem lowLH_fp (d : Int) : ∀ l : List HT, fpL (lowLH d l) = fpL l
  | [] => rfl
  | t :: r => by simp only [lowLH, fpL_q0, fpL_q1, low1H_fp d t, lowLH_fp d r]
end
mutual
theorem low1H_hd (d : Int) : ∀ t : HT, hd1 (low1H d t) = hd1 t
  | .leaf _ _ _ => rfl
  | .one _ _ _ _ f => by simp only [low1H, hd1_q0, hd1_q1, hd1_q2, lowLH_hd (d + 1) f]
  | .two _ _ _ _ f _ s => by simp only [low1H, hd1_q0, hd1_q1, hd1_q2, lowLH_hd (d + 1) f, lowLH_hd (d + 1) s]
theorem lowLH_hd (d : Int) : ∀ l : List HT, hdL (lowLH d l) = hdL l
  | [] => rfl
  | t :: r => by simp only [lowLH, hdL_q0, hdL_q1, low1H_hd d t, lowLH_hd d r]
end
theorem low1H_x (d : Int) (t : HT) : (low1H d t).x = t.x := by cases t <;> rfl
theorem lowLH_append (d : Int) : ∀ a c : List HT, lowLH d (a ++ c) = lowLH d a ++ lowLH d c
  | [], c => rfl
  | x :: r, c => by simp only [List.cons_append, lowLH, lowLH_append d r c]
theorem lowLH_refs (d : Int) : ∀ l : List HT, refs (lowLH d l) = refs l
  | [] => rfl
  | t :: r => by
    have := lowLH_refs d r
    simp only [lowLH, refs, List.map_cons, low1H_x] at this ⊢
    rw [this]
end

/- NmAI -/
noncomputable def HT.setP (t : HT) (p' : Tk) : HT := match t with
  | .leaf x dx _ => .leaf x dx p'
  | .one x dx _ a f => .one x dx p' a f
  | .two x dx _ a f a2 s => .two x dx p' a f a2 s
theorem HT.setP_x (t : HT) (p' : Tk) : (t.setP p').x = t.x := by cases t <;> rfl
theorem HT.setP_fp (t : HT) (p' : Tk) : fp1 (t.setP p') = fp1 t := by cases t <;> rfl
theorem HT.setP_subs (t : HT) (p' : Tk) : (t.setP p').subs = t.subs := by cases t <;> rfl
theorem HT.setP_self (t : HT) : t.setP t.p = t := by cases t <;> rfl
theorem low_of_sub {d : Int} {t t' : HT} (h : SubR (fun l l' => l' = lowLH (d + 1) l) (t.setP (lowT d t.p)) t') : t' = low1H d t := by
  cases t with
  | leaf x dx p => cases h; rfl
  | one x dx p a f =>
    cases h with
    | one h => subst h; rfl
  | two x dx p a f a2 s =>
    cases h with
    | two h k => subst h; subst k; rfl
theorem At1.setP {H : AH} {t : HT} {p' : Tk} (h : At1 H t) (nd : (fp1 t).Nodup) (op : TOk p') : At1 (H.set t.x (.inst t.dx (fsOf p' t.fv t.sv))) (t.setP p') := by
  cases t with
  | leaf x dx p => exact ⟨AH.set_self _ _ _, op⟩
  | one x dx p a f =>
    simp only [fp1_q0, fp1_q1, fp1_q2, List.nodup_cons, List.mem_cons, not_or] at nd
    refine ⟨⟨AH.set_self _ _ _, op⟩, ?_, h.2.2.frame fun c hc => AH.set_ne _ _ fun e => nd.1.2 (by rw [← show c = x from e]; exact hc)⟩
    exact (AH.set_ne _ _ (Ne.symm nd.1.1)).trans h.2.1
  | two x dx p a f a2 s =>
    simp only [fp1_q0, fp1_q1, fp1_q2, List.nodup_cons, List.mem_cons, List.mem_append, not_or] at nd
    refine ⟨⟨AH.set_self _ _ _, op⟩, ⟨?_, h.2.1.2.frame fun c hc => AH.set_ne _ _ fun e => nd.1.2.2.1 (by rw [← show c = x from e]; exact hc)⟩, ?_, h.2.2.2.frame fun c hc => AH.set_ne _ _ fun e => nd.1.2.2.2 (by rw [← show c = x from e]; exact hc)⟩
    · exact (AH.set_ne _ _ (Ne.symm nd.1.1)).trans h.2.1.1
    · exact (AH.set_ne _ _ (Ne.symm nd.1.2.1)).trans h.2.2.1
theorem fp1_x : ∀ t : HT, t.x ∈ fp1 t
  | .leaf _ _ _ => by simp [fp1_q0, fp1_q1, fp1_q2, HT.x_q0, HT.x_q1, HT.x_q2]
  | .one _ _ _ _ _ => by simp [fp1_q0, fp1_q1, fp1_q2, HT.x_q0, HT.x_q1, HT.x_q2]
  | .two _ _ _ _ _ _ _ => by simp [fp1_q0, fp1_q1, fp1_q2, HT.x_q0, HT.x_q1, HT.x_q2]
theorem Chg1.setP {H : AH} {t : HT} {p' : Tk} (h : At1 H t) (nd : (fp1 t).Nodup) (op : TOk p') : Chg1 H (H.set t.x (.inst t.dx (fsOf p' t.fv t.sv))) t (t.setP p') :=
  ⟨h.setP nd op, by rw [t.setP_fp]; exact nd, fun c hc => .inl (by rw [t.setP_fp] at hc; exact hc), fun c h1 _ => AH.set_ne _ _ fun e => h1 (by rw [e]; exact fp1_x t), fun c hc => by
    by_cases e : c = t.x
    · rw [e, AH.set_self]; simp
    · rw [AH.set_ne _ _ e]; exact hc⟩
theorem lowT_ok {d : Int} {p : Tk} (h : TOk p) : TOk (lowT d p) := by
  unfold lowT
  split
  · refine ⟨by simp, ?_⟩
    rename_i hl
    unfold labelsT
    have := h.2
    split
    · simp only [List.length_cons, List.length_map, List.length_tail]; have := h.1; cases p with
      | nil => exact absurd rfl this
      | cons => simp at *; lia
    · simp
  · exact h
section
variable {b : Bs} {A : Around} {H : AH} {Q : V → AH → Prop} {env : Env} {ls : Ls} {R : V → AH → Prop} {N : Ls → AH → Prop}
noncomputable def LowC (b : Bs) (k : Nat) : Prop := ∀ {A : Around} {H : AH} {Q : V → AH → Prop} {a : Addr} {ts : List HT} {d : Int}, CxOk (cx b) → Rm A (k + 5) → hdL ts ≤ k → H a = some (.list (refs ts)) → AtL H ts → (a :: fpL ts).Nodup →
  (∀ H', Chg H H' a ts (lowLH d ts) → Q .none H') → Cc (cx b) A (.ref 89) [.ref a, .int d] H Q
theorem low_step {k : Nat} (IH : ∀ k', k' < k → LowC b k') : LowC b k := by
  intro A H Q a ts d hC r hk ha hA hnd h
  obtain ⟨hna, hnd⟩ := List.nodup_cons.mp hnd
  refine def_lower_labels hC r fun L he hr => ?_
  refine Ex_cons ?_
  refine E1_For he hr.handled (by rfl) ?_
  (refine Ev_p (by assumption) (by rfl) ?_)
  let I1 : Nat → Ls → AH → Prop := fun i ls' H' => ls' = ([("pieces", .ref a), ("depth", .int d)] : Ls) ∧ AtL H' (lowLH d (ts.take i) ++ ts.drop i) ∧ H' a = some (.list (refs ts)) ∧ (∀ c, c ∉ fpL ts → H c ≠ none → H' c = H c) ∧ (∀ c, H c ≠ none → H' c ≠ none)
  refine ⟨refs ts, I1, ⟨rfl, by simpa [lowLH] using hA, ha, fun _ _ _ => rfl, fun _ h => h⟩, fun i ls' H' hI => .ref hI.2.2.1, ?_, ?_⟩
  · rintro i w ls' H1 hi ⟨rfl, hA1, ha1, hout, hlv⟩
    obtain ⟨t, ht, rfl⟩ := refs_get hi
    have hm := List.mem_of_getElem? ht
    have hil : i < ts.length := (List.getElem?_eq_some_iff.mp ht).1
    have hdr : ts.drop i = t :: ts.drop (i + 1) := by
      rw [List.drop_eq_getElem_cons hil]
      congr 1
      exact (List.getElem?_eq_some_iff.mp ht).2
    rw [hdr] at hA1
    obtain ⟨hAX, hAt, hAY⟩ := AtL_append.mp hA1
    have hsplit : fpL ts = fpL (ts.take i) ++ (fp1 t ++ fpL (ts.drop (i + 1))) := by
      conv => lhs; rw [← List.take_append_drop i ts]
      rw [fpL_append, hdr, fpL]
    have hnd2 := hnd
    rw [hsplit, List.nodup_append, List.nodup_append] at hnd2
    obtain ⟨_, ⟨ndt, _, dty⟩, dxt⟩ := hnd2
    have hdt := hdL_mem hm
    obtain ⟨hx, op⟩ := hAt.inst
    refine Ex_cons ?_
    let I2 : Ls → AH → Prop := fun ls2 H2 => ls2 = ([("piece", .ref t.x), ("pieces", .ref a), ("depth", .int d)] : Ls) ∧ Chg1 H1 H2 t (t.setP (lowT d t.p))
    refine E1.mono (R := Q) (N := I2) ?_ (fun _ _ h => h) ?_
    · refine E1_If ?_
      refine Tr_Compare ?_
      refine Ev_labels (p := t.p) (F := t.fv) (S := t.sv) hC (hr.le (lq0 [_] 1 (.a (.v 0) (.n 3)) (.a (.v 0) (.n 4)) rfl ) : Rm _ (k + 3)) op ?_
      (refine Ev_p (by assumption) (by rfl) ?_)
      refine ⟨t.x, t.dx, rfl, hx, ?_⟩
      refine Ev_Tuple (evs_nil ?_)
      refine Bo_ne_pl (b := []) hr ?_
      (refine Th_bool ?_)
      refine ite_both (fun hb => ?_) (fun hb => ?_)
      · simp only [Bool.not_eq_true', decide_eq_false_iff_not] at hb
        have hlt : lowT d t.p = code t.p :: (labelsT t.p).map fun l => if l > d then l - 1 else l := by rw [lowT, if_pos hb]
        have hll : (labelsT t.p).length ≤ 1000 := by
          have := (lowT_ok (d := d) op).2
          rw [hlt] at this
          simp only [List.length_cons, List.length_map] at this
          exact lq1 [_] (.le 1 (.a (.v 0) (.n 1)) (.n 1000)) 1 (.v 0) (.n 1000) rfl this
        refine Ex_cons ?_
        refine E1_SetAttr hC pieceOk (by decide) ?_
        refine Ev_BinOp ?_
        refine Ev_Tuple ?_
        refine evs_cons ?_
        refine Ev_code (p := t.p) (F := t.fv) (S := t.sv) hC (hr.le (lq0 [_] 1 (.a (.v 0) (.n 2)) (.a (.v 0) (.n 4)) rfl ) : Rm _ (k + 2)) op ?_
        (refine Ev_p (by assumption) (by rfl) ?_)
        refine ⟨t.x, t.dx, rfl, hx, evs_nil ?_⟩
        refine call_tuple hC he ?_
        refine evs_cons ?_
        refine Ev_Comp' [("depth", .int d)] he hr.handled (by (refine CapOk.cons ?_ (by rfl) (by rfl) (by rfl) (by rfl); exact CapOk.nil (by rfl))) (by rfl) ?_
        refine Ev_labels (p := t.p) (F := t.fv) (S := t.sv) hC (hr.le (lq0 [_] 1 (.a (.v 0) (.n 3)) (.a (.v 0) (.n 4)) rfl ) : Rm _ (k + 3)) op ?_
        (refine Ev_p (by assumption) (by rfl) ?_)
        refine ⟨t.x, t.dx, rfl, hx, ?_⟩
        let I3 : Nat → List V → AH → Prop := fun i acc H' => H' = H1 ∧ acc = ivs (((labelsT t.p).take i).map fun l => if l > d then l - 1 else l)
        refine ⟨ivs (labelsT t.p), I3, by rw [List.length_map, z24]; exact lq1 [_] (.le 1 (.v 0) (.n 1000)) 1 (.v 0) (.n 16777216) rfl hll, ⟨rfl, rfl⟩, fun i acc H' _ => .tup _, ?_, ?_⟩
        · rintro j w acc H' C' D he' hj ⟨rfl, rfl⟩ hD
          rw [List.getElem?_map] at hj
          obtain ⟨l, hl, rfl⟩ := Option.map_eq_some_iff.mp hj
          refine test_nil ?_
          (refine Ev_IfExp ?_; refine Tr_p (by assumption) (by rfl) ?_)
          refine ite_both (fun hb2 => ?_) (fun hb2 => ?_)
          · simp only [decide_eq_true_eq] at hb2
            (refine Ev_p (by assumption) (by rfl) ?_)
            refine ⟨_, rfl, hD, rfl, ?_⟩
            rw [take_step hl]
            simp [hb2]
          · simp only [decide_eq_false_iff_not] at hb2
            (refine Ev_p (by assumption) (by rfl) ?_)
            refine ⟨_, rfl, hD, rfl, ?_⟩
            rw [take_step hl]
            simp [hb2]
        rintro acc H' ⟨rfl, rfl⟩
        rw [List.length_map, List.take_length]
        refine .inl ?_
        (refine evs_nil ?_)
        refine Cl_tuple .f (by rw [List.length_map, List.length_map, z24]; exact lq1 [_] (.le 1 (.v 0) (.n 1000)) 1 (.v 0) (.n 16777216) rfl hll) ?_
        refine Bo_add_tup (by simp) (by simpa using hb) (by simp only [List.length_cons, List.length_nil, List.length_map, z24]; exact lq1 [_] (.le 1 (.v 0) (.n 1000)) 1 (.a (.a (.n 0) (.n 1)) (.v 0)) (.n 16777216) rfl hll) ?_
        have e : [V.int (code t.p)] ++ ivs ((labelsT t.p).map fun l => if l > d then l - 1 else l) = ivs (lowT d t.p) := by rw [hlt]; rfl
        rw [e]
        (refine Ev_p (by assumption) (by rfl) ?_)
        refine ⟨t.x, t.dx, _, rfl, hx, by simp, ?_⟩
        refine Ex_nil ⟨rfl, ?_⟩
        exact Chg1.setP hAt ndt (lowT_ok op)
      · simp only [Bool.not_eq_false', decide_eq_true_eq] at hb
        have hlt : lowT d t.p = t.p := by rw [lowT, if_neg (by simpa using hb)]
        exact Ex_nil ⟨rfl, by rw [hlt, t.setP_self]; exact Chg1.refl hAt ndt⟩
    rintro ls2 H2 ⟨rfl, hc1⟩
    refine Ex_cons ?_
    refine parts_loop (P := fun l l' => l' = lowLH (d + 1) l) (t := t.setP (lowT d t.p)) hC he hr (by rfl) (by rw [t.setP_x]; rfl) hc1.at' hc1.nd ?_ ?_
    · intro q hq H3 N e1 e2 e3 hN
      rw [t.setP_subs] at hq
      have hqd := HT.subs_hd q hq
      refine Ex_cons ?_
      refine E1_Expr ?_
      refine call_lower_labels hC he ?_
      (refine Evs_p (by assumption) (by rfl) ?_)
      refine (IH (hdL q.2) (lq3 [_, _, _, _] (.le 1 (.v 2) (.v 1)) (.le 1 (.v 3) (.v 2)) (.le 1 (.a (.v 0) (.n 1)) (.v 3)) 1 (.a (.v 0) (.n 1)) (.v 1) rfl hk hdt hqd) hC (hr.le (lq3 [_, _, _, _] (.le 1 (.v 2) (.v 1)) (.le 1 (.v 3) (.v 2)) (.le 1 (.a (.v 0) (.n 1)) (.v 3)) 1 (.a (.v 0) (.n 5)) (.a (.v 1) (.n 4)) rfl hk hdt hqd)) (Nat.le_refl _) e1 e2 e3 fun H4 hch => ?_).cl
      refine Ex_nil (hN H4 _ _ rfl hch ?_)
      (refine Sub.cons (by rfl) ?_; refine Sub.cons (by rfl) ?_; refine Sub.cons (by rfl) ?_; exact Sub.nil _)
    · intro H3 t' hs hch
      have et := low_of_sub hs
      subst et
      have hcc := hc1.trans hch
      have hlvH : ∀ c ∈ fpL ts, H c ≠ none := hA.live
      have inT : ∀ c, c ∈ fp1 t → c ∈ fpL ts := fpL_mem hm
      have hfr : ∀ c, c ∉ fp1 t → H c ≠ none → H3 c = H1 c := fun c h1 h2 => hcc.out c h1 (hlv c h2)
      refine Ex_nil ⟨_, by (refine Sub.cons (by rfl) ?_; refine Sub.cons (by rfl) ?_; exact Sub.nil _), rfl, ?_, ?_, ?_, ?_⟩
      · rw [take_step ht, lowLH_append, List.append_assoc]
        refine AtL_append.mpr ⟨hAX.frame fun c hc => ?_, hcc.at', hAY.frame fun c hc => ?_⟩
        · rw [lowLH_fp] at hc
          refine hfr c (fun e => dxt c hc c (by simp [e]) rfl) (hlvH c ?_)
          rw [hsplit]; simp [hc]
        · refine hfr c (fun e => dty c e c hc rfl) (hlvH c ?_)
          rw [hsplit]; simp [hc]
      · rw [hfr a (fun e => hna (inT a e)) (by rw [ha]; simp)]
        exact ha1
      · intro c h1 h2
        rw [hfr c (fun e => h1 (inT c e)) h2]
        exact hout c h1 h2
      · exact fun c h2 => hcc.lv c (hlv c h2)
  · rintro ls' H1 ⟨rfl, hA1, ha1, hout, hlv⟩
    rw [List.length_map, List.take_length, List.drop_length, List.append_nil] at hA1
    refine Ex_nil (h H1 ⟨by rw [lowLH_refs]; exact ha1, hA1, by rw [lowLH_fp]; exact List.nodup_cons.mpr ⟨hna, hnd⟩, fun c hc => .inl (by rw [lowLH_fp] at hc; exact hc), fun c h1 h2 => hout c (fun e => h1 (List.mem_cons_of_mem _ e)) h2, hlv⟩)
theorem low_spec (k : Nat) : LowC b k := by
  induction k using Nat.strongRecOn with
  | ind k IH => exact low_step IH
end

/- NmAJ -/
section
variable {b : Bs} {A : Around} {H : AH} {Q : V → AH → Prop} {env : Env} {ls : Ls} {R : V → AH → Prop} {N : Ls → AH → Prop}
noncomputable def OpenC (b : Bs) (k : Nat) : Prop := ∀ {A : Around} {H : AH} {Q : V → AH → Prop} {a : Addr} {ts : List HT}, CxOk (cx b) → Rm A (2 * k + 8) → hdL ts ≤ k → lfP (erL ts) → (ptoks (erL ts)).length ≤ 100000 → H a = some (.list (refs ts)) → AtL H ts → (a :: fpL ts).Nodup →
  (∀ H' ts', erL ts' = openP (erL ts) → Chg H H' a ts ts' → Q .none H') → Cc (cx b) A (.ref 103) [.ref a] H Q
theorem open_step {k : Nat} (IH : ∀ k', k' < k → OpenC b k') : OpenC b k := by
  intro A H Q a ts hC r hk hlf hz ha hA hnd h
  obtain ⟨hna, hnd⟩ := List.nodup_cons.mp hnd
  have han : H a ≠ none := by rw [ha]; simp
  refine def_open_blocks hC r fun L he hr => ?_
  refine Ex_cons ?_
  refine E1_Assign he (by rfl) ?_
  refine Ev_List ?_
  refine evs_nil (.inr fun fa hfa => ?_)
  refine Ex_cons ?_
  refine E1_For he hr.handled (by rfl) ?_
  (refine Ev_p (by assumption) (by rfl) ?_)
  let I1 : Nat → Ls → AH → Prop := fun i ls' H' => ls' = ([("found", .ref fa), ("pieces", .ref a)] : Ls) ∧ ∃ fts, SL H H' a fa ts i fts ∧ erL fts = openP (erL (ts.take i))
  refine ⟨refs ts, I1, ⟨rfl, [], SL.start hA ha hfa, by simp [erL_q0, erL_q1, openP_q0, openP_q1]⟩, fun i ls' H' hI => .ref hI.2.choose_spec.1.pl, ?_, ?_⟩
  · rintro i w ls' H1 hi ⟨rfl, fts, S, hfe⟩
    obtain ⟨t, ht, rfl⟩ := refs_get hi
    have hm := List.mem_of_getElem? ht
    obtain ⟨hdr, hsp⟩ := split_at ht
    have hAt : At1 H1 t := by have := S.rat; rw [hdr] at this; exact this.1
    have ndt : (fp1 t).Nodup := by rw [hsp, List.nodup_append, List.nodup_append] at hnd; exact hnd.2.1.1
    have hdt := hdL_mem hm
    have hlt := lfP_mem hlf hm
    have htk := tk_mem hm
    have hne := open_takeP ht
    have hfl : (refs fts).length ≤ 100000 := by
      have h1 := refs_le fts
      rw [hfe] at h1
      have h2 := (openP_tk (erL (ts.take i))).1
      have h3 := tk_take ts i
      exact lq4 [_, _, _, _] (.le 1 (.v 1) (.n 100000)) (.le 1 (.v 0) (.v 2)) (.le 1 (.v 2) (.v 3)) (.le 1 (.v 3) (.v 1)) 1 (.v 0) (.n 100000) rfl hz h1 h2 h3
    refine Ex_cons ?_
    refine parts_loop (P := fun l l' => erL l' = openP (erL l)) (t := t) hC he hr (by rfl) (by rfl) hAt ndt ?_ ?_
    · intro q hq H3 N e1 e2 e3 hN
      have hqd := HT.subs_hd q hq
      have hqt := tk_subs q hq
      refine Ex_cons ?_
      refine E1_Expr ?_
      refine call_open_blocks hC he ?_
      (refine Evs_p (by assumption) (by rfl) ?_)
      refine (IH (hdL q.2) (lq3 [_, _, _, _] (.le 1 (.v 2) (.v 1)) (.le 1 (.v 3) (.v 2)) (.le 1 (.a (.v 0) (.n 1)) (.v 3)) 1 (.a (.v 0) (.n 1)) (.v 1) rfl hk hdt hqd) hC (hr.le (lq3 [_, _, _, _] (.le 2 (.v 2) (.v 1)) (.le 2 (.v 3) (.v 2)) (.le 2 (.a (.v 0) (.n 1)) (.v 3)) 1 (.a (.m 2 (.v 0)) (.n 8)) (.a (.m 2 (.v 1)) (.n 7)) rfl hk hdt hqd)) (Nat.le_refl _) (lf_subs hlt q hq) (lq3 [_, _, _] (.le 1 (.v 1) (.n 100000)) (.le 1 (.v 2) (.v 1)) (.le 1 (.v 0) (.v 2)) 1 (.v 0) (.n 100000) rfl hz htk hqt) e1 e2 e3 fun H4 l' hl' hch => ?_).cl
      refine Ex_nil (hN H4 l' _ hl' hch ?_)
      (refine Sub.cons (by rfl) ?_; refine Sub.cons (by rfl) ?_; refine Sub.cons (by rfl) ?_; exact Sub.nil _)
    intro H2 t' hs hc
    have hx' : t'.x = t.x := hs.x
    have hp' : t'.p = t.p := hs.p
    obtain ⟨hxi, op⟩ := hc.at'.inst
    have hfa2 : H2 fa = some (.list (refs fts)) := by
      rw [hc.out fa ?_ ?_]
      · exact S.fl
      · exact fun e => hA.live fa (fpL_mem hm fa e) hfa
      · rw [S.fl]; simp
    have hdf : ∀ {f f' : List HT}, erL f' = openP (erL f) → hdL f' ≤ hdL f := fun e => by
      rw [hdL_er, hdL_er, e]
      exact (openP_tk _).2
    have key : (code t'.p = 2 ∨ code t'.p = 3) → ∃ a1 f', t'.fv = .ref a1 ∧ (a1, f') ∈ t'.subs ∧ hdL f' ≤ k ∧ (ptoks (erL f')).length ≤ 100000 ∧ opn1 (er1 t) = (if namedP 0 (erL f') = false then lowP 0 (erL f') else [er1 t']) := by
      intro hc23
      cases hs with
      | leaf => rcases hc23 with e | e; exact absurd e hlt.1; exact absurd e hlt.2
      | @one x dx p a1 f f' h1 =>
        have e1 := hdf h1
        have e2 := (openP_tk (erL f)).1
        simp only [hd1_q0, hd1_q1, hd1_q2] at hdt
        simp only [er1_q0, er1_q1, er1_q2, ptok1_q0, ptok1_q1, ptok1_q2, List.length_append, List.length_cons] at htk
        refine ⟨a1, f', rfl, by simp [HT.subs_q0, HT.subs_q1, HT.subs_q2], (lq3 [_, _, _, _] (.le 1 (.v 2) (.v 1)) (.le 1 (.a (.v 3) (.n 1)) (.v 2)) (.le 1 (.v 0) (.v 3)) 1 (.v 0) (.v 1) rfl hk hdt e1), by rw [h1]; exact lq3 [_, _, _] (.le 1 (.v 1) (.n 100000)) (.le 1 (.v 0) (.v 2)) (.le 1 (.a (.a (.v 2) (.n 1)) (.a (.n 0) (.n 1))) (.v 1)) 1 (.v 0) (.n 100000) rfl hz e2 htk, ?_⟩
        simp only [er1_q0, er1_q1, er1_q2, opn1_q0, opn1_q1, opn1_q2]
        have hc23 : code p = 2 ∨ code p = 3 := hc23
        rw [h1]
        simp only [hc23, true_and]
      | @two x dx p a1 f f' a2 s s' h1 h2 =>
        have e1 := hdf h1
        have e2 := (openP_tk (erL f)).1
        simp only [hd1_q0, hd1_q1, hd1_q2] at hdt
        simp only [er1_q0, er1_q1, er1_q2, ptok1_q0, ptok1_q1, ptok1_q2, List.length_append, List.length_cons] at htk
        refine ⟨a1, f', rfl, by simp [HT.subs_q0, HT.subs_q1, HT.subs_q2], by lia, by rw [h1]; exact lq3 [_, _, _, _] (.le 1 (.v 1) (.n 100000)) (.le 1 (.v 0) (.v 2)) (.le 1 (.a (.a (.a (.v 2) (.n 1)) (.a (.v 3) (.n 1))) (.a (.n 0) (.n 1))) (.v 1)) 1 (.v 0) (.n 100000) rfl hz e2 htk, ?_⟩
        simp only [er1_q0, er1_q1, er1_q2, opn1_q0, opn1_q1, opn1_q2]
        have hc23 : code p = 2 ∨ code p = 3 := hc23
        rw [h1, h2]
        simp only [hc23, true_and]
    have hno : ¬ (code t'.p = 2 ∨ code t'.p = 3) → opn1 (er1 t) = [er1 t'] := by
      intro hc23
      cases hs with
      | leaf => rfl
      | @one x dx p a1 f f' h1 =>
        have hc23 : ¬ (code p = 2 ∨ code p = 3) := hc23
        simp only [er1_q0, er1_q1, er1_q2, opn1_q0, opn1_q1, opn1_q2, hc23, false_and, if_false, h1]
      | @two x dx p a1 f f' a2 s s' h1 h2 =>
        have hc23 : ¬ (code p = 2 ∨ code p = 3) := hc23
        simp only [er1_q0, er1_q1, er1_q2, opn1_q0, opn1_q1, opn1_q2, hc23, false_and, if_false, h1, h2]
    refine Ex_cons ?_
    refine E1_If ?_
    refine Tr.cons (Q := fun bb H3 => H3 = H2 ∧ ((bb = true ∧ ∃ a1 f', t'.fv = .ref a1 ∧ (a1, f') ∈ t'.subs ∧ hdL f' ≤ k ∧ (ptoks (erL f')).length ≤ 100000 ∧ opn1 (er1 t) = lowP 0 (erL f')) ∨ (bb = false ∧ opn1 (er1 t) = [er1 t']))) ?_ ?_
    · refine Tr_and ?_
      refine Tr_Compare ?_
      refine Ev_code (p := t'.p) (F := t'.fv) (S := t'.sv) hC (hr.le (lq0 [_] 1 (.a (.n 0) (.n 2)) (.a (.m 2 (.v 0)) (.n 7)) rfl ) : Rm _ (0 + 2)) op ?_
      (refine Ev_p (by assumption) (by rfl) ?_)
      refine ⟨t'.x, t'.dx, by rw [hx'], hxi, ?_⟩
      refine Ev_Tuple ?_
      refine evs_cons (ev_BLOCK hC he ?_)
      refine evs_cons (ev_LOOP hC he ?_)
      refine evs_nil ?_
      refine Bo_in_pl (l := [2, 3]) hr ?_
      (refine Th_bool ?_)
      refine ite_both (fun hb => ?_) (fun hb => ?_)
      · simp only [decide_eq_true_eq, List.mem_cons, List.not_mem_nil, or_false] at hb
        obtain ⟨a1, f', k1, k2, k3, k4, k5⟩ := key hb
        obtain ⟨s1, s2⟩ := hc.at'.subs (a1, f') k2
        refine Tr_and ?_
        refine Tr_not ?_
        refine Tr_val ?_
        refine call_is_named hC he ?_
        refine evs_cons ?_
        refine Ev_first (p := t'.p) (F := t'.fv) (S := t'.sv) hC t'.fvOk ?_
        (refine Ev_p (by assumption) (by rfl) ?_)
        refine ⟨t'.x, t'.dx, by rw [hx'], hxi, ?_⟩
        rw [k1]
        (refine Evs_p (by assumption) (by rfl) ?_)
        refine (named_spec k hC (hr.le (lq0 [_] 1 (.a (.v 0) (.n 4)) (.a (.m 2 (.v 0)) (.n 7)) rfl )) k3 s1 s2 ?_).cl
        (refine Th_bool ?_)
        refine ite_both (fun hb2 => ?_) (fun hb2 => ?_)
        · simp only [Bool.not_eq_true'] at hb2
          rw [if_pos hb2] at k5
          exact Tr_and_nil ⟨rfl, .inl ⟨rfl, a1, f', rfl, k2, k3, k4, k5⟩⟩
        · simp only [Bool.not_eq_false'] at hb2
          rw [if_neg (by rw [hb2]; decide)] at k5
          exact ⟨rfl, .inr ⟨rfl, k5⟩⟩
      · simp only [decide_eq_false_iff_not, List.mem_cons, List.not_mem_nil, or_false] at hb
        exact ⟨rfl, .inr ⟨rfl, hno hb⟩⟩
    rintro bb H3 ⟨rfl, hcase⟩
    rcases hcase with ⟨rfl, a1, f', k1, k2, k3, k4, k5⟩ | ⟨rfl, k5⟩
    · refine ite_t rfl ?_
      obtain ⟨s1, s2⟩ := hc.at'.subs (a1, f') k2
      have ndx : (a1 :: fpL f').Nodup ∧ ∀ c ∈ a1 :: fpL f', c ∈ fp1 t' := by
        have nd' := hc.nd
        cases t' with
        | leaf => cases k2
        | one x dx p a f =>
          simp only [HT.subs_q0, HT.subs_q1, HT.subs_q2, List.mem_singleton, Prod.mk.injEq] at k2
          obtain ⟨rfl, rfl⟩ := k2
          exact ⟨(List.nodup_cons.mp nd').2, fun c hc => by simp only [fp1_q0, fp1_q1, fp1_q2]; exact List.mem_cons_of_mem _ hc⟩
        | two x dx p a f a2 s =>
          simp only [HT.fv_q0, HT.fv_q1, HT.fv_q2, V.ref.injEq] at k1
          subst k1
          simp only [fp1_q0, fp1_q1, fp1_q2, List.nodup_cons, List.mem_cons, List.mem_append, not_or, List.nodup_append] at nd' ⊢
          simp only [HT.subs_q0, HT.subs_q1, HT.subs_q2, List.mem_cons, Prod.mk.injEq, List.not_mem_nil, or_false, true_and] at k2
          rcases k2 with rfl | ⟨e, _⟩
          · refine ⟨⟨nd'.2.1.2.1, nd'.2.2.2.1⟩, fun c hc => ?_⟩
            rcases hc with hc | hc
            · exact .inr (.inl hc)
            · exact .inr (.inr (.inr (.inl hc)))
          · exact absurd e nd'.2.1.1
      refine Ex_cons ?_
      refine E1_Expr ?_
      refine call_lower_labels hC he ?_
      refine evs_cons ?_
      refine Ev_first (p := t'.p) (F := t'.fv) (S := t'.sv) hC t'.fvOk ?_
      (refine Ev_p (by assumption) (by rfl) ?_)
      refine ⟨t'.x, t'.dx, by rw [hx'], hxi, ?_⟩
      rw [k1]
      (refine Evs_p (by assumption) (by rfl) ?_)
      refine (low_spec k hC (hr.le (lq0 [_] 1 (.a (.v 0) (.n 5)) (.a (.m 2 (.v 0)) (.n 7)) rfl )) k3 s1 s2 ndx.1 fun H4 hch => ?_).cl
      have hxl : H4 t'.x = some (.inst t'.dx (fsOf t'.p t'.fv t'.sv)) := by
        rw [hch.out t'.x ?_ (by rw [hxi]; simp)]
        · exact hxi
        · have nd' := hc.nd
          cases t' with
          | leaf => cases k2
          | one x dx p a f =>
            simp only [HT.subs_q0, HT.subs_q1, HT.subs_q2, List.mem_singleton, Prod.mk.injEq] at k2
            obtain ⟨rfl, rfl⟩ := k2
            exact (List.nodup_cons.mp nd').1
          | two x dx p a f a2 s =>
            simp only [HT.subs_q0, HT.subs_q1, HT.subs_q2, List.mem_cons, Prod.mk.injEq, List.not_mem_nil, or_false] at k2
            simp only [fp1_q0, fp1_q1, fp1_q2, List.nodup_cons, List.mem_cons, List.mem_append, not_or] at nd'
            rcases k2 with ⟨rfl, rfl⟩ | ⟨rfl, rfl⟩
            · simp only [HT.x_q0, HT.x_q1, HT.x_q2, List.mem_cons, not_or]
              exact ⟨nd'.1.1, nd'.1.2.2.1⟩
            · simp only [HT.x_q0, HT.x_q1, HT.x_q2, List.mem_cons, not_or]
              exact ⟨nd'.1.2.1, nd'.1.2.2.2⟩
      have hfa4 : H4 fa = some (.list (refs fts)) := by
        rw [hch.out fa ?_ (by rw [hfa2]; simp)]
        · exact hfa2
        · intro e
          rcases hc.fp fa (ndx.2 fa e) with h1 | h1
          · exact hA.live fa (fpL_mem hm fa h1) hfa
          · rw [S.fl] at h1; cases h1
      refine Ex_cons ?_
      refine E1_Expr ?_
      refine Ev_extend ?_
      (refine Ev_p (by assumption) (by rfl) ?_)
      refine ⟨fa, _, rfl, hfa4, ?_⟩
      refine Ev_first (p := t'.p) (F := t'.fv) (S := t'.sv) hC t'.fvOk ?_
      (refine Ev_p (by assumption) (by rfl) ?_)
      refine ⟨t'.x, t'.dx, by rw [hx'], hxl, ?_⟩
      rw [k1]
      have hfl2 := refs_le f'
      refine ⟨refs fts, refs (lowLH 0 f'), hfa4, .m hch.list, by rw [lowLH_refs, z24]; exact lq3 [_, _, _] (.le 1 (.v 0) (.n 100000)) (.le 1 (.v 2) (.n 100000)) (.le 1 (.v 1) (.v 2)) 1 (.a (.v 0) (.v 1)) (.n 16777216) rfl hfl k4 hfl2, ?_⟩
      have er : refs fts ++ refs (lowLH 0 f') = refs (fts ++ lowLH 0 f') := (List.map_append (f := fun t : HT => V.ref t.x)).symm
      rw [er]
      refine Ex_nil (Ex_nil ⟨_, by (refine Sub.cons (by rfl) ?_; refine Sub.cons (by rfl) ?_; exact Sub.nil _), rfl, fts ++ lowLH 0 f', S.add hA hna han hnd hfa ht ⟨hch.at', (List.nodup_cons.mp hch.nd).2, fun c hc1 => ?_, fun c h1 h2 => ?_, fun c h => hch.lv c (hc.lv c h)⟩, ?_⟩)
      · rcases hch.fp c hc1 with h1 | h1
        · exact hc.fp c (ndx.2 c (List.mem_cons_of_mem _ h1))
        · exact .inr (Classical.byContradiction fun e => hc.lv c e h1)
      · have e1 := hc.out c h1 h2
        rw [hch.out c ?_ (by rw [e1]; exact h2), e1]
        intro e
        rcases hc.fp c (ndx.2 c e) with h3 | h3
        · exact h1 h3
        · exact h2 h3
      · rw [erL_append, hfe, hne, k5, lowLH_er]
    · refine ite_f rfl ?_
      refine Ex_cons ?_
      refine E1_Expr ?_
      refine Ev_append ?_
      (refine Ev_p (by assumption) (by rfl) ?_)
      refine ⟨fa, _, rfl, hfa2, ?_⟩
      (refine Ev_p (by assumption) (by rfl) ?_)
      refine ⟨_, hfa2, by rw [z24]; exact lq1 [_] (.le 1 (.v 0) (.n 100000)) 1 (.v 0) (.n 16777216) rfl hfl, ?_⟩
      have er : refs fts ++ [V.ref t.x] = refs (fts ++ [t']) := by
        rw [refs, refs, List.map_append, List.map_cons, List.map_nil, hx']
      rw [er]
      refine Ex_nil (Ex_nil ⟨_, by (refine Sub.cons (by rfl) ?_; refine Sub.cons (by rfl) ?_; exact Sub.nil _), rfl, fts ++ [t'], S.add hA hna han hnd hfa ht hc.two, ?_⟩)
      rw [erL_append, hfe, hne, k5]
      rfl
  · rintro ls' H1 ⟨rfl, fts, S, hfe⟩
    rw [List.length_map] at S hfe
    rw [List.take_length] at hfe
    refine Ex_cons ?_
    refine E1_SetAll ?_
    (refine Ev_p (by assumption) (by rfl) ?_; refine Ev_p (by assumption) (by rfl) ?_)
    have hfl : (refs fts).length ≤ 100000 := by
      have h1 := refs_le fts
      rw [hfe] at h1
      have h2 := (openP_tk (erL ts)).1
      exact lq3 [_, _, _] (.le 1 (.v 1) (.n 100000)) (.le 1 (.v 0) (.v 2)) (.le 1 (.v 2) (.v 1)) 1 (.v 0) (.n 100000) rfl hz h1 h2
    have hpl := refs_le ts
    refine ⟨a, refs ts, refs fts, rfl, S.pl, .m S.fl, fun e => ?_, by rw [z24]; exact lq3 [_, _, _] (.le 1 (.v 2) (.n 100000)) (.le 1 (.v 1) (.n 100000)) (.le 1 (.v 0) (.v 2)) 1 (.a (.v 0) (.v 1)) (.n 16777216) rfl hz hfl hpl, ?_⟩
    · cases e
      exact han hfa
    · exact Ex_nil (h _ fts hfe (S.done hna han))
theorem open_spec (k : Nat) : OpenC b k := by
  induction k using Nat.strongRecOn with
  | ind k IH => exact open_step IH
end

/- NmAK -/
/-- what becomes of a piece whose lists were cut -/
noncomputable def cutN : PT → List PT
  | .leaf p => if code p ≠ 1 then [.leaf p] else []
  | .one p f => if code p = 4 ∧ f = [] then [.leaf [26]] else if code p ≠ 1 ∧ f ≠ [] then [.one p f] else []
  | .two p f s => if code p = 4 ∧ f = [] then [.leaf [69], .one p s] else if code p ≠ 1 ∧ f ≠ [] then [.two p f s] else []
theorem new_keep {H : AH} {x dx : Addr} {o o' : AO} (h1 : H x = none) (h2 : H dx = none) : ∀ c, H c ≠ none → ((H.set dx o).set x o') c = H c := fun c h => by
  have c1 : c ≠ x := fun e => h (e ▸ h1)
  have c2 : c ≠ dx := fun e => h (e ▸ h2)
  rw [AH.set_ne _ _ c1, AH.set_ne _ _ c2]
section
variable {b : Bs} {A : Around} {H : AH} {Q : V → AH → Prop} {env : Env} {ls : Ls} {R : V → AH → Prop} {N : Ls → AH → Prop}
noncomputable def CutC (b : Bs) (k : Nat) : Prop := ∀ {A : Around} {H : AH} {Q : V → AH → Prop} {a : Addr} {ts : List HT}, CxOk (cx b) → Rm A (k + 8) → hdL ts ≤ k → (ptoks (erL ts)).length ≤ 100000 → H a = some (.list (refs ts)) → AtL H ts → (a :: fpL ts).Nodup →
  (∀ H' ts', erL ts' = cutP (erL ts) → Chg H H' a ts ts' → Q .none H') → Cc (cx b) A (.ref 96) [.ref a] H Q
theorem erL_nil {l : List HT} : erL l = [] ↔ l = [] := by cases l <;> simp [erL_q0, erL_q1]
theorem refs_nil {l : List HT} : (refs l).isEmpty = true ↔ l = [] := by cases l <;> simp
theorem cut_step {k : Nat} (IH : ∀ k', k' < k → CutC b k') : CutC b k := by
  intro A H Q a ts hC r hk hz ha hA hnd h
  obtain ⟨hna, hnd⟩ := List.nodup_cons.mp hnd
  have han : H a ≠ none := by rw [ha]; simp
  refine def_cut_empty hC r fun L he hr => ?_
  refine Ex_cons ?_
  refine E1_Assign he (by rfl) ?_
  refine Ev_List ?_
  refine evs_nil (.inr fun fa hfa => ?_)
  refine Ex_cons ?_
  refine E1_For he hr.handled (by rfl) ?_
  (refine Ev_p (by assumption) (by rfl) ?_)
  let I1 : Nat → Ls → AH → Prop := fun i ls' H' => ls' = ([("found", .ref fa), ("pieces", .ref a)] : Ls) ∧ ∃ fts, SL H H' a fa ts i fts ∧ erL fts = cutP (erL (ts.take i))
  refine ⟨refs ts, I1, ⟨rfl, [], SL.start hA ha hfa, by simp [erL_q0, erL_q1, cutP_q0, cutP_q1]⟩, fun i ls' H' hI => .ref hI.2.choose_spec.1.pl, ?_, ?_⟩
  · rintro i w ls' H1 hi ⟨rfl, fts, S, hfe⟩
    obtain ⟨t, ht, rfl⟩ := refs_get hi
    have hm := List.mem_of_getElem? ht
    obtain ⟨hdr, hsp⟩ := split_at ht
    have hAt : At1 H1 t := by have := S.rat; rw [hdr] at this; exact this.1
    have ndt : (fp1 t).Nodup := by rw [hsp, List.nodup_append, List.nodup_append] at hnd; exact hnd.2.1.1
    have hdt := hdL_mem hm
    have htk := tk_mem hm
    have hne := cut_takeP ht
    have hfl : (refs fts).length ≤ 100000 := by
      have h1 := refs_le fts
      rw [hfe] at h1
      have h2 := (cutP_tk (erL (ts.take i))).1
      have h3 := tk_take ts i
      exact lq4 [_, _, _, _] (.le 1 (.v 1) (.n 100000)) (.le 1 (.v 0) (.v 2)) (.le 1 (.v 2) (.v 3)) (.le 1 (.v 3) (.v 1)) 1 (.v 0) (.n 100000) rfl hz h1 h2 h3
    refine Ex_cons ?_
    refine parts_loop (P := fun l l' => erL l' = cutP (erL l)) (t := t) hC he hr (by rfl) (by rfl) hAt ndt ?_ ?_
    · intro q hq H3 N e1 e2 e3 hN
      have hqd := HT.subs_hd q hq
      have hqt := tk_subs q hq
      refine Ex_cons ?_
      refine E1_Expr ?_
      refine call_cut_empty hC he ?_
      (refine Evs_p (by assumption) (by rfl) ?_)
      refine (IH (hdL q.2) (lq3 [_, _, _, _] (.le 1 (.v 2) (.v 1)) (.le 1 (.v 3) (.v 2)) (.le 1 (.a (.v 0) (.n 1)) (.v 3)) 1 (.a (.v 0) (.n 1)) (.v 1) rfl hk hdt hqd) hC (hr.le (lq3 [_, _, _, _] (.le 1 (.v 2) (.v 1)) (.le 1 (.v 3) (.v 2)) (.le 1 (.a (.v 0) (.n 1)) (.v 3)) 1 (.a (.v 0) (.n 8)) (.a (.v 1) (.n 7)) rfl hk hdt hqd)) (Nat.le_refl _) (lq3 [_, _, _] (.le 1 (.v 1) (.n 100000)) (.le 1 (.v 2) (.v 1)) (.le 1 (.v 0) (.v 2)) 1 (.v 0) (.n 100000) rfl hz htk hqt) e1 e2 e3 fun H4 l' hl' hch => ?_).cl
      refine Ex_nil (hN H4 l' _ hl' hch ?_)
      (refine Sub.cons (by rfl) ?_; refine Sub.cons (by rfl) ?_; refine Sub.cons (by rfl) ?_; exact Sub.nil _)
    intro H2 t' hs hc
    have hx' : t'.x = t.x := hs.x
    obtain ⟨hxi, op⟩ := hc.at'.inst
    refine Ex_cons ?_
    let I2 : Ls → AH → Prop := fun ls2 H3 => ls2 = ([("piece", .ref t.x), ("found", .ref fa), ("pieces", .ref a)] : Ls) ∧ ∃ t2, Chg1 H1 H3 t t2 ∧ t2.x = t.x ∧ cut1 (er1 t) = cutN (er1 t2)
    refine E1.mono (R := Q) (N := I2) ?_ (fun _ _ h => h) ?_
    · refine E1_If ?_
      refine Tr_Compare ?_
      refine Ev_second (p := t'.p) (F := t'.fv) (S := t'.sv) hC t'.svOk ?_
      (refine Ev_p (by assumption) (by rfl) ?_)
      refine ⟨t'.x, t'.dx, by rw [hx'], hxi, ?_⟩
      (refine Ev_List ?_; refine evs_nil ?_)
      refine .inl ?_
      cases hs with
      | leaf =>
        refine Bo_eq_none_nil hr .f ?_
        (refine Th_bool ?_)
        refine ite_f rfl (Ex_nil ⟨rfl, _, hc, rfl, rfl⟩)
      | @one x dx p a1 f f' h1 =>
        refine Bo_eq_none_nil hr .f ?_
        (refine Th_bool ?_)
        refine ite_f rfl (Ex_nil ⟨rfl, _, hc, rfl, ?_⟩)
        simp only [er1_q0, er1_q1, er1_q2, cut1_q0, cut1_q1, cut1_q2, cutN, h1]
      | @two x dx p a1 f f' a2 s s' h1 h2 =>
        refine Bo_eq_nil hr (.m hc.at'.2.2.1) .f ?_
        (refine Th_bool ?_)
        refine ite_both (fun hb => ?_) (fun hb => ?_)
        · have hs0 : s' = [] := refs_nil.mp hb
          subst hs0
          have hcs : cutP (erL s) = [] := by rw [← h2]; rfl
          refine Ex_cons ?_
          refine E1_SetAttr hC pieceOk (by decide) ?_
          (refine Ev_p (by assumption) (by rfl) ?_; refine Ev_p (by assumption) (by rfl) ?_)
          refine ⟨x, dx, _, rfl, hxi, by simp, ?_⟩
          have hco := hc.at'
          have hcn := hc.nd
          refine Ex_nil ⟨rfl, .one x dx p a1 f', hc.trans ⟨⟨⟨AH.set_self _ _ _, op⟩, ?_, ?_⟩, ?_, ?_, ?_, ?_⟩, rfl, ?_⟩
          · simp only [fp1_q0, fp1_q1, fp1_q2, List.nodup_cons, List.mem_cons, not_or] at hcn
            rw [AH.set_ne _ _ (Ne.symm hcn.1.1)]
            exact hco.2.1.1
          · simp only [fp1_q0, fp1_q1, fp1_q2, List.nodup_cons, List.mem_cons, List.mem_append, not_or] at hcn
            exact hco.2.1.2.frame fun c hc1 => AH.set_ne _ _ fun e => hcn.1.2.2.1 (by rw [← e]; exact hc1)
          · simp only [fp1_q0, fp1_q1, fp1_q2, fpL_q0, fpL_q1, List.append_nil, List.nodup_cons, List.mem_cons, List.mem_append, not_or] at hcn ⊢
            exact ⟨⟨hcn.1.1, hcn.1.2.2⟩, hcn.2.1.2, hcn.2.2.2⟩
          · intro c hc1
            refine .inl ?_
            simp only [fp1_q0, fp1_q1, fp1_q2, fpL_q0, fpL_q1, List.append_nil, List.mem_cons] at hc1 ⊢
            rcases hc1 with e | e | e
            · exact .inl e
            · exact .inr (.inl e)
            · exact .inr (.inr (.inr e))
          · intro c hc1 _
            refine AH.set_ne _ _ fun e => hc1 ?_
            rw [e]
            simp [fp1_q0, fp1_q1, fp1_q2]
          · intro c hc1
            by_cases e : c = x
            · rw [e, AH.set_self]; simp
            · rw [AH.set_ne _ _ e]; exact hc1
          · simp only [er1_q0, er1_q1, er1_q2, cut1_q0, cut1_q1, cut1_q2, cutN, h1, hcs, if_true]
        · have hs0 : s' ≠ [] := fun e => by rw [refs_nil.mpr e] at hb; cases hb
          have hcs : cutP (erL s) ≠ [] := fun e => hs0 (erL_nil.mp (h2.trans e))
          refine Ex_nil ⟨rfl, _, hc, rfl, ?_⟩
          simp only [er1_q0, er1_q1, er1_q2, cut1_q0, cut1_q1, cut1_q2, cutN, h1, h2, hcs, if_false]
    rintro ls2 H3 ⟨rfl, t2, hc2, hx2, hcut⟩
    clear hc hxi op hx' hs
    obtain ⟨hxi, op⟩ := hc2.at'.inst
    have hfa3 : H3 fa = some (.list (refs fts)) := by
      rw [hc2.out fa ?_ ?_]
      · exact S.fl
      · exact fun e => hA.live fa (fpL_mem hm fa e) hfa
      · rw [S.fl]; simp
    rw [hcut] at hne
    have newCh : ∀ {x dx : Addr} {g : List HT} {H4 : AH}, (∀ c, H3 c ≠ none → H4 c = H3 c) → AtL H4 g → (fpL g).Nodup → (∀ c ∈ fpL g, c ∈ fp1 t2 ∨ H3 c = none) → Ch2 H1 H4 t g := by
      intro x dx g H4 hk hat hnd hfp
      refine ⟨hat, hnd, fun c hc => ?_, fun c h1 h2 => ?_, fun c h => ?_⟩
      · rcases hfp c hc with e | e
        · exact hc2.fp c e
        · exact .inr (Classical.byContradiction fun n => hc2.lv c n e)
      · rw [hk c (hc2.lv c h2), hc2.out c h1 h2]
      · rw [hk c (hc2.lv c h)]
        exact hc2.lv c h
    have kFa : ∀ {H4 : AH}, (∀ c, H3 c ≠ none → H4 c = H3 c) → H4 fa = some (.list (refs fts)) := fun hk => by rw [hk fa (by rw [hfa3]; simp)]; exact hfa3
    refine Ex_cons ?_
    refine E1_If ?_
    let I3 : Bool → AH → Prop := fun bb H4 => H4 = H3 ∧ ((bb = true ∧ code t2.p = 4 ∧ ∃ a1, t2.fv = .ref a1 ∧ (a1, []) ∈ t2.subs) ∨ (bb = false ∧ ∀ a1 f, t2.fv = .ref a1 → (a1, f) ∈ t2.subs → ¬ (code t2.p = 4 ∧ f = [])))
    refine Tr.cons (Q := I3) ?_ ?_
    · refine Tr_and ?_
      refine Tr_Compare ?_
      refine Ev_code (p := t2.p) (F := t2.fv) (S := t2.sv) hC (hr.le (lq0 [_] 1 (.a (.n 0) (.n 2)) (.a (.v 0) (.n 7)) rfl ) : Rm _ (0 + 2)) op ?_
      (refine Ev_p (by assumption) (by rfl) ?_)
      refine ⟨t2.x, t2.dx, by rw [hx2], hxi, ?_⟩
      refine ev_IF hC he ?_
      (refine Bo_eq_int ?_; refine Th_bool ?_)
      refine ite_both (fun hb => ?_) (fun hb => ?_)
      · simp only [beq_iff_eq] at hb
        refine Tr_and ?_
        refine Tr_Compare ?_
        refine Ev_first (p := t2.p) (F := t2.fv) (S := t2.sv) hC t2.fvOk ?_
        (refine Ev_p (by assumption) (by rfl) ?_)
        refine ⟨t2.x, t2.dx, by rw [hx2], hxi, ?_⟩
        (refine Ev_List ?_; refine evs_nil ?_)
        refine .inl ?_
        have hat := hc2.at'
        have hcn := hc2.nd
        cases t2 with
        | leaf x dx p =>
          refine Bo_eq_none_nil hr .f ?_
          (refine Th_bool ?_)
          refine ite_f rfl ⟨rfl, .inr ⟨rfl, fun a1 f e => by cases e⟩⟩
        | one x dx p a1 f =>
          refine Bo_eq_nil hr (.m hat.2.1) .f ?_
          (refine Th_bool ?_)
          refine ite_both (fun hb2 => ?_) (fun hb2 => ?_)
          · have hf := refs_nil.mp hb2
            subst hf
            exact Tr_and_nil ⟨rfl, .inl ⟨rfl, hb, a1, rfl, by simp [HT.subs_q0, HT.subs_q1, HT.subs_q2]⟩⟩
          · refine ⟨rfl, .inr ⟨rfl, fun a2 f2 e1 e2 e3 => ?_⟩⟩
            simp only [HT.subs_q0, HT.subs_q1, HT.subs_q2, List.mem_singleton, Prod.mk.injEq] at e2
            obtain ⟨rfl, rfl⟩ := e2
            rw [refs_nil.mpr e3.2] at hb2
            cases hb2
        | two x dx p a1 f a2 s =>
          refine Bo_eq_nil hr (.m hat.2.1.1) .f ?_
          (refine Th_bool ?_)
          refine ite_both (fun hb2 => ?_) (fun hb2 => ?_)
          · have hf := refs_nil.mp hb2
            subst hf
            exact Tr_and_nil ⟨rfl, .inl ⟨rfl, hb, a1, rfl, by simp [HT.subs_q0, HT.subs_q1, HT.subs_q2]⟩⟩
          · refine ⟨rfl, .inr ⟨rfl, fun a3 f2 e1 e2 e3 => ?_⟩⟩
            simp only [HT.fv_q0, HT.fv_q1, HT.fv_q2, V.ref.injEq] at e1
            subst e1
            simp only [HT.subs_q0, HT.subs_q1, HT.subs_q2, List.mem_cons, Prod.mk.injEq, List.not_mem_nil, or_false, true_and] at e2
            simp only [fp1_q0, fp1_q1, fp1_q2, List.nodup_cons, List.mem_cons, not_or] at hcn
            rcases e2 with e2 | ⟨e2, _⟩
            · subst e2
              rw [refs_nil.mpr e3.2] at hb2
              cases hb2
            · exact hcn.2.1.1 e2
      · simp only [beq_eq_false_iff_ne] at hb
        exact ⟨rfl, .inr ⟨rfl, fun a1 f e1 e2 e3 => hb e3.1⟩⟩
    rintro bb H4 ⟨rfl, hbb⟩
    rcases hbb with ⟨rfl, h4, a1, k1, k2⟩ | ⟨rfl, hno⟩
    · refine ite_t rfl ?_
      cases t2 with
      | leaf x dx p => cases k1
      | one x dx p a2 f =>
        simp only [HT.subs_q0, HT.subs_q1, HT.subs_q2, List.mem_singleton, Prod.mk.injEq] at k2
        obtain ⟨rfl, rfl⟩ := k2
        have h4' : code p = 4 := h4
        simp only [er1_q0, er1_q1, er1_q2, cutN, erL_q0, erL_q1, h4', and_self, if_true] at hne
        refine Ex_cons ?_
        refine E1_If ?_
        refine Tr_Compare ?_
        refine Ev_second (p := p) (F := .ref a1) (S := .none) hC (.inl rfl) ?_
        (refine Ev_p (by assumption) (by rfl) ?_)
        refine ⟨x, dx, by rw [← hx2]; rfl, hxi, ?_⟩
        (refine Ev_p (by assumption) (by rfl) ?_; refine Bo_is_none ?_; refine Th_bool ?_)
        refine ite_t rfl ?_
        (refine Ex_cons ?_; refine E1_Expr ?_)
        refine Ev_append ?_
        (refine Ev_p (by assumption) (by rfl) ?_)
        refine ⟨fa, _, rfl, hfa3, ?_⟩
        refine Ev_Call_Piece hC pieceOk he (by rfl) ?_
        refine evs_cons ?_
        refine Ev_Tuple (evs_cons (ev_DROP hC he (evs_nil ?_)))
        refine make_spec1 (p := [26]) hC (hr.le (lq0 [_] 1 (.a (.n 0) (.n 2)) (.a (.v 0) (.n 7)) rfl ) : Rm _ (0 + 2)) fun y dy hy hdy ny => ?_
        have hk := new_keep (o := .attrs) (o' := .inst dy (fsOf [26] .none .none)) hy hdy
        refine ⟨_, kFa hk, by rw [z24]; exact lq1 [_] (.le 1 (.v 0) (.n 100000)) 1 (.v 0) (.n 16777216) rfl hfl, ?_⟩
        have er : refs fts ++ [V.ref y] = refs (fts ++ [.leaf y dy [26]]) := by
          rw [refs, refs, List.map_append]; rfl
        rw [er]
        refine Ex_nil (Ex_nil (Ex_nil ⟨_, by (refine Sub.cons (by rfl) ?_; refine Sub.cons (by rfl) ?_; exact Sub.nil _), rfl, fts ++ [.leaf y dy [26]], S.add hA hna han hnd hfa ht (newCh (x := y) (dx := dy) (g := [.leaf y dy [26]]) hk ⟨⟨AH.set_self _ _ _, by decide, by simp⟩, trivial⟩ (by simp [fpL_q0, fpL_q1, fp1_q0, fp1_q1, fp1_q2]) (fun c hc => .inr ?_)), ?_⟩))
        · simp only [fpL_q0, fpL_q1, fp1_q0, fp1_q1, fp1_q2, List.append_nil, List.mem_singleton] at hc
          rw [hc]; exact hy
        · rw [erL_append, hfe, hne]
          rfl
      | two x dx p a2 f a3 s =>
        have hcn := hc2.nd
        simp only [HT.fv_q0, HT.fv_q1, HT.fv_q2, V.ref.injEq] at k1
        subst k1
        simp only [fp1_q0, fp1_q1, fp1_q2, List.nodup_cons, List.mem_cons, List.mem_append, not_or] at hcn
        simp only [HT.subs_q0, HT.subs_q1, HT.subs_q2, List.mem_cons, Prod.mk.injEq, List.not_mem_nil, or_false, true_and] at k2
        have hf0 : f = [] := by
          rcases k2 with e | ⟨e, _⟩
          · exact e.symm
          · exact absurd e hcn.2.1.1
        subst hf0
        have h4' : code p = 4 := h4
        simp only [er1_q0, er1_q1, er1_q2, cutN, erL_q0, erL_q1, h4', and_self, if_true] at hne
        obtain ⟨s1, s2⟩ := hc2.at'.subs (a3, s) (by simp [HT.subs_q0, HT.subs_q1, HT.subs_q2])
        refine Ex_cons ?_
        refine E1_If ?_
        refine Tr_Compare ?_
        refine Ev_second (p := p) (F := .ref a2) (S := .ref a3) hC (.inr ⟨_, rfl⟩) ?_
        (refine Ev_p (by assumption) (by rfl) ?_)
        refine ⟨x, dx, by rw [← hx2]; rfl, hxi, ?_⟩
        (refine Ev_p (by assumption) (by rfl) ?_; refine Bo_is_none ?_; refine Th_bool ?_)
        refine ite_f rfl ?_
        (refine Ex_cons ?_; refine E1_Expr ?_)
        refine Ev_extend ?_
        (refine Ev_p (by assumption) (by rfl) ?_)
        refine ⟨fa, _, rfl, hfa3, ?_⟩
        refine Ev_List ?_
        refine evs_cons ?_
        refine Ev_Call_Piece hC pieceOk he (by rfl) ?_
        refine evs_cons ?_
        refine Ev_Tuple (evs_cons (ev_I32_EQZ hC he (evs_nil ?_)))
        refine make_spec1 (p := [69]) hC (hr.le (lq0 [_] 1 (.a (.n 0) (.n 2)) (.a (.v 0) (.n 7)) rfl ) : Rm _ (0 + 2)) fun y dy hy hdy ny => ?_
        have hk := new_keep (o := .attrs) (o' := .inst dy (fsOf [69] .none .none)) hy hdy
        have hyy : ((H4.set dy .attrs).set y (.inst dy (fsOf [69] .none .none))) y = some (.inst dy (fsOf [69] .none .none)) := AH.set_self _ _ _
        generalize (H4.set dy .attrs).set y (.inst dy (fsOf [69] .none .none)) = H5 at hk hyy ⊢
        have hxl : H5 x = some (.inst dx (fsOf p (.ref a2) (.ref a3))) := by rw [hk x (by rw [show H4 x = _ from hxi]; simp)]; exact hxi
        refine evs_cons ?_
        refine Ev_Call_Piece hC pieceOk he (by rfl) ?_
        refine evs_cons ?_
        refine Ev_plain (p := p) (F := .ref a2) (S := .ref a3) hC ?_
        (refine Ev_p (by assumption) (by rfl) ?_)
        refine ⟨x, dx, by rw [← hx2]; rfl, hxl, ?_⟩
        refine evs_cons ?_
        refine Ev_second (p := p) (F := .ref a2) (S := .ref a3) hC (.inr ⟨_, rfl⟩) ?_
        (refine Ev_p (by assumption) (by rfl) ?_)
        refine ⟨x, dx, by rw [← hx2]; rfl, hxl, ?_⟩
        refine evs_nil ?_
        refine make_spec2 (p := p) (F := .ref a3) hC (hr.le (lq0 [_] 1 (.a (.n 0) (.n 2)) (.a (.v 0) (.n 7)) rfl ) : Rm _ (0 + 2)) fun z dz hz2 hdz nz => ?_
        have hk2 := new_keep (o := .attrs) (o' := .inst dz (fsOf p (.ref a3) .none)) hz2 hdz
        have hk3 : ∀ c, H4 c ≠ none → ((H5.set dz .attrs).set z (.inst dz (fsOf p (.ref a3) .none))) c = H4 c := fun c hc => by rw [hk2 c (by rw [hk c hc]; exact hc), hk c hc]
        have hzz : ((H5.set dz .attrs).set z (.inst dz (fsOf p (.ref a3) .none))) z = some (.inst dz (fsOf p (.ref a3) .none)) := AH.set_self _ _ _
        have hyz : ((H5.set dz .attrs).set z (.inst dz (fsOf p (.ref a3) .none))) y = some (.inst dy (fsOf [69] .none .none)) := by rw [hk2 y (by rw [hyy]; simp)]; exact hyy
        have nyz : y ≠ z := fun e => by rw [← e, hyy] at hz2; cases hz2
        have hz4 : H4 z = none := Classical.byContradiction fun n => by
          have := hk z n
          rw [hz2] at this
          exact n this.symm
        generalize (H5.set dz .attrs).set z (.inst dz (fsOf p (.ref a3) .none)) = H6 at hk3 hzz hyz ⊢
        refine evs_nil (.inl ?_)
        refine ⟨refs fts, [.ref y, .ref z], kFa hk3, .f, by rw [z24]; simp only [List.length_cons, List.length_nil]; exact lq1 [_] (.le 1 (.v 0) (.n 100000)) 1 (.a (.v 0) (.a (.a (.n 0) (.n 1)) (.n 1))) (.n 16777216) rfl hfl, ?_⟩
        have er : refs fts ++ [V.ref y, V.ref z] = refs (fts ++ [.leaf y dy [69], .one z dz p a3 s]) := by
          rw [refs, refs, List.map_append]; rfl
        rw [er]
        have la3 : H4 a3 ≠ none := by rw [s1]; simp
        have ls : ∀ c ∈ fpL s, H4 c ≠ none := s2.live
        refine Ex_nil (Ex_nil (Ex_nil ⟨_, by (refine Sub.cons (by rfl) ?_; refine Sub.cons (by rfl) ?_; exact Sub.nil _), rfl, fts ++ [.leaf y dy [69], .one z dz p a3 s], S.add hA hna han hnd hfa ht (newCh (x := y) (dx := dy) (g := [.leaf y dy [69], .one z dz p a3 s]) hk3 ⟨⟨hyz, by decide, by simp⟩, ⟨⟨hzz, op⟩, (hk3 a3 la3).trans s1, s2.frame fun c hc => hk3 c (ls c hc)⟩, trivial⟩ ?_ (fun c hc => ?_)), ?_⟩))
        · simp only [fpL_q0, fpL_q1, fp1_q0, fp1_q1, fp1_q2, List.append_nil, List.singleton_append, List.nodup_cons, List.mem_cons, not_or]
          refine ⟨⟨nyz, fun e => la3 (e ▸ hy), fun e => ls y e hy⟩, ⟨fun e => la3 (e ▸ hz4), fun e => ls z e hz4⟩, hcn.2.2.1.2, ?_⟩
          have := hcn.2.2.2
          rw [List.nodup_append] at this
          exact this.2.1
        · simp only [fpL_q0, fpL_q1, fp1_q0, fp1_q1, fp1_q2, List.append_nil, List.singleton_append, List.mem_cons] at hc
          rcases hc with rfl | rfl | rfl | hc
          · exact .inr hy
          · exact .inr hz4
          · exact .inl (by simp [fp1_q0, fp1_q1, fp1_q2])
          · exact .inl (by simp [fp1_q0, fp1_q1, fp1_q2, hc])
        · rw [erL_append, hfe, hne]
          rfl
    · refine ite_f rfl ?_
      refine Ex_cons ?_
      refine E1_If ?_
      let I4 : Bool → AH → Prop := fun bb H5 => H5 = H4 ∧ cutN (er1 t2) = if bb = true then [er1 t2] else []
      refine Tr.cons (Q := I4) ?_ ?_
      · refine Tr_and ?_
        refine Tr_Compare ?_
        refine Ev_code (p := t2.p) (F := t2.fv) (S := t2.sv) hC (hr.le (lq0 [_] 1 (.a (.n 0) (.n 2)) (.a (.v 0) (.n 7)) rfl ) : Rm _ (0 + 2)) op ?_
        (refine Ev_p (by assumption) (by rfl) ?_)
        refine ⟨t2.x, t2.dx, by rw [hx2], hxi, ?_⟩
        refine ev_NOP hC he ?_
        (refine Bo_ne_int ?_; refine Th_bool ?_)
        refine ite_both (fun hb => ?_) (fun hb => ?_)
        · simp only [bne_iff_ne] at hb
          refine Tr_and ?_
          refine Tr_Compare ?_
          refine Ev_first (p := t2.p) (F := t2.fv) (S := t2.sv) hC t2.fvOk ?_
          (refine Ev_p (by assumption) (by rfl) ?_)
          refine ⟨t2.x, t2.dx, by rw [hx2], hxi, ?_⟩
          (refine Ev_List ?_; refine evs_nil ?_)
          refine .inl ?_
          have hat := hc2.at'
          cases t2 with
          | leaf x dx p =>
            have hb : code p ≠ 1 := hb
            refine Bo_ne_none_nil hr .f ?_
            (refine Th_bool ?_)
            refine ite_t rfl (Tr_and_nil ⟨rfl, ?_⟩)
            simp only [er1_q0, er1_q1, er1_q2, cutN, if_pos hb, if_true]
          | one x dx p a1 f =>
            have hb : code p ≠ 1 := hb
            have hnn : ¬ (code p = 4 ∧ f = []) := hno a1 f rfl (by simp [HT.subs_q0, HT.subs_q1, HT.subs_q2])
            refine Bo_ne_nil hr (.m hat.2.1) .f ?_
            (refine Th_bool ?_)
            refine ite_both (fun hb2 => ?_) (fun hb2 => ?_)
            · have hf : f ≠ [] := fun e => by rw [refs_nil.mpr e] at hb2; cases hb2
              refine Tr_and_nil ⟨rfl, ?_⟩
              have hf2 : erL f ≠ [] := fun e => hf (erL_nil.mp e)
              simp only [er1_q0, er1_q1, er1_q2, cutN, hf2, and_false, if_false, ne_eq, hb, not_false_eq_true, and_self, if_true]
            · have hf : f = [] := by
                refine refs_nil.mp ?_
                simpa using hb2
              have hf2 : erL f = [] := erL_nil.mpr hf
              have h4n : code p ≠ 4 := fun e => hnn ⟨e, hf⟩
              refine ⟨rfl, ?_⟩
              simp only [er1_q0, er1_q1, er1_q2, cutN, hf2, h4n, false_and, if_false, ne_eq, not_true_eq_false, and_false]
              rfl
          | two x dx p a1 f a2 s =>
            have hb : code p ≠ 1 := hb
            have hnn : ¬ (code p = 4 ∧ f = []) := hno a1 f rfl (by simp [HT.subs_q0, HT.subs_q1, HT.subs_q2])
            refine Bo_ne_nil hr (.m hat.2.1.1) .f ?_
            (refine Th_bool ?_)
            refine ite_both (fun hb2 => ?_) (fun hb2 => ?_)
            · have hf : f ≠ [] := fun e => by rw [refs_nil.mpr e] at hb2; cases hb2
              refine Tr_and_nil ⟨rfl, ?_⟩
              have hf2 : erL f ≠ [] := fun e => hf (erL_nil.mp e)
              simp only [er1_q0, er1_q1, er1_q2, cutN, hf2, and_false, if_false, ne_eq, hb, not_false_eq_true, and_self, if_true]
            · have hf : f = [] := by
                refine refs_nil.mp ?_
                simpa using hb2
              have hf2 : erL f = [] := erL_nil.mpr hf
              have h4n : code p ≠ 4 := fun e => hnn ⟨e, hf⟩
              refine ⟨rfl, ?_⟩
              simp only [er1_q0, er1_q1, er1_q2, cutN, hf2, h4n, false_and, if_false, ne_eq, not_true_eq_false, and_false]
              rfl
        · simp only [bne_eq_false_iff_eq] at hb
          refine ⟨rfl, ?_⟩
          cases t2 with
          | leaf x dx p =>
            have hb : code p = 1 := hb
            simp only [er1_q0, er1_q1, er1_q2, cutN, hb, ne_eq, not_true_eq_false, if_false]
            rfl
          | one x dx p a1 f =>
            have hb : code p = 1 := hb
            simp only [er1_q0, er1_q1, er1_q2, cutN, hb, ne_eq, not_true_eq_false, false_and, if_false]
            rw [if_neg (fun e => absurd e.1 (by decide))]
            rfl
          | two x dx p a1 f a2 s =>
            have hb : code p = 1 := hb
            simp only [er1_q0, er1_q1, er1_q2, cutN, hb, ne_eq, not_true_eq_false, false_and, if_false]
            rw [if_neg (fun e => absurd e.1 (by decide))]
            rfl
      rintro bb H5 ⟨rfl, hcc⟩
      rw [hcc] at hne
      refine ite_both (fun hb => ?_) (fun hb => ?_)
      · rw [hb, if_pos rfl] at hne
        (refine Ex_cons ?_; refine E1_Expr ?_)
        refine Ev_append ?_
        (refine Ev_p (by assumption) (by rfl) ?_)
        refine ⟨fa, _, rfl, hfa3, ?_⟩
        (refine Ev_p (by assumption) (by rfl) ?_)
        refine ⟨_, hfa3, by rw [z24]; exact lq1 [_] (.le 1 (.v 0) (.n 100000)) 1 (.v 0) (.n 16777216) rfl hfl, ?_⟩
        have er : refs fts ++ [V.ref t.x] = refs (fts ++ [t2]) := by
          rw [refs, refs, List.map_append, List.map_cons, List.map_nil, hx2]
        rw [er]
        refine Ex_nil (Ex_nil (Ex_nil ⟨_, by (refine Sub.cons (by rfl) ?_; refine Sub.cons (by rfl) ?_; exact Sub.nil _), rfl, fts ++ [t2], S.add hA hna han hnd hfa ht hc2.two, ?_⟩))
        rw [erL_append, hfe, hne]
        rfl
      · rw [hb, if_neg (by decide), List.append_nil] at hne
        refine Ex_nil (Ex_nil (Ex_nil ⟨_, by (refine Sub.cons (by rfl) ?_; refine Sub.cons (by rfl) ?_; exact Sub.nil _), rfl, fts, ?_, ?_⟩))
        · have := S.add hA hna han hnd hfa ht (g := []) (H2 := H5) ⟨trivial, by simp [fpL_q0, fpL_q1], by simp [fpL_q0, fpL_q1], fun c h1 h2 => hc2.out c h1 h2, hc2.lv⟩
          rw [List.append_nil] at this
          rw [AH.set_eq _ hfa3] at this
          exact this
        · rw [hfe, hne]
  · rintro ls' H1 ⟨rfl, fts, S, hfe⟩
    rw [List.length_map] at S hfe
    rw [List.take_length] at hfe
    refine Ex_cons ?_
    refine E1_SetAll ?_
    (refine Ev_p (by assumption) (by rfl) ?_; refine Ev_p (by assumption) (by rfl) ?_)
    have hfl : (refs fts).length ≤ 100000 := by
      have h1 := refs_le fts
      rw [hfe] at h1
      have h2 := (cutP_tk (erL ts)).1
      exact lq3 [_, _, _] (.le 1 (.v 1) (.n 100000)) (.le 1 (.v 0) (.v 2)) (.le 1 (.v 2) (.v 1)) 1 (.v 0) (.n 100000) rfl hz h1 h2
    have hpl := refs_le ts
    refine ⟨a, refs ts, refs fts, rfl, S.pl, .m S.fl, fun e => ?_, by rw [z24]; exact lq3 [_, _, _] (.le 1 (.v 2) (.n 100000)) (.le 1 (.v 1) (.n 100000)) (.le 1 (.v 0) (.v 2)) 1 (.a (.v 0) (.v 1)) (.n 16777216) rfl hz hfl hpl, ?_⟩
    · cases e
      exact han hfa
    · exact Ex_nil (h _ fts hfe (S.done hna han))
theorem cut_spec (k : Nat) : CutC b k := by
  induction k using Nat.strongRecOn with
  | ind k IH => exact cut_step IH
end

/- NmAL -/
theorem fp1_pos (t : HT) : 1 ≤ (fp1 t).length := by cases t <;> simp [fp1_q0, fp1_q1, fp1_q2]
theorem len_fp : ∀ l : List HT, l.length ≤ (fpL l).length
  | [] => by simp
  | t :: r => by
    have := fp1_pos t
    have := len_fp r
    simp only [fpL_q0, fpL_q1, List.length_cons, List.length_append]
    lia
theorem len_fpS : ∀ l : List Fr', l.length ≤ (fpS l).length
  | [] => by simp
  | .f1 _ _ _ _ _ _ :: r => by
    have := len_fpS r
    simp only [fpS_q0, fpS_q1, fpS_q2, List.length_cons, List.length_append]
    exact lq1 [_, _, _] (.le 1 (.v 0) (.v 2)) 1 (.a (.v 0) (.n 1)) (.a (.a (.a (.v 1) (.v 2)) (.n 1)) (.n 1)) rfl this
  | .f2 _ _ _ _ _ _ _ _ :: r => by
    have := len_fpS r
    simp only [fpS_q0, fpS_q1, fpS_q2, List.length_cons, List.length_append]
    exact lq1 [_, _, _, _] (.le 1 (.v 0) (.v 3)) 1 (.a (.v 0) (.n 1)) (.a (.a (.a (.a (.v 1) (.a (.v 2) (.v 3))) (.n 1)) (.n 1)) (.n 1)) rfl this
theorem parse_prefix {l : List Tk} {z z' : List PT × List FrP} {i : Nat} {t : Tk} (h : (parseZ l z).isSome = true) (ht : l[i]? = some t) (hp : parseZ (l.take i) z = some z') : ∃ z2, stepZ t z' = some z2 ∧ parseZ (l.take (i + 1)) z = some z2 := by
  have e : parseZ (l.take (i + 1)) z = stepZ t z' := by
    rw [take_step ht, parseZ_append, hp]
    simp only [Option.bind_some, parseZ]
    cases stepZ t z' <;> rfl
  have hs : (parseZ (l.take (i + 1)) z).isSome = true := by
    have := congrArg (fun l => (parseZ l z).isSome) (List.take_append_drop (i + 1) l)
    simp only [parseZ_append] at this
    rw [h] at this
    cases hq : parseZ (l.take (i + 1)) z with
    | none => rw [hq] at this; cases this
    | some _ => rfl
  rw [e] at hs
  obtain ⟨z2, hz⟩ := Option.isSome_iff_exists.mp hs
  exact ⟨z2, hz, e.trans hz⟩
theorem idx_last {α : Type} (l : List α) (x : α) : idx (l ++ [x]) (-1) = some x := by
  unfold idx
  rw [if_neg (by decide), if_pos (by rw [List.length_append, List.length_singleton]; lia)]
  have : (-1 + ((l ++ [x]).length : Int)).toNat = l.length := by rw [List.length_append, List.length_singleton]; lia
  rw [this]
  simp
section
variable {b : Bs} {A : Around} {H : AH} {Q : V → AH → Prop} {env : Env} {ls : Ls} {R : V → AH → Prop} {N : Ls → AH → Prop}
theorem pieces_spec {ps : List PT} {t0 : Tk} (hC : CxOk (cx b)) (r : Rm A 6) (hB : ∀ t ∈ ptoks ps, TOk t) (hpc : pcP ps) (hz : (ptoks ps).length ≤ 100000)
    (h : ∀ H' root ts, erL ts = ps → AtL H' ts → H' root = some (.list (refs ts)) → (root :: fpL ts).Nodup → (∀ c ∈ root :: fpL ts, H c = none) → (∀ c, H c ≠ none → H' c = H c) → Q (.ref root) H') :
    Cc (cx b) A (.ref 63) [bd (ptoks ps ++ [t0])] H Q := by
  refine def_pieces_of hC r fun L he hr => ?_
  refine Ex_cons ?_
  refine E1_Swap (names := ["here", "opened"]) he hr.handled (by rfl) (by rfl) (mem2 (by rfl) (by rfl)) ?_
  refine evs_cons ?_
  refine Ev_List (evs_nil (.inr fun root hroot => ?_))
  refine evs_cons ?_
  refine Ev_List (evs_nil (.inr fun oa hoa => ?_))
  refine evs_nil ?_
  have no : oa ≠ root := fun e => by rw [e, AH.set_self] at hoa; cases hoa
  have hoa0 : H oa = none := by rw [AH.set_ne _ _ no] at hoa; exact hoa
  have Z0 : ZI H ((H.set root (.list [])).set oa (.list [])) root oa root [] [] := by
    refine ⟨by rw [AH.set_ne _ _ no.symm]; exact AH.set_self _ _ _, trivial, rfl, AH.set_self _ _ _, by simp [fpL_q0, fpL_q1, fpS_q0, fpS_q1, fpS_q2, no], fun c hc => ?_, fun c hc => ?_⟩
    · simp only [fpL_q0, fpL_q1, fpS_q0, fpS_q1, fpS_q2, List.append_nil, List.mem_cons, List.not_mem_nil, or_false] at hc
      rcases hc with rfl | rfl
      · exact hoa0
      · exact hroot
    · have c1 : c ≠ oa := fun e => hc (e ▸ hoa0)
      have c2 : c ≠ root := fun e => hc (e ▸ hroot)
      rw [AH.set_ne _ _ c1, AH.set_ne _ _ c2]
  generalize (H.set root (.list [])).set oa (.list []) = H1 at Z0 ⊢
  have hps : parseZ (ptoks ps) ([], []) = some (ps, []) := by
    have := parseP ps [] [] hpc
    simpa using this
  refine Ex.sub (ls' := ([("here", .ref root), ("opened", .ref oa), ("body", bd (ptoks ps ++ [t0]))] : Ls)) ?_ (by (refine Sub.cons (by rfl) ?_; refine Sub.cons (by rfl) ?_; refine Sub.cons (by rfl) ?_; exact Sub.nil _))
  refine Ex_cons ?_
  refine E1_For he hr.handled (by rfl) ?_
  refine Ev_Cut ?_
  (refine Ev_p (by assumption) (by rfl) ?_)
  refine pt_none (pt_some ?_)
  refine Ev_BinOp ?_
  refine call_len hC he ?_
  (refine Evs_p (by assumption) (by rfl) ?_)
  refine Cl_len .f (by rw [List.length_map, List.length_append, List.length_singleton, z24]; exact lq1 [_] (.le 1 (.v 0) (.n 100000)) 1 (.a (.v 0) (.n 1)) (.n 16777216) rfl hz) ?_
  (refine Ev_p (by assumption) (by rfl) ?_; refine Bo_sub ?_)
  refine ⟨_, rfl, _, .f, by rw [List.length_map, List.length_append, List.length_singleton, z24]; exact lq1 [_] (.le 1 (.v 0) (.n 100000)) 1 (.a (.v 0) (.n 1)) (.n 16777216) rfl hz, .inl ?_⟩
  have ecut : cut ((ptoks ps ++ [t0]).map pl) none (some (((ptoks ps ++ [t0]).map pl).length - 1 : Int)) = (ptoks ps).map pl := by
    have e : (((ptoks ps ++ [t0]).map pl).length : Int) - 1 = ((ptoks ps).length : Nat) := by
      rw [List.length_map, List.length_append, List.length_singleton]; lia
    rw [e, cut_take _ _ (by simp), List.map_append]
    have : (ptoks ps).length = ((ptoks ps).map pl).length := by simp
    rw [this, List.take_left]
  rw [ecut]
  let I1 : Nat → Ls → AH → Prop := fun i ls' H' => ∃ hr' cur st, ls' = ([("here", .ref hr'), ("opened", .ref oa), ("body", bd (ptoks ps ++ [t0]))] : Ls) ∧ ZI H H' root oa hr' cur st ∧ parseZ ((ptoks ps).take i) ([], []) = some (erL cur, st.map Fr'.er) ∧ (fpL cur ++ fpS st).length ≤ 2 * i
  refine ⟨(ptoks ps).map pl, I1, ⟨root, [], [], rfl, Z0, rfl, by simp [fpL_q0, fpL_q1, fpS_q0, fpS_q1, fpS_q2]⟩, fun i ls' H' _ => .lst _, ?_, ?_⟩
  · rintro i w ls' H2 hi ⟨hr', cur, st, rfl, Z, hp, hl⟩
    rw [List.getElem?_map] at hi
    obtain ⟨t, ht, rfl⟩ := Option.map_eq_some_iff.mp hi
    have hil : i < (ptoks ps).length := (List.getElem?_eq_some_iff.mp ht).1
    have op := hB t (List.mem_of_getElem? ht)
    obtain ⟨z2, hst, hz2⟩ := parse_prefix (by rw [hps]; rfl) ht hp
    have l1 := len_fp cur
    have l2 := len_fpS st
    rw [List.length_append] at hl
    have hrc : (refs cur).length ≤ 1000000 := by rw [List.length_map]; exact lq4 [_, _, _, _, _] (.le 2 (.v 1) (.n 100000)) (.le 1 (.a (.v 2) (.v 3)) (.m 2 (.v 4))) (.le 2 (.a (.v 4) (.n 1)) (.v 1)) (.le 1 (.v 0) (.v 2)) 1 (.v 0) (.n 1000000) rfl hz hl hil l1
    have hsl : (st.reverse.map Fr'.tup).length ≤ 1000000 := by rw [List.length_map, List.length_reverse]; exact lq4 [_, _, _, _, _] (.le 2 (.v 1) (.n 100000)) (.le 1 (.a (.v 2) (.v 3)) (.m 2 (.v 4))) (.le 2 (.a (.v 4) (.n 1)) (.v 1)) (.le 1 (.v 0) (.v 3)) 1 (.v 0) (.n 1000000) rfl hz hl hil l2
    obtain ⟨q1, q2, q3⟩ := Z.hrs
    refine Ex_cons ?_
    refine E1_If ?_
    refine Tr_Compare ?_
    (refine Ev_head ?_; refine Ev_p (by assumption) (by rfl) ?_; refine ⟨_, rfl, by assumption, ?_⟩)
    refine Ev_Tuple ?_
    refine evs_cons (ev_BLOCK hC he ?_)
    refine evs_cons (ev_LOOP hC he ?_)
    refine evs_cons (ev_IF hC he ?_)
    refine evs_nil ?_
    refine Bo_in_pl (l := [2, 3, 4]) hr ?_
    (refine Th_bool ?_)
    refine ite_both (fun hb => ?_) (fun hb => ?_)
    · simp only [decide_eq_true_eq, List.mem_cons, List.not_mem_nil, or_false] at hb
      simp only [stepZ, if_pos hb, Option.some.injEq] at hst
      subst hst
      refine Ex_cons ?_
      refine E1_Assign he (by rfl) ?_
      refine Ev_Call_Piece hC pieceOk he (by rfl) ?_
      refine evs_cons ?_
      (refine Ev_p (by assumption) (by rfl) ?_)
      refine evs_cons ?_
      refine Ev_List (evs_nil (.inr fun a han => ?_))
      refine evs_nil ?_
      refine make_spec2 (p := t) (F := .ref a) hC (hr.le (lq0 [] 1 (.a (.n 0) (.n 2)) (.n 5) rfl ) : Rm _ (0 + 2)) fun x dx hx hdx nx => ?_
      have nax : x ≠ a := fun e => by rw [e, AH.set_self] at hx; cases hx
      have nda : dx ≠ a := fun e => by rw [e, AH.set_self] at hdx; cases hdx
      have hk : ∀ c, H2 c ≠ none → (((H2.set a (.list [])).set dx .attrs).set x (.inst dx (fsOf t (.ref a) .none))) c = H2 c := fun c hc => by
        have c3 : c ≠ a := fun e => hc (e ▸ han)
        rw [new_keep hx hdx c (by rw [AH.set_ne _ _ c3]; exact hc), AH.set_ne _ _ c3]
      have hx1 : (((H2.set a (.list [])).set dx .attrs).set x (.inst dx (fsOf t (.ref a) .none))) x = some (.inst dx (fsOf t (.ref a) .none)) := AH.set_self _ _ _
      have ha1 : (((H2.set a (.list [])).set dx .attrs).set x (.inst dx (fsOf t (.ref a) .none))) a = some (.list []) := by
        rw [AH.set_ne _ _ (Ne.symm nax), AH.set_ne _ _ (Ne.symm nda)]
        exact AH.set_self _ _ _
      have hxn : H2 x = none := by rw [AH.set_ne _ _ nax] at hx; exact hx
      generalize ((H2.set a (.list [])).set dx .attrs).set x (.inst dx (fsOf t (.ref a) .none)) = H3 at hk hx1 ha1 ⊢
      have hcl3 : H3 hr' = some (.list (refs cur)) := by rw [hk hr' (by rw [Z.cl]; simp)]; exact Z.cl
      have hol3 : H3 oa = some (.list (st.reverse.map Fr'.tup)) := by rw [hk oa (by rw [Z.ol]; simp)]; exact Z.ol
      refine Ex_cons ?_
      refine E1_Expr ?_
      refine Ev_append ?_
      (refine Ev_p (by assumption) (by rfl) ?_)
      refine ⟨hr', _, rfl, hcl3, ?_⟩
      (refine Ev_p (by assumption) (by rfl) ?_)
      refine ⟨_, hcl3, by rw [z24]; exact lq1 [_] (.le 1 (.v 0) (.n 1000000)) 1 (.v 0) (.n 16777216) rfl hrc, ?_⟩
      have hol4 : (H3.set hr' (.list (refs cur ++ [.ref x]))) oa = some (.list (st.reverse.map Fr'.tup)) := by rw [AH.set_ne _ _ q1.symm]; exact hol3
      have hpf : (H3.set hr' (.list (refs cur ++ [.ref x]))) x = some (.inst dx (fsOf t (.ref a) .none)) := by
        rw [AH.set_ne _ _ (fun e => by rw [e, Z.cl] at hxn; cases hxn)]; exact hx1
      have nox : x ≠ oa := fun e => by rw [e, Z.ol] at hxn; cases hxn
      refine Ex_cons ?_
      refine E1_Expr ?_
      refine Ev_append ?_
      (refine Ev_p (by assumption) (by rfl) ?_)
      refine ⟨oa, _, rfl, hol4, ?_⟩
      refine Ev_Tuple ?_
      refine evs_cons ?_
      (refine Ev_p (by assumption) (by rfl) ?_)
      refine evs_cons ?_
      (refine Ev_p (by assumption) (by rfl) ?_)
      refine evs_nil ?_
      refine ⟨_, hol4, by rw [z24]; exact lq1 [_] (.le 1 (.v 0) (.n 1000000)) 1 (.v 0) (.n 16777216) rfl hsl, ?_⟩
      have Z2 := Z.opn hk hx1 hxn ha1 han op
      refine Ex_cons ?_
      refine E1_Assign he (by rfl) ?_
      refine Ev_first (p := t) (F := .ref a) (S := .none) hC (.inr ⟨_, rfl⟩) ?_
      (refine Ev_p (by assumption) (by rfl) ?_)
      refine ⟨x, dx, rfl, by rw [AH.set_ne _ _ nox]; exact hpf, ?_⟩
      refine Ex_nil (Ex_nil ⟨_, ?_, a, [], _, rfl, Z2, ?_, ?_⟩)
      · (refine Sub.cons (by rfl) ?_; refine Sub.cons (by rfl) ?_; refine Sub.cons (by rfl) ?_; exact Sub.nil _)
      · rw [hz2]; rfl
      · simp only [fpL_q0, fpL_q1, List.nil_append, fpS_q0, fpS_q1, fpS_q2, List.length_cons, List.length_append]; exact lq1 [_, _, _] (.le 1 (.a (.v 0) (.v 1)) (.m 2 (.v 2))) 1 (.a (.a (.a (.v 0) (.v 1)) (.n 1)) (.n 1)) (.m 2 (.a (.v 2) (.n 1))) rfl hl
    simp only [decide_eq_false_iff_not, List.mem_cons, List.not_mem_nil, or_false] at hb
    simp only [stepZ, if_neg hb] at hst
    refine Ex_cons ?_
    refine E1_If ?_
    refine Tr_Compare ?_
    (refine Ev_head ?_; refine Ev_p (by assumption) (by rfl) ?_; refine ⟨_, rfl, by assumption, ?_⟩)
    refine ev_ELSE hC he ?_
    (refine Bo_eq_int ?_; refine Th_bool ?_)
    refine ite_both (fun hb5 => ?_) (fun hb5 => ?_)
    · simp only [beq_iff_eq] at hb5
      rw [if_pos hb5] at hst
      cases st with
      | nil => cases hst
      | cons fr st =>
      cases fr with
      | f2 => cases hst
      | f1 x dx p a hh ts =>
      simp only [List.map_cons, Fr'.er_q0, Fr'.er_q1, Option.some.injEq] at hst
      subst hst
      have hol := Z.ol
      rw [List.reverse_cons, List.map_append, List.map_cons, List.map_nil] at hol
      obtain ⟨e1, ⟨e2, e3⟩, _⟩ := Z.fr
      refine Ex_cons ?_
      refine E1_Assign he (by rfl) ?_
      refine Ev_Sub_tup ?_
      refine Ev_Sub_list ?_
      (refine Ev_p (by assumption) (by rfl) ?_)
      refine Ev_Neg ?_
      refine ⟨_, _, _, .m hol, rfl, idx_last _ _, by simp only [List.length_append, List.length_map, List.length_reverse, List.length_singleton, z24]; simp only [List.length_cons] at l2; exact lq4 [_, _, _, _, _] (.le 2 (.v 1) (.n 100000)) (.le 2 (.a (.v 2) (.n 1)) (.v 1)) (.le 1 (.a (.v 3) (.v 4)) (.m 2 (.v 2))) (.le 1 (.a (.v 0) (.n 1)) (.v 4)) 1 (.a (.v 0) (.n 1)) (.n 16777216) rfl hz hil hl l2, ?_⟩
      (refine Ev_p (by assumption) (by rfl) ?_)
      (refine ⟨_, _, _, rfl, rfl, by rfl, by simp [z24], ?_⟩)
      refine Ex_cons ?_
      refine E1_SetAttr hC pieceOk (by decide) ?_
      refine Ev_List (evs_nil (.inr fun a2 ha2 => ?_))
      (refine Ev_p (by assumption) (by rfl) ?_)
      have hk : ∀ c, H2 c ≠ none → (H2.set a2 (.list [])) c = H2 c := fun c hc => by
        have c3 : c ≠ a2 := fun e => hc (e ▸ ha2)
        exact AH.set_ne _ _ c3
      refine ⟨x, dx, _, rfl, by rw [hk x (by rw [e2]; simp)]; exact e2, by simp, ?_⟩
      have Z2 := Z.els hk (AH.set_self _ _ _) ha2
      refine Ex_cons ?_
      refine E1_Assign he (by rfl) ?_
      refine Ev_second (p := p) (F := .ref a) (S := .ref a2) hC (.inr ⟨_, rfl⟩) ?_
      (refine Ev_p (by assumption) (by rfl) ?_)
      refine ⟨x, dx, rfl, AH.set_self _ _ _, ?_⟩
      refine Ex_nil (Ex_nil (Ex_nil ⟨_, ?_, a2, [], _, rfl, Z2, ?_, ?_⟩))
      · (refine Sub.cons (by rfl) ?_; refine Sub.cons (by rfl) ?_; refine Sub.cons (by rfl) ?_; exact Sub.nil _)
      · rw [hz2]; rfl
      · simp only [fpL_q0, fpL_q1, List.nil_append, fpS_q0, fpS_q1, fpS_q2, List.length_cons, List.length_append] at hl ⊢; exact lq1 [_, _, _, _] (.le 1 (.a (.v 0) (.a (.a (.a (.v 1) (.v 2)) (.n 1)) (.n 1))) (.m 2 (.v 3))) 1 (.a (.a (.a (.a (.v 0) (.a (.v 1) (.v 2))) (.n 1)) (.n 1)) (.n 1)) (.m 2 (.a (.v 3) (.n 1))) rfl hl
    simp only [beq_eq_false_iff_ne] at hb5
    rw [if_neg hb5] at hst
    refine Ex_cons ?_
    refine E1_If ?_
    refine Tr_Compare ?_
    (refine Ev_head ?_; refine Ev_p (by assumption) (by rfl) ?_; refine ⟨_, rfl, by assumption, ?_⟩)
    refine ev_END hC he ?_
    (refine Bo_eq_int ?_; refine Th_bool ?_)
    refine ite_both (fun hb11 => ?_) (fun hb11 => ?_)
    · simp only [beq_iff_eq] at hb11
      rw [if_pos hb11] at hst
      cases st with
      | nil => cases hst
      | cons fr st =>
      have hol := Z.ol
      rw [List.reverse_cons, List.map_append, List.map_cons, List.map_nil] at hol
      refine Ex_cons ?_
      refine E1_Unpack (names := ["piece", "here"]) he hr.handled (by rfl) (mem2 (.inl (by rfl)) (.inl (by rfl))) ?_ (by rfl)
      refine Ev_pop ?_
      (refine Ev_p (by assumption) (by rfl) ?_)
      refine ⟨oa, _, _, rfl, hol, by simp only [List.length_map, List.length_reverse, z24]; simp only [List.length_cons] at l2; exact lq4 [_, _, _, _, _] (.le 2 (.v 1) (.n 100000)) (.le 2 (.a (.v 2) (.n 1)) (.v 1)) (.le 1 (.a (.v 3) (.v 4)) (.m 2 (.v 2))) (.le 1 (.a (.v 0) (.n 1)) (.v 4)) 1 (.a (.v 0) (.n 1)) (.n 16777216) rfl hz hil hl l2, ?_⟩
      cases fr with
      | f1 x dx p a hh ts =>
        simp only [List.map_cons, Fr'.er_q0, Fr'.er_q1, Option.some.injEq] at hst
        subst hst
        refine ⟨_, rfl, rfl, ?_⟩
        refine Ex_nil (Ex_nil (Ex_nil (Ex_nil ⟨_, ?_, hh, _, _, rfl, Z.end1, ?_, ?_⟩)))
        · (refine Sub.cons (by rfl) ?_; refine Sub.cons (by rfl) ?_; refine Sub.cons (by rfl) ?_; exact Sub.nil _)
        · rw [hz2, erL_append]; rfl
        · rw [fpL_append]
          simp only [fpL_q0, fpL_q1, fp1_q0, fp1_q1, fp1_q2, fpS_q0, fpS_q1, fpS_q2, List.append_nil, List.length_cons, List.length_append] at hl ⊢
          exact lq1 [_, _, _, _] (.le 1 (.a (.v 1) (.a (.a (.a (.v 0) (.v 2)) (.n 1)) (.n 1))) (.m 2 (.v 3))) 1 (.a (.a (.v 0) (.a (.a (.v 1) (.n 1)) (.n 1))) (.v 2)) (.m 2 (.a (.v 3) (.n 1))) rfl hl
      | f2 x dx p a f a2 hh ts =>
        simp only [List.map_cons, Fr'.er_q0, Fr'.er_q1, Option.some.injEq] at hst
        subst hst
        refine ⟨_, rfl, rfl, ?_⟩
        refine Ex_nil (Ex_nil (Ex_nil (Ex_nil ⟨_, ?_, hh, _, _, rfl, Z.end2, ?_, ?_⟩)))
        · (refine Sub.cons (by rfl) ?_; refine Sub.cons (by rfl) ?_; refine Sub.cons (by rfl) ?_; exact Sub.nil _)
        · rw [hz2, erL_append]; rfl
        · rw [fpL_append]
          simp only [fpL_q0, fpL_q1, fp1_q0, fp1_q1, fp1_q2, fpS_q0, fpS_q1, fpS_q2, List.append_nil, List.length_cons, List.length_append] at hl ⊢
          exact lq1 [_, _, _, _, _] (.le 1 (.a (.v 2) (.a (.a (.a (.a (.v 1) (.a (.v 0) (.v 3))) (.n 1)) (.n 1)) (.n 1))) (.m 2 (.v 4))) 1 (.a (.a (.v 0) (.a (.a (.a (.a (.v 1) (.v 2)) (.n 1)) (.n 1)) (.n 1))) (.v 3)) (.m 2 (.a (.v 4) (.n 1))) rfl hl
    simp only [beq_eq_false_iff_ne] at hb11
    rw [if_neg hb11, Option.some.injEq] at hst
    subst hst
    (refine Ex_cons ?_; refine E1_Expr ?_)
    refine Ev_append ?_
    (refine Ev_p (by assumption) (by rfl) ?_)
    refine ⟨hr', _, rfl, Z.cl, ?_⟩
    refine Ev_Call_Piece hC pieceOk he (by rfl) ?_
    refine evs_cons ?_
    (refine Ev_p (by assumption) (by rfl) ?_)
    refine evs_nil ?_
    refine make_spec1 (p := t) hC (hr.le (lq0 [] 1 (.a (.n 0) (.n 2)) (.n 5) rfl ) : Rm _ (0 + 2)) fun x dx hx hdx nx => ?_
    have hk := new_keep (o := .attrs) (o' := .inst dx (fsOf t .none .none)) hx hdx
    refine ⟨_, by rw [hk hr' (by rw [Z.cl]; simp)]; exact Z.cl, by rw [z24]; exact lq1 [_] (.le 1 (.v 0) (.n 1000000)) 1 (.v 0) (.n 16777216) rfl hrc, ?_⟩
    have er : refs cur ++ [V.ref x] = refs (cur ++ [.leaf x dx t]) := by rw [refs, refs, List.map_append]; rfl
    rw [er]
    have Z2 := Z.leaf hk (AH.set_self _ _ _) hx op
    refine Ex_nil (Ex_nil (Ex_nil (Ex_nil ⟨_, ?_, hr', _, _, rfl, Z2, ?_, ?_⟩)))
    · (refine Sub.cons (by rfl) ?_; refine Sub.cons (by rfl) ?_; refine Sub.cons (by rfl) ?_; exact Sub.nil _)
    · rw [hz2, erL_append]; rfl
    · rw [fpL_append]
      simp only [fpL_q0, fpL_q1, fp1_q0, fp1_q1, fp1_q2, List.append_nil, List.length_cons, List.length_append, List.length_nil] at hl ⊢
      exact lq1 [_, _, _] (.le 1 (.a (.v 0) (.v 1)) (.m 2 (.v 2))) 1 (.a (.a (.v 0) (.a (.n 0) (.n 1))) (.v 1)) (.m 2 (.a (.v 2) (.n 1))) rfl hl
  · rintro ls' H2 ⟨hr', cur, st, rfl, Z, hp, hl⟩
    rw [List.length_map, List.take_length, hps, Option.some.injEq, Prod.mk.injEq] at hp
    obtain ⟨hp1, hp2⟩ := hp
    have hst : st = [] := by
      cases st with
      | nil => rfl
      | cons => cases hp2
    subst hst
    have hroot' : hr' = root := Z.fr
    subst hroot'
    have nd := (List.nodup_cons.mp Z.nd).2
    simp only [fpS_q0, fpS_q1, fpS_q2, List.append_nil] at nd
    (refine Ex_cons ?_; refine E1_Return ?_; refine Ev_p (by assumption) (by rfl) ?_)
    exact h H2 hr' cur hp1.symm Z.cat Z.cl nd (fun c hc => Z.fresh c (by simp only [fpS_q0, fpS_q1, fpS_q2, List.append_nil]; exact List.mem_cons_of_mem _ hc)) Z.out
end

/- NmAM -/
mutual
theorem pc_lf1 : ∀ x : PT, pc1 x → lf1 x
  | .leaf p, h => ⟨h.1, h.2.1⟩
  | .one p f, h => pc_lfP f h.2
  | .two p f s, h => ⟨pc_lfP f h.2.1, pc_lfP s h.2.2⟩
theorem pc_lfP : ∀ l : List PT, pcP l → lfP l
  | [], _ => trivial
  | x :: r, h => ⟨pc_lf1 x h.1, pc_lfP r h.2⟩
end
section
variable {b : Bs} {A : Around} {H : AH} {Q : V → AH → Prop} {env : Env} {ls : Ls} {R : V → AH → Prop} {N : Ls → AH → Prop}
theorem passed_spec {ps : List PT} {e : Bool} (hC : CxOk (cx b)) (r : Rm A 40) (hB : ∀ t ∈ ptoks ps, TOk t) (hpc : pcP ps) (hz : (ptoks ps).length ≤ 100000) (hd : pdP ps ≤ 10)
    (h : ∀ H', (∀ c, H c ≠ none → H' c = H c) → Q (bd (ptoks (if e then cutP ps else openP ps) ++ [[11]])) H') :
    Cc (cx b) A (.ref 209) [bd (ptoks ps ++ [[11]]), .bool e] H Q := by
  refine def_law_passed hC r fun L he hr => ?_
  refine Ex_cons ?_
  refine E1_Assign he (by rfl) ?_
  refine call_pieces_of hC he ?_
  (refine Evs_p (by assumption) (by rfl) ?_)
  refine (pieces_spec hC (hr.le (lq0 [] 1 (.n 6) (.n 39) rfl )) hB hpc hz fun H1 root ts h1 h2 h3 h4 h5 h6 => ?_).cl
  have hh : hdL ts ≤ 10 := by rw [hdL_er, h1]; exact hd
  have kp : ∀ {H2 : AH} {ts' : List HT}, Chg H1 H2 root ts ts' → ∀ c, H c ≠ none → H2 c = H c := fun hc c hn => by
    rw [hc.out c (fun e => hn (h5 c e)) (by rw [h6 c hn]; exact hn), h6 c hn]
  refine Ex_cons ?_
  let I1 : Ls → AH → Prop := fun ls2 H2 => ls2 = ([("pieces", .ref root), ("body", bd (ptoks ps ++ [[11]])), ("is_empty", .bool e)] : Ls) ∧ ∃ ts', erL ts' = (if e then cutP ps else openP ps) ∧ Chg H1 H2 root ts ts'
  refine E1.mono (R := Q) (N := I1) ?_ (fun _ _ h => h) ?_
  · refine E1_If ?_
    (refine Tr_p (by assumption) (by rfl) ?_)
    refine ite_both (fun hb => ?_) (fun hb => ?_)
    · subst hb
      (refine Ex_cons ?_; refine E1_Expr ?_)
      refine call_cut_empty hC he ?_
      (refine Evs_p (by assumption) (by rfl) ?_)
      refine (cut_spec 10 hC (hr.le (lq0 [] 1 (.a (.n 10) (.n 8)) (.n 39) rfl )) hh (by rw [h1]; exact hz) h3 h2 h4 fun H2 ts' g1 g2 => ?_).cl
      exact Ex_nil ⟨rfl, ts', by rw [g1, h1]; rfl, g2⟩
    · subst hb
      (refine Ex_cons ?_; refine E1_Expr ?_)
      refine call_open_blocks hC he ?_
      (refine Evs_p (by assumption) (by rfl) ?_)
      refine (open_spec 10 hC (hr.le (lq0 [] 1 (.a (.m 2 (.n 10)) (.n 8)) (.n 39) rfl )) hh (by rw [h1]; exact pc_lfP ps hpc) (by rw [h1]; exact hz) h3 h2 h4 fun H2 ts' g1 g2 => ?_).cl
      exact Ex_nil ⟨rfl, ts', by rw [g1, h1]; rfl, g2⟩
  rintro ls2 H2 ⟨rfl, ts', g1, g2⟩
  have hz2 : (ptoks (erL ts')).length ≤ 100000 := by
    rw [g1]
    cases e
    · have := (openP_tk ps).1
      simp only [Bool.false_eq_true, if_false]
      exact lq2 [_, _] (.le 1 (.v 1) (.n 100000)) (.le 1 (.v 0) (.v 1)) 1 (.v 0) (.n 100000) rfl hz this
    · have := (cutP_tk ps).1
      simp only [if_true]
      exact lq2 [_, _] (.le 1 (.v 1) (.n 100000)) (.le 1 (.v 0) (.v 1)) 1 (.v 0) (.n 100000) rfl hz this
  have hd2 : hdL ts' ≤ 10 := by
    rw [hdL_er, g1]
    cases e
    · have := (openP_tk ps).2
      simp only [Bool.false_eq_true, if_false]
      exact lq2 [_, _] (.le 1 (.v 1) (.n 10)) (.le 1 (.v 0) (.v 1)) 1 (.v 0) (.n 10) rfl hd this
    · have := (cutP_tk ps).2
      simp only [if_true]
      exact lq2 [_, _] (.le 1 (.v 1) (.n 10)) (.le 1 (.v 0) (.v 1)) 1 (.v 0) (.n 10) rfl hd this
  (refine Ex_cons ?_; refine E1_Return ?_)
  refine call_body_of hC he ?_
  (refine Evs_p (by assumption) (by rfl) ?_)
  refine (body_spec hC (hr.le (lq0 [] 1 (.a (.n 10) (.n 4)) (.n 39) rfl )) hd2 g2.list g2.at' hz2 ?_).cl
  rw [g1]
  exact h H2 (kp g2)
end

/- NmAN -/
section
variable {b : Bs} {A : Around} {H : AH} {Q : V → AH → Prop} {env : Env} {ls : Ls} {R : V → AH → Prop} {N : Ls → AH → Prop}
theorem bd_snoc (X : List Tk) : X.map pl ++ [V.tup [.int 11]] = (X ++ [[11]]).map pl := by simp [pl, ivs]
theorem tok_11 {X : List Tk} (h : ∀ t ∈ X, TOk t) : ∀ t ∈ X ++ [[11]], TOk t := by
  intro t ht
  simp only [List.mem_append, List.mem_singleton] at ht
  rcases ht with ht | rfl
  · exact h t ht
  · exact ⟨by simp, by simp⟩
theorem len_11 (X : List Tk) : (X ++ [[11]]).length = X.length + 1 := by simp
/-- a run of pieces laid flat -/
theorem run_pieces {ps : List PT} {t pl0 : List Int} {pa : Addr} (hC : CxOk (cx b)) (r : Rm A 3) (g : GP ps) (hp : H pa = some (.list (ivs pl0))) (hpl : pl0.length = 3) (hr : Goes (ptoks ps ++ [[11]]) ⟨[], pl0, []⟩ [] 0 t)
    (h : ∀ H', Q (.lst (ivs t)) H') : Cc (cx b) A (.ref 202) [bd (ptoks ps ++ [[11]]), .ref pa] H Q := by
  obtain ⟨k, hk⟩ := hr
  exact run_spec hC r (tok_11 g.tok) (by rw [len_11]; have := g.sz; exact lq1 [_] (.le 1 (.v 0) (.n 100000)) 1 (.a (.v 0) (.n 1)) (.n 1000000) rfl this) hp hpl hk fun H' _ => h H'
theorem pass_pieces {ps ps' : List PT} {e : Bool} (hC : CxOk (cx b)) (r : Rm A 40) (g : GP ps) (he : (if e then cutP ps else openP ps) = ps')
    (h : ∀ H', Q (bd (ptoks ps' ++ [[11]])) H') : Cc (cx b) A (.ref 209) [bd (ptoks ps ++ [[11]]), .bool e] H Q := by
  refine passed_spec hC r g.tok g.pc g.sz g.dp fun H' _ => ?_
  rw [he]
  exact h H'
theorem law_spec {ts : List Int} (hC : CxOk (cx b)) (r : Rm A 60) (hts : ts.length ≤ 63) (h : ∀ H', Q (.bool true) H') : Cc (cx b) A (.ref 214) [li ts] H Q := by
  refine def_law hC r fun L he hr => ?_
  refine Ex_cons ?_
  refine E1_Unpack (names := ["tape", "state"]) he hr.handled (by rfl) (mem2 (.inr ⟨by rfl, _, by rfl⟩) (.inl (by rfl))) ?_ (by rfl)
  refine Ev_Tuple ?_
  refine evs_cons ?_
  refine call_list hC he ?_
  (refine Evs_p (by assumption) (by rfl) ?_)
  refine Cl_list .f (by rw [List.length_map, z24]; exact lq1 [_] (.le 1 (.v 0) (.n 63)) 1 (.v 0) (.n 16777216) rfl hts) (.inr fun tp htp => ?_)
  refine evs_cons ?_
  with_reducible refine Ev_StateDict ?_
  intro sp la hsp hla hne
  refine evs_nil ?_
  refine ⟨_, rfl, rfl, ?_⟩
  have nta : tp ≠ la := fun e => by rw [← e, AH.set_self] at hla; cases hla
  have nts : tp ≠ sp := fun e => by rw [← e, AH.set_self] at hsp; cases hsp
  have S0 : ST (((H.set tp (.list (ivs ts))).set la (.list [])).set sp (.sdict 0 la)) (((H.set tp (.list (ivs ts))).set la (.list [])).set sp (.sdict 0 la)) tp sp la tp ts 0 [] := by
    refine ⟨?_, AH.set_self _ _ _, ?_, nta, fun c _ _ _ _ => rfl⟩
    · rw [AH.set_ne _ _ nts, AH.set_ne _ _ nta, AH.set_self]
    · rw [AH.set_ne _ _ hne.symm, AH.set_self]; rfl
  generalize ((H.set tp (.list (ivs ts))).set la (.list [])).set sp (.sdict 0 la) = H1 at S0 ⊢
  refine Ex_cons ?_
  refine E1_AssignComp' [("tape", .ref tp)] he hr.handled (by rfl) (by (refine CapOk.cons ?_ (by rfl) (by rfl) (by rfl) (by rfl); exact CapOk.nil (by rfl))) (by rfl) ?_ (by rfl)
  refine call_range hC he ?_
  (refine Evs_p (by assumption) (by rfl) ?_)
  refine Cl_range (n := 3) ?_
  let I1 : Nat → List V → AH → Prop := fun i acc H' => ∃ ts' pls, acc = ivs pls ∧ pls.length = i ∧ (∀ v ∈ pls, 0 ≤ v) ∧ ts'.length ≤ 63 ∧ ST H1 H' tp sp la tp ts' 0 []
  refine ⟨rngV 3, I1, by rw [rngV_len, z24]; exact lq0 [] 1 (.n 3) (.n 16777216) rfl , ⟨ts, [], rfl, rfl, by simp, hts, S0⟩, fun i acc H' _ => .rng 3 (lq0 [] 1 (.n 3) (.n 1000000) rfl ), ?_, ?_⟩
  · rintro i w acc H' C' D he' hi ⟨ts', pls, rfl, hp1, hp2, ht', S'⟩ hD
    refine test_nil ?_
    have ntD : tp ≠ D := fun e => by rw [← e, S'.tape] at hD; cases hD
    refine Ev_BinOp ?_
    refine call_law_next hC he' ?_
    (refine Evs_p (by assumption) (by rfl) ?_)
    refine (next_spec hC (hr.le (lq0 [] 1 (.a (.n 0) (.n 1)) (.n 59) rfl ) : Rm _ (0 + 1)) (by rw [AH.set_ne _ _ ntD]; exact S'.tape) (lq1 [_] (.le 1 (.v 0) (.n 63)) 1 (.v 0) (.n 1000) rfl ht') ?_).cl
    (refine Ev_p (by assumption) (by rfl) ?_; refine Bo_mod (by lia) ?_)
    refine ⟨H'.set tp (.list (ivs ts'.tail)), AH.set_comm _ (Ne.symm ntD), by rw [AH.set_ne _ _ (Ne.symm ntD)]; exact hD, ts'.tail, pls ++ [ts'.headD 0 % 3], by simp, by simp [hp1], ?_, by rw [List.length_tail]; lia, S'.setTape⟩
    intro v hv
    simp only [List.mem_append, List.mem_singleton] at hv
    rcases hv with hv | rfl
    · exact hp2 v hv
    · lia
  rintro acc H' ⟨ts', pl0, rfl, hp1, hp2, ht', S'⟩
  rw [rngV_len] at hp1
  refine .inl ?_
  refine Ex_cons ?_
  refine E1_Assign he (by rfl) ?_
  refine call_law_list hC he ?_
  refine evs_cons ?_
  (refine Ev_p (by assumption) (by rfl) ?_)
  refine evs_cons ?_
  (refine Ev_p (by assumption) (by rfl) ?_)
  refine evs_cons ?_
  refine Ev_List ?_
  (refine Evs_p (by assumption) (by rfl) ?_)
  refine .inl ?_
  refine evs_cons ?_
  refine Ev_BinOp ?_
  (refine Ev_p (by assumption) (by rfl) ?_)
  refine Ev_BinOp ?_
  refine call_law_next hC he ?_
  (refine Evs_p (by assumption) (by rfl) ?_)
  refine (next_spec hC (hr.le (lq0 [] 1 (.a (.n 0) (.n 1)) (.n 59) rfl ) : Rm _ (0 + 1)) S'.tape (lq1 [_] (.le 1 (.v 0) (.n 63)) 1 (.v 0) (.n 1000) rfl ht') ?_).cl
  have S2 := S'.setTape (ts' := ts'.tail)
  have ht2 : ts'.tail.length ≤ 63 := by rw [List.length_tail]; lia
  generalize H'.set tp (.list (ivs ts'.tail)) = H2 at S2 ⊢
  generalize ts'.headD 0 = x
  generalize ts'.tail = ts2 at S2 ht2
  obtain ⟨many, hmany, hm9⟩ : ∃ many : Nat, 2 + x % 8 = many ∧ many ≤ 9 := ⟨(2 + x % 8).toNat, by lia, by lia⟩
  (refine Ev_p (by assumption) (by rfl) ?_; refine Bo_mod (by lia) ?_; refine Bo_add ?_; refine evs_nil ?_)
  rw [hmany]
  refine (list_spec 3 (o := [0]) (L := []) hC (hr.le (lq0 [] 1 (.a (.m 2 (.n 3)) (.n 4)) (.n 59) rfl )) S2.here (lq1 [_] (.le 1 (.v 0) (.n 63)) 1 (.v 0) (.n 1000) rfl ht2) rfl (by simp) (by simp) (by simp) ?_ hm9 ?_).cl
  · have : Bd 3 = 1036 := by decide
    rw [this]
    simp only [List.length_nil]
    exact lq1 [_] (.le 1036 (.v 0) (.n 9)) 1 (.a (.n 0) (.r (.v 0) 1036)) (.n 1000000) rfl hm9
  rintro sts H3 ts3 n3 loops3 S3 ht3 ⟨m, hm, LRs⟩
  obtain ⟨t, F⟩ := law_facts LRs (lq2 [_, _] (.le 1 (.v 1) (.n 9)) (.le 1 (.v 0) (.v 1)) 1 (.v 0) (.n 9) rfl hm9 hm) hp1 hp2
  generalize nodesS sts = ns at F ⊢
  clear LRs S3 S2 S' S0
  have l0 := F.l0
  have l2 := F.l2
  refine Ex_cons ?_
  refine E1_Assign he (by rfl) ?_
  refine Ev_BinOp ?_
  refine call_law_flat hC he ?_
  (refine evs_cons ?_; refine Ev_p (by assumption) (by rfl) ?_; refine evs_cons ?_; refine Ev_List ?_; refine Evs_p (by assumption) (by rfl) ?_)
  refine .inl ?_
  (refine evs_nil ?_)
  refine (flat_spec 3 hC (hr.le (lq0 [] 1 (.a (.n 3) (.n 1)) (.n 59) rfl )) F.d0 F.f0 (by simp) (lq1 [_] (.le 1 (.v 0) (.n 10000)) 1 (.v 0) (.n 1000000) rfl l0) ?_).cl
  (refine Ev_List ?_; refine Evs_p (by assumption) (by rfl) ?_)
  refine .inl ?_
  refine Bo_add_list .f .f (by rw [List.length_map, z24]; simp; exact lq1 [_] (.le 1 (.v 0) (.n 10000)) 1 (.v 0) (.n 16777215) rfl l0) (.inl ?_)
  rw [bd_snoc, F.e0]
  refine Ex_cons ?_
  refine E1_Assign he (by rfl) ?_
  refine Ev_BinOp ?_
  refine call_law_flat hC he ?_
  refine evs_cons ?_
  refine call_law_opened hC he ?_
  refine evs_cons ?_
  (refine Ev_p (by assumption) (by rfl) ?_)
  refine evs_cons ?_
  refine call_law_goals hC he ?_
  (refine Evs_p (by assumption) (by rfl) ?_)
  refine (goals_spec 3 hC (hr.le (lq0 [] 1 (.a (.n 3) (.n 1)) (.n 59) rfl )) F.d0 (by have := F.q0; exact lq1 [_] (.le 1 (.v 0) (.n 10000)) 1 (.v 0) (.n 1000000) rfl this) ?_).cl
  (refine evs_nil ?_)
  refine (opened_spec 3 hC (hr.le (lq0 [] 1 (.a (.n 3) (.n 1)) (.n 59) rfl )) F.d0 (by have := F.c0; exact lq1 [_] (.le 1 (.v 0) (.n 10000)) 1 (.v 0) (.n 1000000) rfl this) ?_).cl
  (refine evs_cons ?_; refine Ev_List ?_; refine Evs_p (by assumption) (by rfl) ?_)
  refine .inl ?_
  (refine evs_nil ?_)
  refine (flat_spec 3 hC (hr.le (lq0 [] 1 (.a (.n 3) (.n 1)) (.n 59) rfl )) F.d2 F.f2 (by simp) (lq1 [_] (.le 1 (.v 0) (.n 10000)) 1 (.v 0) (.n 1000000) rfl l2) ?_).cl
  (refine Ev_List ?_; refine Evs_p (by assumption) (by rfl) ?_)
  refine .inl ?_
  refine Bo_add_list .f .f (by rw [List.length_map, z24]; simp; exact lq1 [_] (.le 1 (.v 0) (.n 10000)) 1 (.v 0) (.n 16777215) rfl l2) (.inl ?_)
  rw [bd_snoc, F.e2]
  have P0 : ∀ {pa : Addr} {H' : AH}, (H'.set pa (.list (ivs pl0))) pa = some (.list (ivs pl0)) := AH.set_self _ _ _
  have zp := F.g0.sz
  refine Ex_cons ?_
  refine E1_Swap (names := ["emptied", "kept", "due"]) he hr.handled (by rfl) (by rfl) (mem3 (by rfl) (by rfl) (by rfl)) ?_
  refine evs_cons ?_
  refine call_law_emptied hC he ?_
  (refine Evs_p (by assumption) (by rfl) ?_)
  refine (emptied_spec hC (hr.le (lq0 [] 1 (.n 3) (.n 59) rfl )) (tok_11 F.g0.tok) (by rw [len_11]; exact lq1 [_] (.le 1 (.v 0) (.n 100000)) 1 (.a (.v 0) (.n 1)) (.n 1000000) rfl zp) F.hF ?_).cl
  rw [F.em]
  refine evs_cons ?_
  refine call_list hC he ?_
  (refine Evs_p (by assumption) (by rfl) ?_)
  refine Cl_list .f (by rw [List.length_map, z24, len_11]; exact lq1 [_] (.le 1 (.v 0) (.n 100000)) 1 (.a (.v 0) (.n 1)) (.n 16777216) rfl zp) (.inl ?_)
  refine evs_cons ?_
  refine call_law_run hC he ?_
  refine evs_cons ?_
  (refine Ev_p (by assumption) (by rfl) ?_)
  refine evs_cons ?_
  refine call_list hC he ?_
  (refine Evs_p (by assumption) (by rfl) ?_)
  refine Cl_list .f (by rw [List.length_map, z24]; exact lq1 [_] (.eq 1 (.v 0) (.n 3)) 1 (.v 0) (.n 16777216) rfl hp1) (.inr fun pa hpa => ?_)
  (refine evs_nil ?_)
  refine (run_pieces hC (hr.le (lq0 [] 1 (.n 3) (.n 59) rfl )) F.g0 P0 hp1 F.r0 fun H4 => ?_).cl
  refine evs_nil ?_
  have hE : (if true then cutP (ptN [0] ns) else openP (ptN [0] ns)) = cutP (ptN [0] ns) := rfl
  have hO : (if false then cutP (ptN [0] ns) else openP (ptN [0] ns)) = openP (ptN [0] ns) := rfl
  refine Ex_cons ?_
  refine E1_ForTup (names := ["told", "is_empty"]) he hr.handled (by rfl) (mem2 (by rfl) (by rfl)) ?_
  (refine Ev_List ?_; refine Evs_p (by assumption) (by rfl) ?_)
  refine .inl ⟨[[bd (ptoks (cutP (ptN [0] ns)) ++ [[11]]), .bool true], [bd (ptoks (openP (ptN [0] ns)) ++ [[11]]), .bool false]], fun _ ls' _ => ls' = ([("emptied", bd (ptoks (cutP (ptN [0] ns)) ++ [[11]])), ("kept", bd (ptoks (ptN [0] ns) ++ [[11]])), ("due", .lst (ivs t)), ("opened", bd (ptoks (openP (ptN [0] ns)) ++ [[11]])), ("body", bd (ptoks (ptN [0] ns) ++ [[11]])), ("nodes", .lst (nodesV ns)), ("places", .lst (ivs pl0)), ("state", .ref sp), ("tape", .ref tp), ("script", li ts)] : Ls), rfl, rfl, mem2 rfl rfl, ?_, ?_⟩
  · rintro i ws ls' H5 hi rfl
    have hw : ∃ (ps' : List PT) (e : Bool), ws = [bd (ptoks ps' ++ [[11]]), .bool e] ∧ GP ps' ∧ (if e then cutP (ptN [0] ns) else openP (ptN [0] ns)) = ps' ∧ (if e then cutP ps' else openP ps') = ps' ∧ Goes (ptoks ps' ++ [[11]]) ⟨[], pl0, []⟩ [] 0 t := by
      rcases i with _ | _ | i
      · cases hi
        exact ⟨_, true, rfl, F.g1, rfl, F.i1, F.r1⟩
      · cases hi
        exact ⟨_, false, rfl, F.g2, rfl, F.i2, F.r2⟩
      · simp at hi
    obtain ⟨ps', e, rfl, g, h1, h2, h3⟩ := hw
    refine Ex_cons ?_
    refine E1_If ?_
    refine Tr_or ?_
    refine Tr_Compare ?_
    refine call_law_passed hC he ?_
    (refine Evs_p (by assumption) (by rfl) ?_)
    refine (pass_pieces hC (hr.le (lq0 [] 1 (.n 40) (.n 59) rfl )) F.g0 h1 fun H6 => ?_).cl
    (refine Ev_p (by assumption) (by rfl) ?_)
    refine Bo_ne_bd hr .f .f ?_
    (refine Th_bool ?_)
    refine ite_f (by simp) ?_
    refine Tr_or ?_
    refine Tr_Compare ?_
    refine call_law_passed hC he ?_
    (refine Evs_p (by assumption) (by rfl) ?_)
    refine (pass_pieces hC (hr.le (lq0 [] 1 (.n 40) (.n 59) rfl )) g h2 fun H7 => ?_).cl
    (refine Ev_p (by assumption) (by rfl) ?_)
    refine Bo_ne_bd hr .f .f ?_
    (refine Th_bool ?_)
    refine ite_f (by simp) ?_
    refine Tr_or ?_
    refine Tr_Compare ?_
    (refine Ev_p (by assumption) (by rfl) ?_; refine Ev_p (by assumption) (by rfl) ?_)
    refine Bo_ne_bd hr .f .f ?_
    (refine Th_bool ?_)
    refine ite_f (by simp) ?_
    refine Tr_or_nil ?_
    refine ite_f rfl ?_
    refine Ex_nil ?_
    refine Ex_cons ?_
    refine E1_If ?_
    refine Tr_Compare ?_
    refine call_law_run hC he ?_
    refine evs_cons ?_
    (refine Ev_p (by assumption) (by rfl) ?_)
    refine evs_cons ?_
    refine call_list hC he ?_
    (refine Evs_p (by assumption) (by rfl) ?_)
    refine Cl_list .f (by rw [List.length_map, z24]; exact lq1 [_] (.eq 1 (.v 0) (.n 3)) 1 (.v 0) (.n 16777216) rfl hp1) (.inr fun pa2 hpa2 => ?_)
    (refine evs_nil ?_)
    refine (run_pieces hC (hr.le (lq0 [] 1 (.n 3) (.n 59) rfl )) g P0 hp1 h3 fun H8 => ?_).cl
    (refine Ev_p (by assumption) (by rfl) ?_)
    refine Bo_ne_li hr .f .f ?_
    (refine Th_bool ?_)
    refine ite_f (by simp) ?_
    refine Ex_nil ?_
    refine Ex_nil ?_
    exact ⟨_, by (refine Sub.cons (by rfl) ?_; refine Sub.cons (by rfl) ?_; refine Sub.cons (by rfl) ?_; refine Sub.cons (by rfl) ?_; refine Sub.cons (by rfl) ?_; refine Sub.cons (by rfl) ?_; refine Sub.cons (by rfl) ?_; refine Sub.cons (by rfl) ?_; refine Sub.cons (by rfl) ?_; refine Sub.cons (by rfl) ?_; exact Sub.nil _), rfl⟩
  · rintro ls' H5 rfl
    refine Ex_cons ?_
    refine E1_Return ?_
    refine Ev_Compare ?_
    refine call_law_run hC he ?_
    refine evs_cons ?_
    refine call_law_passed hC he ?_
    (refine Evs_p (by assumption) (by rfl) ?_)
    refine (pass_pieces (e := true) hC (hr.le (lq0 [] 1 (.n 40) (.n 59) rfl )) F.g2 rfl fun H6 => ?_).cl
    refine evs_cons ?_
    refine call_list hC he ?_
    (refine Evs_p (by assumption) (by rfl) ?_)
    refine Cl_list .f (by rw [List.length_map, z24]; exact lq1 [_] (.eq 1 (.v 0) (.n 3)) 1 (.v 0) (.n 16777216) rfl hp1) (.inr fun pa2 hpa2 => ?_)
    (refine evs_nil ?_)
    refine (run_pieces hC (hr.le (lq0 [] 1 (.n 3) (.n 59) rfl )) F.g3 P0 hp1 F.r3 fun H8 => ?_).cl
    (refine Ev_p (by assumption) (by rfl) ?_)
    refine Bo_eq_li hr .f .f ?_
    rw [decide_eq_true rfl]
    exact h H8
end

end Nm
namespace Nm
open PySem PySem.W PySem.Calls PyProof.Rows
/- NmZZ -/
theorem well_ivs {P : Params} {h : Heap} : ∀ {vs : List Value} {ts : List Int}, WellAll P h vs (ofPys (ts.map PyData.int)) → RepL (fun _ => none) h vs (ivs ts)
  | vs, [], w => by
    simp only [List.map_nil, ofPys] at w
    cases w
    exact .nil
  | vs, x :: r, w => by
    simp only [List.map_cons, ofPys, ofPy] at w
    cases w with
    | cons a b => cases a with
      | int i t => exact .cons (.int _ _) (well_ivs b)
theorem well_li {P : Params} {h : Heap} {v : Value} {ts : List Int} (w : Well P h v (ofPy (PyData.list (ts.map PyData.int)))) : Rep (fun _ => none) h v (li ts) := by
  simp only [ofPy] at w
  cases w with
  | list e a => exact .lst (items := _) e rfl (well_ivs a)
/-- the law's call, from the heap that it is given -/
theorem law_call {prog : Program} {w : World} {p : Program} {loose : List Str} {mg mb : Str → Option Value} {s : Shared} {fa : Addr} {v : Value} {ts : List Int}
    (kin : (hd.heap_1 w.params).In s.heap) (top : TopRead p loose mg mb s.heap) (hmg : mg "law" = some (.ref fa)) (hw : Well w.params s.heap v (ofPy (PyData.list (ts.map PyData.int)))) (hts : ts.length ≤ 63) :
    wpAny (model prog w) callerA (call (.ref fa) [v]) (fun r s' => r = .bool true ∧ (∀ b o, s.heap.get? b = some o → s'.heap.get? b = some o) ∧ Stp s s') (fun _ _ => False) s := by
  have hC : CxOk (cx ⟨prog, w, p, loose, mg, mb, s.heap⟩) := ⟨kin, top, top.nolimit⟩
  have hfa : fa = 214 := by
    have := mg_of kin top.g (gl_law (b := ⟨prog, w, p, loose, mg, mb, s.heap⟩))
    rw [hmg] at this
    cases this
    rfl
  subst hfa
  have S : HOk (cx ⟨prog, w, p, loose, mg, mb, s.heap⟩) (fun _ => none) s.heap := ⟨fun _ _ e => e, fun _ _ e => (by cases e), fun _ _ e => (by cases e), fun _ _ _ e => (by cases e), fun _ _ _ _ _ e => (by cases e)⟩
  have r : Rm callerA 60 := ⟨rfl, by decide, by decide⟩
  have := (law_spec (b := ⟨prog, w, p, loose, mg, mb, s.heap⟩) (A := callerA) (H := fun _ => none) (Q := fun v _ => v = .bool true) hC r hts fun _ => rfl).cl s [v] S (.cons (well_li hw) .nil)
  refine wpAny_mono this (fun r s' q => ?_) fun _ _ z => z.elim
  obtain ⟨v', H', a, hok, c, d, rfl⟩ := q
  cases a
  exact ⟨rfl, hok.base, d⟩
end Nm

open PySem PySem.W PyProof.Rows
set_option maxRecDepth 100000 in
set_option maxHeartbeats 8000000 in
theorem PySem.Challenge.cw_nm0115_01_holds : PySem.Challenge.rw_nm0115_01.Holds := by
  refine Nm.hd ?_
  intro w s₀ s₁ mg mb G Y fa o pm cd doc dV kV ho hd' hcd hD hmg hg args vals as hpre hlay hrd hwl hlo
  have KX := kIn_of Y
  refine Ground.open G ?_
  intro T B D TE TW
  clear hcd hd' hD ho
  wrow_args hpre hlay hrd hwl hlo
  rename_i hw1 hr0 hI2 hr2 hlen hc2
  refine wpAny_mono (Nm.law_call KX (topRead_of T) hmg hw1 (by omega)) (fun r s' q => ?_) (fun _ _ z => z.elim)
  obtain ⟨rfl, hk, h', tk', rfl⟩ := q
  refine GoodW.toG ⟨.inl ⟨.bool true, .bool true, [], rfl, fun _ => rfl, ?_, ?_, ?_⟩, hk, rfl, hg⟩
  · exact .bool true
  · wrow_post
  · intro h
    exact ⟨List.nodup_nil, fun a ha => nomatch ha⟩
