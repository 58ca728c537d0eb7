import PyProof.Rows.All
import Wide.All
import OpenK.AllK
import Wide.FinOn
import Lean
import PySem.Challenge.RW_pf0124_01
set_option Elab.async false
set_option linter.unusedVariables false
section
set_option genSizeOf false
set_option genInjectivity false
namespace Mine
inductive FLx
  | ξ (i : Nat)
  | ν (i : Nat)
  | κ (k : Nat)
  | ζ (a b : FLx)
  | δ (a b : FLx)
  | η (a : FLx)
  | π (k : Nat) (a : FLx)
  | ω (a : FLx) (k : Nat)
open FLx
noncomputable def FLx.den (xs : List Int) (ns : List Nat) : FLx → Int
  | ξ i => xs.getD i 0
  | ν i => ((ns.getD i 0 : Nat) : Int)
  | κ k => ((k : Nat) : Int)
  | ζ a b => a.den xs ns + b.den xs ns
  | δ a b => a.den xs ns - b.den xs ns
  | η a => -a.den xs ns
  | π k a => ((k : Nat) : Int) * a.den xs ns
  | ω a k => a.den xs ns * ((k : Nat) : Int)
noncomputable def FLx.dn (ns : List Nat) : FLx → Nat
  | ν i => ns.getD i 0
  | κ k => k
  | ζ a b => a.dn ns + b.dn ns
  | π k a => k * a.dn ns
  | ω a k => a.dn ns * k
  | _ => 0
noncomputable def FLx.ok : FLx → Bool
  | ν _ => true
  | κ _ => true
  | ζ a b => a.ok && b.ok
  | π _ a => a.ok
  | ω a _ => a.ok
  | _ => false
noncomputable def FLx.cp (s : Bool) (j : Nat) : FLx → Nat
  | ξ i => bif s then bif Nat.beq j (2 * i + 1) then 1 else 0 else 0
  | ν i => bif s then bif Nat.beq j (2 * i + 2) then 1 else 0 else 0
  | κ k => bif s then bif Nat.beq j 0 then k else 0 else 0
  | ζ a b => a.cp s j + b.cp s j
  | δ a b => a.cp s j + b.cp (!s) j
  | η a => a.cp (!s) j
  | π k a => k * a.cp s j
  | ω a k => k * a.cp s j
inductive FCx
  | φ (a b : FLx)
  | ψ (a b : FLx)
  | θ (a b : FLx)
  | ϑ (a b : FLx)
  | Φ (a b : FLx)
  | Ψ (a b : FLx)
  | φn (a b : FLx)
  | ψn (a b : FLx)
  | θn (a b : FLx)
  | ϑn (a b : FLx)
  | Φn (a b : FLx)
  | Ψn (a b : FLx)
open FCx
noncomputable def FCx.den (xs : List Int) (ns : List Nat) : FCx → Prop
  | φ a b => a.den xs ns ≤ b.den xs ns
  | ψ a b => a.den xs ns < b.den xs ns
  | θ a b => a.den xs ns = b.den xs ns
  | ϑ a b => a.den xs ns = b.den xs ns
  | Φ a b => ¬ a.den xs ns ≤ b.den xs ns
  | Ψ a b => ¬ a.den xs ns < b.den xs ns
  | φn a b => a.dn ns ≤ b.dn ns
  | ψn a b => a.dn ns < b.dn ns
  | θn a b => a.dn ns = b.dn ns
  | ϑn a b => a.dn ns = b.dn ns
  | Φn a b => ¬ a.dn ns ≤ b.dn ns
  | Ψn a b => ¬ a.dn ns < b.dn ns
noncomputable def FCx.px : FCx → FLx
  | φ a b => δ b a
  | ψ a b => δ (δ b a) (κ 1)
  | θ a b => δ b a
  | ϑ a b => δ a b
  | Φ a b => δ (δ a b) (κ 1)
  | Ψ a b => δ a b
  | φn a b => δ b a
  | ψn a b => δ (δ b a) (κ 1)
  | θn a b => δ b a
  | ϑn a b => δ a b
  | Φn a b => δ (δ a b) (κ 1)
  | Ψn a b => δ a b
noncomputable def FCx.ok : FCx → Bool
  | φ _ _ => true
  | ψ _ _ => true
  | θ _ _ => true
  | ϑ _ _ => true
  | Φ _ _ => true
  | Ψ _ _ => true
  | φn a b => a.ok && b.ok
  | ψn a b => a.ok && b.ok
  | θn a b => a.ok && b.ok
  | ϑn a b => a.ok && b.ok
  | Φn a b => a.ok && b.ok
  | Ψn a b => a.ok && b.ok
noncomputable def FCx.no : FCx → FCx
  | φ a b => Φ a b
  | ψ a b => Ψ a b
  | Φ a b => φ a b
  | Ψ a b => ψ a b
  | φn a b => Φn a b
  | ψn a b => Ψn a b
  | Φn a b => φn a b
  | Ψn a b => ψn a b
  | c => c
noncomputable def FCx.go : FCx → Bool
  | θ _ _ => false
  | ϑ _ _ => false
  | θn _ _ => false
  | ϑn _ _ => false
  | _ => true
theorem FLx.dn_den {xs : List Int} {ns : List Nat} : ∀ {e : FLx}, e.ok = true → ((e.dn ns : Nat) : Int) = e.den xs ns
  | ν _, _ => rfl
  | κ _, _ => rfl
  | ζ a b, h => by
    have ⟨x, y⟩ := Bool.and_eq_true_iff.mp h
    show (((a.dn ns + b.dn ns : Nat)) : Int) = a.den xs ns + b.den xs ns
    rw [← dn_den x, ← dn_den y]; rfl
  | π k a, h => by
    show ((k * a.dn ns : Nat) : Int) = (k : Int) * a.den xs ns
    rw [← dn_den (e := a) h]; rfl
  | ω a k, h => by
    show ((a.dn ns * k : Nat) : Int) = a.den xs ns * (k : Int)
    rw [← dn_den (e := a) h]; rfl
theorem FCx.nn {xs : List Int} {ns : List Nat} {c : FCx} (o : c.ok = true) (h : c.den xs ns) : 0 ≤ c.px.den xs ns := by
  have two (a b : FLx) (o : (a.ok && b.ok) = true) := (show _ ∧ _ from ⟨FLx.dn_den (xs := xs) (ns := ns) (Bool.and_eq_true_iff.mp o).1, FLx.dn_den (xs := xs) (ns := ns) (Bool.and_eq_true_iff.mp o).2⟩)
  cases c <;> simp only [FCx.den] at h <;> simp only [FCx.px, FLx.den] <;> (try replace two := two _ _ o) <;> omega
noncomputable def fdot (f : Nat → Int) : Nat → List Int → Int
  | _, [] => 0
  | i, x :: l => f i * x + fdot f (i + 2) l
theorem fdot_add (f g : Nat → Int) : ∀ (i : Nat) (l : List Int), fdot (fun j => f j + g j) i l = fdot f i l + fdot g i l
  | _, [] => rfl
  | i, x :: l => by simp only [fdot, fdot_add f g (i + 2) l, Int.add_mul]; omega
theorem fdot_neg (f : Nat → Int) : ∀ (i : Nat) (l : List Int), fdot (fun j => -f j) i l = -fdot f i l
  | _, [] => rfl
  | i, x :: l => by simp only [fdot, fdot_neg f (i + 2) l, Int.neg_mul]; omega
theorem fdot_mul (k : Int) (f : Nat → Int) : ∀ (i : Nat) (l : List Int), fdot (fun j => k * f j) i l = k * fdot f i l
  | _, [] => (Int.mul_zero k).symm
  | i, x :: l => by simp only [fdot, fdot_mul k f (i + 2) l, Int.mul_add, Int.mul_assoc]
theorem fdot_zero (f : Nat → Int) : ∀ (i : Nat) (l : List Int), (∀ j, f (i + 2 * j) = 0) → fdot f i l = 0
  | _, [], _ => rfl
  | i, x :: l, h => by
    have h0 := h 0
    rw [Nat.mul_zero, Nat.add_zero] at h0
    simp only [fdot, h0, fdot_zero f (i + 2) l (fun j => by rw [← h (j + 1)]; congr 1; omega), Int.zero_mul, Int.add_zero]
theorem fdot_one (f : Nat → Int) : ∀ (i k : Nat) (l : List Int), (∀ j, f (i + 2 * j) = if j = k then 1 else 0) → fdot f i l = l.getD k 0
  | _, _, [], _ => rfl
  | i, 0, x :: l, h => by
    have h0 := h 0
    rw [Nat.mul_zero, Nat.add_zero, if_pos rfl] at h0
    simp only [fdot, h0, fdot_zero f (i + 2) l (fun j => by rw [← if_neg (Nat.succ_ne_zero j) (t := (1 : Int)) (e := 0), ← h (j + 1)]; congr 1; omega), Int.one_mul, Int.add_zero]
    rfl
  | i, k + 1, x :: l, h => by
    have h0 := h 0
    rw [Nat.mul_zero, Nat.add_zero, if_neg (Nat.succ_ne_zero k).symm] at h0
    simp only [fdot, h0, Int.zero_mul, Int.zero_add]
    rw [fdot_one f (i + 2) k l (fun j => by rw [← show i + 2 * (j + 1) = i + 2 + 2 * j by omega, h (j + 1)]; simp only [Nat.succ_inj])]
    rfl
noncomputable def FLx.cI (e : FLx) (j : Nat) : Int := (e.cp true j : Int) - (e.cp false j : Int)
theorem FLx.den_cI (xs : List Int) (ns : List Nat) : ∀ e : FLx, e.den xs ns = e.cI 0 + fdot e.cI 1 xs + fdot e.cI 2 (ns.map fun n => ((n : Nat) : Int))
  | ξ i => by
    have e1 : (ξ i).cI 0 = 0 := rfl
    rw [fdot_one (ξ i).cI 1 i xs (fun j => by
        unfold cI cp
        by_cases h : j = i
        · rw [if_pos h, show Nat.beq (1 + 2 * j) (2 * i + 1) = true from by rw [h, Nat.add_comm]; exact Nat.beq_refl _]; rfl
        · rw [if_neg h, show Nat.beq (1 + 2 * j) (2 * i + 1) = false from Bool.eq_false_iff.mpr fun e => h (by have := Nat.eq_of_beq_eq_true e; omega)]; rfl),
      fdot_zero (ξ i).cI 2 _ (fun j => by
        unfold cI cp
        rw [show Nat.beq (2 + 2 * j) (2 * i + 1) = false from Bool.eq_false_iff.mpr fun e => by have := Nat.eq_of_beq_eq_true e; omega]; rfl), e1, Int.zero_add, Int.add_zero]
    rfl
  | ν i => by
    have e1 : (ν i).cI 0 = 0 := rfl
    rw [fdot_one (ν i).cI 2 i _ (fun j => by
        unfold cI cp
        by_cases h : j = i
        · rw [if_pos h, show Nat.beq (2 + 2 * j) (2 * i + 2) = true from by rw [h, Nat.add_comm]; exact Nat.beq_refl _]; rfl
        · rw [if_neg h, show Nat.beq (2 + 2 * j) (2 * i + 2) = false from Bool.eq_false_iff.mpr fun e => h (by have := Nat.eq_of_beq_eq_true e; omega)]; rfl),
      fdot_zero (ν i).cI 1 _ (fun j => by
        unfold cI cp
        rw [show Nat.beq (1 + 2 * j) (2 * i + 2) = false from Bool.eq_false_iff.mpr fun e => by have := Nat.eq_of_beq_eq_true e; omega]; rfl), e1, Int.zero_add, Int.zero_add]
    show _ = (ns.map _).getD i 0
    rw [List.getD_eq_getElem?_getD, List.getElem?_map]
    show ((ns.getD i 0 : Nat) : Int) = _
    rw [List.getD_eq_getElem?_getD]
    cases ns[i]? <;> rfl
  | κ k => by
    have z (m : Nat) (h : m = 1 ∨ m = 2) (j : Nat) : (κ k).cI (m + 2 * j) = 0 := by
      unfold cI cp
      rw [show Nat.beq (m + 2 * j) 0 = false from Bool.eq_false_iff.mpr fun e => by have := Nat.eq_of_beq_eq_true e; omega]; rfl
    rw [fdot_zero _ 1 _ (z 1 (.inl rfl)), fdot_zero _ 2 _ (z 2 (.inr rfl))]
    unfold cI cp
    show ((k : Nat) : Int) = ((k : Nat) : Int) - 0 + 0 + 0
    omega
  | ζ a b => by
    have e (j) : (ζ a b).cI j = a.cI j + b.cI j := by unfold cI; simp only [cp]; omega
    have e' : (ζ a b).cI = fun j => a.cI j + b.cI j := funext e
    rw [e', fdot_add, fdot_add]
    simp only [den, den_cI xs ns a, den_cI xs ns b]
    omega
  | δ a b => by
    have e (j) : (δ a b).cI j = a.cI j + -b.cI j := by unfold cI; simp only [cp, Bool.not_true, Bool.not_false]; omega
    have e' : (δ a b).cI = fun j => a.cI j + -b.cI j := funext e
    rw [e', fdot_add a.cI (fun j => -b.cI j), fdot_add a.cI (fun j => -b.cI j), fdot_neg, fdot_neg]
    simp only [den, den_cI xs ns a, den_cI xs ns b]
    omega
  | η a => by
    have e (j) : (η a).cI j = -a.cI j := by unfold cI; simp only [cp, Bool.not_true, Bool.not_false]; omega
    have e' : (η a).cI = fun j => -a.cI j := funext e
    rw [e', fdot_neg, fdot_neg]
    simp only [den, den_cI xs ns a]
    omega
  | π k a => by
    have e (j) : (π k a).cI j = (k : Int) * a.cI j := by unfold cI; simp only [cp, Int.mul_sub, Int.natCast_mul]
    have e' : (π k a).cI = fun j => (k : Int) * a.cI j := funext e
    rw [e', fdot_mul, fdot_mul]
    simp only [den, den_cI xs ns a, Int.mul_add]
  | ω a k => by
    have e (j) : (ω a k).cI j = (k : Int) * a.cI j := by unfold cI; simp only [cp, Int.mul_sub, Int.natCast_mul]
    have e' : (ω a k).cI = fun j => (k : Int) * a.cI j := funext e
    rw [e', fdot_mul, fdot_mul]
    simp only [den, den_cI xs ns a, Int.mul_comm _ (k : Int), Int.mul_add]
noncomputable def fbal (e : FLx) : Nat → List α → Bool
  | _, [] => true
  | i, _ :: l => Nat.beq (e.cp true i) (e.cp false i) && fbal e (i + 2) l
theorem fdot_bal {α} {e : FLx} (g : α → Int) : ∀ {i : Nat} {l : List α}, fbal e i l = true → fdot e.cI i (l.map g) = 0
  | _, [], _ => rfl
  | i, x :: l, h => by
    have ⟨p, q⟩ := Bool.and_eq_true_iff.mp h
    have r := Nat.eq_of_beq_eq_true p
    have z : e.cI i = 0 := by unfold FLx.cI; rw [r]; omega
    simp only [List.map_cons, fdot, z, Int.zero_mul, Int.zero_add]
    exact fdot_bal g q
theorem tn {a : Int} (h : 0 ≤ a) : ((a.toNat : Nat) : Int) = a := Int.toNat_of_nonneg h
theorem yes : true = true := rfl
noncomputable def fchk (xs : List Int) (ns : List Nat) (o : Bool) (e : FLx) : Bool := o && (Nat.blt (e.cp true 0) (e.cp false 0) && (fbal e 1 xs && fbal e 2 ns))
theorem fchk_neg {xs : List Int} {ns : List Nat} {o : Bool} {e : FLx} (h : fchk xs ns o e = true) (n : 0 ≤ e.den xs ns) : False := by
  have ⟨_, a⟩ := Bool.and_eq_true_iff.mp h
  have ⟨b, c⟩ := Bool.and_eq_true_iff.mp a
  have ⟨p, q⟩ := Bool.and_eq_true_iff.mp c
  rw [FLx.den_cI] at n
  have p' := fdot_bal (e := e) (fun x : Int => x) p
  rw [List.map_id'] at p'
  rw [p', fdot_bal _ q] at n
  have b' : e.cp true 0 < e.cp false 0 := Nat.le_of_ble_eq_true b
  unfold FLx.cI at n
  omega
noncomputable def fpx (k : Nat) (c : FCx) (e : FLx) : FLx := ζ (π k c.px) e
theorem fpx_nn {xs : List Int} {ns : List Nat} {k : Nat} {c : FCx} {e : FLx} (o : c.ok = true) (h : c.den xs ns) (n : 0 ≤ e.den xs ns) : 0 ≤ (fpx k c e).den xs ns := by
  have := Int.mul_nonneg (Int.natCast_nonneg k) (FCx.nn o h)
  exact Int.add_nonneg this n
theorem FCx.byC {xs : List Int} {ns : List Nat} {g : FCx} (o : g.go = true) (h : g.no.den xs ns → False) : g.den xs ns := by
  cases g <;> first | (cases o; done) | (simp only [FCx.no, FCx.den] at h ⊢; first | exact h | exact Decidable.byContradiction h)
theorem FCx.no_ok {g : FCx} : g.no.ok = g.ok := by cases g <;> rfl
theorem fk0 (xs : List Int) (ns : List Nat) (g : FCx) (kg : Nat) (h : fchk xs ns (g.ok && g.go) (π kg g.no.px) = true) : g.den xs ns := by
  have ⟨a, b⟩ := Bool.and_eq_true_iff.mp (Bool.and_eq_true_iff.mp h).1
  exact FCx.byC b fun n => fchk_neg h (Int.mul_nonneg (Int.natCast_nonneg kg) (FCx.nn (FCx.no_ok.trans a) n))
theorem fk1 (xs : List Int) (ns : List Nat) (g : FCx) (kg : Nat) (k1 : Nat) (c1 : FCx) (h : fchk xs ns (c1.ok && (g.ok && g.go)) (fpx k1 c1 (π kg g.no.px)) = true) (h1 : c1.den xs ns) : g.den xs ns := by
  have ⟨w0, _⟩ := Bool.and_eq_true_iff.mp h
  have ⟨o1, w1⟩ := Bool.and_eq_true_iff.mp w0
  have ⟨a, b⟩ := Bool.and_eq_true_iff.mp w1
  exact FCx.byC b fun m => fchk_neg h (fpx_nn o1 h1 (Int.mul_nonneg (Int.natCast_nonneg kg) (FCx.nn (FCx.no_ok.trans a) m)))
theorem fn1 (xs : List Int) (ns : List Nat) (k1 : Nat) (c1 : FCx) (h : fchk xs ns c1.ok (π k1 c1.px) = true) (h1 : c1.den xs ns) : False := by
  have ⟨w0, _⟩ := Bool.and_eq_true_iff.mp h
  exact fchk_neg h (Int.mul_nonneg (Int.natCast_nonneg k1) (FCx.nn w0 h1))
theorem fk2 (xs : List Int) (ns : List Nat) (g : FCx) (kg : Nat) (k1 : Nat) (c1 : FCx) (k2 : Nat) (c2 : FCx) (h : fchk xs ns (c1.ok && (c2.ok && (g.ok && g.go))) (fpx k1 c1 (fpx k2 c2 (π kg g.no.px))) = true) (h1 : c1.den xs ns) (h2 : c2.den xs ns) : g.den xs ns := by
  have ⟨w0, _⟩ := Bool.and_eq_true_iff.mp h
  have ⟨o1, w1⟩ := Bool.and_eq_true_iff.mp w0
  have ⟨o2, w2⟩ := Bool.and_eq_true_iff.mp w1
  have ⟨a, b⟩ := Bool.and_eq_true_iff.mp w2
  exact FCx.byC b fun m => fchk_neg h (fpx_nn o1 h1 (fpx_nn o2 h2 (Int.mul_nonneg (Int.natCast_nonneg kg) (FCx.nn (FCx.no_ok.trans a) m))))
theorem fn2 (xs : List Int) (ns : List Nat) (k1 : Nat) (c1 : FCx) (k2 : Nat) (c2 : FCx) (h : fchk xs ns (c1.ok && c2.ok) (fpx k1 c1 (π k2 c2.px)) = true) (h1 : c1.den xs ns) (h2 : c2.den xs ns) : False := by
  have ⟨w0, _⟩ := Bool.and_eq_true_iff.mp h
  have ⟨o1, w1⟩ := Bool.and_eq_true_iff.mp w0
  exact fchk_neg h (fpx_nn o1 h1 (Int.mul_nonneg (Int.natCast_nonneg k2) (FCx.nn w1 h2)))
theorem fk3 (xs : List Int) (ns : List Nat) (g : FCx) (kg : Nat) (k1 : Nat) (c1 : FCx) (k2 : Nat) (c2 : FCx) (k3 : Nat) (c3 : FCx) (h : fchk xs ns (c1.ok && (c2.ok && (c3.ok && (g.ok && g.go)))) (fpx k1 c1 (fpx k2 c2 (fpx k3 c3 (π kg g.no.px)))) = true) (h1 : c1.den xs ns) (h2 : c2.den xs ns) (h3 : c3.den xs ns) : g.den xs ns := by
  have ⟨w0, _⟩ := Bool.and_eq_true_iff.mp h
  have ⟨o1, w1⟩ := Bool.and_eq_true_iff.mp w0
  have ⟨o2, w2⟩ := Bool.and_eq_true_iff.mp w1
  have ⟨o3, w3⟩ := Bool.and_eq_true_iff.mp w2
  have ⟨a, b⟩ := Bool.and_eq_true_iff.mp w3
  exact FCx.byC b fun m => fchk_neg h (fpx_nn o1 h1 (fpx_nn o2 h2 (fpx_nn o3 h3 (Int.mul_nonneg (Int.natCast_nonneg kg) (FCx.nn (FCx.no_ok.trans a) m)))))
theorem fn3 (xs : List Int) (ns : List Nat) (k1 : Nat) (c1 : FCx) (k2 : Nat) (c2 : FCx) (k3 : Nat) (c3 : FCx) (h : fchk xs ns (c1.ok && (c2.ok && c3.ok)) (fpx k1 c1 (fpx k2 c2 (π k3 c3.px))) = true) (h1 : c1.den xs ns) (h2 : c2.den xs ns) (h3 : c3.den xs ns) : False := by
  have ⟨w0, _⟩ := Bool.and_eq_true_iff.mp h
  have ⟨o1, w1⟩ := Bool.and_eq_true_iff.mp w0
  have ⟨o2, w2⟩ := Bool.and_eq_true_iff.mp w1
  exact fchk_neg h (fpx_nn o1 h1 (fpx_nn o2 h2 (Int.mul_nonneg (Int.natCast_nonneg k3) (FCx.nn w2 h3))))
theorem fk4 (xs : List Int) (ns : List Nat) (g : FCx) (kg : Nat) (k1 : Nat) (c1 : FCx) (k2 : Nat) (c2 : FCx) (k3 : Nat) (c3 : FCx) (k4 : Nat) (c4 : FCx) (h : fchk xs ns (c1.ok && (c2.ok && (c3.ok && (c4.ok && (g.ok && g.go))))) (fpx k1 c1 (fpx k2 c2 (fpx k3 c3 (fpx k4 c4 (π kg g.no.px))))) = true) (h1 : c1.den xs ns) (h2 : c2.den xs ns) (h3 : c3.den xs ns) (h4 : c4.den xs ns) : g.den xs ns := by
  have ⟨w0, _⟩ := Bool.and_eq_true_iff.mp h
  have ⟨o1, w1⟩ := Bool.and_eq_true_iff.mp w0
  have ⟨o2, w2⟩ := Bool.and_eq_true_iff.mp w1
  have ⟨o3, w3⟩ := Bool.and_eq_true_iff.mp w2
  have ⟨o4, w4⟩ := Bool.and_eq_true_iff.mp w3
  have ⟨a, b⟩ := Bool.and_eq_true_iff.mp w4
  exact FCx.byC b fun m => fchk_neg h (fpx_nn o1 h1 (fpx_nn o2 h2 (fpx_nn o3 h3 (fpx_nn o4 h4 (Int.mul_nonneg (Int.natCast_nonneg kg) (FCx.nn (FCx.no_ok.trans a) m))))))
theorem fn4 (xs : List Int) (ns : List Nat) (k1 : Nat) (c1 : FCx) (k2 : Nat) (c2 : FCx) (k3 : Nat) (c3 : FCx) (k4 : Nat) (c4 : FCx) (h : fchk xs ns (c1.ok && (c2.ok && (c3.ok && c4.ok))) (fpx k1 c1 (fpx k2 c2 (fpx k3 c3 (π k4 c4.px)))) = true) (h1 : c1.den xs ns) (h2 : c2.den xs ns) (h3 : c3.den xs ns) (h4 : c4.den xs ns) : False := by
  have ⟨w0, _⟩ := Bool.and_eq_true_iff.mp h
  have ⟨o1, w1⟩ := Bool.and_eq_true_iff.mp w0
  have ⟨o2, w2⟩ := Bool.and_eq_true_iff.mp w1
  have ⟨o3, w3⟩ := Bool.and_eq_true_iff.mp w2
  exact fchk_neg h (fpx_nn o1 h1 (fpx_nn o2 h2 (fpx_nn o3 h3 (Int.mul_nonneg (Int.natCast_nonneg k4) (FCx.nn w3 h4)))))
theorem fk5 (xs : List Int) (ns : List Nat) (g : FCx) (kg : Nat) (k1 : Nat) (c1 : FCx) (k2 : Nat) (c2 : FCx) (k3 : Nat) (c3 : FCx) (k4 : Nat) (c4 : FCx) (k5 : Nat) (c5 : FCx) (h : fchk xs ns (c1.ok && (c2.ok && (c3.ok && (c4.ok && (c5.ok && (g.ok && g.go)))))) (fpx k1 c1 (fpx k2 c2 (fpx k3 c3 (fpx k4 c4 (fpx k5 c5 (π kg g.no.px)))))) = true) (h1 : c1.den xs ns) (h2 : c2.den xs ns) (h3 : c3.den xs ns) (h4 : c4.den xs ns) (h5 : c5.den xs ns) : g.den xs ns := by
  have ⟨w0, _⟩ := Bool.and_eq_true_iff.mp h
  have ⟨o1, w1⟩ := Bool.and_eq_true_iff.mp w0
  have ⟨o2, w2⟩ := Bool.and_eq_true_iff.mp w1
  have ⟨o3, w3⟩ := Bool.and_eq_true_iff.mp w2
  have ⟨o4, w4⟩ := Bool.and_eq_true_iff.mp w3
  have ⟨o5, w5⟩ := Bool.and_eq_true_iff.mp w4
  have ⟨a, b⟩ := Bool.and_eq_true_iff.mp w5
  exact FCx.byC b fun m => fchk_neg h (fpx_nn o1 h1 (fpx_nn o2 h2 (fpx_nn o3 h3 (fpx_nn o4 h4 (fpx_nn o5 h5 (Int.mul_nonneg (Int.natCast_nonneg kg) (FCx.nn (FCx.no_ok.trans a) m)))))))
theorem fn5 (xs : List Int) (ns : List Nat) (k1 : Nat) (c1 : FCx) (k2 : Nat) (c2 : FCx) (k3 : Nat) (c3 : FCx) (k4 : Nat) (c4 : FCx) (k5 : Nat) (c5 : FCx) (h : fchk xs ns (c1.ok && (c2.ok && (c3.ok && (c4.ok && c5.ok)))) (fpx k1 c1 (fpx k2 c2 (fpx k3 c3 (fpx k4 c4 (π k5 c5.px))))) = true) (h1 : c1.den xs ns) (h2 : c2.den xs ns) (h3 : c3.den xs ns) (h4 : c4.den xs ns) (h5 : c5.den xs ns) : False := by
  have ⟨w0, _⟩ := Bool.and_eq_true_iff.mp h
  have ⟨o1, w1⟩ := Bool.and_eq_true_iff.mp w0
  have ⟨o2, w2⟩ := Bool.and_eq_true_iff.mp w1
  have ⟨o3, w3⟩ := Bool.and_eq_true_iff.mp w2
  have ⟨o4, w4⟩ := Bool.and_eq_true_iff.mp w3
  exact fchk_neg h (fpx_nn o1 h1 (fpx_nn o2 h2 (fpx_nn o3 h3 (fpx_nn o4 h4 (Int.mul_nonneg (Int.natCast_nonneg k5) (FCx.nn w4 h5))))))
theorem fk6 (xs : List Int) (ns : List Nat) (g : FCx) (kg : Nat) (k1 : Nat) (c1 : FCx) (k2 : Nat) (c2 : FCx) (k3 : Nat) (c3 : FCx) (k4 : Nat) (c4 : FCx) (k5 : Nat) (c5 : FCx) (k6 : Nat) (c6 : FCx) (h : fchk xs ns (c1.ok && (c2.ok && (c3.ok && (c4.ok && (c5.ok && (c6.ok && (g.ok && g.go))))))) (fpx k1 c1 (fpx k2 c2 (fpx k3 c3 (fpx k4 c4 (fpx k5 c5 (fpx k6 c6 (π kg g.no.px))))))) = true) (h1 : c1.den xs ns) (h2 : c2.den xs ns) (h3 : c3.den xs ns) (h4 : c4.den xs ns) (h5 : c5.den xs ns) (h6 : c6.den xs ns) : g.den xs ns := by
  have ⟨w0, _⟩ := Bool.and_eq_true_iff.mp h
  have ⟨o1, w1⟩ := Bool.and_eq_true_iff.mp w0
  have ⟨o2, w2⟩ := Bool.and_eq_true_iff.mp w1
  have ⟨o3, w3⟩ := Bool.and_eq_true_iff.mp w2
  have ⟨o4, w4⟩ := Bool.and_eq_true_iff.mp w3
  have ⟨o5, w5⟩ := Bool.and_eq_true_iff.mp w4
  have ⟨o6, w6⟩ := Bool.and_eq_true_iff.mp w5
  have ⟨a, b⟩ := Bool.and_eq_true_iff.mp w6
  exact FCx.byC b fun m => fchk_neg h (fpx_nn o1 h1 (fpx_nn o2 h2 (fpx_nn o3 h3 (fpx_nn o4 h4 (fpx_nn o5 h5 (fpx_nn o6 h6 (Int.mul_nonneg (Int.natCast_nonneg kg) (FCx.nn (FCx.no_ok.trans a) m))))))))
theorem fk7 (xs : List Int) (ns : List Nat) (g : FCx) (kg : Nat) (k1 : Nat) (c1 : FCx) (k2 : Nat) (c2 : FCx) (k3 : Nat) (c3 : FCx) (k4 : Nat) (c4 : FCx) (k5 : Nat) (c5 : FCx) (k6 : Nat) (c6 : FCx) (k7 : Nat) (c7 : FCx) (h : fchk xs ns (c1.ok && (c2.ok && (c3.ok && (c4.ok && (c5.ok && (c6.ok && (c7.ok && (g.ok && g.go)))))))) (fpx k1 c1 (fpx k2 c2 (fpx k3 c3 (fpx k4 c4 (fpx k5 c5 (fpx k6 c6 (fpx k7 c7 (π kg g.no.px)))))))) = true) (h1 : c1.den xs ns) (h2 : c2.den xs ns) (h3 : c3.den xs ns) (h4 : c4.den xs ns) (h5 : c5.den xs ns) (h6 : c6.den xs ns) (h7 : c7.den xs ns) : g.den xs ns := by
  have ⟨w0, _⟩ := Bool.and_eq_true_iff.mp h
  have ⟨o1, w1⟩ := Bool.and_eq_true_iff.mp w0
  have ⟨o2, w2⟩ := Bool.and_eq_true_iff.mp w1
  have ⟨o3, w3⟩ := Bool.and_eq_true_iff.mp w2
  have ⟨o4, w4⟩ := Bool.and_eq_true_iff.mp w3
  have ⟨o5, w5⟩ := Bool.and_eq_true_iff.mp w4
  have ⟨o6, w6⟩ := Bool.and_eq_true_iff.mp w5
  have ⟨o7, w7⟩ := Bool.and_eq_true_iff.mp w6
  have ⟨a, b⟩ := Bool.and_eq_true_iff.mp w7
  exact FCx.byC b fun m => fchk_neg h (fpx_nn o1 h1 (fpx_nn o2 h2 (fpx_nn o3 h3 (fpx_nn o4 h4 (fpx_nn o5 h5 (fpx_nn o6 h6 (fpx_nn o7 h7 (Int.mul_nonneg (Int.natCast_nonneg kg) (FCx.nn (FCx.no_ok.trans a) m)))))))))
theorem fk8 (xs : List Int) (ns : List Nat) (g : FCx) (kg : Nat) (k1 : Nat) (c1 : FCx) (k2 : Nat) (c2 : FCx) (k3 : Nat) (c3 : FCx) (k4 : Nat) (c4 : FCx) (k5 : Nat) (c5 : FCx) (k6 : Nat) (c6 : FCx) (k7 : Nat) (c7 : FCx) (k8 : Nat) (c8 : FCx) (h : fchk xs ns (c1.ok && (c2.ok && (c3.ok && (c4.ok && (c5.ok && (c6.ok && (c7.ok && (c8.ok && (g.ok && g.go))))))))) (fpx k1 c1 (fpx k2 c2 (fpx k3 c3 (fpx k4 c4 (fpx k5 c5 (fpx k6 c6 (fpx k7 c7 (fpx k8 c8 (π kg g.no.px))))))))) = true) (h1 : c1.den xs ns) (h2 : c2.den xs ns) (h3 : c3.den xs ns) (h4 : c4.den xs ns) (h5 : c5.den xs ns) (h6 : c6.den xs ns) (h7 : c7.den xs ns) (h8 : c8.den xs ns) : g.den xs ns := by
  have ⟨w0, _⟩ := Bool.and_eq_true_iff.mp h
  have ⟨o1, w1⟩ := Bool.and_eq_true_iff.mp w0
  have ⟨o2, w2⟩ := Bool.and_eq_true_iff.mp w1
  have ⟨o3, w3⟩ := Bool.and_eq_true_iff.mp w2
  have ⟨o4, w4⟩ := Bool.and_eq_true_iff.mp w3
  have ⟨o5, w5⟩ := Bool.and_eq_true_iff.mp w4
  have ⟨o6, w6⟩ := Bool.and_eq_true_iff.mp w5
  have ⟨o7, w7⟩ := Bool.and_eq_true_iff.mp w6
  have ⟨o8, w8⟩ := Bool.and_eq_true_iff.mp w7
  have ⟨a, b⟩ := Bool.and_eq_true_iff.mp w8
  exact FCx.byC b fun m => fchk_neg h (fpx_nn o1 h1 (fpx_nn o2 h2 (fpx_nn o3 h3 (fpx_nn o4 h4 (fpx_nn o5 h5 (fpx_nn o6 h6 (fpx_nn o7 h7 (fpx_nn o8 h8 (Int.mul_nonneg (Int.natCast_nonneg kg) (FCx.nn (FCx.no_ok.trans a) m))))))))))
theorem fk9 (xs : List Int) (ns : List Nat) (g : FCx) (kg : Nat) (k1 : Nat) (c1 : FCx) (k2 : Nat) (c2 : FCx) (k3 : Nat) (c3 : FCx) (k4 : Nat) (c4 : FCx) (k5 : Nat) (c5 : FCx) (k6 : Nat) (c6 : FCx) (k7 : Nat) (c7 : FCx) (k8 : Nat) (c8 : FCx) (k9 : Nat) (c9 : FCx) (h : fchk xs ns (c1.ok && (c2.ok && (c3.ok && (c4.ok && (c5.ok && (c6.ok && (c7.ok && (c8.ok && (c9.ok && (g.ok && g.go)))))))))) (fpx k1 c1 (fpx k2 c2 (fpx k3 c3 (fpx k4 c4 (fpx k5 c5 (fpx k6 c6 (fpx k7 c7 (fpx k8 c8 (fpx k9 c9 (π kg g.no.px)))))))))) = true) (h1 : c1.den xs ns) (h2 : c2.den xs ns) (h3 : c3.den xs ns) (h4 : c4.den xs ns) (h5 : c5.den xs ns) (h6 : c6.den xs ns) (h7 : c7.den xs ns) (h8 : c8.den xs ns) (h9 : c9.den xs ns) : g.den xs ns := by
  have ⟨w0, _⟩ := Bool.and_eq_true_iff.mp h
  have ⟨o1, w1⟩ := Bool.and_eq_true_iff.mp w0
  have ⟨o2, w2⟩ := Bool.and_eq_true_iff.mp w1
  have ⟨o3, w3⟩ := Bool.and_eq_true_iff.mp w2
  have ⟨o4, w4⟩ := Bool.and_eq_true_iff.mp w3
  have ⟨o5, w5⟩ := Bool.and_eq_true_iff.mp w4
  have ⟨o6, w6⟩ := Bool.and_eq_true_iff.mp w5
  have ⟨o7, w7⟩ := Bool.and_eq_true_iff.mp w6
  have ⟨o8, w8⟩ := Bool.and_eq_true_iff.mp w7
  have ⟨o9, w9⟩ := Bool.and_eq_true_iff.mp w8
  have ⟨a, b⟩ := Bool.and_eq_true_iff.mp w9
  exact FCx.byC b fun m => fchk_neg h (fpx_nn o1 h1 (fpx_nn o2 h2 (fpx_nn o3 h3 (fpx_nn o4 h4 (fpx_nn o5 h5 (fpx_nn o6 h6 (fpx_nn o7 h7 (fpx_nn o8 h8 (fpx_nn o9 h9 (Int.mul_nonneg (Int.natCast_nonneg kg) (FCx.nn (FCx.no_ok.trans a) m)))))))))))
end Mine
end
section
open PySem PySem.W PyProof.Rows
set_option maxRecDepth 100000
namespace Mine
noncomputable def st (i : Nat) : Stmt := PySem.Challenge.pw_pf0124_01.main.body.getD i (.Pass ⟨0, 0, 0, 0⟩)
noncomputable def bodyOf : Stmt → List Stmt
  | .ClassDef _ _ _ b .. => b
  | _ => []
noncomputable def initS : Stmt := (bodyOf (st 1)).getD 0 (.Pass ⟨0, 0, 0, 0⟩)
noncomputable abbrev fnObj (s : Stmt) {nm : Str} {ps : Arguments} {bd : List Stmt} {de : List Expr} {rt : Option Expr} {tp : List TypeParam} {sc : Scope} {ts : Option Scope} {bi : Str} {po : Pos} (_h : s = .FunctionDef nm ps bd de rt tp sc ts bi po) (qual : Str) (md : String) (tk : Nat) (cd : Addr) : Obj :=
  { cls := .type "function", data := .func { name := nm, qualname := qual, params := ps, body := .stmts bd, scope := sc, globals := 3, closure := [], defaults := .none, kwdefaults := .none, pyModule := .str (Str.ofString md) tk, code := .ref cd } }
noncomputable abbrev cdObj (q : Str) (t ln ac c tk : Nat) : Obj :=
  { cls := .type "code", data := .fields #[.str q t, .str q (t + 1), .str (Str.ofString "/claim/cut.py") (t + 2), .int ln 0, .int ac 0, .int 0 0, .int 0 0, .int 3 0, .ref (c - 5), .bool true, .int 181 0, .ref (c - 4), .none, .ref (c - 3), .ref (c - 2), .ref (c - 1), .int tk 0, .int ln 0, .str (Str.ofString "/claim/cut.py") (tk + 1)] }
noncomputable def dropAt (l : List Stmt) : List Stmt := (l.drop 1).take 2 ++ ((l.drop 4).take 7 ++ ((l.drop 12).take 12 ++ ((l.drop 25).take 14 ++ (l.drop 40).take 15)))
noncomputable def viewQ : Program := { PySem.Challenge.pw_pf0124_01 with main := { PySem.Challenge.pw_pf0124_01.main with body := dropAt PySem.Challenge.pw_pf0124_01.main.body } }
noncomputable def heapK : Params → Frag := fun P =>
  (nat_lit 2, { cls := Value.none, data := Data.dict #[{ hash := PyData.keyHash P (Str.ofString "type.__subclasses__.Exception.0"), key := Value.str (Str.ofString "type.__subclasses__.Exception.0") 214, val := Value.int 31 0 }, { hash := PyData.keyHash P (Str.ofString "type.__subclasses__.Exception.n"), key := Value.str (Str.ofString "type.__subclasses__.Exception.n") 215, val := Value.int 1 0 }] 2 }) ::
   (nat_lit 3, { cls := Value.type "dict", data := Data.dict #[{ hash := PyData.keyHash P (Str.ofString "__name__"), key := Value.str (Str.ofString "__name__") 165, val := Value.str (Str.ofString "law_pf0124_01") 578 }, { hash := PyData.keyHash P (Str.ofString "__doc__"), key := Value.str (Str.ofString "__doc__") 166, val := Value.none }, { hash := PyData.keyHash P (Str.ofString "__package__"), key := Value.str (Str.ofString "__package__") 167, val := Value.none }, { hash := PyData.keyHash P (Str.ofString "__loader__"), key := Value.str (Str.ofString "__loader__") 168, val := Value.builtin "__main__.__loader__#opaque" }, { hash := PyData.keyHash P (Str.ofString "__spec__"), key := Value.str (Str.ofString "__spec__") 169, val := Value.none }, { hash := PyData.keyHash P (Str.ofString "__annotations__"), key := Value.str (Str.ofString "__annotations__") 170, val := Value.ref 6 }, { hash := PyData.keyHash P (Str.ofString "__builtins__"), key := Value.str (Str.ofString "__builtins__") 171, val := Value.ref 4 }, { hash := PyData.keyHash P (Str.ofString "__file__"), key := Value.str (Str.ofString "__file__") 173, val := Value.str (Str.ofString "/claim/cut.py") 172 }, { hash := PyData.keyHash P (Str.ofString "__cached__"), key := Value.str (Str.ofString "__cached__") 174, val := Value.none }, { hash := PyData.keyHash P (Str.ofString "F77Error"), key := Value.str (Str.ofString "F77Error") 217, val := Value.ref 31 }, { hash := PyData.keyHash P (Str.ofString "RunFault"), key := Value.str (Str.ofString "RunFault") 233, val := Value.ref 44 }, { hash := PyData.keyHash P (Str.ofString "NOUGHT"), key := Value.str (Str.ofString "NOUGHT") 238, val := Value.ref 47 }, { hash := PyData.keyHash P (Str.ofString "count_digits"), key := Value.str (Str.ofString "count_digits") 246, val := Value.ref 54 }, { hash := PyData.keyHash P (Str.ofString "strip_zeros"), key := Value.str (Str.ofString "strip_zeros") 254, val := Value.ref 61 }, { hash := PyData.keyHash P (Str.ofString "round_digits"), key := Value.str (Str.ofString "round_digits") 267, val := Value.ref 68 }, { hash := PyData.keyHash P (Str.ofString "round_real"), key := Value.str (Str.ofString "round_real") 278, val := Value.ref 75 }, { hash := PyData.keyHash P (Str.ofString "quotient"), key := Value.str (Str.ofString "quotient") 292, val := Value.ref 82 }, { hash := PyData.keyHash P (Str.ofString "real_div"), key := Value.str (Str.ofString "real_div") 304, val := Value.ref 89 }, { hash := PyData.keyHash P (Str.ofString "SPARE"), key := Value.str (Str.ofString "SPARE") 308, val := Value.int 10 307 }, { hash := PyData.keyHash P (Str.ofString "lead_of"), key := Value.str (Str.ofString "lead_of") 315, val := Value.ref 96 }, { hash := PyData.keyHash P (Str.ofString "places_for"), key := Value.str (Str.ofString "places_for") 323, val := Value.ref 103 }, { hash := PyData.keyHash P (Str.ofString "fixed"), key := Value.str (Str.ofString "fixed") 333, val := Value.ref 110 }, { hash := PyData.keyHash P (Str.ofString "whole_root"), key := Value.str (Str.ofString "whole_root") 342, val := Value.ref 117 }, { hash := PyData.keyHash P (Str.ofString "inverse_series"), key := Value.str (Str.ofString "inverse_series") 355, val := Value.ref 124 }, { hash := PyData.keyHash P (Str.ofString "log_of_ten"), key := Value.str (Str.ofString "log_of_ten") 364, val := Value.ref 131 }, { hash := PyData.keyHash P (Str.ofString "half_turn"), key := Value.str (Str.ofString "half_turn") 373, val := Value.ref 138 }, { hash := PyData.keyHash P (Str.ofString "exp_fixed"), key := Value.str (Str.ofString "exp_fixed") 385, val := Value.ref 145 }, { hash := PyData.keyHash P (Str.ofString "exp_parts"), key := Value.str (Str.ofString "exp_parts") 397, val := Value.ref 152 }, { hash := PyData.keyHash P (Str.ofString "is_too_great"), key := Value.str (Str.ofString "is_too_great") 405, val := Value.ref 159 }, { hash := PyData.keyHash P (Str.ofString "is_tiny"), key := Value.str (Str.ofString "is_tiny") 413, val := Value.ref 166 }, { hash := PyData.keyHash P (Str.ofString "arc_fixed"), key := Value.str (Str.ofString "arc_fixed") 429, val := Value.ref 173 }, { hash := PyData.keyHash P (Str.ofString "ratio_angle"), key := Value.str (Str.ofString "ratio_angle") 439, val := Value.ref 180 }, { hash := PyData.keyHash P (Str.ofString "is_beyond_one"), key := Value.str (Str.ofString "is_beyond_one") 446, val := Value.ref 187 }, { hash := PyData.keyHash P (Str.ofString "arc_parts"), key := Value.str (Str.ofString "arc_parts") 457, val := Value.ref 194 }, { hash := PyData.keyHash P (Str.ofString "asin_real"), key := Value.str (Str.ofString "asin_real") 470, val := Value.ref 201 }, { hash := PyData.keyHash P (Str.ofString "acos_real"), key := Value.str (Str.ofString "acos_real") 483, val := Value.ref 208 }, { hash := PyData.keyHash P (Str.ofString "straight_angle"), key := Value.str (Str.ofString "straight_angle") 495, val := Value.ref 215 }, { hash := PyData.keyHash P (Str.ofString "atan2_real"), key := Value.str (Str.ofString "atan2_real") 510, val := Value.ref 222 }, { hash := PyData.keyHash P (Str.ofString "atan_real"), key := Value.str (Str.ofString "atan_real") 519, val := Value.ref 229 }, { hash := PyData.keyHash P (Str.ofString "exp_pair"), key := Value.str (Str.ofString "exp_pair") 531, val := Value.ref 236 }, { hash := PyData.keyHash P (Str.ofString "check_great"), key := Value.str (Str.ofString "check_great") 539, val := Value.ref 243 }, { hash := PyData.keyHash P (Str.ofString "sinh_real"), key := Value.str (Str.ofString "sinh_real") 552, val := Value.ref 250 }, { hash := PyData.keyHash P (Str.ofString "cosh_real"), key := Value.str (Str.ofString "cosh_real") 564, val := Value.ref 257 }, { hash := PyData.keyHash P (Str.ofString "tanh_real"), key := Value.str (Str.ofString "tanh_real") 577, val := Value.ref 264 }, { hash := PyData.keyHash P (Str.ofString "_law_half"), key := Value.str (Str.ofString "_law_half") 581, val := Value.int 31415926535897932384626433832795028841971 580 }, { hash := PyData.keyHash P (Str.ofString "_law_of"), key := Value.str (Str.ofString "_law_of") 589, val := Value.ref 271 }, { hash := PyData.keyHash P (Str.ofString "_law_size"), key := Value.str (Str.ofString "_law_size") 597, val := Value.ref 278 }, { hash := PyData.keyHash P (Str.ofString "_law_even"), key := Value.str (Str.ofString "_law_even") 609, val := Value.ref 285 }, { hash := PyData.keyHash P (Str.ofString "_law_turned"), key := Value.str (Str.ofString "_law_turned") 616, val := Value.ref 292 }, { hash := PyData.keyHash P (Str.ofString "_law_near"), key := Value.str (Str.ofString "_law_near") 629, val := Value.ref 299 }, { hash := PyData.keyHash P (Str.ofString "_law_sinh"), key := Value.str (Str.ofString "_law_sinh") 638, val := Value.ref 306 }, { hash := PyData.keyHash P (Str.ofString "_law_cosh"), key := Value.str (Str.ofString "_law_cosh") 647, val := Value.ref 313 }, { hash := PyData.keyHash P (Str.ofString "_law_is_refused"), key := Value.str (Str.ofString "_law_is_refused") 656, val := Value.ref 320 }, { hash := PyData.keyHash P (Str.ofString "_law_steps_right"), key := Value.str (Str.ofString "_law_steps_right") 670, val := Value.ref 327 }, { hash := PyData.keyHash P (Str.ofString "_law_angle_right"), key := Value.str (Str.ofString "_law_angle_right") 685, val := Value.ref 334 }, { hash := PyData.keyHash P (Str.ofString "_law_axes_right"), key := Value.str (Str.ofString "_law_axes_right") 696, val := Value.ref 341 }, { hash := PyData.keyHash P (Str.ofString "_law_ones_right"), key := Value.str (Str.ofString "_law_ones_right") 709, val := Value.ref 348 }, { hash := PyData.keyHash P (Str.ofString "_law_tiny_right"), key := Value.str (Str.ofString "_law_tiny_right") 715, val := Value.ref 353 }, { hash := PyData.keyHash P (Str.ofString "law"), key := Value.str (Str.ofString "law") 729, val := Value.ref 360 }] 59 }) ::
   (nat_lit 15, { cls := Value.type "tuple", data := Data.seq #[Value.type "Exception"] }) ::
   (nat_lit 22, { cls := Value.type "tuple", data := Data.seq #[] }) ::
   (nat_lit 24, { cls := Value.type "tuple", data := Data.seq #[Value.str (Str.ofString "self") 204, Value.str (Str.ofString "text") 205] }) ::
   (nat_lit 25, { cls := Value.type "tuple", data := Data.seq #[] }) ::
   (nat_lit 27, { cls := Value.type "code", data := Data.fields #[Value.str (Str.ofString "__init__") 201, Value.str (Str.ofString "F77Error.__init__") 202, Value.str (Str.ofString "/claim/cut.py") 203, Value.int 4 0, Value.int 2 0, Value.int 0 0, Value.int 0 0, Value.int 3 0, Value.ref 22, Value.bool true, Value.int 181 0, Value.ref 23, Value.none, Value.ref 24, Value.ref 25, Value.ref 26, Value.int 206 0, Value.int 4 0, Value.str (Str.ofString "/claim/cut.py") 207] }) ::
   (nat_lit 28, fnObj initS rfl (Str.ofString "F77Error.__init__") "f77.errors" 187 27) ::
   (nat_lit 29, { cls := Value.type "tuple", data := Data.seq #[Value.str (Str.ofString "text") 209] }) ::
   (nat_lit 30, { cls := Value.type "dict", data := Data.dict #[{ hash := PyData.keyHash P (Str.ofString "__module__"), key := Value.str (Str.ofString "__module__") 196, val := Value.str (Str.ofString "f77.errors") 187 }, { hash := PyData.keyHash P (Str.ofString "__firstlineno__"), key := Value.str (Str.ofString "__firstlineno__") 200, val := Value.int 2 199 }, { hash := PyData.keyHash P (Str.ofString "__init__"), key := Value.str (Str.ofString "__init__") 208, val := Value.ref 28 }, { hash := PyData.keyHash P (Str.ofString "__static_attributes__"), key := Value.str (Str.ofString "__static_attributes__") 210, val := Value.ref 29 }, { hash := PyData.keyHash P (Str.ofString "__weakref__"), key := Value.str (Str.ofString "__weakref__") 212, val := Value.ref 32 }, { hash := PyData.keyHash P (Str.ofString "__doc__"), key := Value.str (Str.ofString "__doc__") 213, val := Value.none }] 3 }) ::
   (nat_lit 31, { cls := Value.type "type", data := Data.cls { name := Str.ofString "F77Error", bases := [Value.type "Exception"], mro := [Value.ref 31, Value.type "Exception", Value.type "BaseException", Value.type "object"], ns := 30, qualname := Str.ofString "F77Error", subclasses := [Value.ref 44] }, slots := #[some (Value.ref 15), none, some (Value.str (Str.ofString "F77Error") 189), some (Value.str (Str.ofString "F77Error") 197), some (Value.builtin "Exception.__new__"), some (Value.bool true)] }) ::
   (nat_lit 32, { cls := Value.type "getset_descriptor", data := Data.fields #[Value.str (Str.ofString "__weakref__") 211, Value.ref 31, Value.builtin "ExceptionGroup.__weakref__", Value.none] }) ::
   (nat_lit 35, { cls := Value.type "tuple", data := Data.seq #[Value.ref 31] }) ::
   (nat_lit 42, { cls := Value.type "tuple", data := Data.seq #[] }) ::
   (nat_lit 43, { cls := Value.type "dict", data := Data.dict #[{ hash := PyData.keyHash P (Str.ofString "__module__"), key := Value.str (Str.ofString "__module__") 225, val := Value.str (Str.ofString "f77.errors") 187 }, { hash := PyData.keyHash P (Str.ofString "__firstlineno__"), key := Value.str (Str.ofString "__firstlineno__") 229, val := Value.int 7 228 }, { hash := PyData.keyHash P (Str.ofString "__static_attributes__"), key := Value.str (Str.ofString "__static_attributes__") 230, val := Value.ref 42 }, { hash := PyData.keyHash P (Str.ofString "__doc__"), key := Value.str (Str.ofString "__doc__") 231, val := Value.none }] 2 }) ::
   (nat_lit 44, { cls := Value.type "type", data := Data.cls { name := Str.ofString "RunFault", bases := [Value.ref 31], mro := [Value.ref 44, Value.ref 31, Value.type "Exception", Value.type "BaseException", Value.type "object"], ns := 43, qualname := Str.ofString "RunFault" }, slots := #[some (Value.ref 35), none, some (Value.str (Str.ofString "RunFault") 218), some (Value.str (Str.ofString "RunFault") 226), some (Value.builtin "Exception.__new__"), some (Value.bool true)] }) ::
   (nat_lit 47, { cls := Value.type "tuple", data := Data.seq #[Value.int 0 236, Value.int 0 237] }) ::
   (nat_lit 53, cdObj (Str.ofString "count_digits") (nat_lit 239) (nat_lit 11) (nat_lit 1) (nat_lit 53) (nat_lit 244)) ::
   (nat_lit 54, fnObj (st 5) rfl (Str.ofString "count_digits") "f77.reals" 234 53) ::
   (nat_lit 60, cdObj (Str.ofString "strip_zeros") (nat_lit 247) (nat_lit 21) (nat_lit 2) (nat_lit 60) (nat_lit 252)) ::
   (nat_lit 61, fnObj (st 6) rfl (Str.ofString "strip_zeros") "f77.reals" 234 60) ::
   (nat_lit 67, cdObj (Str.ofString "round_digits") (nat_lit 255) (nat_lit 28) (nat_lit 3) (nat_lit 67) (nat_lit 265)) ::
   (nat_lit 68, fnObj (st 7) rfl (Str.ofString "round_digits") "f77.reals" 234 67) ::
   (nat_lit 74, cdObj (Str.ofString "round_real") (nat_lit 268) (nat_lit 38) (nat_lit 4) (nat_lit 74) (nat_lit 276)) ::
   (nat_lit 75, fnObj (st 8) rfl (Str.ofString "round_real") "f77.reals" 234 74) ::
   (nat_lit 81, cdObj (Str.ofString "quotient") (nat_lit 279) (nat_lit 46) (nat_lit 4) (nat_lit 81) (nat_lit 290)) ::
   (nat_lit 82, fnObj (st 9) rfl (Str.ofString "quotient") "f77.reals" 234 81) ::
   (nat_lit 88, cdObj (Str.ofString "real_div") (nat_lit 293) (nat_lit 53) (nat_lit 4) (nat_lit 88) (nat_lit 302)) ::
   (nat_lit 89, fnObj (st 10) rfl (Str.ofString "real_div") "f77.reals" 234 88) ::
   (nat_lit 95, cdObj (Str.ofString "lead_of") (nat_lit 309) (nat_lit 60) (nat_lit 1) (nat_lit 95) (nat_lit 313)) ::
   (nat_lit 96, fnObj (st 13) rfl (Str.ofString "lead_of") "f77.functions" 305 95) ::
   (nat_lit 102, cdObj (Str.ofString "places_for") (nat_lit 316) (nat_lit 62) (nat_lit 2) (nat_lit 102) (nat_lit 321)) ::
   (nat_lit 103, fnObj (st 14) rfl (Str.ofString "places_for") "f77.functions" 305 102) ::
   (nat_lit 109, cdObj (Str.ofString "fixed") (nat_lit 324) (nat_lit 64) (nat_lit 2) (nat_lit 109) (nat_lit 331)) ::
   (nat_lit 110, fnObj (st 15) rfl (Str.ofString "fixed") "f77.functions" 305 109) ::
   (nat_lit 116, cdObj (Str.ofString "whole_root") (nat_lit 334) (nat_lit 70) (nat_lit 1) (nat_lit 116) (nat_lit 340)) ::
   (nat_lit 117, fnObj (st 16) rfl (Str.ofString "whole_root") "f77.functions" 305 116) ::
   (nat_lit 123, cdObj (Str.ofString "inverse_series") (nat_lit 343) (nat_lit 79) (nat_lit 3) (nat_lit 123) (nat_lit 353)) ::
   (nat_lit 124, fnObj (st 17) rfl (Str.ofString "inverse_series") "f77.functions" 305 123) ::
   (nat_lit 130, cdObj (Str.ofString "log_of_ten") (nat_lit 356) (nat_lit 90) (nat_lit 1) (nat_lit 130) (nat_lit 362)) ::
   (nat_lit 131, fnObj (st 18) rfl (Str.ofString "log_of_ten") "f77.functions" 305 130) ::
   (nat_lit 137, cdObj (Str.ofString "half_turn") (nat_lit 365) (nat_lit 94) (nat_lit 1) (nat_lit 137) (nat_lit 371)) ::
   (nat_lit 138, fnObj (st 19) rfl (Str.ofString "half_turn") "f77.functions" 305 137) ::
   (nat_lit 144, cdObj (Str.ofString "exp_fixed") (nat_lit 374) (nat_lit 98) (nat_lit 2) (nat_lit 144) (nat_lit 383)) ::
   (nat_lit 145, fnObj (st 20) rfl (Str.ofString "exp_fixed") "f77.functions" 305 144) ::
   (nat_lit 151, cdObj (Str.ofString "exp_parts") (nat_lit 386) (nat_lit 108) (nat_lit 2) (nat_lit 151) (nat_lit 395)) ::
   (nat_lit 152, fnObj (st 21) rfl (Str.ofString "exp_parts") "f77.functions" 305 151) ::
   (nat_lit 158, cdObj (Str.ofString "is_too_great") (nat_lit 398) (nat_lit 114) (nat_lit 2) (nat_lit 158) (nat_lit 403)) ::
   (nat_lit 159, fnObj (st 22) rfl (Str.ofString "is_too_great") "f77.functions" 305 158) ::
   (nat_lit 165, cdObj (Str.ofString "is_tiny") (nat_lit 406) (nat_lit 116) (nat_lit 2) (nat_lit 165) (nat_lit 411)) ::
   (nat_lit 166, fnObj (st 23) rfl (Str.ofString "is_tiny") "f77.functions" 305 165) ::
   (nat_lit 172, cdObj (Str.ofString "arc_fixed") (nat_lit 416) (nat_lit 119) (nat_lit 2) (nat_lit 172) (nat_lit 427)) ::
   (nat_lit 173, fnObj (st 25) rfl (Str.ofString "arc_fixed") "f77.arcs" 414 172) ::
   (nat_lit 179, cdObj (Str.ofString "ratio_angle") (nat_lit 430) (nat_lit 133) (nat_lit 3) (nat_lit 179) (nat_lit 437)) ::
   (nat_lit 180, fnObj (st 26) rfl (Str.ofString "ratio_angle") "f77.arcs" 414 179) ::
   (nat_lit 186, cdObj (Str.ofString "is_beyond_one") (nat_lit 440) (nat_lit 138) (nat_lit 1) (nat_lit 186) (nat_lit 444)) ::
   (nat_lit 187, fnObj (st 27) rfl (Str.ofString "is_beyond_one") "f77.arcs" 414 186) ::
   (nat_lit 193, cdObj (Str.ofString "arc_parts") (nat_lit 447) (nat_lit 142) (nat_lit 2) (nat_lit 193) (nat_lit 455)) ::
   (nat_lit 194, fnObj (st 28) rfl (Str.ofString "arc_parts") "f77.arcs" 414 193) ::
   (nat_lit 200, cdObj (Str.ofString "asin_real") (nat_lit 458) (nat_lit 149) (nat_lit 3) (nat_lit 200) (nat_lit 468)) ::
   (nat_lit 201, fnObj (st 29) rfl (Str.ofString "asin_real") "f77.arcs" 414 200) ::
   (nat_lit 207, cdObj (Str.ofString "acos_real") (nat_lit 471) (nat_lit 155) (nat_lit 3) (nat_lit 207) (nat_lit 481)) ::
   (nat_lit 208, fnObj (st 30) rfl (Str.ofString "acos_real") "f77.arcs" 414 207) ::
   (nat_lit 214, cdObj (Str.ofString "straight_angle") (nat_lit 484) (nat_lit 161) (nat_lit 4) (nat_lit 214) (nat_lit 493)) ::
   (nat_lit 215, fnObj (st 31) rfl (Str.ofString "straight_angle") "f77.arcs" 414 214) ::
   (nat_lit 221, cdObj (Str.ofString "atan2_real") (nat_lit 496) (nat_lit 165) (nat_lit 4) (nat_lit 221) (nat_lit 508)) ::
   (nat_lit 222, fnObj (st 32) rfl (Str.ofString "atan2_real") "f77.arcs" 414 221) ::
   (nat_lit 228, cdObj (Str.ofString "atan_real") (nat_lit 511) (nat_lit 182) (nat_lit 3) (nat_lit 228) (nat_lit 517)) ::
   (nat_lit 229, fnObj (st 33) rfl (Str.ofString "atan_real") "f77.arcs" 414 228) ::
   (nat_lit 235, cdObj (Str.ofString "exp_pair") (nat_lit 520) (nat_lit 184) (nat_lit 2) (nat_lit 235) (nat_lit 529)) ::
   (nat_lit 236, fnObj (st 34) rfl (Str.ofString "exp_pair") "f77.arcs" 414 235) ::
   (nat_lit 242, cdObj (Str.ofString "check_great") (nat_lit 532) (nat_lit 188) (nat_lit 2) (nat_lit 242) (nat_lit 537)) ::
   (nat_lit 243, fnObj (st 35) rfl (Str.ofString "check_great") "f77.arcs" 414 242) ::
   (nat_lit 249, cdObj (Str.ofString "sinh_real") (nat_lit 540) (nat_lit 191) (nat_lit 3) (nat_lit 249) (nat_lit 550)) ::
   (nat_lit 250, fnObj (st 36) rfl (Str.ofString "sinh_real") "f77.arcs" 414 249) ::
   (nat_lit 256, cdObj (Str.ofString "cosh_real") (nat_lit 553) (nat_lit 198) (nat_lit 3) (nat_lit 256) (nat_lit 562)) ::
   (nat_lit 257, fnObj (st 37) rfl (Str.ofString "cosh_real") "f77.arcs" 414 256) ::
   (nat_lit 263, cdObj (Str.ofString "tanh_real") (nat_lit 565) (nat_lit 204) (nat_lit 3) (nat_lit 263) (nat_lit 575)) ::
   (nat_lit 264, fnObj (st 38) rfl (Str.ofString "tanh_real") "f77.arcs" 414 263) ::
   (nat_lit 270, cdObj (Str.ofString "_law_of") (nat_lit 582) (nat_lit 214) (nat_lit 2) (nat_lit 270) (nat_lit 587)) ::
   (nat_lit 271, fnObj (st 41) rfl (Str.ofString "_law_of") "law_pf0124_01" 578 270) ::
   (nat_lit 277, cdObj (Str.ofString "_law_size") (nat_lit 590) (nat_lit 219) (nat_lit 1) (nat_lit 277) (nat_lit 595)) ::
   (nat_lit 278, fnObj (st 42) rfl (Str.ofString "_law_size") "law_pf0124_01" 578 277) ::
   (nat_lit 284, cdObj (Str.ofString "_law_even") (nat_lit 598) (nat_lit 224) (nat_lit 3) (nat_lit 284) (nat_lit 607)) ::
   (nat_lit 285, fnObj (st 43) rfl (Str.ofString "_law_even") "law_pf0124_01" 578 284) ::
   (nat_lit 291, cdObj (Str.ofString "_law_turned") (nat_lit 610) (nat_lit 233) (nat_lit 1) (nat_lit 291) (nat_lit 614)) ::
   (nat_lit 292, fnObj (st 44) rfl (Str.ofString "_law_turned") "law_pf0124_01" 578 291) ::
   (nat_lit 298, cdObj (Str.ofString "_law_near") (nat_lit 617) (nat_lit 235) (nat_lit 4) (nat_lit 298) (nat_lit 627)) ::
   (nat_lit 299, fnObj (st 45) rfl (Str.ofString "_law_near") "law_pf0124_01" 578 298) ::
   (nat_lit 305, cdObj (Str.ofString "_law_sinh") (nat_lit 630) (nat_lit 239) (nat_lit 3) (nat_lit 305) (nat_lit 636)) ::
   (nat_lit 306, fnObj (st 46) rfl (Str.ofString "_law_sinh") "law_pf0124_01" 578 305) ::
   (nat_lit 312, cdObj (Str.ofString "_law_cosh") (nat_lit 639) (nat_lit 244) (nat_lit 3) (nat_lit 312) (nat_lit 645)) ::
   (nat_lit 313, fnObj (st 47) rfl (Str.ofString "_law_cosh") "law_pf0124_01" 578 312) ::
   (nat_lit 319, cdObj (Str.ofString "_law_is_refused") (nat_lit 648) (nat_lit 249) (nat_lit 3) (nat_lit 319) (nat_lit 654)) ::
   (nat_lit 320, fnObj (st 48) rfl (Str.ofString "_law_is_refused") "law_pf0124_01" 578 319) ::
   (nat_lit 326, cdObj (Str.ofString "_law_steps_right") (nat_lit 657) (nat_lit 255) (nat_lit 3) (nat_lit 326) (nat_lit 668)) ::
   (nat_lit 327, fnObj (st 49) rfl (Str.ofString "_law_steps_right") "law_pf0124_01" 578 326) ::
   (nat_lit 333, cdObj (Str.ofString "_law_angle_right") (nat_lit 671) (nat_lit 266) (nat_lit 3) (nat_lit 333) (nat_lit 683)) ::
   (nat_lit 334, fnObj (st 50) rfl (Str.ofString "_law_angle_right") "law_pf0124_01" 578 333) ::
   (nat_lit 340, cdObj (Str.ofString "_law_axes_right") (nat_lit 686) (nat_lit 280) (nat_lit 2) (nat_lit 340) (nat_lit 694)) ::
   (nat_lit 341, fnObj (st 51) rfl (Str.ofString "_law_axes_right") "law_pf0124_01" 578 340) ::
   (nat_lit 347, cdObj (Str.ofString "_law_ones_right") (nat_lit 697) (nat_lit 293) (nat_lit 2) (nat_lit 347) (nat_lit 707)) ::
   (nat_lit 348, fnObj (st 52) rfl (Str.ofString "_law_ones_right") "law_pf0124_01" 578 347) ::
   (nat_lit 352, { cls := Value.type "code", data := Data.fields #[Value.str (Str.ofString "_law_tiny_right") 710, Value.str (Str.ofString "_law_tiny_right") 711, Value.str (Str.ofString "/claim/cut.py") 712, Value.int 305 0, Value.int 2 0, Value.int 0 0, Value.int 0 0, Value.int 3 0, Value.ref 349, Value.bool true, Value.int 181 0, Value.ref 350, Value.none, Value.none, Value.none, Value.ref 351, Value.int 713 0, Value.int 305 0, Value.str (Str.ofString "/claim/cut.py") 714] }) ::
   (nat_lit 353, fnObj (st 53) rfl (Str.ofString "_law_tiny_right") "law_pf0124_01" 578 352) ::
   (nat_lit 359, cdObj (Str.ofString "law") (nat_lit 716) (nat_lit 311) (nat_lit 1) (nat_lit 359) (nat_lit 727)) ::
   (nat_lit 360, fnObj (st 54) rfl (Str.ofString "law") "law_pf0124_01" 578 359) :: []
noncomputable def as0 : List Addr := (nat_lit 2) :: (nat_lit 3) :: (nat_lit 15) :: (nat_lit 22) :: (nat_lit 24) :: (nat_lit 25) :: (nat_lit 27) :: (nat_lit 28) :: (nat_lit 29) :: (nat_lit 30) :: (nat_lit 31) :: (nat_lit 32) :: (nat_lit 35) :: (nat_lit 42) :: (nat_lit 43) :: (nat_lit 44) :: (nat_lit 47) :: (nat_lit 53) :: (nat_lit 54) :: (nat_lit 60) :: (nat_lit 61) :: (nat_lit 67) :: (nat_lit 68) :: (nat_lit 74) :: (nat_lit 75) :: (nat_lit 81) :: (nat_lit 82) :: (nat_lit 88) :: (nat_lit 89) :: (nat_lit 95) :: (nat_lit 96) :: (nat_lit 102) :: (nat_lit 103) :: (nat_lit 109) :: (nat_lit 110) :: (nat_lit 116) :: (nat_lit 117) :: (nat_lit 123) :: (nat_lit 124) :: (nat_lit 130) :: (nat_lit 131) :: (nat_lit 137) :: (nat_lit 138) :: (nat_lit 144) :: (nat_lit 145) :: (nat_lit 151) :: (nat_lit 152) :: (nat_lit 158) :: (nat_lit 159) :: (nat_lit 165) :: (nat_lit 166) :: (nat_lit 172) :: (nat_lit 173) :: (nat_lit 179) :: (nat_lit 180) :: (nat_lit 186) :: (nat_lit 187) :: (nat_lit 193) :: (nat_lit 194) :: (nat_lit 200) :: (nat_lit 201) :: (nat_lit 207) :: (nat_lit 208) :: (nat_lit 214) :: (nat_lit 215) :: (nat_lit 221) :: (nat_lit 222) :: (nat_lit 228) :: (nat_lit 229) :: (nat_lit 235) :: (nat_lit 236) :: (nat_lit 242) :: (nat_lit 243) :: (nat_lit 249) :: (nat_lit 250) :: (nat_lit 256) :: (nat_lit 257) :: (nat_lit 263) :: (nat_lit 264) :: (nat_lit 270) :: (nat_lit 271) :: (nat_lit 277) :: (nat_lit 278) :: (nat_lit 284) :: (nat_lit 285) :: (nat_lit 291) :: (nat_lit 292) :: (nat_lit 298) :: (nat_lit 299) :: (nat_lit 305) :: (nat_lit 306) :: (nat_lit 312) :: (nat_lit 313) :: (nat_lit 319) :: (nat_lit 320) :: (nat_lit 326) :: (nat_lit 327) :: (nat_lit 333) :: (nat_lit 334) :: (nat_lit 340) :: (nat_lit 341) :: (nat_lit 347) :: (nat_lit 348) :: (nat_lit 352) :: (nat_lit 353) :: (nat_lit 359) :: (nat_lit 360) :: []
theorem as0_ok (P : Params) : as0 = (heapK P).map (·.1) := by kernel_rfl
noncomputable def hook0 : Hook := kHook heapK as0 as0_ok
end Mine
end
section
set_option maxRecDepth 100000
open PySem PySem.W PyProof.Rows
namespace Mine
open BT
noncomputable abbrev vs (s : String) (t : Nat) : Value := .str (Str.ofString s) t
noncomputable abbrev vi (n : Int) : Value := .int n 0
noncomputable abbrev rf (n : Nat) : Value := .ref n
noncomputable abbrev tq (a : Array Value) : Obj := { cls := .type "tuple", data := .seq a }
noncomputable abbrev fq (a : Array Value) : Obj := { cls := .none, data := .fields a }
noncomputable abbrev de (P : Params) (s : String) (t : Nat) (v : Value) : DictEntry := { hash := PyData.keyHash P (Str.ofString s), key := .str (Str.ofString s) t, val := v }
noncomputable abbrev fn0 (s : Stmt) {nm : Str} {ps : Arguments} {bd : List Stmt} {de : List Expr} {rt : Option Expr} {tp : List TypeParam} {sc : Scope} {ts : Option Scope} {bi : Str} {po : Pos} (_h : s = .FunctionDef nm ps bd de rt tp sc ts bi po) (qual : Str) : Obj :=
  { cls := .none, data := .func { name := nm, qualname := qual, params := ps, body := .stmts bd, scope := sc, globals := 0, closure := [], defaults := .none, kwdefaults := .none } }
noncomputable def o11 : Obj := tq #[]
noncomputable def o12_0 : Obj := fq #[]
noncomputable def o13 : Obj := { cls := Value.type "code", data := Data.fields #[vs "<module>" 182, vs "<module>" 183, vs "/claim/cut.py" 184, vi 1, vi 0, vi 0, vi 0, vi 0, rf 11, Value.bool false, vi 181, rf 12, Value.none, Value.none, Value.none, Value.none, vi 185, vi 1, vs "/claim/cut.py" 186] }
noncomputable def o14 : Obj := { cls := Value.type "frame", slots := #[some (rf 13), some (rf 3), some (rf 3), none, some (vs "__main__" 164), none, some (rf 0)] }
noncomputable def o2 (P : Params) : Obj := { cls := Value.none, data := Data.dict #[de P "type.__subclasses__.Exception.0" 214 (vi 31), de P "type.__subclasses__.Exception.n" 215 (vi 1)] 2 }
noncomputable def o3_1 (P : Params) : Obj := { cls := Value.type "dict", data := Data.dict #[de P "__name__" 165 (vs "f77.errors" 187), de P "__doc__" 166 (Value.none), de P "__package__" 167 (Value.none), de P "__loader__" 168 (Value.builtin "__main__.__loader__#opaque"), de P "__spec__" 169 (Value.none), de P "__annotations__" 170 (rf 6), de P "__builtins__" 171 (rf 4), de P "__file__" 173 (vs "/claim/cut.py" 172), de P "__cached__" 174 (Value.none), de P "F77Error" 217 (rf 31)] 10 }
noncomputable def o12_1 : Obj := fq #[vi 2, vi 0, rf 20]
noncomputable def o15 : Obj := tq #[Value.type "Exception"]
noncomputable def o16 : Obj := { cls := Value.type "builtin_function_or_method", data := Data.fields #[Value.builtin "type.__prepare__", Value.type "type"] }
noncomputable def o17 (P : Params) : Obj := { cls := Value.type "dict", data := Data.dict #[de P "__module__" 196 (vs "f77.errors" 187), de P "__qualname__" 198 (vs "F77Error" 197), de P "__firstlineno__" 200 (Value.int 2 199), de P "__init__" 208 (rf 28), de P "__static_attributes__" 210 (rf 29)] 5 }
noncomputable def o18 : Obj := tq #[]
noncomputable def o19 : Obj := fq #[vi 4, vi 4, rf 27]
noncomputable def o20 : Obj := { cls := Value.type "code", data := Data.fields #[vs "F77Error" 191, vs "F77Error" 192, vs "/claim/cut.py" 193, vi 2, vi 0, vi 0, vi 0, vi 0, rf 18, Value.bool false, vi 181, rf 19, Value.none, Value.none, Value.none, Value.none, vi 194, vi 2, vs "/claim/cut.py" 195] }
noncomputable def o21 : Obj := { cls := Value.type "frame", slots := #[some (rf 20), some (rf 3), some (rf 17), none, some (vs "f77.errors" 187), none, some (rf 0)] }
noncomputable def o22 : Obj := tq #[]
noncomputable def o23 : Obj := fq #[]
noncomputable def o24 : Obj := tq #[vs "self" 204, vs "text" 205]
noncomputable def o25 : Obj := tq #[]
noncomputable def o26 : Obj := fn0 initS rfl (Str.ofString "F77Error.__init__")
noncomputable def o27 : Obj := { cls := Value.type "code", data := Data.fields #[vs "__init__" 201, vs "F77Error.__init__" 202, vs "/claim/cut.py" 203, vi 4, vi 2, vi 0, vi 0, vi 3, rf 22, Value.bool true, vi 181, rf 23, Value.none, rf 24, rf 25, rf 26, vi 206, vi 4, vs "/claim/cut.py" 207] }
noncomputable def o28 : Obj := fnObj initS rfl (Str.ofString "F77Error.__init__") "f77.errors" 187 27
noncomputable def o29 : Obj := tq #[vs "text" 209]
noncomputable def o30 (P : Params) : Obj := { cls := Value.type "dict", data := Data.dict #[de P "__module__" 196 (vs "f77.errors" 187), de P "__firstlineno__" 200 (Value.int 2 199), de P "__init__" 208 (rf 28), de P "__static_attributes__" 210 (rf 29), de P "__weakref__" 212 (rf 32), de P "__doc__" 213 (Value.none)] 3 }
noncomputable def o31_0 : Obj := { cls := Value.type "type", data := Data.cls { name := Str.ofString "F77Error", bases := [Value.type "Exception"], mro := [rf 31, Value.type "Exception", Value.type "BaseException", Value.type "object"], ns := 30, qualname := Str.ofString "F77Error" }, slots := #[some (rf 15), none, some (vs "F77Error" 189), some (vs "F77Error" 197), some (Value.builtin "Exception.__new__"), some (Value.bool true)] }
noncomputable def o32 : Obj := { cls := Value.type "getset_descriptor", data := Data.fields #[vs "__weakref__" 211, rf 31, Value.builtin "ExceptionGroup.__weakref__", Value.none] }
noncomputable def o33 : Obj := { cls := Value.type "super", data := Data.fields #[rf 31, rf 31, rf 31] }
noncomputable def o34 : Obj := { cls := Value.type "builtin_function_or_method", data := Data.fields #[Value.builtin "object.__init_subclass__", rf 31] }
noncomputable def o3_4 (P : Params) : Obj := { cls := Value.type "dict", data := Data.dict #[de P "__name__" 165 (vs "f77.reals" 234), de P "__doc__" 166 (Value.none), de P "__package__" 167 (Value.none), de P "__loader__" 168 (Value.builtin "__main__.__loader__#opaque"), de P "__spec__" 169 (Value.none), de P "__annotations__" 170 (rf 6), de P "__builtins__" 171 (rf 4), de P "__file__" 173 (vs "/claim/cut.py" 172), de P "__cached__" 174 (Value.none), de P "F77Error" 217 (rf 31), de P "RunFault" 233 (rf 44), de P "NOUGHT" 238 (rf 47)] 12 }
noncomputable def o12_2 : Obj := fq #[vi 2, vi 0, rf 20, vi 7, vi 0, rf 40]
noncomputable def o31_1 : Obj := { cls := Value.type "type", data := Data.cls { name := Str.ofString "F77Error", bases := [Value.type "Exception"], mro := [rf 31, Value.type "Exception", Value.type "BaseException", Value.type "object"], ns := 30, qualname := Str.ofString "F77Error", subclasses := [rf 44] }, slots := #[some (rf 15), none, some (vs "F77Error" 189), some (vs "F77Error" 197), some (Value.builtin "Exception.__new__"), some (Value.bool true)] }
noncomputable def o35 : Obj := tq #[rf 31]
noncomputable def o36 : Obj := { cls := Value.type "builtin_function_or_method", data := Data.fields #[Value.builtin "type.__prepare__", Value.type "type"] }
noncomputable def o37 (P : Params) : Obj := { cls := Value.type "dict", data := Data.dict #[de P "__module__" 225 (vs "f77.errors" 187), de P "__qualname__" 227 (vs "RunFault" 226), de P "__firstlineno__" 229 (Value.int 7 228), de P "__static_attributes__" 230 (rf 42)] 4 }
noncomputable def o38 : Obj := tq #[]
noncomputable def o39 : Obj := fq #[]
noncomputable def o40 : Obj := { cls := Value.type "code", data := Data.fields #[vs "RunFault" 220, vs "RunFault" 221, vs "/claim/cut.py" 222, vi 7, vi 0, vi 0, vi 0, vi 0, rf 38, Value.bool false, vi 181, rf 39, Value.none, Value.none, Value.none, Value.none, vi 223, vi 7, vs "/claim/cut.py" 224] }
noncomputable def o41 : Obj := { cls := Value.type "frame", slots := #[some (rf 40), some (rf 3), some (rf 37), none, some (vs "f77.errors" 187), none, some (rf 0)] }
noncomputable def o42 : Obj := tq #[]
noncomputable def o43 (P : Params) : Obj := { cls := Value.type "dict", data := Data.dict #[de P "__module__" 225 (vs "f77.errors" 187), de P "__firstlineno__" 229 (Value.int 7 228), de P "__static_attributes__" 230 (rf 42), de P "__doc__" 231 (Value.none)] 2 }
noncomputable def o44 : Obj := { cls := Value.type "type", data := Data.cls { name := Str.ofString "RunFault", bases := [rf 31], mro := [rf 44, rf 31, Value.type "Exception", Value.type "BaseException", Value.type "object"], ns := 43, qualname := Str.ofString "RunFault" }, slots := #[some (rf 35), none, some (vs "RunFault" 218), some (vs "RunFault" 226), some (Value.builtin "Exception.__new__"), some (Value.bool true)] }
noncomputable def o45 : Obj := { cls := Value.type "super", data := Data.fields #[rf 44, rf 44, rf 44] }
noncomputable def o46 : Obj := { cls := Value.type "builtin_function_or_method", data := Data.fields #[Value.builtin "object.__init_subclass__", rf 44] }
noncomputable def o47 : Obj := tq #[Value.int 0 236, Value.int 0 237]
noncomputable def o3_20 (P : Params) : Obj := { cls := Value.type "dict", data := Data.dict #[de P "__name__" 165 (vs "f77.functions" 305), de P "__doc__" 166 (Value.none), de P "__package__" 167 (Value.none), de P "__loader__" 168 (Value.builtin "__main__.__loader__#opaque"), de P "__spec__" 169 (Value.none), de P "__annotations__" 170 (rf 6), de P "__builtins__" 171 (rf 4), de P "__file__" 173 (vs "/claim/cut.py" 172), de P "__cached__" 174 (Value.none), de P "F77Error" 217 (rf 31), de P "RunFault" 233 (rf 44), de P "NOUGHT" 238 (rf 47), de P "count_digits" 246 (rf 54), de P "strip_zeros" 254 (rf 61), de P "round_digits" 267 (rf 68), de P "round_real" 278 (rf 75), de P "quotient" 292 (rf 82), de P "real_div" 304 (rf 89), de P "SPARE" 308 (Value.int 10 307), de P "lead_of" 315 (rf 96), de P "places_for" 323 (rf 103), de P "fixed" 333 (rf 110), de P "whole_root" 342 (rf 117), de P "inverse_series" 355 (rf 124), de P "log_of_ten" 364 (rf 131), de P "half_turn" 373 (rf 138), de P "exp_fixed" 385 (rf 145)] 27 }
noncomputable def o12_16 : Obj := fq #[vi 2, vi 0, rf 20, vi 7, vi 0, rf 40, vi 11, vi 0, rf 53, vi 21, vi 0, rf 60, vi 28, vi 0, rf 67, vi 38, vi 0, rf 74, vi 46, vi 0, rf 81, vi 53, vi 0, rf 88, vi 60, vi 0, rf 95, vi 62, vi 0, rf 102, vi 64, vi 0, rf 109, vi 70, vi 0, rf 116, vi 79, vi 0, rf 123, vi 90, vi 0, rf 130, vi 94, vi 0, rf 137, vi 98, vi 0, rf 144]
noncomputable def o48 : Obj := tq #[]
noncomputable def o49 : Obj := fq #[]
noncomputable def o50 : Obj := tq #[vs "n" 242, vs "count" 243]
noncomputable def o51 : Obj := tq #[]
noncomputable def o52 : Obj := fn0 (st 5) rfl (Str.ofString "count_digits")
noncomputable def o53 : Obj := cdObj (Str.ofString "count_digits") (nat_lit 239) (nat_lit 11) (nat_lit 1) (nat_lit 53) (nat_lit 244)
noncomputable def o54 : Obj := fnObj (st 5) rfl (Str.ofString "count_digits") "f77.reals" 234 53
noncomputable def o55 : Obj := tq #[]
noncomputable def o56 : Obj := fq #[]
noncomputable def o57 : Obj := tq #[vs "m" 250, vs "e" 251]
noncomputable def o58 : Obj := tq #[]
noncomputable def o59 : Obj := fn0 (st 6) rfl (Str.ofString "strip_zeros")
noncomputable def o60 : Obj := cdObj (Str.ofString "strip_zeros") (nat_lit 247) (nat_lit 21) (nat_lit 2) (nat_lit 60) (nat_lit 252)
noncomputable def o61 : Obj := fnObj (st 6) rfl (Str.ofString "strip_zeros") "f77.reals" 234 60
noncomputable def o62 : Obj := tq #[]
noncomputable def o63 : Obj := fq #[]
noncomputable def o64 : Obj := tq #[vs "m" 258, vs "e" 259, vs "digits" 260, vs "drop" 261, vs "power" 262, vs "kept" 263, vs "rest" 264]
noncomputable def o65 : Obj := tq #[]
noncomputable def o66 : Obj := fn0 (st 7) rfl (Str.ofString "round_digits")
noncomputable def o67 : Obj := cdObj (Str.ofString "round_digits") (nat_lit 255) (nat_lit 28) (nat_lit 3) (nat_lit 67) (nat_lit 265)
noncomputable def o68 : Obj := fnObj (st 7) rfl (Str.ofString "round_digits") "f77.reals" 234 67
noncomputable def o69 : Obj := tq #[]
noncomputable def o70 : Obj := fq #[]
noncomputable def o71 : Obj := tq #[vs "m" 271, vs "e" 272, vs "digits" 273, vs "top" 274, vs "lead" 275]
noncomputable def o72 : Obj := tq #[]
noncomputable def o73 : Obj := fn0 (st 8) rfl (Str.ofString "round_real")
noncomputable def o74 : Obj := cdObj (Str.ofString "round_real") (nat_lit 268) (nat_lit 38) (nat_lit 4) (nat_lit 74) (nat_lit 276)
noncomputable def o75 : Obj := fnObj (st 8) rfl (Str.ofString "round_real") "f77.reals" 234 74
noncomputable def o76 : Obj := tq #[]
noncomputable def o77 : Obj := fq #[]
noncomputable def o78 : Obj := tq #[vs "over" 282, vs "under" 283, vs "e" 284, vs "digits" 285, vs "shift" 286, vs "kept" 287, vs "rest" 288, vs "m" 289]
noncomputable def o79 : Obj := tq #[]
noncomputable def o80 : Obj := fn0 (st 9) rfl (Str.ofString "quotient")
noncomputable def o81 : Obj := cdObj (Str.ofString "quotient") (nat_lit 279) (nat_lit 46) (nat_lit 4) (nat_lit 81) (nat_lit 290)
noncomputable def o82 : Obj := fnObj (st 9) rfl (Str.ofString "quotient") "f77.reals" 234 81
noncomputable def o83 : Obj := tq #[]
noncomputable def o84 : Obj := fq #[]
noncomputable def o85 : Obj := tq #[vs "x" 296, vs "y" 297, vs "digits" 298, vs "top" 299, vs "m" 300, vs "e" 301]
noncomputable def o86 : Obj := tq #[]
noncomputable def o87 : Obj := fn0 (st 10) rfl (Str.ofString "real_div")
noncomputable def o88 : Obj := cdObj (Str.ofString "real_div") (nat_lit 293) (nat_lit 53) (nat_lit 4) (nat_lit 88) (nat_lit 302)
noncomputable def o89 : Obj := fnObj (st 10) rfl (Str.ofString "real_div") "f77.reals" 234 88
noncomputable def o90 : Obj := tq #[]
noncomputable def o91 : Obj := fq #[]
noncomputable def o92 : Obj := tq #[vs "x" 312]
noncomputable def o93 : Obj := tq #[]
noncomputable def o94 : Obj := fn0 (st 13) rfl (Str.ofString "lead_of")
noncomputable def o95 : Obj := cdObj (Str.ofString "lead_of") (nat_lit 309) (nat_lit 60) (nat_lit 1) (nat_lit 95) (nat_lit 313)
noncomputable def o96 : Obj := fnObj (st 13) rfl (Str.ofString "lead_of") "f77.functions" 305 95
noncomputable def o97 : Obj := tq #[]
noncomputable def o98 : Obj := fq #[]
noncomputable def o99 : Obj := tq #[vs "x" 319, vs "digits" 320]
noncomputable def o100 : Obj := tq #[]
noncomputable def o101 : Obj := fn0 (st 14) rfl (Str.ofString "places_for")
noncomputable def o102 : Obj := cdObj (Str.ofString "places_for") (nat_lit 316) (nat_lit 62) (nat_lit 2) (nat_lit 102) (nat_lit 321)
noncomputable def o103 : Obj := fnObj (st 14) rfl (Str.ofString "places_for") "f77.functions" 305 102
noncomputable def o104 : Obj := tq #[]
noncomputable def o105 : Obj := fq #[]
noncomputable def o106 : Obj := tq #[vs "x" 327, vs "places" 328, vs "shift" 329, vs "size" 330]
noncomputable def o107 : Obj := tq #[]
noncomputable def o108 : Obj := fn0 (st 15) rfl (Str.ofString "fixed")
noncomputable def o109 : Obj := cdObj (Str.ofString "fixed") (nat_lit 324) (nat_lit 64) (nat_lit 2) (nat_lit 109) (nat_lit 331)
noncomputable def o110 : Obj := fnObj (st 15) rfl (Str.ofString "fixed") "f77.functions" 305 109
noncomputable def o111 : Obj := tq #[]
noncomputable def o112 : Obj := fq #[]
noncomputable def o113 : Obj := tq #[vs "n" 337, vs "here" 338, vs "below" 339]
noncomputable def o114 : Obj := tq #[]
noncomputable def o115 : Obj := fn0 (st 16) rfl (Str.ofString "whole_root")
noncomputable def o116 : Obj := cdObj (Str.ofString "whole_root") (nat_lit 334) (nat_lit 70) (nat_lit 1) (nat_lit 116) (nat_lit 340)
noncomputable def o117 : Obj := fnObj (st 16) rfl (Str.ofString "whole_root") "f77.functions" 305 116
noncomputable def o118 : Obj := tq #[]
noncomputable def o119 : Obj := fq #[]
noncomputable def o120 : Obj := tq #[vs "divisor" 346, vs "places" 347, vs "turn" 348, vs "term" 349, vs "total" 350, vs "sign" 351, vs "n" 352]
noncomputable def o121 : Obj := tq #[]
noncomputable def o122 : Obj := fn0 (st 17) rfl (Str.ofString "inverse_series")
noncomputable def o123 : Obj := cdObj (Str.ofString "inverse_series") (nat_lit 343) (nat_lit 79) (nat_lit 3) (nat_lit 123) (nat_lit 353)
noncomputable def o124 : Obj := fnObj (st 17) rfl (Str.ofString "inverse_series") "f77.functions" 305 123
noncomputable def o125 : Obj := tq #[]
noncomputable def o126 : Obj := fq #[]
noncomputable def o127 : Obj := tq #[vs "places" 359, vs "more" 360, vs "parts" 361]
noncomputable def o128 : Obj := tq #[]
noncomputable def o129 : Obj := fn0 (st 18) rfl (Str.ofString "log_of_ten")
noncomputable def o130 : Obj := cdObj (Str.ofString "log_of_ten") (nat_lit 356) (nat_lit 90) (nat_lit 1) (nat_lit 130) (nat_lit 362)
noncomputable def o131 : Obj := fnObj (st 18) rfl (Str.ofString "log_of_ten") "f77.functions" 305 130
noncomputable def o132 : Obj := tq #[]
noncomputable def o133 : Obj := fq #[]
noncomputable def o134 : Obj := tq #[vs "places" 368, vs "more" 369, vs "parts" 370]
noncomputable def o135 : Obj := tq #[]
noncomputable def o136 : Obj := fn0 (st 19) rfl (Str.ofString "half_turn")
noncomputable def o137 : Obj := cdObj (Str.ofString "half_turn") (nat_lit 365) (nat_lit 94) (nat_lit 1) (nat_lit 137) (nat_lit 371)
noncomputable def o138 : Obj := fnObj (st 19) rfl (Str.ofString "half_turn") "f77.functions" 305 137
noncomputable def o139 : Obj := tq #[]
noncomputable def o140 : Obj := fq #[]
noncomputable def o141 : Obj := tq #[vs "n" 377, vs "places" 378, vs "one" 379, vs "total" 380, vs "term" 381, vs "k" 382]
noncomputable def o142 : Obj := tq #[]
noncomputable def o143 : Obj := fn0 (st 20) rfl (Str.ofString "exp_fixed")
noncomputable def o144 : Obj := cdObj (Str.ofString "exp_fixed") (nat_lit 374) (nat_lit 98) (nat_lit 2) (nat_lit 144) (nat_lit 383)
noncomputable def o145 : Obj := fnObj (st 20) rfl (Str.ofString "exp_fixed") "f77.functions" 305 144
noncomputable def o3_37 (P : Params) : Obj := { cls := Value.type "dict", data := Data.dict #[de P "__name__" 165 (vs "f77.arcs" 414), de P "__doc__" 166 (Value.none), de P "__package__" 167 (Value.none), de P "__loader__" 168 (Value.builtin "__main__.__loader__#opaque"), de P "__spec__" 169 (Value.none), de P "__annotations__" 170 (rf 6), de P "__builtins__" 171 (rf 4), de P "__file__" 173 (vs "/claim/cut.py" 172), de P "__cached__" 174 (Value.none), de P "F77Error" 217 (rf 31), de P "RunFault" 233 (rf 44), de P "NOUGHT" 238 (rf 47), de P "count_digits" 246 (rf 54), de P "strip_zeros" 254 (rf 61), de P "round_digits" 267 (rf 68), de P "round_real" 278 (rf 75), de P "quotient" 292 (rf 82), de P "real_div" 304 (rf 89), de P "SPARE" 308 (Value.int 10 307), de P "lead_of" 315 (rf 96), de P "places_for" 323 (rf 103), de P "fixed" 333 (rf 110), de P "whole_root" 342 (rf 117), de P "inverse_series" 355 (rf 124), de P "log_of_ten" 364 (rf 131), de P "half_turn" 373 (rf 138), de P "exp_fixed" 385 (rf 145), de P "exp_parts" 397 (rf 152), de P "is_too_great" 405 (rf 159), de P "is_tiny" 413 (rf 166), de P "arc_fixed" 429 (rf 173), de P "ratio_angle" 439 (rf 180), de P "is_beyond_one" 446 (rf 187), de P "arc_parts" 457 (rf 194), de P "asin_real" 470 (rf 201), de P "acos_real" 483 (rf 208), de P "straight_angle" 495 (rf 215), de P "atan2_real" 510 (rf 222), de P "atan_real" 519 (rf 229), de P "exp_pair" 531 (rf 236), de P "check_great" 539 (rf 243), de P "sinh_real" 552 (rf 250), de P "cosh_real" 564 (rf 257)] 43 }
noncomputable def o12_32 : Obj := { cls := Value.none, data := Data.fields (List.toArray ((vi 2) :: (vi 0) :: (rf 20) :: (vi 7) :: (vi 0) :: (rf 40) :: (vi 11) :: (vi 0) :: (rf 53) :: (vi 21) :: (vi 0) :: (rf 60) :: (vi 28) :: (vi 0) :: (rf 67) :: (vi 38) :: (vi 0) :: (rf 74) :: (vi 46) :: (vi 0) :: (rf 81) :: (vi 53) :: (vi 0) :: (rf 88) :: (vi 60) :: (vi 0) :: (rf 95) :: (vi 62) :: (vi 0) :: (rf 102) :: (vi 64) :: (vi 0) :: (rf 109) :: (vi 70) :: (vi 0) :: (rf 116) :: (vi 79) :: (vi 0) :: (rf 123) :: (vi 90) :: (vi 0) :: (rf 130) :: (vi 94) :: (vi 0) :: (rf 137) :: (vi 98) :: (vi 0) :: (rf 144) :: (vi 108) :: (vi 0) :: (rf 151) :: (vi 114) :: (vi 0) :: (rf 158) :: (vi 116) :: (vi 0) :: (rf 165) :: (vi 119) :: (vi 0) :: (rf 172) :: (vi 133) :: (vi 0) :: (rf 179) :: (vi 138) :: (vi 0) :: (rf 186) :: (vi 142) :: (vi 0) :: (rf 193) :: (vi 149) :: (vi 0) :: (rf 200) :: (vi 155) :: (vi 0) :: (rf 207) :: (vi 161) :: (vi 0) :: (rf 214) :: (vi 165) :: (vi 0) :: (rf 221) :: (vi 182) :: (vi 0) :: (rf 228) :: (vi 184) :: (vi 0) :: (rf 235) :: (vi 188) :: (vi 0) :: (rf 242) :: (vi 191) :: (vi 0) :: (rf 249) :: (vi 198) :: (vi 0) :: (rf 256) :: [])) }
noncomputable def o146 : Obj := tq #[]
noncomputable def o147 : Obj := fq #[]
noncomputable def o148 : Obj := tq #[vs "x" 389, vs "digits" 390, vs "places" 391, vs "ten" 392, vs "n" 393, vs "k" 394]
noncomputable def o149 : Obj := tq #[]
noncomputable def o150 : Obj := fn0 (st 21) rfl (Str.ofString "exp_parts")
noncomputable def o151 : Obj := cdObj (Str.ofString "exp_parts") (nat_lit 386) (nat_lit 108) (nat_lit 2) (nat_lit 151) (nat_lit 395)
noncomputable def o152 : Obj := fnObj (st 21) rfl (Str.ofString "exp_parts") "f77.functions" 305 151
noncomputable def o153 : Obj := tq #[]
noncomputable def o154 : Obj := fq #[]
noncomputable def o155 : Obj := tq #[vs "x" 401, vs "top" 402]
noncomputable def o156 : Obj := tq #[]
noncomputable def o157 : Obj := fn0 (st 22) rfl (Str.ofString "is_too_great")
noncomputable def o158 : Obj := cdObj (Str.ofString "is_too_great") (nat_lit 398) (nat_lit 114) (nat_lit 2) (nat_lit 158) (nat_lit 403)
noncomputable def o159 : Obj := fnObj (st 22) rfl (Str.ofString "is_too_great") "f77.functions" 305 158
noncomputable def o160 : Obj := tq #[]
noncomputable def o161 : Obj := fq #[]
noncomputable def o162 : Obj := tq #[vs "x" 409, vs "digits" 410]
noncomputable def o163 : Obj := tq #[]
noncomputable def o164 : Obj := fn0 (st 23) rfl (Str.ofString "is_tiny")
noncomputable def o165 : Obj := cdObj (Str.ofString "is_tiny") (nat_lit 406) (nat_lit 116) (nat_lit 2) (nat_lit 165) (nat_lit 411)
noncomputable def o166 : Obj := fnObj (st 23) rfl (Str.ofString "is_tiny") "f77.functions" 305 165
noncomputable def o167 : Obj := tq #[]
noncomputable def o168 : Obj := fq #[]
noncomputable def o169 : Obj := tq #[vs "t" 419, vs "places" 420, vs "one" 421, vs "_" 422, vs "square" 423, vs "total" 424, vs "sign" 425, vs "n" 426]
noncomputable def o170 : Obj := tq #[]
noncomputable def o171 : Obj := fn0 (st 25) rfl (Str.ofString "arc_fixed")
noncomputable def o172 : Obj := cdObj (Str.ofString "arc_fixed") (nat_lit 416) (nat_lit 119) (nat_lit 2) (nat_lit 172) (nat_lit 427)
noncomputable def o173 : Obj := fnObj (st 25) rfl (Str.ofString "arc_fixed") "f77.arcs" 414 172
noncomputable def o174 : Obj := tq #[]
noncomputable def o175 : Obj := fq #[]
noncomputable def o176 : Obj := tq #[vs "a" 433, vs "b" 434, vs "places" 435, vs "one" 436]
noncomputable def o177 : Obj := tq #[]
noncomputable def o178 : Obj := fn0 (st 26) rfl (Str.ofString "ratio_angle")
noncomputable def o179 : Obj := cdObj (Str.ofString "ratio_angle") (nat_lit 430) (nat_lit 133) (nat_lit 3) (nat_lit 179) (nat_lit 437)
noncomputable def o180 : Obj := fnObj (st 26) rfl (Str.ofString "ratio_angle") "f77.arcs" 414 179
noncomputable def o181 : Obj := tq #[]
noncomputable def o182 : Obj := fq #[]
noncomputable def o183 : Obj := tq #[vs "x" 443]
noncomputable def o184 : Obj := tq #[]
noncomputable def o185 : Obj := fn0 (st 27) rfl (Str.ofString "is_beyond_one")
noncomputable def o186 : Obj := cdObj (Str.ofString "is_beyond_one") (nat_lit 440) (nat_lit 138) (nat_lit 1) (nat_lit 186) (nat_lit 444)
noncomputable def o187 : Obj := fnObj (st 27) rfl (Str.ofString "is_beyond_one") "f77.arcs" 414 186
noncomputable def o188 : Obj := tq #[]
noncomputable def o189 : Obj := fq #[]
noncomputable def o190 : Obj := tq #[vs "x" 450, vs "digits" 451, vs "places" 452, vs "n" 453, vs "one" 454]
noncomputable def o191 : Obj := tq #[]
noncomputable def o192 : Obj := fn0 (st 28) rfl (Str.ofString "arc_parts")
noncomputable def o193 : Obj := cdObj (Str.ofString "arc_parts") (nat_lit 447) (nat_lit 142) (nat_lit 2) (nat_lit 193) (nat_lit 455)
noncomputable def o194 : Obj := fnObj (st 28) rfl (Str.ofString "arc_parts") "f77.arcs" 414 193
noncomputable def o195 : Obj := tq #[]
noncomputable def o196 : Obj := fq #[]
noncomputable def o197 : Obj := tq #[vs "x" 461, vs "digits" 462, vs "top" 463, vs "n" 464, vs "other" 465, vs "places" 466, vs "angle" 467]
noncomputable def o198 : Obj := tq #[]
noncomputable def o199 : Obj := fn0 (st 29) rfl (Str.ofString "asin_real")
noncomputable def o200 : Obj := cdObj (Str.ofString "asin_real") (nat_lit 458) (nat_lit 149) (nat_lit 3) (nat_lit 200) (nat_lit 468)
noncomputable def o201 : Obj := fnObj (st 29) rfl (Str.ofString "asin_real") "f77.arcs" 414 200
noncomputable def o202 : Obj := tq #[]
noncomputable def o203 : Obj := fq #[]
noncomputable def o204 : Obj := tq #[vs "x" 474, vs "digits" 475, vs "top" 476, vs "n" 477, vs "other" 478, vs "places" 479, vs "angle" 480]
noncomputable def o205 : Obj := tq #[]
noncomputable def o206 : Obj := fn0 (st 30) rfl (Str.ofString "acos_real")
noncomputable def o207 : Obj := cdObj (Str.ofString "acos_real") (nat_lit 471) (nat_lit 155) (nat_lit 3) (nat_lit 207) (nat_lit 481)
noncomputable def o208 : Obj := fnObj (st 30) rfl (Str.ofString "acos_real") "f77.arcs" 414 207
noncomputable def o209 : Obj := tq #[]
noncomputable def o210 : Obj := fq #[]
noncomputable def o211 : Obj := tq #[vs "y" 487, vs "quarters" 488, vs "digits" 489, vs "top" 490, vs "places" 491, vs "angle" 492]
noncomputable def o212 : Obj := tq #[]
noncomputable def o213 : Obj := fn0 (st 31) rfl (Str.ofString "straight_angle")
noncomputable def o214 : Obj := cdObj (Str.ofString "straight_angle") (nat_lit 484) (nat_lit 161) (nat_lit 4) (nat_lit 214) (nat_lit 493)
noncomputable def o215 : Obj := fnObj (st 31) rfl (Str.ofString "straight_angle") "f77.arcs" 414 214
noncomputable def o216 : Obj := tq #[]
noncomputable def o217 : Obj := fq #[]
noncomputable def o218 : Obj := tq #[vs "y" 499, vs "x" 500, vs "digits" 501, vs "top" 502, vs "low" 503, vs "a" 504, vs "b" 505, vs "places" 506, vs "angle" 507]
noncomputable def o219 : Obj := tq #[]
noncomputable def o220 : Obj := fn0 (st 32) rfl (Str.ofString "atan2_real")
noncomputable def o221 : Obj := cdObj (Str.ofString "atan2_real") (nat_lit 496) (nat_lit 165) (nat_lit 4) (nat_lit 221) (nat_lit 508)
noncomputable def o222 : Obj := fnObj (st 32) rfl (Str.ofString "atan2_real") "f77.arcs" 414 221
noncomputable def o223 : Obj := tq #[]
noncomputable def o224 : Obj := fq #[]
noncomputable def o225 : Obj := tq #[vs "x" 514, vs "digits" 515, vs "top" 516]
noncomputable def o226 : Obj := tq #[]
noncomputable def o227 : Obj := fn0 (st 33) rfl (Str.ofString "atan_real")
noncomputable def o228 : Obj := cdObj (Str.ofString "atan_real") (nat_lit 511) (nat_lit 182) (nat_lit 3) (nat_lit 228) (nat_lit 517)
noncomputable def o229 : Obj := fnObj (st 33) rfl (Str.ofString "atan_real") "f77.arcs" 414 228
noncomputable def o230 : Obj := tq #[]
noncomputable def o231 : Obj := fq #[]
noncomputable def o232 : Obj := tq #[vs "x" 523, vs "digits" 524, vs "f" 525, vs "k" 526, vs "places" 527, vs "grown" 528]
noncomputable def o233 : Obj := tq #[]
noncomputable def o234 : Obj := fn0 (st 34) rfl (Str.ofString "exp_pair")
noncomputable def o235 : Obj := cdObj (Str.ofString "exp_pair") (nat_lit 520) (nat_lit 184) (nat_lit 2) (nat_lit 235) (nat_lit 529)
noncomputable def o236 : Obj := fnObj (st 34) rfl (Str.ofString "exp_pair") "f77.arcs" 414 235
noncomputable def o237 : Obj := tq #[]
noncomputable def o238 : Obj := fq #[]
noncomputable def o239 : Obj := tq #[vs "x" 535, vs "top" 536]
noncomputable def o240 : Obj := tq #[]
noncomputable def o241 : Obj := fn0 (st 35) rfl (Str.ofString "check_great")
noncomputable def o242 : Obj := cdObj (Str.ofString "check_great") (nat_lit 532) (nat_lit 188) (nat_lit 2) (nat_lit 242) (nat_lit 537)
noncomputable def o243 : Obj := fnObj (st 35) rfl (Str.ofString "check_great") "f77.arcs" 414 242
noncomputable def o244 : Obj := tq #[]
noncomputable def o245 : Obj := fq #[]
noncomputable def o246 : Obj := tq #[vs "x" 543, vs "digits" 544, vs "top" 545, vs "grown" 546, vs "fallen" 547, vs "places" 548, vs "value" 549]
noncomputable def o247 : Obj := tq #[]
noncomputable def o248 : Obj := fn0 (st 36) rfl (Str.ofString "sinh_real")
noncomputable def o249 : Obj := cdObj (Str.ofString "sinh_real") (nat_lit 540) (nat_lit 191) (nat_lit 3) (nat_lit 249) (nat_lit 550)
noncomputable def o250 : Obj := fnObj (st 36) rfl (Str.ofString "sinh_real") "f77.arcs" 414 249
noncomputable def o251 : Obj := tq #[]
noncomputable def o252 : Obj := fq #[]
noncomputable def o253 : Obj := tq #[vs "x" 556, vs "digits" 557, vs "top" 558, vs "grown" 559, vs "fallen" 560, vs "places" 561]
noncomputable def o254 : Obj := tq #[]
noncomputable def o255 : Obj := fn0 (st 37) rfl (Str.ofString "cosh_real")
noncomputable def o256 : Obj := cdObj (Str.ofString "cosh_real") (nat_lit 553) (nat_lit 198) (nat_lit 3) (nat_lit 256) (nat_lit 562)
noncomputable def o257 : Obj := fnObj (st 37) rfl (Str.ofString "cosh_real") "f77.arcs" 414 256
noncomputable def o3_54 (P : Params) : Obj := { cls := Value.type "dict", data := Data.dict #[de P "__name__" 165 (vs "law_pf0124_01" 578), de P "__doc__" 166 (Value.none), de P "__package__" 167 (Value.none), de P "__loader__" 168 (Value.builtin "__main__.__loader__#opaque"), de P "__spec__" 169 (Value.none), de P "__annotations__" 170 (rf 6), de P "__builtins__" 171 (rf 4), de P "__file__" 173 (vs "/claim/cut.py" 172), de P "__cached__" 174 (Value.none), de P "F77Error" 217 (rf 31), de P "RunFault" 233 (rf 44), de P "NOUGHT" 238 (rf 47), de P "count_digits" 246 (rf 54), de P "strip_zeros" 254 (rf 61), de P "round_digits" 267 (rf 68), de P "round_real" 278 (rf 75), de P "quotient" 292 (rf 82), de P "real_div" 304 (rf 89), de P "SPARE" 308 (Value.int 10 307), de P "lead_of" 315 (rf 96), de P "places_for" 323 (rf 103), de P "fixed" 333 (rf 110), de P "whole_root" 342 (rf 117), de P "inverse_series" 355 (rf 124), de P "log_of_ten" 364 (rf 131), de P "half_turn" 373 (rf 138), de P "exp_fixed" 385 (rf 145), de P "exp_parts" 397 (rf 152), de P "is_too_great" 405 (rf 159), de P "is_tiny" 413 (rf 166), de P "arc_fixed" 429 (rf 173), de P "ratio_angle" 439 (rf 180), de P "is_beyond_one" 446 (rf 187), de P "arc_parts" 457 (rf 194), de P "asin_real" 470 (rf 201), de P "acos_real" 483 (rf 208), de P "straight_angle" 495 (rf 215), de P "atan2_real" 510 (rf 222), de P "atan_real" 519 (rf 229), de P "exp_pair" 531 (rf 236), de P "check_great" 539 (rf 243), de P "sinh_real" 552 (rf 250), de P "cosh_real" 564 (rf 257), de P "tanh_real" 577 (rf 264), de P "_law_half" 581 (Value.int 31415926535897932384626433832795028841971 580), de P "_law_of" 589 (rf 271), de P "_law_size" 597 (rf 278), de P "_law_even" 609 (rf 285), de P "_law_turned" 616 (rf 292), de P "_law_near" 629 (rf 299), de P "_law_sinh" 638 (rf 306), de P "_law_cosh" 647 (rf 313), de P "_law_is_refused" 656 (rf 320), de P "_law_steps_right" 670 (rf 327), de P "_law_angle_right" 685 (rf 334), de P "_law_axes_right" 696 (rf 341), de P "_law_ones_right" 709 (rf 348), de P "_law_tiny_right" 715 (rf 353), de P "law" 729 (rf 360)] 59 }
noncomputable def o12_47 : Obj := { cls := Value.none, data := Data.fields (List.toArray ((vi 2) :: (vi 0) :: (rf 20) :: (vi 7) :: (vi 0) :: (rf 40) :: (vi 11) :: (vi 0) :: (rf 53) :: (vi 21) :: (vi 0) :: (rf 60) :: (vi 28) :: (vi 0) :: (rf 67) :: (vi 38) :: (vi 0) :: (rf 74) :: (vi 46) :: (vi 0) :: (rf 81) :: (vi 53) :: (vi 0) :: (rf 88) :: (vi 60) :: (vi 0) :: (rf 95) :: (vi 62) :: (vi 0) :: (rf 102) :: (vi 64) :: (vi 0) :: (rf 109) :: (vi 70) :: (vi 0) :: (rf 116) :: (vi 79) :: (vi 0) :: (rf 123) :: (vi 90) :: (vi 0) :: (rf 130) :: (vi 94) :: (vi 0) :: (rf 137) :: (vi 98) :: (vi 0) :: (rf 144) :: (vi 108) :: (vi 0) :: (rf 151) :: (vi 114) :: (vi 0) :: (rf 158) :: (vi 116) :: (vi 0) :: (rf 165) :: (vi 119) :: (vi 0) :: (rf 172) :: (vi 133) :: (vi 0) :: (rf 179) :: (vi 138) :: (vi 0) :: (rf 186) :: (vi 142) :: (vi 0) :: (rf 193) :: (vi 149) :: (vi 0) :: (rf 200) :: (vi 155) :: (vi 0) :: (rf 207) :: (vi 161) :: (vi 0) :: (rf 214) :: (vi 165) :: (vi 0) :: (rf 221) :: (vi 182) :: (vi 0) :: (rf 228) :: (vi 184) :: (vi 0) :: (rf 235) :: (vi 188) :: (vi 0) :: (rf 242) :: (vi 191) :: (vi 0) :: (rf 249) :: (vi 198) :: (vi 0) :: (rf 256) :: (vi 204) :: (vi 0) :: (rf 263) :: (vi 214) :: (vi 0) :: (rf 270) :: (vi 219) :: (vi 0) :: (rf 277) :: (vi 224) :: (vi 0) :: (rf 284) :: (vi 233) :: (vi 0) :: (rf 291) :: (vi 235) :: (vi 0) :: (rf 298) :: (vi 239) :: (vi 0) :: (rf 305) :: (vi 244) :: (vi 0) :: (rf 312) :: (vi 249) :: (vi 0) :: (rf 319) :: (vi 255) :: (vi 0) :: (rf 326) :: (vi 266) :: (vi 0) :: (rf 333) :: (vi 280) :: (vi 0) :: (rf 340) :: (vi 293) :: (vi 0) :: (rf 347) :: (vi 305) :: (vi 0) :: (rf 352) :: (vi 311) :: (vi 0) :: (rf 359) :: [])) }
noncomputable def o258 : Obj := tq #[]
noncomputable def o259 : Obj := fq #[]
noncomputable def o260 : Obj := tq #[vs "x" 568, vs "digits" 569, vs "top" 570, vs "grown" 571, vs "fallen" 572, vs "places" 573, vs "value" 574]
noncomputable def o261 : Obj := tq #[]
noncomputable def o262 : Obj := fn0 (st 38) rfl (Str.ofString "tanh_real")
noncomputable def o263 : Obj := cdObj (Str.ofString "tanh_real") (nat_lit 565) (nat_lit 204) (nat_lit 3) (nat_lit 263) (nat_lit 575)
noncomputable def o264 : Obj := fnObj (st 38) rfl (Str.ofString "tanh_real") "f77.arcs" 414 263
noncomputable def o265 : Obj := tq #[]
noncomputable def o266 : Obj := fq #[]
noncomputable def o267 : Obj := tq #[vs "jar" 585, vs "many" 586]
noncomputable def o268 : Obj := tq #[]
noncomputable def o269 : Obj := fn0 (st 41) rfl (Str.ofString "_law_of")
noncomputable def o270 : Obj := cdObj (Str.ofString "_law_of") (nat_lit 582) (nat_lit 214) (nat_lit 2) (nat_lit 270) (nat_lit 587)
noncomputable def o271 : Obj := fnObj (st 41) rfl (Str.ofString "_law_of") "law_pf0124_01" 578 270
noncomputable def o272 : Obj := tq #[]
noncomputable def o273 : Obj := fq #[]
noncomputable def o274 : Obj := tq #[vs "n" 593, vs "many" 594]
noncomputable def o275 : Obj := tq #[]
noncomputable def o276 : Obj := fn0 (st 42) rfl (Str.ofString "_law_size")
noncomputable def o277 : Obj := cdObj (Str.ofString "_law_size") (nat_lit 590) (nat_lit 219) (nat_lit 1) (nat_lit 277) (nat_lit 595)
noncomputable def o278 : Obj := fnObj (st 42) rfl (Str.ofString "_law_size") "law_pf0124_01" 578 277
noncomputable def o279 : Obj := tq #[]
noncomputable def o280 : Obj := fq #[]
noncomputable def o281 : Obj := tq #[vs "m" 601, vs "e" 602, vs "digits" 603, vs "drop" 604, vs "whole" 605, vs "rest" 606]
noncomputable def o282 : Obj := tq #[]
noncomputable def o283 : Obj := fn0 (st 43) rfl (Str.ofString "_law_even")
noncomputable def o284 : Obj := cdObj (Str.ofString "_law_even") (nat_lit 598) (nat_lit 224) (nat_lit 3) (nat_lit 284) (nat_lit 607)
noncomputable def o285 : Obj := fnObj (st 43) rfl (Str.ofString "_law_even") "law_pf0124_01" 578 284
noncomputable def o286 : Obj := tq #[]
noncomputable def o287 : Obj := fq #[]
noncomputable def o288 : Obj := tq #[vs "x" 613]
noncomputable def o289 : Obj := tq #[]
noncomputable def o290 : Obj := fn0 (st 44) rfl (Str.ofString "_law_turned")
noncomputable def o291 : Obj := cdObj (Str.ofString "_law_turned") (nat_lit 610) (nat_lit 233) (nat_lit 1) (nat_lit 291) (nat_lit 614)
noncomputable def o292 : Obj := fnObj (st 44) rfl (Str.ofString "_law_turned") "law_pf0124_01" 578 291
noncomputable def o293 : Obj := tq #[]
noncomputable def o294 : Obj := fq #[]
noncomputable def o295 : Obj := tq #[vs "x" 620, vs "y" 621, vs "digits" 622, vs "units" 623, vs "low" 624, vs "one" 625, vs "other" 626]
noncomputable def o296 : Obj := tq #[]
noncomputable def o297 : Obj := fn0 (st 45) rfl (Str.ofString "_law_near")
noncomputable def o298 : Obj := cdObj (Str.ofString "_law_near") (nat_lit 617) (nat_lit 235) (nat_lit 4) (nat_lit 298) (nat_lit 627)
noncomputable def o299 : Obj := fnObj (st 45) rfl (Str.ofString "_law_near") "law_pf0124_01" 578 298
noncomputable def o300 : Obj := tq #[]
noncomputable def o301 : Obj := fq #[]
noncomputable def o302 : Obj := tq #[vs "x" 633, vs "digits" 634, vs "top" 635]
noncomputable def o303 : Obj := tq #[]
noncomputable def o304 : Obj := fn0 (st 46) rfl (Str.ofString "_law_sinh")
noncomputable def o305 : Obj := cdObj (Str.ofString "_law_sinh") (nat_lit 630) (nat_lit 239) (nat_lit 3) (nat_lit 305) (nat_lit 636)
noncomputable def o306 : Obj := fnObj (st 46) rfl (Str.ofString "_law_sinh") "law_pf0124_01" 578 305
noncomputable def o307 : Obj := tq #[]
noncomputable def o308 : Obj := fq #[]
noncomputable def o309 : Obj := tq #[vs "x" 642, vs "digits" 643, vs "top" 644]
noncomputable def o310 : Obj := tq #[]
noncomputable def o311 : Obj := fn0 (st 47) rfl (Str.ofString "_law_cosh")
noncomputable def o312 : Obj := cdObj (Str.ofString "_law_cosh") (nat_lit 639) (nat_lit 244) (nat_lit 3) (nat_lit 312) (nat_lit 645)
noncomputable def o313 : Obj := fnObj (st 47) rfl (Str.ofString "_law_cosh") "law_pf0124_01" 578 312
noncomputable def o314 : Obj := tq #[]
noncomputable def o315 : Obj := fq #[]
noncomputable def o316 : Obj := tq #[vs "arc" 651, vs "x" 652, vs "digits" 653]
noncomputable def o317 : Obj := tq #[]
noncomputable def o318 : Obj := fn0 (st 48) rfl (Str.ofString "_law_is_refused")
noncomputable def o319 : Obj := cdObj (Str.ofString "_law_is_refused") (nat_lit 648) (nat_lit 249) (nat_lit 3) (nat_lit 319) (nat_lit 654)
noncomputable def o320 : Obj := fnObj (st 48) rfl (Str.ofString "_law_is_refused") "law_pf0124_01" 578 319
noncomputable def o321 : Obj := tq #[]
noncomputable def o322 : Obj := fq #[]
noncomputable def o323 : Obj := tq #[vs "x" 660, vs "digits" 661, vs "top" 662, vs "work" 663, vs "wide" 664, vs "due" 665, vs "told" 666, vs "is_great" 667]
noncomputable def o324 : Obj := tq #[]
noncomputable def o325 : Obj := fn0 (st 49) rfl (Str.ofString "_law_steps_right")
noncomputable def o326 : Obj := cdObj (Str.ofString "_law_steps_right") (nat_lit 657) (nat_lit 255) (nat_lit 3) (nat_lit 326) (nat_lit 668)
noncomputable def o327 : Obj := fnObj (st 49) rfl (Str.ofString "_law_steps_right") "law_pf0124_01" 578 326
noncomputable def o328 : Obj := tq #[]
noncomputable def o329 : Obj := fq #[]
noncomputable def o330 : Obj := tq #[vs "y" 674, vs "x" 675, vs "digits" 676, vs "angle" 677, vs "back" 678, vs "low" 679, vs "rest" 680, vs "far" 681, vs "shift" 682]
noncomputable def o331 : Obj := tq #[]
noncomputable def o332 : Obj := fn0 (st 50) rfl (Str.ofString "_law_angle_right")
noncomputable def o333 : Obj := cdObj (Str.ofString "_law_angle_right") (nat_lit 671) (nat_lit 266) (nat_lit 3) (nat_lit 333) (nat_lit 683)
noncomputable def o334 : Obj := fnObj (st 50) rfl (Str.ofString "_law_angle_right") "law_pf0124_01" 578 333
noncomputable def o335 : Obj := tq #[]
noncomputable def o336 : Obj := fq #[]
noncomputable def o337 : Obj := tq #[vs "y" 689, vs "digits" 690, vs "half" 691, vs "quarter" 692, vs "none" 693]
noncomputable def o338 : Obj := tq #[]
noncomputable def o339 : Obj := fn0 (st 51) rfl (Str.ofString "_law_axes_right")
noncomputable def o340 : Obj := cdObj (Str.ofString "_law_axes_right") (nat_lit 686) (nat_lit 280) (nat_lit 2) (nat_lit 340) (nat_lit 694)
noncomputable def o341 : Obj := fnObj (st 51) rfl (Str.ofString "_law_axes_right") "law_pf0124_01" 578 340
noncomputable def o342 : Obj := tq #[]
noncomputable def o343 : Obj := fq #[]
noncomputable def o344 : Obj := tq #[vs "many" 700, vs "digits" 701, vs "one" 702, vs "half" 703, vs "quarter" 704, vs "beyond" 705, vs "arc" 706]
noncomputable def o345 : Obj := tq #[]
noncomputable def o346 : Obj := fn0 (st 52) rfl (Str.ofString "_law_ones_right")
noncomputable def o347 : Obj := cdObj (Str.ofString "_law_ones_right") (nat_lit 697) (nat_lit 293) (nat_lit 2) (nat_lit 347) (nat_lit 707)
noncomputable def o348 : Obj := fnObj (st 52) rfl (Str.ofString "_law_ones_right") "law_pf0124_01" 578 347
noncomputable def o349 : Obj := tq #[]
noncomputable def o350 : Obj := fq #[]
noncomputable def o351 : Obj := fn0 (st 53) rfl (Str.ofString "_law_tiny_right")
noncomputable def o352 : Obj := { cls := Value.type "code", data := Data.fields #[vs "_law_tiny_right" 710, vs "_law_tiny_right" 711, vs "/claim/cut.py" 712, vi 305, vi 2, vi 0, vi 0, vi 3, rf 349, Value.bool true, vi 181, rf 350, Value.none, Value.none, Value.none, rf 351, vi 713, vi 305, vs "/claim/cut.py" 714] }
noncomputable def o353 : Obj := fnObj (st 53) rfl (Str.ofString "_law_tiny_right") "law_pf0124_01" 578 352
noncomputable def o354 : Obj := tq #[]
noncomputable def o355 : Obj := fq #[]
noncomputable def o356 : Obj := tq #[vs "script" 719, vs "jar" 720, vs "digits" 721, vs "top" 722, vs "n" 723, vs "x" 724, vs "y" 725, vs "far" 726]
noncomputable def o357 : Obj := tq #[]
noncomputable def o358 : Obj := fn0 (st 54) rfl (Str.ofString "law")
noncomputable def o359 : Obj := cdObj (Str.ofString "law") (nat_lit 716) (nat_lit 311) (nat_lit 1) (nat_lit 359) (nat_lit 727)
noncomputable def o360 : Obj := fnObj (st 54) rfl (Str.ofString "law") "law_pf0124_01" 578 359
noncomputable def tr0 (P : Params) : BT := node (boot_o_0 P) (node (boot_o_1 P) (node (boot_o_3 P) (node (boot_o_7 P) nil nil) (node o11 nil nil)) (node (boot_o_5 P) (node (boot_o_9 P) nil nil) (node o13 nil nil))) (node (boot_o_2 P) (node (boot_o_4 P) (node (boot_o_8 P) nil nil) (node o12_0 nil nil)) (node (boot_o_6 P) (node (boot_o_10 P) nil nil) (node o14 nil nil)))
noncomputable abbrev sT0 (w : World) (os : OsState) : SharedT := ⟨tr0 w.params, 15, {}, #[], {}, 187, os⟩
noncomputable def hpA (P : Params) : Heap := ⟨Array.mk [(boot_o_0 P), (boot_o_1 P), (boot_o_2 P), (boot_o_3 P), (boot_o_4 P), (boot_o_5 P), (boot_o_6 P), (boot_o_7 P), (boot_o_8 P), (boot_o_9 P), (boot_o_10 P), o11, o12_0, o13, o14], {}⟩
noncomputable def tr1 (P : Params) : BT := node (boot_o_0 P) (node (boot_o_1 P) (node (o3_1 P) (node (boot_o_7 P) (node o15 (node o31_0 nil nil) nil) (node o23 nil nil)) (node o11 (node o19 nil nil) (node o27 nil nil))) (node (boot_o_5 P) (node (boot_o_9 P) (node (o17 P) (node o33 nil nil) nil) (node o25 nil nil)) (node o13 (node o21 nil nil) (node o29 nil nil)))) (node (o2 P) (node (boot_o_4 P) (node (boot_o_8 P) (node o16 (node o32 nil nil) nil) (node o24 nil nil)) (node o12_1 (node o20 nil nil) (node o28 nil nil))) (node (boot_o_6 P) (node (boot_o_10 P) (node o18 (node o34 nil nil) nil) (node o26 nil nil)) (node o14 (node o22 nil nil) (node (o30 P) nil nil))))
noncomputable abbrev sT1 (w : World) (os : OsState) : SharedT := ⟨tr1 w.params, 35, {}, #[], {}, 218, os⟩
noncomputable def tr2 (P : Params) : BT := node (boot_o_0 P) (node (boot_o_1 P) (node (o3_4 P) (node (boot_o_7 P) (node o15 (node o31_1 nil nil) (node o47 nil nil)) (node o23 (node o39 nil nil) nil)) (node o11 (node o19 (node o35 nil nil) nil) (node o27 (node (o43 P) nil nil) nil))) (node (boot_o_5 P) (node (boot_o_9 P) (node (o17 P) (node o33 nil nil) nil) (node o25 (node o41 nil nil) nil)) (node o13 (node o21 (node (o37 P) nil nil) nil) (node o29 (node o45 nil nil) nil)))) (node (o2 P) (node (boot_o_4 P) (node (boot_o_8 P) (node o16 (node o32 nil nil) nil) (node o24 (node o40 nil nil) nil)) (node o12_2 (node o20 (node o36 nil nil) nil) (node o28 (node o44 nil nil) nil))) (node (boot_o_6 P) (node (boot_o_10 P) (node o18 (node o34 nil nil) nil) (node o26 (node o42 nil nil) nil)) (node o14 (node o22 (node o38 nil nil) nil) (node (o30 P) (node o46 nil nil) nil))))
noncomputable abbrev sT2 (w : World) (os : OsState) : SharedT := ⟨tr2 w.params, 48, {}, #[], {}, 239, os⟩
noncomputable def tr3 (P : Params) : BT := node (boot_o_0 P) (node (boot_o_1 P) (node (o3_20 P) (node (boot_o_7 P) (node o15 (node o31_1 (node o63 (node o127 nil nil) nil) (node o95 nil nil)) (node o47 (node o79 (node o143 nil nil) nil) (node o111 nil nil))) (node o23 (node o39 (node o71 (node o135 nil nil) nil) (node o103 nil nil)) (node o55 (node o87 nil nil) (node o119 nil nil)))) (node o11 (node o19 (node o35 (node o67 (node o131 nil nil) nil) (node o99 nil nil)) (node o51 (node o83 nil nil) (node o115 nil nil))) (node o27 (node (o43 P) (node o75 (node o139 nil nil) nil) (node o107 nil nil)) (node o59 (node o91 nil nil) (node o123 nil nil))))) (node (boot_o_5 P) (node (boot_o_9 P) (node (o17 P) (node o33 (node o65 (node o129 nil nil) nil) (node o97 nil nil)) (node o49 (node o81 (node o145 nil nil) nil) (node o113 nil nil))) (node o25 (node o41 (node o73 (node o137 nil nil) nil) (node o105 nil nil)) (node o57 (node o89 nil nil) (node o121 nil nil)))) (node o13 (node o21 (node (o37 P) (node o69 (node o133 nil nil) nil) (node o101 nil nil)) (node o53 (node o85 nil nil) (node o117 nil nil))) (node o29 (node o45 (node o77 (node o141 nil nil) nil) (node o109 nil nil)) (node o61 (node o93 nil nil) (node o125 nil nil)))))) (node (o2 P) (node (boot_o_4 P) (node (boot_o_8 P) (node o16 (node o32 (node o64 (node o128 nil nil) nil) (node o96 nil nil)) (node o48 (node o80 (node o144 nil nil) nil) (node o112 nil nil))) (node o24 (node o40 (node o72 (node o136 nil nil) nil) (node o104 nil nil)) (node o56 (node o88 nil nil) (node o120 nil nil)))) (node o12_16 (node o20 (node o36 (node o68 (node o132 nil nil) nil) (node o100 nil nil)) (node o52 (node o84 nil nil) (node o116 nil nil))) (node o28 (node o44 (node o76 (node o140 nil nil) nil) (node o108 nil nil)) (node o60 (node o92 nil nil) (node o124 nil nil))))) (node (boot_o_6 P) (node (boot_o_10 P) (node o18 (node o34 (node o66 (node o130 nil nil) nil) (node o98 nil nil)) (node o50 (node o82 nil nil) (node o114 nil nil))) (node o26 (node o42 (node o74 (node o138 nil nil) nil) (node o106 nil nil)) (node o58 (node o90 nil nil) (node o122 nil nil)))) (node o14 (node o22 (node o38 (node o70 (node o134 nil nil) nil) (node o102 nil nil)) (node o54 (node o86 nil nil) (node o118 nil nil))) (node (o30 P) (node o46 (node o78 (node o142 nil nil) nil) (node o110 nil nil)) (node o62 (node o94 nil nil) (node o126 nil nil))))))
noncomputable abbrev sT3 (w : World) (os : OsState) : SharedT := ⟨tr3 w.params, 146, {}, #[], {}, 386, os⟩
noncomputable def tr4 (P : Params) : BT := node (boot_o_0 P) (node (boot_o_1 P) (node (o3_37 P) (node (boot_o_7 P) (node o15 (node o31_1 (node o63 (node o127 (node o255 nil nil) nil) (node o191 nil nil)) (node o95 (node o159 nil nil) (node o223 nil nil))) (node o47 (node o79 (node o143 nil nil) (node o207 nil nil)) (node o111 (node o175 nil nil) (node o239 nil nil)))) (node o23 (node o39 (node o71 (node o135 nil nil) (node o199 nil nil)) (node o103 (node o167 nil nil) (node o231 nil nil))) (node o55 (node o87 (node o151 nil nil) (node o215 nil nil)) (node o119 (node o183 nil nil) (node o247 nil nil))))) (node o11 (node o19 (node o35 (node o67 (node o131 nil nil) (node o195 nil nil)) (node o99 (node o163 nil nil) (node o227 nil nil))) (node o51 (node o83 (node o147 nil nil) (node o211 nil nil)) (node o115 (node o179 nil nil) (node o243 nil nil)))) (node o27 (node (o43 P) (node o75 (node o139 nil nil) (node o203 nil nil)) (node o107 (node o171 nil nil) (node o235 nil nil))) (node o59 (node o91 (node o155 nil nil) (node o219 nil nil)) (node o123 (node o187 nil nil) (node o251 nil nil)))))) (node (boot_o_5 P) (node (boot_o_9 P) (node (o17 P) (node o33 (node o65 (node o129 (node o257 nil nil) nil) (node o193 nil nil)) (node o97 (node o161 nil nil) (node o225 nil nil))) (node o49 (node o81 (node o145 nil nil) (node o209 nil nil)) (node o113 (node o177 nil nil) (node o241 nil nil)))) (node o25 (node o41 (node o73 (node o137 nil nil) (node o201 nil nil)) (node o105 (node o169 nil nil) (node o233 nil nil))) (node o57 (node o89 (node o153 nil nil) (node o217 nil nil)) (node o121 (node o185 nil nil) (node o249 nil nil))))) (node o13 (node o21 (node (o37 P) (node o69 (node o133 nil nil) (node o197 nil nil)) (node o101 (node o165 nil nil) (node o229 nil nil))) (node o53 (node o85 (node o149 nil nil) (node o213 nil nil)) (node o117 (node o181 nil nil) (node o245 nil nil)))) (node o29 (node o45 (node o77 (node o141 nil nil) (node o205 nil nil)) (node o109 (node o173 nil nil) (node o237 nil nil))) (node o61 (node o93 (node o157 nil nil) (node o221 nil nil)) (node o125 (node o189 nil nil) (node o253 nil nil))))))) (node (o2 P) (node (boot_o_4 P) (node (boot_o_8 P) (node o16 (node o32 (node o64 (node o128 (node o256 nil nil) nil) (node o192 nil nil)) (node o96 (node o160 nil nil) (node o224 nil nil))) (node o48 (node o80 (node o144 nil nil) (node o208 nil nil)) (node o112 (node o176 nil nil) (node o240 nil nil)))) (node o24 (node o40 (node o72 (node o136 nil nil) (node o200 nil nil)) (node o104 (node o168 nil nil) (node o232 nil nil))) (node o56 (node o88 (node o152 nil nil) (node o216 nil nil)) (node o120 (node o184 nil nil) (node o248 nil nil))))) (node o12_32 (node o20 (node o36 (node o68 (node o132 nil nil) (node o196 nil nil)) (node o100 (node o164 nil nil) (node o228 nil nil))) (node o52 (node o84 (node o148 nil nil) (node o212 nil nil)) (node o116 (node o180 nil nil) (node o244 nil nil)))) (node o28 (node o44 (node o76 (node o140 nil nil) (node o204 nil nil)) (node o108 (node o172 nil nil) (node o236 nil nil))) (node o60 (node o92 (node o156 nil nil) (node o220 nil nil)) (node o124 (node o188 nil nil) (node o252 nil nil)))))) (node (boot_o_6 P) (node (boot_o_10 P) (node o18 (node o34 (node o66 (node o130 nil nil) (node o194 nil nil)) (node o98 (node o162 nil nil) (node o226 nil nil))) (node o50 (node o82 (node o146 nil nil) (node o210 nil nil)) (node o114 (node o178 nil nil) (node o242 nil nil)))) (node o26 (node o42 (node o74 (node o138 nil nil) (node o202 nil nil)) (node o106 (node o170 nil nil) (node o234 nil nil))) (node o58 (node o90 (node o154 nil nil) (node o218 nil nil)) (node o122 (node o186 nil nil) (node o250 nil nil))))) (node o14 (node o22 (node o38 (node o70 (node o134 nil nil) (node o198 nil nil)) (node o102 (node o166 nil nil) (node o230 nil nil))) (node o54 (node o86 (node o150 nil nil) (node o214 nil nil)) (node o118 (node o182 nil nil) (node o246 nil nil)))) (node (o30 P) (node o46 (node o78 (node o142 nil nil) (node o206 nil nil)) (node o110 (node o174 nil nil) (node o238 nil nil))) (node o62 (node o94 (node o158 nil nil) (node o222 nil nil)) (node o126 (node o190 nil nil) (node o254 nil nil)))))))
noncomputable abbrev sT4 (w : World) (os : OsState) : SharedT := ⟨tr4 w.params, 258, {}, #[], {}, 565, os⟩
noncomputable def tr5 (P : Params) : BT := node (boot_o_0 P) (node (boot_o_1 P) (node (o3_54 P) (node (boot_o_7 P) (node o15 (node o31_1 (node o63 (node o127 (node o255 nil nil) nil) (node o191 (node o319 nil nil) nil)) (node o95 (node o159 (node o287 nil nil) nil) (node o223 (node o351 nil nil) nil))) (node o47 (node o79 (node o143 (node o271 nil nil) nil) (node o207 (node o335 nil nil) nil)) (node o111 (node o175 (node o303 nil nil) nil) (node o239 nil nil)))) (node o23 (node o39 (node o71 (node o135 (node o263 nil nil) nil) (node o199 (node o327 nil nil) nil)) (node o103 (node o167 (node o295 nil nil) nil) (node o231 (node o359 nil nil) nil))) (node o55 (node o87 (node o151 (node o279 nil nil) nil) (node o215 (node o343 nil nil) nil)) (node o119 (node o183 (node o311 nil nil) nil) (node o247 nil nil))))) (node o11 (node o19 (node o35 (node o67 (node o131 (node o259 nil nil) nil) (node o195 (node o323 nil nil) nil)) (node o99 (node o163 (node o291 nil nil) nil) (node o227 (node o355 nil nil) nil))) (node o51 (node o83 (node o147 (node o275 nil nil) nil) (node o211 (node o339 nil nil) nil)) (node o115 (node o179 (node o307 nil nil) nil) (node o243 nil nil)))) (node o27 (node (o43 P) (node o75 (node o139 (node o267 nil nil) nil) (node o203 (node o331 nil nil) nil)) (node o107 (node o171 (node o299 nil nil) nil) (node o235 nil nil))) (node o59 (node o91 (node o155 (node o283 nil nil) nil) (node o219 (node o347 nil nil) nil)) (node o123 (node o187 (node o315 nil nil) nil) (node o251 nil nil)))))) (node (boot_o_5 P) (node (boot_o_9 P) (node (o17 P) (node o33 (node o65 (node o129 (node o257 nil nil) nil) (node o193 (node o321 nil nil) nil)) (node o97 (node o161 (node o289 nil nil) nil) (node o225 (node o353 nil nil) nil))) (node o49 (node o81 (node o145 (node o273 nil nil) nil) (node o209 (node o337 nil nil) nil)) (node o113 (node o177 (node o305 nil nil) nil) (node o241 nil nil)))) (node o25 (node o41 (node o73 (node o137 (node o265 nil nil) nil) (node o201 (node o329 nil nil) nil)) (node o105 (node o169 (node o297 nil nil) nil) (node o233 nil nil))) (node o57 (node o89 (node o153 (node o281 nil nil) nil) (node o217 (node o345 nil nil) nil)) (node o121 (node o185 (node o313 nil nil) nil) (node o249 nil nil))))) (node o13 (node o21 (node (o37 P) (node o69 (node o133 (node o261 nil nil) nil) (node o197 (node o325 nil nil) nil)) (node o101 (node o165 (node o293 nil nil) nil) (node o229 (node o357 nil nil) nil))) (node o53 (node o85 (node o149 (node o277 nil nil) nil) (node o213 (node o341 nil nil) nil)) (node o117 (node o181 (node o309 nil nil) nil) (node o245 nil nil)))) (node o29 (node o45 (node o77 (node o141 (node o269 nil nil) nil) (node o205 (node o333 nil nil) nil)) (node o109 (node o173 (node o301 nil nil) nil) (node o237 nil nil))) (node o61 (node o93 (node o157 (node o285 nil nil) nil) (node o221 (node o349 nil nil) nil)) (node o125 (node o189 (node o317 nil nil) nil) (node o253 nil nil))))))) (node (o2 P) (node (boot_o_4 P) (node (boot_o_8 P) (node o16 (node o32 (node o64 (node o128 (node o256 nil nil) nil) (node o192 (node o320 nil nil) nil)) (node o96 (node o160 (node o288 nil nil) nil) (node o224 (node o352 nil nil) nil))) (node o48 (node o80 (node o144 (node o272 nil nil) nil) (node o208 (node o336 nil nil) nil)) (node o112 (node o176 (node o304 nil nil) nil) (node o240 nil nil)))) (node o24 (node o40 (node o72 (node o136 (node o264 nil nil) nil) (node o200 (node o328 nil nil) nil)) (node o104 (node o168 (node o296 nil nil) nil) (node o232 (node o360 nil nil) nil))) (node o56 (node o88 (node o152 (node o280 nil nil) nil) (node o216 (node o344 nil nil) nil)) (node o120 (node o184 (node o312 nil nil) nil) (node o248 nil nil))))) (node o12_47 (node o20 (node o36 (node o68 (node o132 (node o260 nil nil) nil) (node o196 (node o324 nil nil) nil)) (node o100 (node o164 (node o292 nil nil) nil) (node o228 (node o356 nil nil) nil))) (node o52 (node o84 (node o148 (node o276 nil nil) nil) (node o212 (node o340 nil nil) nil)) (node o116 (node o180 (node o308 nil nil) nil) (node o244 nil nil)))) (node o28 (node o44 (node o76 (node o140 (node o268 nil nil) nil) (node o204 (node o332 nil nil) nil)) (node o108 (node o172 (node o300 nil nil) nil) (node o236 nil nil))) (node o60 (node o92 (node o156 (node o284 nil nil) nil) (node o220 (node o348 nil nil) nil)) (node o124 (node o188 (node o316 nil nil) nil) (node o252 nil nil)))))) (node (boot_o_6 P) (node (boot_o_10 P) (node o18 (node o34 (node o66 (node o130 (node o258 nil nil) nil) (node o194 (node o322 nil nil) nil)) (node o98 (node o162 (node o290 nil nil) nil) (node o226 (node o354 nil nil) nil))) (node o50 (node o82 (node o146 (node o274 nil nil) nil) (node o210 (node o338 nil nil) nil)) (node o114 (node o178 (node o306 nil nil) nil) (node o242 nil nil)))) (node o26 (node o42 (node o74 (node o138 (node o266 nil nil) nil) (node o202 (node o330 nil nil) nil)) (node o106 (node o170 (node o298 nil nil) nil) (node o234 nil nil))) (node o58 (node o90 (node o154 (node o282 nil nil) nil) (node o218 (node o346 nil nil) nil)) (node o122 (node o186 (node o314 nil nil) nil) (node o250 nil nil))))) (node o14 (node o22 (node o38 (node o70 (node o134 (node o262 nil nil) nil) (node o198 (node o326 nil nil) nil)) (node o102 (node o166 (node o294 nil nil) nil) (node o230 (node o358 nil nil) nil))) (node o54 (node o86 (node o150 (node o278 nil nil) nil) (node o214 (node o342 nil nil) nil)) (node o118 (node o182 (node o310 nil nil) nil) (node o246 nil nil)))) (node (o30 P) (node o46 (node o78 (node o142 (node o270 nil nil) nil) (node o206 (node o334 nil nil) nil)) (node o110 (node o174 (node o302 nil nil) nil) (node o238 nil nil))) (node o62 (node o94 (node o158 (node o286 nil nil) nil) (node o222 (node o350 nil nil) nil)) (node o126 (node o190 (node o318 nil nil) nil) (node o254 nil nil)))))))
noncomputable abbrev sT5 (w : World) (os : OsState) : SharedT := ⟨tr5 w.params, 361, {}, #[], {}, 730, os⟩
noncomputable def hpF (P : Params) : Heap := ⟨Array.mk ((boot_o_0 P) :: (boot_o_1 P) :: (o2 P) :: (o3_54 P) :: (boot_o_4 P) :: (boot_o_5 P) :: (boot_o_6 P) :: (boot_o_7 P) :: (boot_o_8 P) :: (boot_o_9 P) :: (boot_o_10 P) :: o11 :: o12_47 :: o13 :: o14 :: o15 :: o16 :: (o17 P) :: o18 :: o19 :: o20 :: o21 :: o22 :: o23 :: o24 :: o25 :: o26 :: o27 :: o28 :: o29 :: (o30 P) :: o31_1 :: o32 :: o33 :: o34 :: o35 :: o36 :: (o37 P) :: o38 :: o39 :: o40 :: o41 :: o42 :: (o43 P) :: o44 :: o45 :: o46 :: o47 :: o48 :: o49 :: o50 :: o51 :: o52 :: o53 :: o54 :: o55 :: o56 :: o57 :: o58 :: o59 :: o60 :: o61 :: o62 :: o63 :: o64 :: o65 :: o66 :: o67 :: o68 :: o69 :: o70 :: o71 :: o72 :: o73 :: o74 :: o75 :: o76 :: o77 :: o78 :: o79 :: o80 :: o81 :: o82 :: o83 :: o84 :: o85 :: o86 :: o87 :: o88 :: o89 :: o90 :: o91 :: o92 :: o93 :: o94 :: o95 :: o96 :: o97 :: o98 :: o99 :: o100 :: o101 :: o102 :: o103 :: o104 :: o105 :: o106 :: o107 :: o108 :: o109 :: o110 :: o111 :: o112 :: o113 :: o114 :: o115 :: o116 :: o117 :: o118 :: o119 :: o120 :: o121 :: o122 :: o123 :: o124 :: o125 :: o126 :: o127 :: o128 :: o129 :: o130 :: o131 :: o132 :: o133 :: o134 :: o135 :: o136 :: o137 :: o138 :: o139 :: o140 :: o141 :: o142 :: o143 :: o144 :: o145 :: o146 :: o147 :: o148 :: o149 :: o150 :: o151 :: o152 :: o153 :: o154 :: o155 :: o156 :: o157 :: o158 :: o159 :: o160 :: o161 :: o162 :: o163 :: o164 :: o165 :: o166 :: o167 :: o168 :: o169 :: o170 :: o171 :: o172 :: o173 :: o174 :: o175 :: o176 :: o177 :: o178 :: o179 :: o180 :: o181 :: o182 :: o183 :: o184 :: o185 :: o186 :: o187 :: o188 :: o189 :: o190 :: o191 :: o192 :: o193 :: o194 :: o195 :: o196 :: o197 :: o198 :: o199 :: o200 :: o201 :: o202 :: o203 :: o204 :: o205 :: o206 :: o207 :: o208 :: o209 :: o210 :: o211 :: o212 :: o213 :: o214 :: o215 :: o216 :: o217 :: o218 :: o219 :: o220 :: o221 :: o222 :: o223 :: o224 :: o225 :: o226 :: o227 :: o228 :: o229 :: o230 :: o231 :: o232 :: o233 :: o234 :: o235 :: o236 :: o237 :: o238 :: o239 :: o240 :: o241 :: o242 :: o243 :: o244 :: o245 :: o246 :: o247 :: o248 :: o249 :: o250 :: o251 :: o252 :: o253 :: o254 :: o255 :: o256 :: o257 :: o258 :: o259 :: o260 :: o261 :: o262 :: o263 :: o264 :: o265 :: o266 :: o267 :: o268 :: o269 :: o270 :: o271 :: o272 :: o273 :: o274 :: o275 :: o276 :: o277 :: o278 :: o279 :: o280 :: o281 :: o282 :: o283 :: o284 :: o285 :: o286 :: o287 :: o288 :: o289 :: o290 :: o291 :: o292 :: o293 :: o294 :: o295 :: o296 :: o297 :: o298 :: o299 :: o300 :: o301 :: o302 :: o303 :: o304 :: o305 :: o306 :: o307 :: o308 :: o309 :: o310 :: o311 :: o312 :: o313 :: o314 :: o315 :: o316 :: o317 :: o318 :: o319 :: o320 :: o321 :: o322 :: o323 :: o324 :: o325 :: o326 :: o327 :: o328 :: o329 :: o330 :: o331 :: o332 :: o333 :: o334 :: o335 :: o336 :: o337 :: o338 :: o339 :: o340 :: o341 :: o342 :: o343 :: o344 :: o345 :: o346 :: o347 :: o348 :: o349 :: o350 :: o351 :: o352 :: o353 :: o354 :: o355 :: o356 :: o357 :: o358 :: o359 :: o360 :: []), {}⟩
noncomputable def bQ : List Stmt := behindTheImports PySem.Challenge.pw_pf0124_01
noncomputable def envQ : Env := { scope := (PySem.Challenge.pw_pf0124_01).main.scope, locals := mainNs, globals := mainNs, cells := [], code := .ref 13, frame := some 14 }
noncomputable def cdQ : Code := .body bQ envQ
noncomputable abbrev bsQ : List Frame := [topFrame ⟨0, 0, 0, 0⟩]
noncomputable def sts1 : List Stmt := (bQ.drop 0).take 2
noncomputable def sts2 : List Stmt := (bQ.drop 2).take 3
noncomputable def sts3 : List Stmt := (bQ.drop 5).take 16
noncomputable def sts4 : List Stmt := (bQ.drop 21).take 17
noncomputable def sts5 : List Stmt := (bQ.drop 38).take 17
theorem b_eq : bQ = sts1 ++ (sts2 ++ (sts3 ++ (sts4 ++ (sts5 ++ [])))) := by kernel_rfl
theorem r_pre (w : World) : (fun os => topGo treeTable PySem.Challenge.pw_pf0124_01 w 11 (some (.ref 6)) 12 ⟨boot_heap w.params, Array.mk [], boot_drawn, boot_toks, os⟩ (topStub PySem.Challenge.pw_pf0124_01)) = fun os => some (⟨hpA w.params, #[], {}, 187, os⟩, ⟨denote treeTable cdQ, cdQ, ⟨0, 0, 0, 0⟩, bsQ⟩) := by kernel_rfl
theorem r_block (w : World) : (fun os => segRun treeTable PySem.Challenge.pw_pf0124_01 w 11 (some (.ref 6)) 1 1 ⟨hpA w.params, #[], {}, 187, os⟩ (blockOf bQ envQ cdQ ⟨0, 0, 0, 0⟩ bsQ)) = fun os => some (.next, (sT0 w os).abs, cdQ, ⟨0, 0, 0, 0⟩) := by kernel_rfl
theorem r_1 (w : World) : (fun os => segRunT treeTable PySem.Challenge.pw_pf0124_01 w 11 (some (.ref 6)) 1 238 (sT0 w os) (piecesOf sts1 envQ cdQ ⟨0, 0, 0, 0⟩ bsQ)) = fun os => some (.next, sT1 w os, cdQ, ⟨2, 0, 6, 24⟩) := by kernel_rfl
theorem r_2 (w : World) : (fun os => segRunT treeTable PySem.Challenge.pw_pf0124_01 w 11 (some (.ref 6)) 1 235 (sT1 w os) (piecesOf sts2 envQ cdQ ⟨2, 0, 6, 24⟩ bsQ)) = fun os => some (.next, sT2 w os, cdQ, ⟨10, 0, 10, 6⟩) := by kernel_rfl
theorem r_3 (w : World) : (fun os => segRunT treeTable PySem.Challenge.pw_pf0124_01 w 11 (some (.ref 6)) 1 470 (sT2 w os) (piecesOf sts3 envQ cdQ ⟨10, 0, 10, 6⟩ bsQ)) = fun os => some (.next, sT3 w os, cdQ, ⟨98, 0, 107, 16⟩) := by kernel_rfl
theorem r_4 (w : World) : (fun os => segRunT treeTable PySem.Challenge.pw_pf0124_01 w 11 (some (.ref 6)) 1 539 (sT3 w os) (piecesOf sts4 envQ cdQ ⟨98, 0, 107, 16⟩ bsQ)) = fun os => some (.next, sT4 w os, cdQ, ⟨198, 0, 203, 69⟩) := by kernel_rfl
theorem r_5 (w : World) : (fun os => segRunT treeTable PySem.Challenge.pw_pf0124_01 w 11 (some (.ref 6)) 1 508 (sT4 w os) (piecesOf sts5 envQ cdQ ⟨198, 0, 203, 69⟩ bsQ)) = fun os => some (.next, sT5 w os, cdQ, ⟨311, 0, 321, 103⟩) := by kernel_rfl
theorem r_fin (w : World) : (fun os => topRun treeTable PySem.Challenge.pw_pf0124_01 w 11 (some (.ref 6)) 2 (sT5 w os).abs ⟨doneF .next, cdQ, ⟨311, 0, 321, 103⟩, bsQ⟩) = fun os => some ⟨hpF w.params, #[], {}, 730, os⟩ := by kernel_rfl
theorem r_all (w : World) (os : OsState) : topRun treeTable PySem.Challenge.pw_pf0124_01 w 11 (some (.ref 6)) (12 + (1 + (238 + (235 + (470 + (539 + (508 + 2))))))) ⟨boot_heap w.params, Array.mk [], boot_drawn, boot_toks, os⟩ (topStub PySem.Challenge.pw_pf0124_01) = some ⟨hpF w.params, #[], {}, 730, os⟩ := by
  refine go_top (congrFun (r_pre w) os) (piece_block (congrFun (r_block w) os) ?_)
  rw [b_eq]
  exact piece_app (segRun_of (congrFun (r_1 w) os)) (piece_app (segRun_of (congrFun (r_2 w) os)) (piece_app (segRun_of (congrFun (r_3 w) os)) (piece_app (segRun_of (congrFun (r_4 w) os)) (piece_app (segRun_of (congrFun (r_5 w) os)) (piece_nil (congrFun (r_fin w) os))))))
noncomputable def XtQ : Shared → Bool := fun s => xlAt viewQ [] s && recOk (RowW.records (OpenRow.toRowW (OpenLaw.row PySem.Challenge.rw_pf0124_01))) s
noncomputable abbrev sF (w : World) (os : OsState) : Shared := ⟨hpF w.params, #[], {}, 730, os⟩
noncomputable abbrev sn (w : World) (os : OsState) := openSeen viewQ [] (importedModules (PySem.Challenge.pw_pf0124_01).main.body) XtQ true (sF w os)
theorem lk_0 (w : World) : (fun os => (staticsOk (importedModules (PySem.Challenge.pw_pf0124_01).main.body) (boot_heap w.params) (hpF w.params) && namesBound PySem.Challenge.pw_pf0124_01 (hpF w.params) && gensDone (sF w os) && laidKept (boot_heap w.params) (hpF w.params))) = fun _ => true := by kernel_rfl
theorem lk_1 (w : World) : (fun os => (sn w os).1) = fun _ => (openGood viewQ []).1 := by kernel_rfl
theorem lk_2 (w : World) : (fun os => (sn w os).2.1) = fun _ => (openGood viewQ []).2.1 := by kernel_rfl
theorem lk_3 (w : World) : (fun os => (sn w os).2.2.1) = fun _ => (openGood viewQ []).2.2.1 := by kernel_rfl
theorem lk_4 (w : World) : (fun os => (sn w os).2.2.2) = fun _ => (openGood viewQ []).2.2.2 := by kernel_rfl
theorem lk_5 (w : World) : (fun os => Hook.obs hook0 (sF w os)) = fun _ => Hook.val hook0 w := by kernel_rfl
theorem lk_s (w : World) : ((boot_heap w.params).isNs mainGlobals && (Array.mk ([] : List GenState)).size == 0, (boot_heap w.params).objs.size, (boot_heap w.params).nsMap mainGlobals "__annotations__") = (true, 11, some (.ref 6)) := by kernel_rfl
theorem pair6 {α β γ δ ε : Type} {a : Bool} {b b' : α × β × γ × δ} {c c' : ε} (h0 : a = true) (h1 : b.1 = b'.1) (h2 : b.2.1 = b'.2.1) (h3 : b.2.2.1 = b'.2.2.1) (h4 : b.2.2.2 = b'.2.2.2) (h5 : c = c') : (a, b, c) = (true, b', c') := by
  obtain ⟨_, _, _, _⟩ := b
  obtain ⟨_, _, _, _⟩ := b'
  cases h0; cases h1; cases h2; cases h3; cases h4; cases h5; rfl
theorem hl_ok : LeftO PySem.Challenge.pw_pf0124_01 viewQ [] XtQ (Hook.obs hook0) (Hook.val hook0) 4096 :=
  LeftO.of_pieces (H₀ := boot_heap) (H₁ := hpF) (gs₀ := Array.mk []) (gs₁ := #[]) (d₀ := boot_drawn) (d₁ := {}) (k₀ := boot_toks) (k₁ := 730) (m₀ := 11) (ann := some (.ref 6)) (M := (12 + (1 + (238 + (235 + (470 + (539 + (508 + 2))))))))
    (boot_open (by kernel_rfl) (by rfl) (fun s => by kernel_rfl)) lk_s r_all (by rfl)
    (fun w => funext fun os => pair6 (congrFun (lk_0 w) os) (congrFun (lk_1 w) os) (congrFun (lk_2 w) os) (congrFun (lk_3 w) os) (congrFun (lk_4 w) os) (congrFun (lk_5 w) os))
noncomputable abbrev pW : Program := (OpenRow.toRowW (OpenLaw.row PySem.Challenge.rw_pf0124_01)).prog
theorem wl_1 : namesResolve pW = true := by kernel_rfl
theorem wl_2 : noRoadLSs { strict := !(importedModules pW.main.body).all cThrough.contains, foot := none, bare := (["vars", "dir", "locals"] : List Str).filter (readsOut pW pW.main.body) } pW.main.body = true := by kernel_rfl
theorem wl_3 : (namesMeet pW pW.main.body fun _ n => attrL n) = true := by kernel_rfl
theorem wl_look : looksOpen pW = true := by
  unfold looksOpen
  rw [wl_1, wl_2, wl_3]
  kernel_rfl
theorem wl_4 : (noRoadLSs { strict := true, foot := some (OpenLaw.bound' PySem.Challenge.rw_pf0124_01), writes := OpenLaw.writes PySem.Challenge.rw_pf0124_01, may := OpenLaw.may PySem.Challenge.rw_pf0124_01 } (OpenLaw.footing PySem.Challenge.rw_pf0124_01)) = true := by kernel_rfl
theorem wl_5 : (namesMeet (OpenLaw.prog PySem.Challenge.rw_pf0124_01) (OpenLaw.above PySem.Challenge.rw_pf0124_01) (fun _ n => !(OpenLaw.own PySem.Challenge.rw_pf0124_01).contains n)) = true := by kernel_rfl
theorem wl_ok : OpenLaw.wellSaid PySem.Challenge.rw_pf0124_01 = true := by
  unfold OpenLaw.wellSaid OpenRow.wellSaid OpenRow.partSaid
  rw [wl_look, wl_4, wl_5]
  kernel_rfl
end Mine
end
section
open Mine.FLx (ξ ν κ ζ δ η π ω)
open Mine.FCx (φ ψ θ ϑ Φ Ψ φn ψn θn ϑn Φn Ψn)
namespace Mine
/-! plain law: digits -/
noncomputable def dgF : Nat → Nat → Nat
  | 0, _ => 0
  | f + 1, n => if n = 0 then 0 else dgF f (n / 10) + 1
noncomputable def dg (n : Nat) : Nat := dgF n n
theorem dgF_eq : ∀ (f g n : Nat), n ≤ f → n ≤ g → dgF f n = dgF g n
  | 0, 0, _, _, _ => rfl
  | 0, g + 1, n, h, _ => by have : n = 0 := by exact Nat.le_antisymm (fk1 [] [_] (φn (ν 0) (κ 0)) 1 1 (φn (ν 0) (κ 0)) yes h) (fk1 [] [_] (φn (κ 0) (ν 0)) 1 1 (φn (κ 0) (ν 0)) yes (Nat.zero_le _))
                            subst this; simp [dgF]
  | f + 1, 0, n, _, h => by have : n = 0 := by exact Nat.le_antisymm (fk1 [] [_] (φn (ν 0) (κ 0)) 1 1 (φn (ν 0) (κ 0)) yes h) (fk1 [] [_] (φn (κ 0) (ν 0)) 1 1 (φn (κ 0) (ν 0)) yes (Nat.zero_le _))
                            subst this; simp [dgF]
  | f + 1, g + 1, n, hf, hg => by
    simp only [dgF]
    split
    · rfl
    · rw [dgF_eq f g (n / 10) (by lia) (by lia)]
theorem dg_zero : dg 0 = 0 := rfl
theorem dg_step {n : Nat} (h : 0 < n) : dg n = dg (n / 10) + 1 := by
  unfold dg
  cases n with
  | zero => exact Nat.le_antisymm ((fn1 [] [] 1 (ψn (κ 0) (κ 0)) yes h).elim) ((fn1 [] [] 1 (ψn (κ 0) (κ 0)) yes h).elim)
  | succ k =>
    show dgF (k + 1) (k + 1) = _
    rw [dgF, if_neg (by exact fun hq => fn2 [] [_] 1 (θn (ζ (ν 0) (κ 1)) (κ 0)) 1 (φn (κ 0) (ν 0)) yes hq (Nat.zero_le _)), dgF_eq k ((k + 1) / 10) ((k + 1) / 10) (by lia) (Nat.le_refl _)]
theorem dg_pos {n : Nat} (h : 0 < n) : 0 < dg n := by rw [dg_step h]; exact fk1 [] [_] (ψn (κ 0) (ζ (ν 0) (κ 1))) 1 1 (φn (κ 0) (ν 0)) yes (Nat.zero_le _)
theorem lt_pow_dg : ∀ n : Nat, n < 10 ^ dg n := by
  intro n
  induction n using Nat.strongRecOn with
  | _ n ih =>
    by_cases h : 0 < n
    · rw [dg_step h, Nat.pow_succ]
      have := ih (n / 10) (by lia)
      lia
    · have : n = 0 := by exact Nat.le_antisymm (fk1 [] [_] (φn (ν 0) (κ 0)) 1 1 (Ψn (κ 0) (ν 0)) yes h) (fk1 [] [_] (φn (κ 0) (ν 0)) 1 1 (φn (κ 0) (ν 0)) yes (Nat.zero_le _))
      subst this; decide
theorem pow_dg_le : ∀ n : Nat, 0 < n → 10 ^ (dg n - 1) ≤ n := by
  intro n
  induction n using Nat.strongRecOn with
  | _ n ih =>
    intro h
    rw [dg_step h]
    by_cases h' : 0 < n / 10
    · have := ih (n / 10) (by lia) h'
      have e : dg (n / 10) + 1 - 1 = (dg (n / 10) - 1) + 1 := by have := dg_pos h'; lia
      rw [e, Nat.pow_succ]
      lia
    · have : n / 10 = 0 := by exact Nat.le_antisymm (fk1 [] [_] (φn (ν 0) (κ 0)) 1 1 (Ψn (κ 0) (ν 0)) yes h') (fk1 [] [_] (φn (κ 0) (ν 0)) 1 1 (φn (κ 0) (ν 0)) yes (Nat.zero_le _))
      rw [this, dg_zero]; simp; exact fk1 [] [_] (φn (κ 1) (ν 0)) 1 1 (ψn (κ 0) (ν 0)) yes h
theorem dg_le {n k : Nat} (h : n < 10 ^ k) : dg n ≤ k := by
  by_cases h0 : 0 < n
  · have a := pow_dg_le n h0
    have b : 10 ^ (dg n - 1) < 10 ^ k := Nat.lt_of_le_of_lt a h
    have := (Nat.pow_lt_pow_iff_right (a := 10) (by exact fk0 [] [] (ψn (κ 1) (κ 10)) 1  yes )).mp b
    lia
  · have : n = 0 := by exact Nat.le_antisymm (fk1 [] [_] (φn (ν 0) (κ 0)) 1 1 (Ψn (κ 0) (ν 0)) yes h0) (fk1 [] [_] (φn (κ 0) (ν 0)) 1 1 (φn (κ 0) (ν 0)) yes (Nat.zero_le _))
    subst this; rw [dg_zero]; exact fk1 [] [_] (φn (κ 0) (ν 0)) 1 1 (φn (κ 0) (ν 0)) yes (Nat.zero_le _)
theorem le_dg {n k : Nat} (h : 10 ^ k ≤ n) : k + 1 ≤ dg n := by
  have a := lt_pow_dg n
  have b : 10 ^ k < 10 ^ dg n := Nat.lt_of_le_of_lt h a
  exact (Nat.pow_lt_pow_iff_right (a := 10) (by exact fk0 [] [] (ψn (κ 1) (κ 10)) 1  yes )).mp b
theorem dg_mono {a b : Nat} (h : a ≤ b) : dg a ≤ dg b := dg_le (Nat.lt_of_le_of_lt h (lt_pow_dg b))
theorem dg_div_pow {n : Nat} (k : Nat) (h : 10 ^ k ≤ n) : dg n = dg (n / 10 ^ k) + k := by
  induction k with
  | zero => simp
  | succ k ih =>
    have hp : 0 < 10 ^ k := Nat.pow_pos (by exact fk0 [] [] (ψn (κ 0) (κ 10)) 1  yes )
    have h' : 10 ^ k ≤ n := Nat.le_trans (Nat.pow_le_pow_right (by exact fk0 [] [] (ψn (κ 0) (κ 10)) 1  yes ) (by exact fk0 [] [_] (φn (ν 0) (ζ (ν 0) (κ 1))) 1  yes )) h
    rw [ih h', Nat.pow_succ, ← Nat.div_div_eq_div_mul]
    have : 10 ≤ n / 10 ^ k := by
      rw [Nat.le_div_iff_mul_le hp]; rw [Nat.pow_succ, Nat.mul_comm] at h; exact h
    rw [dg_step (n := n / 10 ^ k) (by exact fk1 [] [_] (ψn (κ 0) (ν 0)) 1 1 (φn (κ 10) (ν 0)) yes this)]; exact Nat.le_antisymm (fk0 [] [_,_] (φn (ζ (ζ (ν 0) (κ 1)) (ν 1)) (ζ (ν 0) (ζ (ν 1) (κ 1)))) 1  yes ) (fk0 [] [_,_] (φn (ζ (ν 0) (ζ (ν 1) (κ 1))) (ζ (ζ (ν 0) (κ 1)) (ν 1))) 1  yes )
theorem dg_mul_pow {n : Nat} (k : Nat) (h : 0 < n) : dg (n * 10 ^ k) = dg n + k := by
  have hp : 0 < 10 ^ k := Nat.pow_pos (by exact fk0 [] [] (ψn (κ 0) (κ 10)) 1  yes )
  have := dg_div_pow (n := n * 10 ^ k) k (Nat.le_mul_of_pos_left _ h)
  rw [this, Nat.mul_div_cancel _ hp]
noncomputable def cd (n : Int) : Int := dg n.natAbs
theorem cd_big {a : Int} (h : 1000000000 ≤ a) : cd a = cd (a.fdiv 1000000000) + 9 := by
  unfold cd
  have e : (a.fdiv 1000000000).natAbs = a.natAbs / 10 ^ 9 := by
    rw [Int.fdiv_eq_ediv_of_nonneg _ (by exact fk0 [] [] (φ (κ 0) (κ 1000000000)) 1  yes )]; lia
  rw [e, dg_div_pow 9 (by omega)]; exact Int.le_antisymm (fk0 [] [_] (φ (ζ (ν 0) (κ 9)) (ζ (ν 0) (κ 9))) 1  yes ) (fk0 [] [_] (φ (ζ (ν 0) (κ 9)) (ζ (ν 0) (κ 9))) 1  yes )
theorem cd_step {a : Int} (h : 0 < a) : cd a = cd (a.fdiv 10) + 1 := by
  unfold cd
  have e : (a.fdiv 10).natAbs = a.natAbs / 10 := by
    rw [Int.fdiv_eq_ediv_of_nonneg _ (by exact fk0 [] [] (φ (κ 0) (κ 10)) 1  yes )]; lia
  rw [e, dg_step (by omega)]; exact Int.le_antisymm (fk0 [] [_] (φ (ζ (ν 0) (κ 1)) (ζ (ν 0) (κ 1))) 1  yes ) (fk0 [] [_] (φ (ζ (ν 0) (κ 1)) (ζ (ν 0) (κ 1))) 1  yes )
theorem cd_neg (a : Int) : cd (-a) = cd a := by unfold cd; rw [Int.natAbs_neg]
theorem cd_nonneg (a : Int) : 0 ≤ cd a := by unfold cd; exact fk1 [] [_] (φ (κ 0) (ν 0)) 1 1 (φn (κ 0) (ν 0)) yes (Nat.zero_le _)
end Mine
namespace Mine
theorem cd_abs (n : Int) : 0 ≤ (if n < 0 then -n else n) ∧ cd (if n < 0 then -n else n) + 0 = cd n := by
  split
  · rw [cd_neg]; lia
  · lia
end Mine
namespace Mine
theorem cd_turn9 {a c N : Int} (h0 : 0 ≤ a) (h : cd a + c = N) (h9 : 1000000000 ≤ a) : 0 ≤ a.fdiv 1000000000 ∧ cd (a.fdiv 1000000000) + (c + 9) = N := by
  have := cd_big h9
  refine ⟨?_, by exact Int.le_antisymm (fk2 [_,_,_,_] [] (φ (ζ (ξ 0) (ζ (ξ 1) (κ 9))) (ξ 2)) 1 1 (θ (ζ (ξ 3) (ξ 1)) (ξ 2)) 1 (ϑ (ξ 3) (ζ (ξ 0) (κ 9))) yes h this) (fk2 [_,_,_,_] [] (φ (ξ 0) (ζ (ξ 1) (ζ (ξ 2) (κ 9)))) 1 1 (ϑ (ζ (ξ 3) (ξ 2)) (ξ 0)) 1 (θ (ξ 3) (ζ (ξ 1) (κ 9))) yes h this)⟩
  rw [Int.fdiv_eq_ediv_of_nonneg _ (by exact fk0 [] [] (φ (κ 0) (κ 1000000000)) 1  yes )]; lia
theorem cd_turn1 {a c N : Int} (h0 : 0 ≤ a) (h : cd a + c = N) (h9 : 0 < a) : 0 ≤ a.fdiv 10 ∧ cd (a.fdiv 10) + (c + 1) = N := by
  have := cd_step h9
  refine ⟨?_, by exact Int.le_antisymm (fk2 [_,_,_,_] [] (φ (ζ (ξ 0) (ζ (ξ 1) (κ 1))) (ξ 2)) 1 1 (θ (ζ (ξ 3) (ξ 1)) (ξ 2)) 1 (ϑ (ξ 3) (ζ (ξ 0) (κ 1))) yes h this) (fk2 [_,_,_,_] [] (φ (ξ 0) (ζ (ξ 1) (ζ (ξ 2) (κ 1)))) 1 1 (ϑ (ζ (ξ 3) (ξ 2)) (ξ 0)) 1 (θ (ξ 3) (ζ (ξ 1) (κ 1))) yes h this)⟩
  rw [Int.fdiv_eq_ediv_of_nonneg _ (by exact fk0 [] [] (φ (κ 0) (κ 10)) 1  yes )]; lia
theorem cd_end {a c N : Int} (h : cd a + c = N) (h0 : 0 ≤ a) (h9 : ¬ 0 < a) : c = N := by
  have e : a = 0 := by exact Int.le_antisymm (fk1 [_] [] (φ (ξ 0) (κ 0)) 1 1 (Ψ (κ 0) (ξ 0)) yes h9) (fk1 [_] [] (φ (κ 0) (ξ 0)) 1 1 (φ (κ 0) (ξ 0)) yes h0)
  subst e
  have : cd 0 = 0 := rfl
  exact Int.le_antisymm (fk2 [_,_,_] [] (φ (ξ 0) (ξ 1)) 1 1 (θ (ζ (ξ 2) (ξ 0)) (ξ 1)) 1 (ϑ (ξ 2) (κ 0)) yes h this) (fk2 [_,_,_] [] (φ (ξ 0) (ξ 1)) 1 1 (ϑ (ζ (ξ 2) (ξ 1)) (ξ 0)) 1 (θ (ξ 2) (κ 0)) yes h this)
theorem fdiv_less {a : Int} {k : Int} (h : 0 < a) (hk : 1 < k) : (a.fdiv k).toNat < a.toNat := by
  rw [Int.fdiv_eq_ediv_of_nonneg _ (by exact fk1 [_] [] (φ (κ 0) (ξ 0)) 1 1 (ψ (κ 1) (ξ 0)) yes hk)]
  have := Int.ediv_lt_self_of_pos_of_ne_one h (by exact fun hq => fn2 [_] [] 1 (ψ (κ 1) (ξ 0)) 1 (θ (ξ 0) (κ 1)) yes hk hq : k ≠ 1)
  have h2 : 0 ≤ a / k := Int.ediv_nonneg (by exact fk1 [_] [] (φ (κ 0) (ξ 0)) 1 1 (ψ (κ 0) (ξ 0)) yes h) (by exact fk1 [_] [] (φ (κ 0) (ξ 0)) 1 1 (ψ (κ 1) (ξ 0)) yes hk)
  exact fk3 [_,_] [_,_] (ψn (ν 0) (ν 1)) 1 1 (ψ (ξ 0) (ξ 1)) 1 (θ (ν 0) (ξ 0)) 1 (ϑ (ν 1) (ξ 1)) yes this (tn (a := a / k) (fk1 [_] [] (φ (κ 0) (ξ 0)) 1 1 (φ (κ 0) (ξ 0)) yes h2)) (tn (a := a) (fk1 [_] [] (φ (κ 0) (ξ 0)) 1 1 (ψ (κ 0) (ξ 0)) yes h))
end Mine
end
section
open PySem PySem.W PyProof.Rows
set_option maxRecDepth 100000
namespace Mine
noncomputable abbrev Led := List (Addr × Obj)
noncomputable def CallOk (w : World) (p : Program) (loose : List Str) (mean : ExcName → Option Value) (mg mb : Str → Option Value) (f : Addr) (cost : Nat) (news : Led) (vs : List Value) (Post : Value → Led → Prop) : Prop :=
  ∀ (dp un : Nat) (gd : Option (List Code)) (cn : Str) (cs : Scope) (a : Addr) (ccd : Value) (cl : List (Str × Addr)) (outer : List Env) (A₀ : Around) (base h₀ : Heap) (L : Addr) (m : Str → Option Value) (s : Shared) (Q E : Value → Shared → Prop),
    Below A₀ base outer h₀ → Fr h₀ L s.heap m → (heapK w.params).In h₀ → News h₀ L s.heap news → Top p loose mean mg mb h₀ → cs.kind = .function → dp + cost < recursionLimit → un + 8 * cost < cLine →
    (∀ r tl h' tk', Fr h₀ L h' m → News h₀ L h' (tl ++ news) → Post r tl → Q r { s with heap := h', toks := tk' }) →
    wpAny (model PySem.Challenge.rw_pf0124_01.row.prog w) (ktrTop dp un gd cn cs L a ccd cl outer) (call (.ref f) vs) Q E s
noncomputable def CallR (w : World) (p : Program) (loose : List Str) (mean : ExcName → Option Value) (mg mb : Str → Option Value) (f : Addr) (cost : Nat) (news : Led) (vs : List Value) (Post : Value → Led → Prop) (Err : Prop) : Prop :=
  ∀ (dp un : Nat) (gd : Option (List Code)) (cn : Str) (cs : Scope) (a : Addr) (ccd : Value) (cl : List (Str × Addr)) (outer : List Env) (A₀ : Around) (base h₀ : Heap) (L : Addr) (m : Str → Option Value) (s : Shared) (Q E : Value → Shared → Prop),
    Below A₀ base outer h₀ → Fr h₀ L s.heap m → (heapK w.params).In h₀ → News h₀ L s.heap news → Top p loose mean mg mb h₀ → cs.kind = .function → dp + cost < recursionLimit → un + 8 * cost < cLine →
    (∀ r tl h' tk', Fr h₀ L h' m → News h₀ L h' (tl ++ news) → Post r tl → Q r { s with heap := h', toks := tk' }) →
    (∀ e t vs G h' tk', Err → Fr h₀ L G m → RaisedS base G (envX cn cs L a ccd cl :: outer) e (.ref 44) t vs news h' → G.UpToSlots h' → E (.ref e) { s with heap := h', toks := tk' }) →
    wpAny (model PySem.Challenge.rw_pf0124_01.row.prog w) (ktrTop dp un gd cn cs L a ccd cl outer) (call (.ref f) vs) Q E s
noncomputable def IntOut (x : Int) (r : Value) (tl : Led) : Prop := tl = [] ∧ ∃ t, r = .int x t
noncomputable def BoolOut (x : Bool) (r : Value) (tl : Led) : Prop := tl = [] ∧ r = .bool x
section
variable {w : World} {p : Program} {loose : List Str} {mean : ExcName → Option Value} {mg mb : Str → Option Value} {f : Addr} {cost : Nat} {news : Led} {vs : List Value} {Post : Value → Led → Prop} {Err : Prop}
theorem CallOk.use (C : CallOk w p loose mean mg mb f cost news vs Post)
    {dp un : Nat} {gd : Option (List Code)} {cn : Str} {cs : Scope} {a : Addr} {ccd : Value} {cl : List (Str × Addr)} {outer : List Env} {A₀ : Around} {base h₀ : Heap} {L : Addr} {m : Str → Option Value} {s : Shared} {Q E : Value → Shared → Prop}
    (B : Below A₀ base outer h₀) (F : Fr h₀ L s.heap m) (X : (heapK w.params).In h₀) (N : News h₀ L s.heap news) (T : Top p loose mean mg mb h₀) (hk : cs.kind = .function) (hd : dp + cost < recursionLimit) (hu : un + 8 * cost < cLine)
    (ret : ∀ r tl h' tk', Fr h₀ L h' m → News h₀ L h' (tl ++ news) → Post r tl → Q r { s with heap := h', toks := tk' }) :
    wpAny (model PySem.Challenge.rw_pf0124_01.row.prog w) (ktrTop dp un gd cn cs L a ccd cl outer) (call (.ref f) vs) Q E s := C _ _ _ _ _ _ _ _ _ _ _ _ _ _ _ _ _ B F X N T hk hd hu ret
theorem CallR.use (C : CallR w p loose mean mg mb f cost news vs Post Err)
    {dp un : Nat} {gd : Option (List Code)} {cn : Str} {cs : Scope} {a : Addr} {ccd : Value} {cl : List (Str × Addr)} {outer : List Env} {A₀ : Around} {base h₀ : Heap} {L : Addr} {m : Str → Option Value} {s : Shared} {Q E : Value → Shared → Prop}
    (B : Below A₀ base outer h₀) (F : Fr h₀ L s.heap m) (X : (heapK w.params).In h₀) (N : News h₀ L s.heap news) (T : Top p loose mean mg mb h₀) (hk : cs.kind = .function) (hd : dp + cost < recursionLimit) (hu : un + 8 * cost < cLine)
    (ret : ∀ r tl h' tk', Fr h₀ L h' m → News h₀ L h' (tl ++ news) → Post r tl → Q r { s with heap := h', toks := tk' })
    (err : ∀ e t vs G h' tk', Err → Fr h₀ L G m → RaisedS base G (envX cn cs L a ccd cl :: outer) e (.ref 44) t vs news h' → G.UpToSlots h' → E (.ref e) { s with heap := h', toks := tk' }) :
    wpAny (model PySem.Challenge.rw_pf0124_01.row.prog w) (ktrTop dp un gd cn cs L a ccd cl outer) (call (.ref f) vs) Q E s := C _ _ _ _ _ _ _ _ _ _ _ _ _ _ _ _ _ B F X N T hk hd hu ret err
theorem CallR.ok (C : CallR w p loose mean mg mb f cost news vs Post Err) (no : ¬ Err) : CallOk w p loose mean mg mb f cost news vs Post := by
  intro dp un gd cn cs a ccd cl outer A₀ base h₀ L m s Q E B F X N T hk hd hu ret
  exact C _ _ _ _ _ _ _ _ _ _ _ _ _ _ _ _ _ B F X N T hk hd hu ret fun _ _ _ _ _ _ x => (no x).elim
section
variable {h₀ : Heap} {L : Addr} {m : Str → Option Value} {s : Shared} {Q : Value → Shared → Prop} {h' : Heap} {tk' : Nat}
theorem ret_bool {x y : Bool}
    (ret : ∀ r tl h' tk', Fr h₀ L h' m → News h₀ L h' (tl ++ news) → BoolOut x r tl → Q r { s with heap := h', toks := tk' })
    {tl : Led} (F : Fr h₀ L h' m) (N : News h₀ L h' (tl ++ news)) (e : y = x) : Q (.bool y) { s with heap := h', toks := tk' } := ret _ [] _ _ F (fun p hp => N p (List.mem_append_right _ hp)) ⟨rfl, e ▸ rfl⟩
end
end
end Mine
end
section
open PySem PySem.W PyProof.Rows
set_option maxRecDepth 100000
namespace Mine
noncomputable def PairIn (w : World) (news : Led) (a : Addr) (x y : Int) : Prop :=
  ∃ o t u n, o.cls = .type "tuple" ∧ o.data = .seq #[.int x t, .int y u] n ∧ ((a, o) ∈ news ∨ (heapK w.params).lookup a = some o)
noncomputable def TripIn (news : Led) (a : Addr) (x y z : Int) : Prop :=
  ∃ o t u v n, o.cls = .type "tuple" ∧ o.data = .seq #[.int x t, .int y u, .int z v] n ∧ (a, o) ∈ news
theorem PairIn.sub {w : World} {news news' : Led} {a : Addr} {x y : Int} (P : PairIn w news a x y) (k : ∀ p ∈ news, p ∈ news') : PairIn w news' a x y := by
  obtain ⟨o, t, u, n, a1, a2, a3⟩ := P
  exact ⟨o, t, u, n, a1, a2, a3.imp (k _) id⟩
theorem PairIn.tup {w : World} {h₀ h : Heap} {L : Addr} {m : Str → Option Value} {news news' : Led} {a : Addr} {x y : Int} (P : PairIn w news a x y) (X : (heapK w.params).In h₀) (F : Fr h₀ L h m) (N : News h₀ L h news') (k : ∀ p ∈ news, p ∈ news') :
    ∃ t u, IsTup h a #[.int x t, .int y u] := by
  obtain ⟨o, t, u, n, a1, a2, a3⟩ := P
  refine ⟨t, u, o, ?_, a1, n, a2⟩
  rcases a3 with a3 | a3
  · exact N.get (k _ a3)
  · exact F.keep _ _ (X _ _ a3)
theorem TripIn.tup {h₀ h : Heap} {L : Addr} {news news' : Led} {a : Addr} {x y z : Int} (P : TripIn news a x y z) (N : News h₀ L h news') (k : ∀ p ∈ news, p ∈ news') :
    ∃ t u v, IsTup h a #[.int x t, .int y u, .int z v] := by
  obtain ⟨o, t, u, v, n, a1, a2, a3⟩ := P
  exact ⟨t, u, v, o, N.get (k _ a3), a1, n, a2⟩
theorem nought {w : World} {news : Led} : PairIn w news 47 0 0 := by
  have e : ∃ o t u n, (heapK w.params).lookup 47 = some o ∧ o.cls = .type "tuple" ∧ o.data = .seq #[.int 0 t, .int 0 u] n := ⟨_, _, _, _, rfl, rfl, rfl⟩
  obtain ⟨o, t, u, n, e1, e2, e3⟩ := e
  exact ⟨o, t, u, n, e2, e3, .inr e1⟩
noncomputable def PairOut (w : World) (x y : Int) (news : Led) (r : Value) (tl : Led) : Prop := ∃ a, r = .ref a ∧ PairIn w (tl ++ news) a x y
section
variable {prog : Program} {w w₀ : World} {A : Around} {E : Value → Shared → Prop} {s : Shared} {h₀ : Heap} {L a b : Addr} {m : Str → Option Value} {news news' news₂ : Led} {x y z x' y' : Int}
theorem pair_item0 {value slice : Expr} {k : Tok} {Q : Value → Shared → Prop} (P : PairIn w₀ news a x y) (X : (heapK w₀.params).In h₀) (F : Fr h₀ L s.heap m) (N : News h₀ L s.heap news') (hsub : ∀ p ∈ news, p ∈ news') (h : ∀ t, Q (.int x t) s)
    (hs : subscripted slice false (.ref a) (.int 0 k) = operate [.ref a, .int 0 k] (getItem (.ref a) (.int 0 k)) := by with_unfolding_all rfl) :
    wpAny (model prog w) A (subscriptTail value slice (.ref a) (.int 0 k)) Q E s := by
  obtain ⟨t, u, ht⟩ := P.tup X F N hsub
  exact item_tupleT (l := [.int x t, .int y u]) (j := 0) ht (by decide) (by decide) rfl rfl (h t) hs
theorem pair_item1 {value slice : Expr} {k : Tok} {Q : Value → Shared → Prop} (P : PairIn w₀ news a x y) (X : (heapK w₀.params).In h₀) (F : Fr h₀ L s.heap m) (N : News h₀ L s.heap news') (hsub : ∀ p ∈ news, p ∈ news') (h : ∀ t, Q (.int y t) s)
    (hs : subscripted slice false (.ref a) (.int 1 k) = operate [.ref a, .int 1 k] (getItem (.ref a) (.int 1 k)) := by with_unfolding_all rfl) :
    wpAny (model prog w) A (subscriptTail value slice (.ref a) (.int 1 k)) Q E s := by
  obtain ⟨t, u, ht⟩ := P.tup X F N hsub
  exact item_tupleT (l := [.int x t, .int y u]) (j := 1) ht (by decide) (by decide) rfl rfl (h u) hs
theorem pair_unpack {elts : List Expr} {k} {env : Env} {pos : Pos} {Q : Unit → Shared → Prop} (P : PairIn w₀ news a x y) (X : (heapK w₀.params).In h₀) (F : Fr h₀ L s.heap m) (N : News h₀ L s.heap news') (hsub : ∀ p ∈ news, p ∈ news')
    (hh : A.handled = none) (hn : (assignEach elts env).length = 2) (hstar : (assignEach elts env).findIdx? (·.1) = none)
    (h : ∀ h' t u, Fr h₀ L h' m → News h₀ L h' news' → wpAny (model prog w) A (assignInOrder ((assignEach elts env).map (·.2)) [.int x t, .int y u]) Q E { s with heap := h' }) :
    wpAny (model prog w) A (assign (.Tuple elts k pos) env (.ref a)) Q E s := by
  obtain ⟨t, u, ht⟩ := P.tup X F N hsub
  exact unpackN_ F N ht hh hn hstar fun h' F' N' => h h' t u F' N'
theorem trip_unpack {elts : List Expr} {k} {env : Env} {pos : Pos} {Q : Unit → Shared → Prop} (P : TripIn news a x y z) (F : Fr h₀ L s.heap m) (N : News h₀ L s.heap news') (hsub : ∀ p ∈ news, p ∈ news')
    (hh : A.handled = none) (hn : (assignEach elts env).length = 3) (hstar : (assignEach elts env).findIdx? (·.1) = none)
    (h : ∀ h' t u v, Fr h₀ L h' m → News h₀ L h' news' → wpAny (model prog w) A (assignInOrder ((assignEach elts env).map (·.2)) [.int x t, .int y u, .int z v]) Q E { s with heap := h' }) :
    wpAny (model prog w) A (assign (.Tuple elts k pos) env (.ref a)) Q E s := by
  obtain ⟨t, u, v, ht⟩ := P.tup N hsub
  exact unpackN_ F N ht hh hn hstar fun h' F' N' => h h' t u v F' N'
theorem pair_all (c d : Bool) : ((List.range (min 2 2)).all (fun j => if j = 0 then c else d) && (2 == 2)) = (c && d) := by cases c <;> cases d <;> rfl
theorem pair_eq {Q : Value → Shared → Prop} (P : PairIn w₀ news a x y) (P' : PairIn w₀ news₂ b x' y') (X : (heapK w₀.params).In h₀) (F : Fr h₀ L s.heap m) (N : News h₀ L s.heap news') (hsub : ∀ p ∈ news, p ∈ news') (hsub' : ∀ p ∈ news₂, p ∈ news') (hu : A.units < cLine)
    (h : Q (.bool ((x == x') && (y == y'))) s) : wpAny (model prog w) A (compareOp .Eq (.ref a) (.ref b)) Q E s := by
  obtain ⟨t, u, ht⟩ := P.tup X F N hsub
  obtain ⟨t', u', ht'⟩ := P'.tup X F N hsub'
  refine PySem.SeqAt.RcAt.tuples (e := fun j => if j = 0 then x == x' else y == y') ht ht' hu ?_ _ _ _ _ ?_
  · intro j h1 h2
    match j, h1, h2 with
    | 0, _, _ => exact PySem.SeqAt.EqAt.int_int _ _ _ _
    | 1, _, _ => exact PySem.SeqAt.EqAt.int_int _ _ _ _
  · show Q (.bool ((List.range (min 2 2)).all (fun j => if j = 0 then x == x' else y == y') && (2 == 2))) s
    rw [pair_all]; exact h
theorem pair_ne {Q : Value → Shared → Prop} (P : PairIn w₀ news a x y) (P' : PairIn w₀ news₂ b x' y') (X : (heapK w₀.params).In h₀) (F : Fr h₀ L s.heap m) (N : News h₀ L s.heap news') (hsub : ∀ p ∈ news, p ∈ news') (hsub' : ∀ p ∈ news₂, p ∈ news') (hu : A.units < cLine)
    (h : Q (.bool (!((x == x') && (y == y')))) s) : wpAny (model prog w) A (compareOp .NotEq (.ref a) (.ref b)) Q E s := by
  obtain ⟨t, u, ht⟩ := P.tup X F N hsub
  obtain ⟨t', u', ht'⟩ := P'.tup X F N hsub'
  refine PySem.SeqAt.RcNeAt.tuples (e := fun j => if j = 0 then x == x' else y == y') ht ht' hu ?_ _ _ _ _ ?_
  · intro j h1 h2
    match j, h1, h2 with
    | 0, _, _ => exact PySem.SeqAt.EqAt.int_int _ _ _ _
    | 1, _, _ => exact PySem.SeqAt.EqAt.int_int _ _ _ _
  · show Q (.bool (!((List.range (min 2 2)).all (fun j => if j = 0 then x == x' else y == y') && (2 == 2)))) s
    rw [pair_all]; exact h
theorem pair_ne_str {v : Str} {t : Tok} {Q : Value → Shared → Prop} (P : PairIn w₀ news a x y) (X : (heapK w₀.params).In h₀) (F : Fr h₀ L s.heap m) (N : News h₀ L s.heap news') (hsub : ∀ p ∈ news, p ∈ news') (hu : A.units < cLine) (h : Q (.bool true) s) :
    wpAny (model prog w) A (compareOp .NotEq (.ref a) (.str v t)) Q E s := by
  obtain ⟨t1, u1, ht⟩ := P.tup X F N hsub
  exact PySem.SeqAt.RcNeAt.tuple_str _ _ ht hu _ _ _ _ h
theorem str_ne_pair {v : Str} {t : Tok} {Q : Value → Shared → Prop} (P : PairIn w₀ news a x y) (X : (heapK w₀.params).In h₀) (F : Fr h₀ L s.heap m) (N : News h₀ L s.heap news') (hsub : ∀ p ∈ news, p ∈ news') (hu : A.units < cLine) (h : Q (.bool true) s) :
    wpAny (model prog w) A (compareOp .NotEq (.str v t) (.ref a)) Q E s := by
  obtain ⟨t1, u1, ht⟩ := P.tup X F N hsub
  exact PySem.SeqAt.RcNeAt.str_tuple _ _ ht hu _ _ _ _ h
end
section
variable {w : World} {h₀ : Heap} {L : Addr} {m : Str → Option Value} {s : Shared} {Q : Value → Shared → Prop} {h' : Heap} {tk' : Nat} {news : Led} {x y x' y' z z' : Int} {a : Addr}
theorem ret_boolG {b b' : Bool} (ret : ∀ r tl h' tk', Fr h₀ L h' m → News h₀ L h' (tl ++ news) → BoolOut b r tl → Q r { s with heap := h', toks := tk' })
    {led : Led} (F : Fr h₀ L h' m) (N : News h₀ L h' led) (hs : ∀ p ∈ news, p ∈ led) (e1 : b' = b) : Q (.bool b') { s with heap := h', toks := tk' } :=
  ret_bool (tl := []) ret F (fun p hp => N p (hs p hp)) e1
end
end Mine
end
section
open Mine.FLx (ξ ν κ ζ δ η π ω)
open Mine.FCx (φ ψ θ ϑ Φ Ψ φn ψn θn ϑn Φn Ψn)
namespace Mine
theorem fdiv10 (a : Int) : a.fdiv 10 = a / 10 := Int.fdiv_eq_ediv_of_nonneg _ (by exact fk0 [] [] (φ (κ 0) (κ 10)) 1  yes )
theorem fmod10 (a : Int) : a.fmod 10 = a % 10 := Int.fmod_eq_emod_of_nonneg _ (by exact fk0 [] [] (φ (κ 0) (κ 10)) 1  yes )
noncomputable def stripF : Nat → Int → Int → Int × Int
  | 0, m, e => (m, e)
  | f + 1, m, e => if m % 10 = 0 then stripF f (m / 10) (e + 1) else (m, e)
noncomputable def strip (m e : Int) : Int × Int := if m = 0 then (0, 0) else stripF m.natAbs m e
theorem stripF_eq : ∀ (f g : Nat) (m e : Int), m ≠ 0 → m.natAbs ≤ f → m.natAbs ≤ g → stripF f m e = stripF g m e
  | 0, _, m, _, h, hf, _ => by lia
  | _ + 1, 0, m, _, h, _, hg => by lia
  | f + 1, g + 1, m, e, h, hf, hg => by
    simp only [stripF]
    split
    · exact stripF_eq f g _ _ (by lia) (by omega) (by omega)
    · rfl
theorem strip_step {m e : Int} (h : m ≠ 0) (h2 : m % 10 = 0) : strip m e = strip (m / 10) (e + 1) := by
  unfold strip
  rw [if_neg h, if_neg (by lia)]
  obtain ⟨f, hf⟩ : ∃ f, m.natAbs = f + 1 := ⟨m.natAbs - 1, by lia⟩
  rw [hf, stripF, if_pos h2]
  exact stripF_eq _ _ _ _ (by lia) (by omega) (Nat.le_refl _)
theorem strip_stop {m e : Int} (h2 : m % 10 ≠ 0) : strip m e = (m, e) := by
  unfold strip
  rw [if_neg (by lia)]
  cases m.natAbs with
  | zero => rfl
  | succ f => rw [stripF, if_neg h2]
theorem strip_zero (e : Int) : strip 0 e = (0, 0) := rfl
theorem st_turn {m e : Int} {R : Int × Int} (h0 : m ≠ 0) (h : strip m e = R) (h2 : m.fmod 10 = 0) : m.fdiv 10 ≠ 0 ∧ strip (m.fdiv 10) (e + 1) = R := by
  rw [fmod10] at h2; rw [fdiv10]
  exact ⟨by lia, by rw [← strip_step h0 h2]; exact h⟩
theorem st_less {m : Int} (h0 : m ≠ 0) (h2 : m.fmod 10 = 0) : (m.fdiv 10).natAbs < m.natAbs := by
  rw [fmod10] at h2; rw [fdiv10]; omega
theorem st_end1 {m e : Int} {R : Int × Int} (h : strip m e = R) (h2 : ¬ m.fmod 10 = 0) : m = R.1 := by
  rw [fmod10] at h2; rw [strip_stop h2] at h; rw [← h]
theorem st_end2 {m e : Int} {R : Int × Int} (h : strip m e = R) (h2 : ¬ m.fmod 10 = 0) : e = R.2 := by
  rw [fmod10] at h2; rw [strip_stop h2] at h; rw [← h]
end Mine
namespace Mine
noncomputable def rdP (p a : Int) : Int := if p < 2 * a.fmod p ∨ (2 * a.fmod p = p ∧ (a.fdiv p).fmod 2 = 1) then a.fdiv p + 1 else a.fdiv p
noncomputable def absI (x : Int) : Int := if x < 0 then -x else x
noncomputable def rd (x y d : Int) : Int × Int :=
  if 0 < cd x - d then strip (if 0 < x then rdP (10 ^ (cd x - d).toNat) (absI x) else -rdP (10 ^ (cd x - d).toNat) (absI x)) (y + (cd x - d)) else strip x y
theorem rd_same {x y d : Int} (h1 : ¬ 0 < cd x - d) : strip x y = rd x y d := by unfold rd; rw [if_neg h1]
end Mine
namespace Mine
noncomputable def rr (x y d top : Int) : Option (Int × Int) :=
  if (rd x y d).1 = 0 ∨ (rd x y d).2 + cd (rd x y d).1 - 1 < -top then some (0, 0)
  else if top < (rd x y d).2 + cd (rd x y d).1 - 1 then none else some (rd x y d)
theorem rr_n1 {x y d top : Int} (h : (rd x y d).1 = 0) : rr x y d top = some (0, 0) := by unfold rr; rw [if_pos (.inl h)]
theorem rr_n2 {x y d top : Int} (h : (rd x y d).2 + cd (rd x y d).1 - 1 < -top) : rr x y d top = some (0, 0) := by unfold rr; rw [if_pos (.inr h)]
end Mine
end
section
open Mine.FLx (ξ ν κ ζ δ η π ω)
open Mine.FCx (φ ψ θ ϑ Φ Ψ φn ψn θn ϑn Φn Ψn)
open PySem PySem.W PyProof.Rows
set_option maxRecDepth 100000
namespace Mine
noncomputable def Sm (x : Int) : Prop := x.natAbs < 10 ^ 2000
theorem pow2000 : 10 ^ 2000 < 2 ^ 6700 := by decide +kernel
theorem Sm.bits {x : Int} (h : Sm x) : Builtin.Int.intBits x ≤ 6700 := PyProof.Rows.intBits_le (Nat.lt_trans h pow2000)
theorem Sm.mulOk {a b : Int} (ha : Sm a) (hb : Sm b) : IntMulOk a b := PyProof.Rows.mulOk_of_bits ha.bits hb.bits (by decide)
theorem Sm.pylong {a b : Int} (h : Sm b) : Builtin.divisionGoesByPylong a b = false := by
  refine PyProof.noPylong_of_log2 ?_
  by_cases h0 : b.natAbs = 0
  · rw [h0]; decide +kernel
  · have : b.natAbs.log2 < 6700 := (Nat.log2_lt h0).mpr (Nat.lt_trans h pow2000)
    exact fk1 [] [_] (ψn (ν 0) (κ 9000)) 1 1 (ψn (ν 0) (κ 6700)) yes this
theorem Sm.le {a b : Int} (hb : Sm b) (h : a.natAbs ≤ b.natAbs) : Sm a := Nat.lt_of_le_of_lt h hb
theorem Sm.neg {a : Int} (h : Sm a) : Sm (-a) := h.le (by rw [Int.natAbs_neg]; exact Nat.le_refl _)
theorem Sm.abs {a : Int} (h : Sm a) : Sm (if a < 0 then -a else a) := by split; exact h.neg; exact h
theorem sm_pow {k : Nat} (h : k < 2000) : Sm (10 ^ k) := by
  have e : ((10 : Int) ^ k).natAbs = 10 ^ k := by rw [Int.natAbs_pow]; rfl
  show ((10 : Int) ^ k).natAbs < 10 ^ 2000
  rw [e]
  exact Nat.pow_lt_pow_right (by exact fk0 [] [] (ψn (κ 1) (κ 10)) 1  yes ) h
theorem sm_small {x : Int} (h : x.natAbs < 1000000000000) : Sm x := Nat.lt_trans h (by decide +kernel)
theorem pow_pos10 (k : Nat) : (0 : Int) < 10 ^ k := Int.pow_pos (by exact fk0 [] [] (ψ (κ 0) (κ 10)) 1  yes )
theorem pow_ne10 (k : Nat) : (10 : Int) ^ k ≠ 0 := by have := pow_pos10 k; exact fun hq => fn2 [_] [] 1 (ψ (κ 0) (ξ 0)) 1 (θ (ξ 0) (κ 0)) yes this hq
section
variable {prog : Program} {w w₀ : World} {A : Around} {E : Value → Shared → Prop} {s : Shared} {h₀ : Heap} {L : Addr} {m : Str → Option Value} {news : Led} {a b : Int} {t u : Tok}
theorem divmod_pair {Q : Value → Shared → Prop} (F : Fr h₀ L s.heap m) (N : News h₀ L s.heap news) (hb : b ≠ 0) (hs : Sm b)
    (h : ∀ c o h' tk, Fr h₀ L h' m → News h₀ L h' ((c, o) :: news) → PairIn w₀ ((c, o) :: news) c (a.fdiv b) (a.fmod b) → Q (.ref c) { s with toks := tk, heap := h' }) :
    wpAny (model prog w) A (call (.builtin "divmod") [.int a t, .int b u]) Q E s :=
  divmod_N F N hb (fun h' F' N' => h _ _ h' _ F' N' ⟨_, _, _, _, rfl, rfl, .inl (.head _)⟩) (.inl hs.pylong)
theorem mul_sm {Q : Value → Shared → Prop} (ha : Sm a) (hb : Sm b) (h : Q (.int (a * b) s.toks) { s with toks := s.toks + 1 }) : wpAny (model prog w) A (binaryOp .Mult (.int a t) (.int b u)) Q E s := mul_int h (ha.mulOk hb)
theorem imul_sm {Q : Value → Shared → Prop} (ha : Sm a) (hb : Sm b) (h : Q (.int (a * b) s.toks) { s with toks := s.toks + 1 }) : wpAny (model prog w) A (inplaceOp .Mult (.int a t) (.int b u)) Q E s := imul_int h (ha.mulOk hb)
theorem floordiv_sm {Q : Value → Shared → Prop} (hn : b ≠ 0) (hb : Sm b) (h : Q (.int (a.fdiv b) s.toks) { s with toks := s.toks + 1 }) : wpAny (model prog w) A (binaryOp .FloorDiv (.int a t) (.int b u)) Q E s := floordiv_int hn h (.inl hb.pylong)
theorem ifloordiv_sm {Q : Value → Shared → Prop} (hn : b ≠ 0) (hb : Sm b) (h : Q (.int (a.fdiv b) s.toks) { s with toks := s.toks + 1 }) : wpAny (model prog w) A (inplaceOp .FloorDiv (.int a t) (.int b u)) Q E s := ifloordiv_int hn h (.inl hb.pylong)
end
end Mine
end
section
open Mine.FLx (ξ ν κ ζ δ η π ω)
open Mine.FCx (φ ψ θ ϑ Φ Ψ φn ψn θn ϑn Φn Ψn)
namespace Mine
theorem sq_nn (a : Int) : 0 ≤ a * a := by
  rcases Int.le_total 0 a with h | h
  · exact Int.mul_nonneg h h
  · exact Int.mul_nonneg_of_nonpos_of_nonpos h h
theorem fdivP {a b : Int} (h : 0 < b) : a.fdiv b = a / b := Int.fdiv_eq_ediv_of_nonneg _ (by exact fk1 [_] [] (φ (κ 0) (ξ 0)) 1 1 (ψ (κ 0) (ξ 0)) yes h)
theorem fmodP {a b : Int} (h : 0 < b) : a.fmod b = a % b := Int.fmod_eq_emod_of_nonneg _ (by exact fk1 [_] [] (φ (κ 0) (ξ 0)) 1 1 (ψ (κ 0) (ξ 0)) yes h)
theorem div_lo {a b : Int} (h : 0 < b) : a / b * b ≤ a := Int.ediv_mul_le a (by exact fun hq => fn2 [_] [] 1 (ψ (κ 0) (ξ 0)) 1 (θ (ξ 0) (κ 0)) yes h hq)
theorem div_hi {a b : Int} (h : 0 < b) : a < (a / b + 1) * b := Int.lt_ediv_add_one_mul_self a h
theorem div_nn {a b : Int} (h : 0 < b) (ha : 0 ≤ a) : 0 ≤ a / b := Int.ediv_nonneg ha (by exact fk1 [_] [] (φ (κ 0) (ξ 0)) 1 1 (ψ (κ 0) (ξ 0)) yes h)
/-! the whole root -/
noncomputable def isqN (n : Nat) : Nat → Nat
  | 0 => 0
  | f + 1 => let r := 2 * isqN (n / 4) f; if (r + 1) * (r + 1) ≤ n then r + 1 else r
theorem isqN_spec : ∀ (f n : Nat), n < 4 ^ f → isqN n f * isqN n f ≤ n ∧ n < (isqN n f + 1) * (isqN n f + 1)
  | 0, n, h => by have : n = 0 := by lia
                  subst this; simp [isqN]
  | f + 1, n, h => by
    obtain ⟨h1, h2⟩ := isqN_spec f (n / 4) (by rw [Nat.pow_succ] at h; lia)
    have e : isqN n (f + 1) = if (2 * isqN (n / 4) f + 1) * (2 * isqN (n / 4) f + 1) ≤ n then 2 * isqN (n / 4) f + 1 else 2 * isqN (n / 4) f := rfl
    rw [e]
    generalize isqN (n / 4) f = r at *
    have e1 : (2 * r) * (2 * r) = 4 * (r * r) := by grind
    have e2 : (2 * r + 1 + 1) * (2 * r + 1 + 1) = 4 * ((r + 1) * (r + 1)) := by grind
    split
    · refine ⟨by assumption, ?_⟩
      lia
    · refine ⟨?_, by omega⟩
      lia
noncomputable def isq (n : Int) : Int := isqN n.toNat (n.toNat.log2 + 1)
theorem isq_spec {n : Int} (h : 0 ≤ n) : isq n * isq n ≤ n ∧ n < (isq n + 1) * (isq n + 1) ∧ 0 ≤ isq n := by
  have hlt : n.toNat < 4 ^ (n.toNat.log2 + 1) := by
    have a : n.toNat < 2 ^ (n.toNat.log2 + 1) := Nat.lt_log2_self
    exact Nat.lt_of_lt_of_le a (Nat.pow_le_pow_left (by exact fk0 [] [] (φn (κ 2) (κ 4)) 1  yes ) _)
  obtain ⟨h1, h2⟩ := isqN_spec _ _ hlt
  unfold isq
  generalize isqN n.toNat (n.toNat.log2 + 1) = r at *
  refine ⟨?_, ?_, by exact fk1 [] [_] (φ (κ 0) (ν 0)) 1 1 (φn (κ 0) (ν 0)) yes (Nat.zero_le _)⟩
  · have : ((r * r : Nat) : Int) ≤ n := by exact fk2 [_] [_,_] (φ (ν 0) (ξ 0)) 1 1 (φn (ν 0) (ν 1)) 1 (θ (ν 1) (ξ 0)) yes h1 (tn (a := n) (fk1 [_] [] (φ (κ 0) (ξ 0)) 1 1 (φ (κ 0) (ξ 0)) yes h))
    rw [Int.natCast_mul] at this; exact this
  · have : n < (((r + 1) * (r + 1) : Nat) : Int) := by exact fk2 [_] [_,_] (ψ (ξ 0) (ν 0)) 1 1 (ψn (ν 1) (ν 0)) 1 (ϑ (ν 1) (ξ 0)) yes h2 (tn (a := n) (fk1 [_] [] (φ (κ 0) (ξ 0)) 1 1 (φ (κ 0) (ξ 0)) yes h))
    rw [Int.natCast_mul] at this; simpa using this
theorem isq_unique {n r : Int} (h0 : 0 ≤ r) (h1 : r * r ≤ n) (h2 : n < (r + 1) * (r + 1)) : r = isq n := by
  obtain ⟨a1, a2, a3⟩ := isq_spec (n := n) (Int.le_trans (sq_nn r) h1)
  generalize isq n = q at *
  rcases Int.lt_trichotomy r q with h | h | h
  · have : (r + 1) * (r + 1) ≤ q * q := Int.mul_le_mul (by exact fk1 [_,_] [] (φ (ζ (ξ 0) (κ 1)) (ξ 1)) 1 1 (ψ (ξ 0) (ξ 1)) yes h) (by exact fk1 [_,_] [] (φ (ζ (ξ 0) (κ 1)) (ξ 1)) 1 1 (ψ (ξ 0) (ξ 1)) yes h) (by exact fk1 [_] [] (φ (κ 0) (ζ (ξ 0) (κ 1))) 1 1 (φ (κ 0) (ξ 0)) yes h0) (by omega)
    exact Int.le_antisymm ((fn3 [_,_,_] [] 1 (ψ (ξ 0) (ξ 1)) 1 (φ (ξ 2) (ξ 0)) 1 (φ (ξ 1) (ξ 2)) yes h2 a1 this).elim) ((fn3 [_,_,_] [] 1 (ψ (ξ 0) (ξ 1)) 1 (φ (ξ 2) (ξ 0)) 1 (φ (ξ 1) (ξ 2)) yes h2 a1 this).elim)
  · exact h
  · have : (q + 1) * (q + 1) ≤ r * r := Int.mul_le_mul (by exact fk1 [_,_] [] (φ (ζ (ξ 0) (κ 1)) (ξ 1)) 1 1 (ψ (ξ 0) (ξ 1)) yes h) (by exact fk1 [_,_] [] (φ (ζ (ξ 0) (κ 1)) (ξ 1)) 1 1 (ψ (ξ 0) (ξ 1)) yes h) (by exact fk1 [_] [] (φ (κ 0) (ζ (ξ 0) (κ 1))) 1 1 (φ (κ 0) (ξ 0)) yes a3) (by omega)
    exact Int.le_antisymm ((fn3 [_,_,_] [] 1 (φ (ξ 0) (ξ 1)) 1 (ψ (ξ 1) (ξ 2)) 1 (φ (ξ 2) (ξ 0)) yes h1 a2 this).elim) ((fn3 [_,_,_] [] 1 (φ (ξ 0) (ξ 1)) 1 (ψ (ξ 1) (ξ 2)) 1 (φ (ξ 2) (ξ 0)) yes h1 a2 this).elim)
theorem wr_start {n : Int} (h : 0 < n) : (0 : Int) < 10 ^ ((cd n + 1).fdiv 2).toNat ∧ n < (10 ^ ((cd n + 1).fdiv 2).toNat + 1) * (10 ^ ((cd n + 1).fdiv 2).toNat + 1) := by
  have hp : (0 : Int) < 10 ^ ((cd n + 1).fdiv 2).toNat := Int.pow_pos (by exact fk0 [] [] (ψ (κ 0) (κ 10)) 1  yes )
  refine ⟨hp, ?_⟩
  have a := lt_pow_dg n.natAbs
  have e : dg n.natAbs ≤ ((cd n + 1).fdiv 2).toNat + ((cd n + 1).fdiv 2).toNat := by
    unfold cd
    rw [Int.fdiv_eq_ediv_of_nonneg _ (by exact fk0 [] [] (φ (κ 0) (κ 2)) 1  yes )]; lia
  have b : n.natAbs < 10 ^ ((cd n + 1).fdiv 2).toNat * 10 ^ ((cd n + 1).fdiv 2).toNat := by
    rw [← Nat.pow_add]
    exact Nat.lt_of_lt_of_le a (Nat.pow_le_pow_right (by exact fk0 [] [] (ψn (κ 0) (κ 10)) 1  yes ) e)
  have c : n < (10 : Int) ^ ((cd n + 1).fdiv 2).toNat * 10 ^ ((cd n + 1).fdiv 2).toNat := by
    have : ((10 ^ ((cd n + 1).fdiv 2).toNat * 10 ^ ((cd n + 1).fdiv 2).toNat : Nat) : Int) = (10 : Int) ^ ((cd n + 1).fdiv 2).toNat * 10 ^ ((cd n + 1).fdiv 2).toNat := by simp [Int.natCast_pow]
    omega
  generalize (10 : Int) ^ ((cd n + 1).fdiv 2).toNat = P at *
  grind
theorem wr_turn {n h : Int} (hn : 0 < n) (h0 : 0 < h) (h2 : n < (h + 1) * (h + 1)) (hb : ¬ h ≤ (h + n.fdiv h).fdiv 2) :
    0 < (h + n.fdiv h).fdiv 2 ∧ n < ((h + n.fdiv h).fdiv 2 + 1) * ((h + n.fdiv h).fdiv 2 + 1) := by
  rw [fdivP h0, fdivP (by exact fk0 [] [] (ψ (κ 0) (κ 2)) 1  yes )] at *
  have q0 := div_nn h0 (by exact fk1 [_] [] (φ (κ 0) (ξ 0)) 1 1 (ψ (κ 0) (ξ 0)) yes hn : 0 ≤ n)
  have q1 := div_hi (a := n) h0
  generalize hq : n / h = q at *
  have hb1 : h + q + 1 ≤ 2 * ((h + q) / 2 + 1) := by lia
  refine ⟨?_, ?_⟩
  · rcases Int.lt_or_le 1 h with k | k
    · exact fk3 [_,_,_] [] (ψ (κ 0) (ξ 0)) 2 1 (φ (κ 0) (ξ 1)) 1 (φ (ζ (ζ (ξ 2) (ξ 1)) (κ 1)) (π 2 (ζ (ξ 0) (κ 1)))) 1 (ψ (κ 1) (ξ 2)) yes q0 hb1 k
    · have : h = 1 := by exact Int.le_antisymm (fk1 [_] [] (φ (ξ 0) (κ 1)) 1 1 (φ (ξ 0) (κ 1)) yes k) (fk1 [_] [] (φ (κ 1) (ξ 0)) 1 1 (ψ (κ 0) (ξ 0)) yes h0)
      subst this
      have : q = n := by simpa using hq.symm
      exact fk3 [_,_,_] [] (ψ (κ 0) (ξ 0)) 2 1 (ψ (κ 0) (ξ 1)) 1 (φ (ζ (ζ (κ 1) (ξ 2)) (κ 1)) (π 2 (ζ (ξ 0) (κ 1)))) 1 (ϑ (ξ 2) (ξ 1)) yes hn hb1 this
  · generalize (h + q) / 2 = b at *
    have a1 := sq_nn (h - (q + 1))
    have a2 : (h + q + 1) * (h + q + 1) ≤ (2 * (b + 1)) * (2 * (b + 1)) := Int.mul_le_mul hb1 hb1 (by exact fk2 [_,_] [] (φ (κ 0) (ζ (ζ (ξ 0) (ξ 1)) (κ 1))) 1 1 (ψ (κ 0) (ξ 0)) 1 (φ (κ 0) (ξ 1)) yes h0 q0) (by exact fk3 [_,_,_] [] (φ (κ 0) (π 2 (ζ (ξ 0) (κ 1)))) 1 1 (ψ (κ 0) (ξ 1)) 1 (φ (κ 0) (ξ 2)) 1 (φ (ζ (ζ (ξ 1) (ξ 2)) (κ 1)) (π 2 (ζ (ξ 0) (κ 1)))) yes h0 q0 hb1)
    grind
theorem wr_less {n h : Int} (hn : 0 < n) (h0 : 0 < h) (hb : ¬ h ≤ (h + n.fdiv h).fdiv 2) : ((h + n.fdiv h).fdiv 2).toNat < h.toNat := by omega
theorem wr_end {n h : Int} (hn : 0 < n) (h0 : 0 < h) (h2 : n < (h + 1) * (h + 1)) (hb : h ≤ (h + n.fdiv h).fdiv 2) : h = isq n := by
  refine isq_unique (by exact fk1 [_] [] (φ (κ 0) (ξ 0)) 1 1 (ψ (κ 0) (ξ 0)) yes h0) ?_ h2
  rw [fdivP h0, fdivP (by exact fk0 [] [] (ψ (κ 0) (κ 2)) 1  yes )] at hb
  have q1 := div_lo (a := n) h0
  have q2 : h ≤ n / h := by lia
  have := Int.mul_le_mul_of_nonneg_right q2 (by exact fk1 [_] [] (φ (κ 0) (ξ 0)) 1 1 (ψ (κ 0) (ξ 0)) yes h0 : 0 ≤ h)
  exact fk2 [_,_,_] [] (φ (ξ 0) (ξ 1)) 1 1 (φ (ξ 2) (ξ 1)) 1 (φ (ξ 0) (ξ 2)) yes q1 this
theorem isq_zero : isq 0 = 0 := by decide +kernel
end Mine
end
section
open Mine.FLx (ξ ν κ ζ δ η π ω)
open Mine.FCx (φ ψ θ ϑ Φ Ψ φn ψn θn ϑn Φn Ψn)
namespace Mine
theorem wr_pow0 (n : Int) : 0 ≤ (cd n + 1).fdiv 2 := by
  rw [fdivP (by exact fk0 [] [] (ψ (κ 0) (κ 2)) 1  yes )]; have := cd_nonneg n; lia
theorem wr_pow1 {n : Int} (hc : cd n ≤ 1900) : (cd n + 1).fdiv 2 ≤ 1000000 := by
  rw [fdivP (by exact fk0 [] [] (ψ (κ 0) (κ 2)) 1  yes )]; have := cd_nonneg n; lia
theorem wr_s0 {n : Int} (hn : 0 ≤ n) (h0 : ¬ n = 0) (hc : cd n ≤ 1900) : Sm (10 ^ ((cd n + 1).fdiv 2).toNat) ∧ (0 : Int) < 10 ^ ((cd n + 1).fdiv 2).toNat ∧ n < (10 ^ ((cd n + 1).fdiv 2).toNat + 1) * (10 ^ ((cd n + 1).fdiv 2).toNat + 1) := by
  refine ⟨sm_pow ?_, wr_start (by lia)⟩
  rw [fdivP (by exact fk0 [] [] (ψ (κ 0) (κ 2)) 1  yes )]; have := cd_nonneg n; lia
theorem wr_s1 {n h : Int} (hn : 0 ≤ n) (h00 : ¬ n = 0) (hs : Sm h) (h0 : 0 < h) (h2 : n < (h + 1) * (h + 1)) (hb : ¬ h ≤ (h + n.fdiv h).fdiv 2) :
    Sm ((h + n.fdiv h).fdiv 2) ∧ 0 < (h + n.fdiv h).fdiv 2 ∧ n < ((h + n.fdiv h).fdiv 2 + 1) * ((h + n.fdiv h).fdiv 2 + 1) :=
  ⟨hs.le (by have := wr_turn (by lia) h0 h2 hb; omega), wr_turn (by lia) h0 h2 hb⟩
theorem wr_m {n h : Int} (hn : 0 ≤ n) (h00 : ¬ n = 0) (h0 : 0 < h) (hb : ¬ h ≤ (h + n.fdiv h).fdiv 2) : ((h + n.fdiv h).fdiv 2).toNat < h.toNat := wr_less (by lia) h0 hb
theorem wr_e {n h : Int} (hn : 0 ≤ n) (h00 : ¬ n = 0) (h2 : n < (h + 1) * (h + 1)) (h0 : 0 < h) (hb : h ≤ (h + n.fdiv h).fdiv 2) : h = isq n := wr_end (by lia) h0 h2 hb
end Mine
end
section
open Mine.FLx (ξ ν κ ζ δ η π ω)
open Mine.FCx (φ ψ θ ϑ Φ Ψ φn ψn θn ϑn Φn Ψn)
namespace Mine
theorem ipow_nat (a k : Nat) : ((a : Int)) ^ k = ((a ^ k : Nat) : Int) := by rw [Int.natCast_pow]
theorem pow10_nat (k : Nat) : (10 : Int) ^ k = ((10 ^ k : Nat) : Int) := ipow_nat 10 k
theorem pow10_mono {a b : Nat} (h : a ≤ b) : (10 : Int) ^ a ≤ 10 ^ b := by
  rw [pow10_nat, pow10_nat]
  exact Int.ofNat_le.mpr (Nat.pow_le_pow_right (by exact fk0 [] [] (ψn (κ 0) (κ 10)) 1  yes ) h)
/-! the series: the loops with their fuel -/
noncomputable def isF (dd turn : Int) : Nat → Int → Int → Int → Int → Option Int
  | 0, _, _, _, _ => none
  | f + 1, term, total, sign, n => if 0 < term then isF dd turn f (term.fdiv dd) (total + sign * term.fdiv n) (sign * turn) (n + 2) else some total
noncomputable def arF (sq one : Int) : Nat → Int → Int → Int → Int → Option Int
  | 0, _, _, _, _ => none
  | f + 1, t, total, sign, n => if 0 < t then arF sq one f ((t * sq).fdiv one) (total + sign * t.fdiv n) (-sign) (n + 2) else some total
noncomputable def exF (one n : Int) : Nat → Int → Int → Int → Option Int
  | 0, _, _, _ => none
  | f + 1, total, term, k => if term = 0 then some total else if 4 * one < absI term then none else
      exF one n f (total + (term * n).fdiv (one * k)) ((term * n).fdiv (one * k)) (k + 1)
theorem isF_some (dd turn : Int) (hd : 4 ≤ dd) : ∀ (f : Nat) (term total sign n : Int), term < 4 ^ f → (isF dd turn (f + 1) term total sign n).isSome = true
  | 0, term, total, sign, n, h => by
    have : ¬ 0 < term := by lia
    simp [isF, this]
  | f + 1, term, total, sign, n, h => by
    rw [isF]
    split
    · rename_i h0
      refine isF_some dd turn hd f _ _ _ _ ?_
      rw [fdivP (by exact fk1 [_] [] (ψ (κ 0) (ξ 0)) 1 1 (φ (κ 4) (ξ 0)) yes hd)]
      have a := div_lo (a := term) (by exact fk1 [_] [] (ψ (κ 0) (ξ 0)) 1 1 (φ (κ 4) (ξ 0)) yes hd : 0 < dd)
      have b := div_nn (by exact fk1 [_] [] (ψ (κ 0) (ξ 0)) 1 1 (φ (κ 4) (ξ 0)) yes hd : 0 < dd) (by exact fk1 [_] [] (φ (κ 0) (ξ 0)) 1 1 (ψ (κ 0) (ξ 0)) yes h0 : 0 ≤ term)
      have c : term / dd * 4 ≤ term / dd * dd := Int.mul_le_mul_of_nonneg_left hd b
      rw [Int.pow_succ] at h
      exact fk3 [_,_,_,_] [] (ψ (ξ 0) (ξ 1)) 4 1 (ψ (ξ 2) (ω (ξ 1) 4)) 1 (φ (ξ 3) (ξ 2)) 1 (φ (ω (ξ 0) 4) (ξ 3)) yes h a c
    · rfl
theorem arF_some (sq one : Int) (h1 : 0 < one) (hs : 4 * sq ≤ one) (hs0 : 0 ≤ sq) : ∀ (f : Nat) (t total sign n : Int), t < 4 ^ f → (arF sq one (f + 1) t total sign n).isSome = true
  | 0, t, total, sign, n, h => by
    have : ¬ 0 < t := by lia
    simp [arF, this]
  | f + 1, t, total, sign, n, h => by
    rw [arF]
    split
    · rename_i h0
      refine arF_some sq one h1 hs hs0 f _ _ _ _ ?_
      rw [fdivP h1]
      have a := div_lo (a := t * sq) h1
      have c : t * (4 * sq) ≤ t * one := Int.mul_le_mul_of_nonneg_left hs (by exact fk1 [_] [] (φ (κ 0) (ξ 0)) 1 1 (ψ (κ 0) (ξ 0)) yes h0)
      have e : (t * sq / one) * 4 * one ≤ t * one := by grind
      have := Int.le_of_mul_le_mul_right e h1
      rw [Int.pow_succ] at h
      exact fk2 [_,_,_] [] (ψ (ξ 0) (ξ 1)) 4 1 (ψ (ξ 2) (ω (ξ 1) 4)) 1 (φ (ω (ξ 0) 4) (ξ 2)) yes h this
    · rfl
noncomputable def invV (divisor places turn : Int) : Int := (isF (divisor * divisor) turn 200 ((10 ^ places.toNat : Int).fdiv divisor) 0 1 1).getD 0
theorem invV_run {divisor places turn : Int} (hd : 2 ≤ divisor) (hp : places ≤ 110) : isF (divisor * divisor) turn 200 ((10 ^ places.toNat : Int).fdiv divisor) 0 1 1 = some (invV divisor places turn) := by
  have hdd : 4 ≤ divisor * divisor := by
    have := Int.mul_le_mul hd hd (by exact fk0 [] [] (φ (κ 0) (κ 2)) 1  yes ) (by exact fk1 [_] [] (φ (κ 0) (ξ 0)) 1 1 (φ (κ 2) (ξ 0)) yes hd); exact fk1 [_] [] (φ (κ 4) (ξ 0)) 1 1 (φ (π 2 (κ 2)) (ξ 0)) yes this
  have : ((10 ^ places.toNat : Int).fdiv divisor) < 4 ^ 199 := by
    rw [fdivP (by exact fk1 [_] [] (ψ (κ 0) (ξ 0)) 1 1 (φ (κ 2) (ξ 0)) yes hd)]
    have a : (10 ^ places.toNat : Int) ≤ 10 ^ 110 := pow10_mono (by lia)
    have b := div_lo (a := (10 ^ places.toNat : Int)) (by exact fk1 [_] [] (ψ (κ 0) (ξ 0)) 1 1 (φ (κ 2) (ξ 0)) yes hd : 0 < divisor)
    have c := div_nn (a := (10 ^ places.toNat : Int)) (by exact fk1 [_] [] (ψ (κ 0) (ξ 0)) 1 1 (φ (κ 2) (ξ 0)) yes hd : 0 < divisor) (Int.le_of_lt (pow_pos10 _))
    have d : (10 ^ places.toNat : Int) / divisor * 1 ≤ (10 ^ places.toNat : Int) / divisor * divisor := Int.mul_le_mul_of_nonneg_left (by exact fk1 [_] [] (φ (κ 1) (ξ 0)) 1 1 (φ (κ 2) (ξ 0)) yes hd) c
    have e : (10 : Int) ^ 110 < 4 ^ 199 := by decide +kernel
    exact fk4 [_,_,_,_,_] [] (ψ (ξ 0) (ξ 1)) 1 1 (φ (ξ 2) (ξ 3)) 1 (φ (ξ 4) (ξ 2)) 1 (φ (ω (ξ 0) 1) (ξ 4)) 1 (ψ (ξ 3) (ξ 1)) yes a b d e
  have h := isF_some (divisor * divisor) turn hdd 199 _ 0 1 1 this
  unfold invV
  cases hh : isF (divisor * divisor) turn 200 ((10 ^ places.toNat : Int).fdiv divisor) 0 1 1 with
  | some r => rfl
  | none => rw [hh] at h; cases h
end Mine
end
section
open Mine.FLx (ξ ν κ ζ δ η π ω)
open Mine.FCx (φ ψ θ ϑ Φ Ψ φn ψn θn ϑn Φn Ψn)
namespace Mine
section
variable {d places turn term total sign n : Int}
theorem is_s0 (hd : 2 ≤ d) (hp : places ≤ 110) (hp0 : 0 ≤ places) : isF (d * d) turn ((401 - 1) / 2 : Int).toNat ((10 ^ places.toNat : Int).fdiv d) 0 1 1 = some (invV d places turn) ∧ (1 : Int) ≤ 1 ∧ (1 : Int) ≤ 401 ∧
    0 ≤ (10 ^ places.toNat : Int).fdiv d ∧ (10 ^ places.toNat : Int).fdiv d ≤ 10 ^ places.toNat ∧ (-1 : Int) ≤ 1 ∧ (1 : Int) ≤ 1 := by
  refine ⟨invV_run hd hp, by exact fk0 [] [] (φ (κ 1) (κ 1)) 1  yes , by exact fk0 [] [] (φ (κ 1) (κ 401)) 1  yes , ?_, ?_, by exact fk0 [] [] (φ (η (κ 1)) (κ 1)) 1  yes , by exact fk0 [] [] (φ (κ 1) (κ 1)) 1  yes ⟩
  · rw [fdivP (by exact fk1 [_] [] (ψ (κ 0) (ξ 0)) 1 1 (φ (κ 2) (ξ 0)) yes hd)]; exact div_nn (by exact fk1 [_] [] (ψ (κ 0) (ξ 0)) 1 1 (φ (κ 2) (ξ 0)) yes hd) (Int.le_of_lt (pow_pos10 _))
  · rw [fdivP (by exact fk1 [_] [] (ψ (κ 0) (ξ 0)) 1 1 (φ (κ 2) (ξ 0)) yes hd)]
    have b := div_lo (a := (10 ^ places.toNat : Int)) (by exact fk1 [_] [] (ψ (κ 0) (ξ 0)) 1 1 (φ (κ 2) (ξ 0)) yes hd : 0 < d)
    have c := div_nn (a := (10 ^ places.toNat : Int)) (by exact fk1 [_] [] (ψ (κ 0) (ξ 0)) 1 1 (φ (κ 2) (ξ 0)) yes hd : 0 < d) (Int.le_of_lt (pow_pos10 _))
    have e : (10 ^ places.toNat : Int) / d * 1 ≤ (10 ^ places.toNat : Int) / d * d := Int.mul_le_mul_of_nonneg_left (by exact fk1 [_] [] (φ (κ 1) (ξ 0)) 1 1 (φ (κ 2) (ξ 0)) yes hd) c
    exact fk2 [_,_,_] [] (φ (ξ 0) (ξ 1)) 1 1 (φ (ξ 2) (ξ 1)) 1 (φ (ω (ξ 0) 1) (ξ 2)) yes b e
theorem is_run {R : Int} (h : isF (d * d) turn ((401 - n) / 2).toNat term total sign n = some R) : n ≤ 399 := by
  rcases Int.lt_or_le 399 n with k | k
  · have : ((401 - n) / 2).toNat = 0 := by lia
    rw [this] at h; simp [isF] at h
  · exact k
theorem tri_mul {a b : Int} (h1 : -1 ≤ a) (h2 : a ≤ 1) (h3 : -1 ≤ b) (h4 : b ≤ 1) : -1 ≤ a * b ∧ a * b ≤ 1 := by
  have ha : a = -1 ∨ a = 0 ∨ a = 1 := by lia
  rcases ha with rfl | rfl | rfl <;> omega
theorem is_s1 {R T : Int} (hd : 2 ≤ d) (ht0 : -1 ≤ turn) (ht1 : turn ≤ 1) (h : isF (d * d) turn ((401 - n) / 2).toNat term total sign n = some R) (hn : 1 ≤ n) (h0 : 0 < term) (hT : term ≤ T) (hs0 : -1 ≤ sign) (hs1 : sign ≤ 1) :
    isF (d * d) turn ((401 - (n + 2)) / 2).toNat (term.fdiv (d * d)) (total + sign * term.fdiv n) (sign * turn) (n + 2) = some R ∧ 1 ≤ n + 2 ∧ n + 2 ≤ 401 ∧ 0 ≤ term.fdiv (d * d) ∧ term.fdiv (d * d) ≤ T ∧ -1 ≤ sign * turn ∧ sign * turn ≤ 1 := by
  have hr := is_run h
  have e : ((401 - n) / 2).toNat = ((401 - (n + 2)) / 2).toNat + 1 := by lia
  rw [e, isF, if_pos h0] at h
  have hdd : 4 ≤ d * d := by
    have := Int.mul_le_mul hd hd (by exact fk0 [] [] (φ (κ 0) (κ 2)) 1  yes ) (by exact fk1 [_] [] (φ (κ 0) (ξ 0)) 1 1 (φ (κ 2) (ξ 0)) yes hd); exact fk1 [_] [] (φ (κ 4) (ξ 0)) 1 1 (φ (π 2 (κ 2)) (ξ 0)) yes this
  have b := div_lo (a := term) (by exact fk1 [_] [] (ψ (κ 0) (ξ 0)) 1 1 (φ (κ 4) (ξ 0)) yes hdd : 0 < d * d)
  have c := div_nn (a := term) (by exact fk1 [_] [] (ψ (κ 0) (ξ 0)) 1 1 (φ (κ 4) (ξ 0)) yes hdd : 0 < d * d) (by exact fk1 [_] [] (φ (κ 0) (ξ 0)) 1 1 (ψ (κ 0) (ξ 0)) yes h0)
  have e2 : term / (d * d) * 1 ≤ term / (d * d) * (d * d) := Int.mul_le_mul_of_nonneg_left (by exact fk1 [_] [] (φ (κ 1) (ξ 0)) 1 1 (φ (κ 4) (ξ 0)) yes hdd) c
  refine ⟨h, by exact fk1 [_] [] (φ (κ 1) (ζ (ξ 0) (κ 2))) 1 1 (φ (κ 1) (ξ 0)) yes hn, by exact fk1 [_] [] (φ (ζ (ξ 0) (κ 2)) (κ 401)) 1 1 (φ (ξ 0) (κ 399)) yes hr, ?_, ?_, tri_mul hs0 hs1 ht0 ht1⟩ <;> rw [fdivP (by exact fk1 [_] [] (ψ (κ 0) (ξ 0)) 1 1 (φ (κ 4) (ξ 0)) yes hdd)] <;> omega
theorem is_m {R : Int} (h : isF (d * d) turn ((401 - n) / 2).toNat term total sign n = some R) : ((401 - (n + 2)) / 2).toNat < ((401 - n) / 2).toNat := by
  have := is_run h; omega
theorem is_e {R : Int} (h : isF (d * d) turn ((401 - n) / 2).toNat term total sign n = some R) (h0 : ¬ 0 < term) : total = R := by
  have hr := is_run h
  have e : ((401 - n) / 2).toNat = ((401 - (n + 2)) / 2).toNat + 1 := by lia
  rw [e, isF, if_neg h0] at h
  exact Option.some.inj h
theorem is_sm {T : Int} (hT : Sm T) (h1 : 0 < term) (h2 : term ≤ T) (hn : 1 ≤ n) : Sm (term.fdiv n) := by
  refine hT.le ?_
  rw [fdivP (by exact fk1 [_] [] (ψ (κ 0) (ξ 0)) 1 1 (φ (κ 1) (ξ 0)) yes hn)]
  have b := div_lo (a := term) (by exact fk1 [_] [] (ψ (κ 0) (ξ 0)) 1 1 (φ (κ 1) (ξ 0)) yes hn : 0 < n)
  have c := div_nn (a := term) (by exact fk1 [_] [] (ψ (κ 0) (ξ 0)) 1 1 (φ (κ 1) (ξ 0)) yes hn : 0 < n) (by exact fk1 [_] [] (φ (κ 0) (ξ 0)) 1 1 (ψ (κ 0) (ξ 0)) yes h1)
  have e2 : term / n * 1 ≤ term / n * n := Int.mul_le_mul_of_nonneg_left (by omega) c
  lia
theorem sq_sm (hd : 2 ≤ d) (h : d ≤ 1000) : Sm (d * d) := by
  have a : d * d ≤ 1000 * 1000 := Int.mul_le_mul h h (by exact fk1 [_] [] (φ (κ 0) (ξ 0)) 1 1 (φ (κ 2) (ξ 0)) yes hd) (by exact fk0 [] [] (φ (κ 0) (κ 1000)) 1  yes )
  have b := sq_nn d
  exact sm_small (by omega)
theorem sq_ne (hd : 2 ≤ d) : d * d ≠ 0 := by
  have := Int.mul_le_mul hd hd (by exact fk0 [] [] (φ (κ 0) (κ 2)) 1  yes ) (by exact fk1 [_] [] (φ (κ 0) (ξ 0)) 1 1 (φ (κ 2) (ξ 0)) yes hd); exact fun hq => fn2 [_] [] 1 (φ (π 2 (κ 2)) (ξ 0)) 1 (θ (ξ 0) (κ 0)) yes this hq
end
end Mine
end
section
open Mine.FLx (ξ ν κ ζ δ η π ω)
open Mine.FCx (φ ψ θ ϑ Φ Ψ φn ψn θn ϑn Φn Ψn)
namespace Mine
/-! the straight-line defs: what they give -/
noncomputable def ltV (p : Int) : Int := (46 * invV 31 (p + 5) 1 + 34 * invV 49 (p + 5) 1 + 20 * invV 161 (p + 5) 1).fdiv (10 ^ (5 : Int).toNat)
noncomputable def htV (p : Int) : Int := (48 * invV 18 (p + 5) (-1) + 32 * invV 57 (p + 5) (-1) - 20 * invV 239 (p + 5) (-1)).fdiv (10 ^ (5 : Int).toNat)
end Mine
namespace Mine
noncomputable def pfV (x y d : Int) : Int := (d + if cd x > d then cd x else d) + 10 + if cd x + y > 0 then cd x + y else 0
noncomputable def quS (x y d : Int) : Int := if 0 > d + 2 + cd y - cd x then 0 else d + 2 + cd y - cd x
noncomputable def quN (x y d : Int) : Int := absI x * 10 ^ (quS x y d).toNat
noncomputable def quM (x y d : Int) : Int := 10 * (quN x y d).fdiv (absI y) + (if (quN x y d).fmod (absI y) ≠ 0 then 1 else 0)
noncomputable def quV (x y e d : Int) : Int × Int := (if (decide (x < 0) != decide (y < 0)) = true then -quM x y d else quM x y d, e - quS x y d - 1)
section
variable {one n total term k : Int} {R : Int}
theorem ex_run (h : exF one n (501 - k).toNat total term k = some R) : k ≤ 500 := by
  rcases Int.lt_or_le 500 k with q | q
  · have : (501 - k).toNat = 0 := by lia
    rw [this] at h; simp [exF] at h
  · exact q
theorem ex_bound (h : exF one n (501 - k).toNat total term k = some R) (h0 : ¬ term = 0) : absI term ≤ 4 * one := by
  have hr := ex_run h
  have e : (501 - k).toNat = (501 - (k + 1)).toNat + 1 := by exact Nat.le_antisymm (fk2 [_] [_,_] (φn (ν 0) (ζ (ν 1) (κ 1))) 1 1 (θ (ν 0) (δ (κ 501) (ξ 0))) 1 (ϑ (ν 1) (δ (κ 501) (ζ (ξ 0) (κ 1)))) yes (tn (a := 501 - k) (fk1 [_] [] (φ (κ 0) (δ (κ 501) (ξ 0))) 1 1 (φ (ξ 0) (κ 500)) yes hr)) (tn (a := 501 - (k + 1)) (fk1 [_] [] (φ (κ 0) (δ (κ 501) (ζ (ξ 0) (κ 1)))) 1 1 (φ (ξ 0) (κ 500)) yes hr))) (fk2 [_] [_,_] (φn (ζ (ν 0) (κ 1)) (ν 1)) 1 1 (ϑ (ν 1) (δ (κ 501) (ξ 0))) 1 (θ (ν 0) (δ (κ 501) (ζ (ξ 0) (κ 1)))) yes (tn (a := 501 - k) (fk1 [_] [] (φ (κ 0) (δ (κ 501) (ξ 0))) 1 1 (φ (ξ 0) (κ 500)) yes hr)) (tn (a := 501 - (k + 1)) (fk1 [_] [] (φ (κ 0) (δ (κ 501) (ζ (ξ 0) (κ 1)))) 1 1 (φ (ξ 0) (κ 500)) yes hr)))
  rw [e, exF, if_neg h0] at h
  split at h
  · cases h
  · lia
theorem ex_sm (hs : Sm (4 * one)) (h : exF one n (501 - k).toNat total term k = some R) (h0 : ¬ term = 0) : Sm term :=
  hs.le (by have := ex_bound h h0; unfold absI at this; split at this <;> lia)
theorem ex_s0 (h : exF one n 500 one one 1 = some R) : exF one n (501 - 1 : Int).toNat one one 1 = some R ∧ (1 : Int) ≤ 1 := ⟨h, by exact fk0 [] [] (φ (κ 1) (κ 1)) 1  yes ⟩
theorem ex_s1 (h : exF one n (501 - k).toNat total term k = some R) (h0 : ¬ term = 0) (hk : 1 ≤ k) :
    exF one n (501 - (k + 1)).toNat (total + (term * n).fdiv (one * k)) ((term * n).fdiv (one * k)) (k + 1) = some R ∧ 1 ≤ k + 1 := by
  have hr := ex_run h
  have e : (501 - k).toNat = (501 - (k + 1)).toNat + 1 := by exact Nat.le_antisymm (fk2 [_] [_,_] (φn (ν 0) (ζ (ν 1) (κ 1))) 1 1 (θ (ν 0) (δ (κ 501) (ξ 0))) 1 (ϑ (ν 1) (δ (κ 501) (ζ (ξ 0) (κ 1)))) yes (tn (a := 501 - k) (fk1 [_] [] (φ (κ 0) (δ (κ 501) (ξ 0))) 1 1 (φ (ξ 0) (κ 500)) yes hr)) (tn (a := 501 - (k + 1)) (fk1 [_] [] (φ (κ 0) (δ (κ 501) (ζ (ξ 0) (κ 1)))) 1 1 (φ (ξ 0) (κ 500)) yes hr))) (fk2 [_] [_,_] (φn (ζ (ν 0) (κ 1)) (ν 1)) 1 1 (ϑ (ν 1) (δ (κ 501) (ξ 0))) 1 (θ (ν 0) (δ (κ 501) (ζ (ξ 0) (κ 1)))) yes (tn (a := 501 - k) (fk1 [_] [] (φ (κ 0) (δ (κ 501) (ξ 0))) 1 1 (φ (ξ 0) (κ 500)) yes hr)) (tn (a := 501 - (k + 1)) (fk1 [_] [] (φ (κ 0) (δ (κ 501) (ζ (ξ 0) (κ 1)))) 1 1 (φ (ξ 0) (κ 500)) yes hr)))
  rw [e, exF, if_neg h0] at h
  split at h
  · cases h
  · exact ⟨h, by exact fk1 [_] [] (φ (κ 1) (ζ (ξ 0) (κ 1))) 1 1 (φ (κ 1) (ξ 0)) yes hk⟩
theorem ex_m (h : exF one n (501 - k).toNat total term k = some R) : (501 - (k + 1)).toNat < (501 - k).toNat := by
  have := ex_run h; exact fk2 [_] [_,_] (ψn (ν 0) (ν 1)) 1 1 (θ (ν 0) (δ (κ 501) (ζ (ξ 0) (κ 1)))) 1 (ϑ (ν 1) (δ (κ 501) (ξ 0))) yes (tn (a := 501 - (k + 1)) (fk1 [_] [] (φ (κ 0) (δ (κ 501) (ζ (ξ 0) (κ 1)))) 1 1 (φ (ξ 0) (κ 500)) yes this)) (tn (a := 501 - k) (fk1 [_] [] (φ (κ 0) (δ (κ 501) (ξ 0))) 1 1 (φ (ξ 0) (κ 500)) yes this))
theorem ex_e (h : exF one n (501 - k).toNat total term k = some R) (h0 : term = 0) : total = R := by
  have hr := ex_run h
  have e : (501 - k).toNat = (501 - (k + 1)).toNat + 1 := by exact Nat.le_antisymm (fk2 [_] [_,_] (φn (ν 0) (ζ (ν 1) (κ 1))) 1 1 (θ (ν 0) (δ (κ 501) (ξ 0))) 1 (ϑ (ν 1) (δ (κ 501) (ζ (ξ 0) (κ 1)))) yes (tn (a := 501 - k) (fk1 [_] [] (φ (κ 0) (δ (κ 501) (ξ 0))) 1 1 (φ (ξ 0) (κ 500)) yes hr)) (tn (a := 501 - (k + 1)) (fk1 [_] [] (φ (κ 0) (δ (κ 501) (ζ (ξ 0) (κ 1)))) 1 1 (φ (ξ 0) (κ 500)) yes hr))) (fk2 [_] [_,_] (φn (ζ (ν 0) (κ 1)) (ν 1)) 1 1 (ϑ (ν 1) (δ (κ 501) (ξ 0))) 1 (θ (ν 0) (δ (κ 501) (ζ (ξ 0) (κ 1)))) yes (tn (a := 501 - k) (fk1 [_] [] (φ (κ 0) (δ (κ 501) (ξ 0))) 1 1 (φ (ξ 0) (κ 500)) yes hr)) (tn (a := 501 - (k + 1)) (fk1 [_] [] (φ (κ 0) (δ (κ 501) (ζ (ξ 0) (κ 1)))) 1 1 (φ (ξ 0) (κ 500)) yes hr)))
  rw [e, exF, if_pos h0] at h
  exact Option.some.inj h
end
theorem ex_big {n total term k one : Int} {R : Int} (h : exF one n (501 - k).toNat total term k = some R) : k ≤ 500 := ex_run h
theorem ex_ne {p : Nat} {k : Int} (hk : 1 ≤ k) : (10 : Int) ^ p * k ≠ 0 := by
  have := pow_pos10 p
  have := Int.mul_pos this (by exact fk1 [_] [] (ψ (κ 0) (ξ 0)) 1 1 (φ (κ 1) (ξ 0)) yes hk : 0 < k)
  exact fun hq => fn2 [_] [] 1 (ψ (κ 0) (ξ 0)) 1 (θ (ξ 0) (κ 0)) yes this hq
theorem ex_smd {p : Nat} {k : Int} (hp : p ≤ 150) (hk : 1 ≤ k) (hk2 : k ≤ 500) : Sm ((10 : Int) ^ p * k) := by
  have h1 : (10 : Int) ^ (p + 3) = 10 ^ p * 1000 := by rw [Int.pow_succ, Int.pow_succ, Int.pow_succ]; exact Int.le_antisymm (fk0 [_] [] (φ (ω (ω (ω (ξ 0) 10) 10) 10) (ω (ξ 0) 1000)) 1  yes ) (fk0 [_] [] (φ (ω (ξ 0) 1000) (ω (ω (ω (ξ 0) 10) 10) 10)) 1  yes )
  refine (sm_pow (k := p + 3) (by exact fk1 [] [_] (ψn (ζ (ν 0) (κ 3)) (κ 2000)) 1 1 (φn (ν 0) (κ 150)) yes hp)).le ?_
  have a : (10 : Int) ^ p * k ≤ 10 ^ p * 1000 := Int.mul_le_mul_of_nonneg_left (by exact fk1 [_] [] (φ (ξ 0) (κ 1000)) 1 1 (φ (ξ 0) (κ 500)) yes hk2) (Int.le_of_lt (pow_pos10 p))
  have b : 0 ≤ (10 : Int) ^ p * k := Int.mul_nonneg (Int.le_of_lt (pow_pos10 p)) (by exact fk1 [_] [] (φ (κ 0) (ξ 0)) 1 1 (φ (κ 1) (ξ 0)) yes hk)
  omega
theorem sm_4pow {p : Nat} (hp : p ≤ 150) : Sm (4 * (10 : Int) ^ p) := by
  have h1 : (10 : Int) ^ (p + 1) = 10 ^ p * 10 := by rw [Int.pow_succ]
  refine (sm_pow (k := p + 1) (by exact fk1 [] [_] (ψn (ζ (ν 0) (κ 1)) (κ 2000)) 1 1 (φn (ν 0) (κ 150)) yes hp)).le ?_
  have := pow_pos10 p
  omega
structure ArcOk (p : Nat) (t : Int) : Prop where
  lo : 0 ≤ t
  hi : t ≤ 10 ^ p
  small : p ≤ 110
noncomputable def hv (p : Nat) (t : Int) : Int := (t * 10 ^ p).fdiv (10 ^ p + isq (10 ^ p * 10 ^ p + t * t))
theorem root_ge {p : Nat} {t : Int} (h : ArcOk p t) : 10 ^ p ≤ isq (10 ^ p * 10 ^ p + t * t) := by
  have a := sq_nn t
  have b := pow_pos10 p
  have c : 0 ≤ (10 : Int) ^ p * 10 ^ p + t * t := by have := Int.mul_pos b b; exact fk2 [_,_] [] (φ (κ 0) (ζ (ξ 0) (ξ 1))) 1 1 (φ (κ 0) (ξ 1)) 1 (ψ (κ 0) (ξ 0)) yes a this
  obtain ⟨h1, h2, h3⟩ := isq_spec c
  rcases Int.lt_or_le (isq (10 ^ p * 10 ^ p + t * t)) (10 ^ p) with k | k
  · have : (isq (10 ^ p * 10 ^ p + t * t) + 1) * (isq (10 ^ p * 10 ^ p + t * t) + 1) ≤ (10 : Int) ^ p * 10 ^ p := Int.mul_le_mul (by exact fk1 [_,_] [] (φ (ζ (ξ 0) (κ 1)) (ξ 1)) 1 1 (ψ (ξ 0) (ξ 1)) yes k) (by exact fk1 [_,_] [] (φ (ζ (ξ 0) (κ 1)) (ξ 1)) 1 1 (ψ (ξ 0) (ξ 1)) yes k) (by exact fk1 [_] [] (φ (κ 0) (ζ (ξ 0) (κ 1))) 1 1 (φ (κ 0) (ξ 0)) yes h3) (by exact fk1 [_] [] (φ (κ 0) (ξ 0)) 1 1 (ψ (κ 0) (ξ 0)) yes b)
    exact (fn3 [_,_,_] [] 1 (φ (κ 0) (ξ 0)) 1 (ψ (ζ (ξ 1) (ξ 0)) (ξ 2)) 1 (φ (ξ 2) (ξ 1)) yes a h2 this).elim
  · exact k
theorem root_le {p : Nat} {t : Int} (h : ArcOk p t) : isq (10 ^ p * 10 ^ p + t * t) ≤ 2 * 10 ^ p := by
  have b := pow_pos10 p
  have c : 0 ≤ (10 : Int) ^ p * 10 ^ p + t * t := by have := Int.mul_pos b b; have := sq_nn t; lia
  obtain ⟨h1, h2, h3⟩ := isq_spec c
  have a : t * t ≤ 10 ^ p * 10 ^ p := Int.mul_le_mul h.hi h.hi h.lo (by exact fk1 [_] [] (φ (κ 0) (ξ 0)) 1 1 (ψ (κ 0) (ξ 0)) yes b)
  rcases Int.lt_or_le (2 * 10 ^ p) (isq (10 ^ p * 10 ^ p + t * t)) with k | k
  · have : (2 * (10 : Int) ^ p) * (2 * 10 ^ p) ≤ isq (10 ^ p * 10 ^ p + t * t) * isq (10 ^ p * 10 ^ p + t * t) := Int.mul_le_mul (by exact fk1 [_,_] [] (φ (π 2 (ξ 0)) (ξ 1)) 1 1 (ψ (π 2 (ξ 0)) (ξ 1)) yes k) (by exact fk1 [_,_] [] (φ (π 2 (ξ 0)) (ξ 1)) 1 1 (ψ (π 2 (ξ 0)) (ξ 1)) yes k) (by exact fk1 [_] [] (φ (κ 0) (π 2 (ξ 0))) 1 2 (ψ (κ 0) (ξ 0)) yes b) (by omega)
    have e : (2 * (10 : Int) ^ p) * (2 * 10 ^ p) = 4 * (10 ^ p * 10 ^ p) := by grind
    have := Int.mul_pos b b
    omega
  · exact k
theorem hv_half {p : Nat} {t : Int} (h : ArcOk p t) : 2 * hv p t ≤ t ∧ 0 ≤ hv p t := by
  have rg := root_ge h
  have b := pow_pos10 p
  unfold hv
  generalize isq (10 ^ p * 10 ^ p + t * t) = r at *
  generalize (10 : Int) ^ p = one at *
  have hlo := h.lo
  rw [fdivP (by exact fk2 [_,_] [] (ψ (κ 0) (ζ (ξ 0) (ξ 1))) 1 2 (ψ (κ 0) (ξ 0)) 1 (φ (ξ 0) (ξ 1)) yes b rg)]
  have n1 := div_nn (by exact fk2 [_,_] [] (ψ (κ 0) (ζ (ξ 0) (ξ 1))) 1 2 (ψ (κ 0) (ξ 0)) 1 (φ (ξ 0) (ξ 1)) yes b rg : 0 < one + r) (Int.mul_nonneg hlo (Int.le_of_lt b))
  have n2 := div_lo (a := t * one) (by exact fk2 [_,_] [] (ψ (κ 0) (ζ (ξ 0) (ξ 1))) 1 2 (ψ (κ 0) (ξ 0)) 1 (φ (ξ 0) (ξ 1)) yes b rg : 0 < one + r)
  refine ⟨?_, n1⟩
  generalize t * one / (one + r) = q at *
  have e : q * (2 * one) ≤ q * (one + r) := Int.mul_le_mul_of_nonneg_left (by exact fk1 [_,_] [] (φ (π 2 (ξ 0)) (ζ (ξ 0) (ξ 1))) 1 1 (φ (ξ 0) (ξ 1)) yes rg) n1
  have e2 : 2 * q * one ≤ t * one := by grind
  exact Int.le_of_mul_le_mul_right e2 b
theorem hvOk {p : Nat} {t : Int} (h : ArcOk p t) : ArcOk p ((t * 10 ^ p).fdiv (10 ^ p + isq (10 ^ p * 10 ^ p + t * t))) := by
  have a := hv_half h
  have hi := h.hi
  have hl := h.lo
  unfold hv at a
  exact ⟨a.2, by exact fk3 [_,_,_] [] (φ (ξ 0) (ξ 1)) 1 1 (φ (π 2 (ξ 0)) (ξ 2)) 1 (φ (κ 0) (ξ 0)) 1 (φ (ξ 2) (ξ 1)) yes a.1 a.2 hi, h.small⟩
theorem arc_sm1 {p : Nat} {t : Int} (h : ArcOk p t) : Sm t := (sm_pow (k := p) (by have := h.small; exact fk1 [] [_] (ψn (ν 0) (κ 2000)) 1 1 (φn (ν 0) (κ 110)) yes this)).le (by have := h.hi; have := h.lo; lia)
theorem arc_smd {p : Nat} {t : Int} (h : ArcOk p t) : Sm (10 ^ p + isq (10 ^ p * 10 ^ p + t * t)) := by
  have := root_ge h; have := root_le h; have := pow_pos10 p
  exact (sm_4pow (p := p) (by have := h.small; exact fk1 [] [_] (φn (ν 0) (κ 150)) 1 1 (φn (ν 0) (κ 110)) yes this)).le (by lia)
theorem arc_ned {p : Nat} {t : Int} (h : ArcOk p t) : 10 ^ p + isq (10 ^ p * 10 ^ p + t * t) ≠ 0 := by
  have := root_ge h; have := pow_pos10 p; omega
theorem arc_nn {p : Nat} {t : Int} (h : ArcOk p t) : 0 ≤ (10 : Int) ^ p * 10 ^ p + t * t := by
  have b := pow_pos10 p
  have := Int.mul_pos b b; have := sq_nn t; lia
theorem arc_cd {p : Nat} {t : Int} (h : ArcOk p t) : cd (10 ^ p * 10 ^ p + t * t) ≤ 1900 := by
  have a : t * t ≤ 10 ^ p * 10 ^ p := Int.mul_le_mul h.hi h.hi h.lo (Int.le_of_lt (pow_pos10 p))
  have nn := arc_nn h
  have e : (10 : Int) ^ p * 10 ^ p = 10 ^ (p + p) := by rw [← Int.pow_add]
  have e3 : (10 : Int) ^ (p + p + 1) = 10 ^ (p + p) * 10 := by rw [Int.pow_succ]
  have hp := pow_pos10 (p + p)
  have e4 := pow10_nat (p + p + 1)
  have := h.small
  unfold cd
  have : dg ((10 : Int) ^ p * 10 ^ p + t * t).natAbs ≤ p + p + 1 := dg_le (by omega)
  lia
noncomputable def arcV (t places : Int) : Int :=
  let p := places.toNat
  let t2 := hv p (hv p t)
  4 * (arF ((t2 * t2).fdiv (10 ^ p)) (10 ^ p) 200 t2 0 1 1).getD 0
theorem arc_sq {p : Nat} {t : Int} (h : ArcOk p t) (h4 : 4 * t ≤ 10 ^ p) : 4 * ((t * t).fdiv (10 ^ p)) ≤ t ∧ 0 ≤ (t * t).fdiv (10 ^ p) := by
  have b := pow_pos10 p
  have hl := h.lo
  rw [fdivP b]
  have n1 := div_nn b (sq_nn t)
  have n2 := div_lo (a := t * t) b
  generalize (10 : Int) ^ p = one at *
  generalize t * t / one = q at *
  refine ⟨?_, n1⟩
  have c : t * (4 * t) ≤ t * one := Int.mul_le_mul_of_nonneg_left h4 hl
  have e : 4 * q * one ≤ t * one := by grind
  exact Int.le_of_mul_le_mul_right e b
theorem hv2_le {p : Nat} {t : Int} (h : ArcOk p t) : 4 * hv p (hv p t) ≤ 10 ^ p := by
  have a := hv_half h
  have b : 2 * hv p (hv p t) ≤ hv p t ∧ 0 ≤ hv p (hv p t) := hv_half (hvOk h)
  have := h.hi
  exact fk3 [_,_,_,_] [] (φ (π 4 (ξ 0)) (ξ 1)) 1 1 (φ (π 2 (ξ 2)) (ξ 3)) 2 (φ (π 2 (ξ 0)) (ξ 2)) 1 (φ (ξ 3) (ξ 1)) yes a.1 b.1 this
theorem arcV_run {places t : Int} (h : ArcOk places.toNat t) :
    arF ((hv places.toNat (hv places.toNat t) * hv places.toNat (hv places.toNat t)).fdiv (10 ^ places.toNat)) (10 ^ places.toNat) 200 (hv places.toNat (hv places.toNat t)) 0 1 1
      = some ((arF ((hv places.toNat (hv places.toNat t) * hv places.toNat (hv places.toNat t)).fdiv (10 ^ places.toNat)) (10 ^ places.toNat) 200 (hv places.toNat (hv places.toNat t)) 0 1 1).getD 0) := by
  have hk := hvOk (hvOk h)
  have h4 := hv2_le h
  have hs := arc_sq hk h4
  have e : ((t * 10 ^ places.toNat).fdiv (10 ^ places.toNat + isq (10 ^ places.toNat * 10 ^ places.toNat + t * t))) = hv places.toNat t := rfl
  rw [e] at hs hk
  have e2 : ((hv places.toNat t * 10 ^ places.toNat).fdiv (10 ^ places.toNat + isq (10 ^ places.toNat * 10 ^ places.toNat + hv places.toNat t * hv places.toNat t))) = hv places.toNat (hv places.toNat t) := rfl
  rw [e2] at hs hk
  have sm := h.small
  have big : (10 : Int) ^ places.toNat < 4 ^ 199 := by
    have a : (10 : Int) ^ places.toNat ≤ 10 ^ 110 := pow10_mono (by omega)
    have b : (10 : Int) ^ 110 < 4 ^ 199 := by decide +kernel
    exact fk2 [_,_,_] [] (ψ (ξ 0) (ξ 1)) 1 1 (φ (ξ 0) (ξ 2)) 1 (ψ (ξ 2) (ξ 1)) yes a b
  have pp := pow_pos10 places.toNat
  have hl := hk.lo
  have r := arF_some ((hv places.toNat (hv places.toNat t) * hv places.toNat (hv places.toNat t)).fdiv (10 ^ places.toNat)) (10 ^ places.toNat) pp (by exact fk3 [_,_,_] [] (φ (π 4 (ξ 0)) (ξ 1)) 1 1 (φ (π 4 (ξ 2)) (ξ 1)) 4 (φ (π 4 (ξ 0)) (ξ 2)) 12 (φ (κ 0) (ξ 0)) yes h4 hs.1 hs.2) hs.2 199 (hv places.toNat (hv places.toNat t)) 0 1 1 (by exact fk3 [_,_,_] [] (ψ (ξ 0) (ξ 1)) 4 1 (φ (π 4 (ξ 0)) (ξ 2)) 4 (ψ (ξ 2) (ξ 1)) 3 (ψ (κ 0) (ξ 2)) yes h4 big pp)
  cases hh : arF ((hv places.toNat (hv places.toNat t) * hv places.toNat (hv places.toNat t)).fdiv (10 ^ places.toNat)) (10 ^ places.toNat) 200 (hv places.toNat (hv places.toNat t)) 0 1 1 with
  | some r => rfl
  | none => rw [hh] at r; cases r
end Mine
namespace Mine
theorem ex_e2 {one n total term k : Int} {R : Int} (h : exF one n (501 - k).toNat total term k = some R) (h0 : ¬ ¬ term = 0) : total = R := ex_e h (Decidable.of_not_not h0)
theorem absI_ne {y : Int} (h : ¬ y = 0) : (if y < 0 then -y else y) ≠ 0 := by split <;> omega
theorem qu_sh0 {x y d : Int} : 0 ≤ (if 0 > d + 2 + cd y - cd x then 0 else d + 2 + cd y - cd x) := by split <;> omega
theorem qu_sh1 {x y d : Int} (hd : d ≤ 100) (hc : cd y ≤ 1000) : (if 0 > d + 2 + cd y - cd x then 0 else d + 2 + cd y - cd x) ≤ 1500 := by
  have := cd_nonneg x
  split <;> omega
end Mine
namespace Mine
section
variable {p : Nat} {t t2 total sign n : Int} {R : Int}
theorem ar_le {sq : Int} (h : arF sq (10 ^ p) ((401 - n) / 2).toNat t total sign n = some R) : n ≤ 399 := by
  rcases Int.lt_or_le 399 n with k | k
  · have : ((401 - n) / 2).toNat = 0 := by lia
    rw [this] at h; simp [arF] at h
  · exact k
theorem ar_s1 {sq : Int} (hq0 : 0 ≤ sq) (hq1 : sq ≤ 10 ^ p) (h : arF sq (10 ^ p) ((401 - n) / 2).toNat t total sign n = some R) (hn : 1 ≤ n) (h0 : 0 < t) (hT : t ≤ 10 ^ p) (hs0 : -1 ≤ sign) (hs1 : sign ≤ 1) :
    arF sq (10 ^ p) ((401 - (n + 2)) / 2).toNat ((t * sq).fdiv (10 ^ p)) (total + sign * t.fdiv n) (-sign) (n + 2) = some R ∧ 1 ≤ n + 2 ∧ n + 2 ≤ 401 ∧ 0 ≤ (t * sq).fdiv (10 ^ p) ∧ (t * sq).fdiv (10 ^ p) ≤ 10 ^ p ∧ -1 ≤ -sign ∧ -sign ≤ 1 := by
  have hr := ar_le h
  have e : ((401 - n) / 2).toNat = ((401 - (n + 2)) / 2).toNat + 1 := by lia
  rw [e, arF, if_pos h0] at h
  have b := pow_pos10 p
  refine ⟨h, by exact fk1 [_] [] (φ (κ 1) (ζ (ξ 0) (κ 2))) 1 1 (φ (κ 1) (ξ 0)) yes hn, by exact fk1 [_] [] (φ (ζ (ξ 0) (κ 2)) (κ 401)) 1 1 (φ (ξ 0) (κ 399)) yes hr, ?_, ?_, by exact fk1 [_] [] (φ (η (κ 1)) (η (ξ 0))) 1 1 (φ (ξ 0) (κ 1)) yes hs1, by exact fk1 [_] [] (φ (η (ξ 0)) (κ 1)) 1 1 (φ (η (κ 1)) (ξ 0)) yes hs0⟩ <;> rw [fdivP b]
  · exact div_nn b (Int.mul_nonneg (by exact fk1 [_] [] (φ (κ 0) (ξ 0)) 1 1 (ψ (κ 0) (ξ 0)) yes h0) hq0)
  · have n2 := div_lo (a := t * sq) b
    generalize (10 : Int) ^ p = one at *
    generalize t * sq / one = q at *
    have c : t * sq ≤ t * one := Int.mul_le_mul_of_nonneg_left hq1 (by exact fk1 [_] [] (φ (κ 0) (ξ 0)) 1 1 (ψ (κ 0) (ξ 0)) yes h0)
    have : q * one ≤ t * one := by exact fk2 [_,_,_] [] (φ (ξ 0) (ξ 1)) 1 1 (φ (ξ 0) (ξ 2)) 1 (φ (ξ 2) (ξ 1)) yes n2 c
    have := Int.le_of_mul_le_mul_right this b
    exact fk2 [_,_,_] [] (φ (ξ 0) (ξ 1)) 1 1 (φ (ξ 2) (ξ 1)) 1 (φ (ξ 0) (ξ 2)) yes hT this
theorem ar_m {sq : Int} (h : arF sq (10 ^ p) ((401 - n) / 2).toNat t total sign n = some R) : ((401 - (n + 2)) / 2).toNat < ((401 - n) / 2).toNat := by
  have := ar_le h; omega
theorem ar_e {sq : Int} (h : arF sq (10 ^ p) ((401 - n) / 2).toNat t total sign n = some R) (h0 : ¬ 0 < t) : total = R := by
  have hr := ar_le h
  have e : ((401 - n) / 2).toNat = ((401 - (n + 2)) / 2).toNat + 1 := by lia
  rw [e, arF, if_neg h0] at h
  exact Option.some.inj h
end
noncomputable def sqV (p : Nat) (t : Int) : Int := (hv p (hv p t) * hv p (hv p t)).fdiv (10 ^ p)
noncomputable def arcR (p : Nat) (t : Int) : Int := (arF (sqV p t) (10 ^ p) 200 (hv p (hv p t)) 0 1 1).getD 0
theorem arcV_eq (t places : Int) : arcV t places = 4 * arcR places.toNat t := rfl
theorem hv2_ok {p : Nat} {t : Int} (h : ArcOk p t) : ArcOk p (hv p (hv p t)) := hvOk (hvOk h)
theorem sqV_ok {p : Nat} {t : Int} (h : ArcOk p t) : 0 ≤ sqV p t ∧ sqV p t ≤ 10 ^ p := by
  have a := arc_sq (hv2_ok h) (hv2_le h)
  have b := hv2_ok h
  have := b.hi; have := b.lo
  unfold sqV
  omega
theorem ar_s0 {p : Nat} {t : Int} (h : ArcOk p t) : arF (sqV p t) (10 ^ p) ((401 - 1) / 2 : Int).toNat (hv p (hv p t)) 0 1 1 = some (arcR p t) ∧ (1 : Int) ≤ 1 ∧ (1 : Int) ≤ 401 ∧ 0 ≤ hv p (hv p t) ∧ hv p (hv p t) ≤ 10 ^ p ∧ (-1 : Int) ≤ 1 ∧ (1 : Int) ≤ 1 :=
  ⟨arcV_run (places := (p : Int)) h, by exact fk0 [] [] (φ (κ 1) (κ 1)) 1  yes , by exact fk0 [] [] (φ (κ 1) (κ 401)) 1  yes , (hv2_ok h).lo, (hv2_ok h).hi, by exact fk0 [] [] (φ (η (κ 1)) (κ 1)) 1  yes , by exact fk0 [] [] (φ (κ 1) (κ 1)) 1  yes ⟩
theorem sqV_sm {p : Nat} {t : Int} (h : ArcOk p t) : Sm (sqV p t) := (sm_pow (k := p) (by have := h.small; exact fk1 [] [_] (ψn (ν 0) (κ 2000)) 1 1 (φn (ν 0) (κ 110)) yes this)).le (by have := sqV_ok h; lia)
theorem tn_sm {p : Nat} {t n : Int} (hp : p ≤ 150) (h1 : 0 < t) (h2 : t ≤ 10 ^ p) (hn : 1 ≤ n) : Sm (t.fdiv n) := is_sm (sm_pow (k := p) (by exact fk1 [] [_] (ψn (ν 0) (κ 2000)) 1 1 (φn (ν 0) (κ 150)) yes hp)) h1 h2 hn
theorem t_sm {p : Nat} {t : Int} (hp : p ≤ 150) (h1 : 0 < t) (h2 : t ≤ 10 ^ p) : Sm t := (sm_pow (k := p) (by exact fk1 [] [_] (ψn (ν 0) (κ 2000)) 1 1 (φn (ν 0) (κ 150)) yes hp)).le (by lia)
end Mine
namespace Mine
open PySem PySem.W PyProof.Rows
theorem hvOk' {p : Nat} {t : Int} (h : ArcOk p t) : ArcOk p (hv p t) := hvOk h
section
variable {prog : Program} {w : World} {A : Around} {E : Value → Shared → Prop} {s : Shared} {p : Nat} {t : Int} {a b : Tok}
end
end Mine
end
section
open Mine.FLx (ξ ν κ ζ δ η π ω)
open Mine.FCx (φ ψ θ ϑ Φ Ψ φn ψn θn ϑn Φn Ψn)
namespace Mine
/-! what the defs of functions.py and arcs.py give -/
noncomputable def tinyB (x y d : Int) : Bool := decide (x = 0 ∨ cd x + y < -d)
noncomputable def greatB (x y top : Int) : Bool := decide (cd top + 1 < cd x + y)
noncomputable def beyB (x y : Int) : Bool := !decide (x = 0 ∨ cd x + y < 1) && decide (1 < cd x + y ∨ absI x ≠ 10 ^ (cd x - 1).toNat)
noncomputable def sgn (c v : Int) : Int := if c < 0 then -v else v
noncomputable def rdvV (x y u v d top : Int) : Option (Int × Int) := rr (quV x u (y - v) d).1 (quV x u (y - v) d).2 d top
noncomputable def raV (a b p : Int) : Int := if a ≤ b then arcV ((a * 10 ^ p.toNat).fdiv b) p else (htV p).fdiv 2 - arcV ((b * 10 ^ p.toNat).fdiv a) p
noncomputable def apN (x y d : Int) : Int := absI (x * 10 ^ (y + pfV x y d).toNat)
noncomputable def apO (x y d : Int) : Int := isq (10 ^ (pfV x y d).toNat * 10 ^ (pfV x y d).toNat - apN x y d * apN x y d)
noncomputable def asA (x y d : Int) : Int := raV (apN x y d) (apO x y d) (pfV x y d)
noncomputable def acA (x y d : Int) : Int := if x < 0 then htV (pfV x y d) - raV (apO x y d) (apN x y d) (pfV x y d) else raV (apO x y d) (apN x y d) (pfV x y d)
noncomputable def asV (x y d top : Int) : Option (Int × Int) := if tinyB x y d = true then rr x y d top else if beyB x y = true then none else rr (sgn x (asA x y d)) (-pfV x y d) d top
noncomputable def acV (x y d top : Int) : Option (Int × Int) := if beyB x y = true then none else rr (acA x y d) (-pfV x y d) d top
noncomputable def saV (c q d top : Int) : Option (Int × Int) := rr (sgn c ((q * htV (d + 10)).fdiv 2)) (-(d + 10)) d top
noncomputable def lowV (y x : Int) : Int := if x < y then x else y
noncomputable def atP (y v x u d : Int) : Int := 2 * d + 10 + (if cd x + u - (cd y + v) > 0 then cd x + u - (cd y + v) else 0)
noncomputable def atA (y v x u d : Int) : Int := raV (absI y * 10 ^ (v - lowV v u).toNat) (absI x * 10 ^ (u - lowV v u).toNat) (atP y v x u d)
noncomputable def atB (y v x u d : Int) : Int := if x < 0 then htV (atP y v x u d) - atA y v x u d else atA y v x u d
noncomputable def at2V (y v x u d top : Int) : Option (Int × Int) :=
  if y = 0 ∧ x = 0 then none
  else if y = 0 then (if x > 0 then some (0, 0) else saV y 2 d top)
  else if x = 0 ∨ cd y + v - (cd x + u) > d + 2 then saV y 1 d top
  else if cd x + u - (cd y + v) > d + 2 then (if x > 0 then rdvV y v x u d top else saV y 2 d top)
  else rr (sgn y (atB y v x u d)) (-atP y v x u d) d top
noncomputable def epP (a e d : Int) : Int := pfV a e d
noncomputable def epT (a e d : Int) : Int := ltV (epP a e d)
noncomputable def epN (a e d : Int) : Int := a * 10 ^ (e + epP a e d).toNat
noncomputable def epK (a e d : Int) : Int := (2 * epN a e d + epT a e d).fdiv (2 * epT a e d)
noncomputable def epR (a e d : Int) : Int := epN a e d - epK a e d * epT a e d
noncomputable def epF (a e d : Int) : Int := (exF (10 ^ (epP a e d).toNat) (epR a e d) 500 (10 ^ (epP a e d).toNat) (10 ^ (epP a e d).toNat) 1).getD 0
noncomputable def epG (a e d : Int) : Int := epF a e d * 10 ^ (epK a e d).toNat
noncomputable def epD (a e d : Int) : Int := (10 ^ (2 * epP a e d).toNat : Int).fdiv (epG a e d)
noncomputable def shV (x y d top : Int) : Option (Int × Int) := if tinyB x y d = true then rr x y d top else if greatB x y top = true then none else rr (sgn x ((epG (absI x) y d - epD (absI x) y d) * 5)) (-epP (absI x) y d - 1) d top
noncomputable def chV (x y d top : Int) : Option (Int × Int) := if tinyB x y d = true then some (1, 0) else if greatB x y top = true then none else rr ((epG (absI x) y d + epD (absI x) y d) * 5) (-epP (absI x) y d - 1) d top
noncomputable def thW (a e d : Int) : Int := ((epG a e d - epD a e d) * 10 ^ (epP a e d).toNat).fdiv (epG a e d + epD a e d)
noncomputable def thV (x y d top : Int) : Option (Int × Int) := if tinyB x y d = true then rr x y d top else if cd (3 * d) < cd x + y then some (sgn x 1, 0) else rr (sgn x (thW (absI x) y d)) (-epP (absI x) y d) d top
structure EpOk (a e d : Int) : Prop where
  a0 : Sm a
  sh0 : 0 ≤ e + epP a e d
  sh1 : e + epP a e d ≤ 1000
  p0 : 0 ≤ epP a e d
  p1 : epP a e d ≤ 100
  t0 : epT a e d ≠ 0
  t1 : Sm (2 * epT a e d)
  t2 : Sm (epT a e d)
  k0 : 0 ≤ epK a e d
  k1 : epK a e d ≤ 1000
  r1 : Sm (epR a e d)
  run : exF (10 ^ (epP a e d).toNat) (epR a e d) 500 (10 ^ (epP a e d).toNat) (10 ^ (epP a e d).toNat) 1 = some (epF a e d)
  f1 : Sm (epF a e d)
  g0 : epG a e d ≠ 0
  g1 : Sm (epG a e d)
  s1 : Sm (epG a e d - epD a e d)
  s2 : Sm (epG a e d + epD a e d)
  s0 : epG a e d + epD a e d ≠ 0
  c1 : cd ((epG a e d - epD a e d) * 5) ≤ 1900
  c2 : cd ((epG a e d + epD a e d) * 5) ≤ 1900
  c3 : cd (thW a e d) ≤ 1900
structure ArcCond (x y d : Int) : Prop where
  hx : Sm x
  s0 : 0 ≤ y + pfV x y d
  s1 : y + pfV x y d ≤ 1000
  p0 : 0 ≤ pfV x y d
  p1 : pfV x y d ≤ 100
  nn : 0 ≤ 10 ^ (pfV x y d).toNat * 10 ^ (pfV x y d).toNat - apN x y d * apN x y d
  cr : cd (10 ^ (pfV x y d).toNat * 10 ^ (pfV x y d).toNat - apN x y d * apN x y d) ≤ 1900
  n1 : Sm (apN x y d)
  o1 : Sm (apO x y d)
  no : ¬ (apN x y d = 0 ∧ apO x y d = 0)
  c1 : cd (asA x y d) ≤ 1900
  c2 : cd (acA x y d) ≤ 1900
theorem absI_nn (x : Int) : 0 ≤ absI x := by unfold absI; split <;> lia
theorem cd_absI (x : Int) : cd (absI x) = cd x := by unfold absI; split; exact cd_neg x; rfl
theorem cd_sgn (c v : Int) : cd (sgn c v) = cd v := by unfold sgn; split; exact cd_neg v; rfl
theorem cd_pos {x : Int} (h : ¬ x = 0) : 1 ≤ cd x := by unfold cd; have := dg_pos (n := x.natAbs) (by lia); exact fk1 [] [_] (φ (κ 1) (ν 0)) 1 1 (ψn (κ 0) (ν 0)) yes this
theorem isq_nn {n : Int} (h : 0 ≤ n) : 0 ≤ isq n := (isq_spec h).2.2
theorem apN_nn (x y d : Int) : 0 ≤ apN x y d := absI_nn _
theorem arcOk_div {a b : Int} {p : Int} (hp : p ≤ 100) (ha : 0 ≤ a) (hb : 0 < b) (h : a ≤ b) : ArcOk p.toNat ((a * 10 ^ p.toNat).fdiv b) := by
  have pp := pow_pos10 p.toNat
  rw [fdivP hb]
  have n1 := div_nn hb (Int.mul_nonneg ha (Int.le_of_lt pp))
  refine ⟨n1, ?_, by lia⟩
  have n2 := div_lo (a := a * 10 ^ p.toNat) hb
  generalize (10 : Int) ^ p.toNat = one at *
  generalize a * one / b = q at *
  have c : a * one ≤ b * one := Int.mul_le_mul_of_nonneg_right h (Int.le_of_lt pp)
  have : q * b ≤ one * b := by grind
  exact Int.le_of_mul_le_mul_right this hb
end Mine
namespace Mine
section
variable {c v e d top : Int} {o : Option (Int × Int)}
end
end Mine
end
section
open PySem PySem.W PyProof.Rows PySem.Spec PySem.Calls
set_option maxRecDepth 100000
namespace Mine
noncomputable def kfDummy (_ : OpenLaw) (_ : Params → Frag) : Prop := True
noncomputable abbrev rfTail : List Value := [.ref 31, .type "Exception", .type "BaseException", .type "object"]
section
variable {prog : Program} {w : World} {M : Model} {A : Around} {E : Value → Shared → Prop} {R : Result → Shared → Prop} {h : Heap} {g : Array GenState} {d : Drawn} {t : Nat} {os : OsState}
variable {nm q : Str} {C N : Addr} {bs : List Value} {hdct : Bool} {sn : List Str} {sub : List Value} {ab : Bool} {col : Option Bool} {dd : Option Addr} {k0 k1 k2 k3 k5 : Option Value}
theorem rf_cB : (Value.ref C :: rfTail).contains (.type "Exception") = true := by rw [List.contains_cons]; simp
theorem rf_cBase : (Value.ref C :: rfTail).contains (.type "BaseException") = true := by rw [List.contains_cons]; simp
theorem rf_cA : (Value.ref C :: rfTail).contains (.type "AttributeError") = false := by rw [List.contains_cons]; simp
theorem rf_cN : (Value.ref C :: rfTail).contains (.type "NameError") = false := by rw [List.contains_cons]; simp
theorem rf_check_new {rest : List Value} {Q : Unit → Shared → Prop} (hC : h.get? C = some (excClassObj nm q C N bs rfTail hdct sn sub ab col dd k0 k1 k2 k3 k5 "Exception.__new__"))
    (hq : Q () ⟨h, g, d, t, os⟩) : wpAny M A (checkBuiltinCall "Exception.__new__" ⟨.ref C :: rest, []⟩) Q E ⟨h, g, d, t, os⟩ := by
  have F := PySem.F.excBase_Exception
  have hstar := F.noStar
  simp only [checkBuiltinCall, F.newKind, F.newSplit, F.newRow]
  repeat (first | refine wpAny_loadPart_at hC ?_ | (refine wpAny_isSubtype_exc hC ?_; rw [rf_cB]) | refine wpAny_staticBase_exc hC ?_ | refine wpAny_madeBy_exc hC ?_ | simp only [bne_self_eq_false, Bool.false_eq_true, if_false] | wp_step)
  exact hq
theorem rf_new {rest : List Value} (hC : h.get? C = some (excClassObj nm q C N bs rfTail hdct sn sub ab col dd k0 k1 k2 k3 k5 "Exception.__new__"))
    (hq : R (.ok (.ret (.ref (h.objs.size + 1)))) ⟨(h.push { cls := .type "tuple", data := .seq rest.toArray }).push
      { cls := .ref C, data := .fields #[.ref h.objs.size, .none, .none, .none, .bool false, .none] }, g, d, t, os⟩) (hrest : rest.length ≤ sizeLine := by size_fits) :
    codeAny (model prog w) A (.builtin "Exception.__new__" ⟨.ref C :: rest, []⟩) R ⟨h, g, d, t, os⟩ := by
  have F := PySem.F.excBase_Exception
  have hends := F.ends
  refine codeAny_builtinAt F.entry ?_
  unfold Builtin.«BaseException.__new__»
  refine PySem.wpAt_bind ?_
  show PySem.wpAt _ _ _ (stack >>= _) _ _ _
  refine PySem.wpAt_bind (PySem.wpAt_stack fun p below => PySem.wpAt_of_wpAny ?_)
  wp_walk
  refine PySem.wpAt_of_wpAny ?_
  rw [F.owner]
  repeat (first | with_reducible refine wpAny_madeHere_exc F.canon hC ?_ | with_reducible refine wpAny_loadPart_at hC ?_ | (with_reducible refine wpAny_isSubtype_exc hC ?_; first | rw [rf_cB] | rw [rf_cA] | rw [rf_cN]) | wp_step)
  show R _ _
  rw [Heap.size_push]
  exact hq
end
theorem rf_find (w : World) : findIn (heapK w.params) (.ref 44) "__init__" = some (some (.ref 28)) := rfl
theorem rf_findS (w : World) : findIn (heapK w.params) (.ref 44) "__setattr__" = some (some (.builtin "object.__setattr__")) := rfl
theorem rf_findT (w : World) : findIn (heapK w.params) (.ref 44) "text" = some none := rfl
theorem rf_fn (w : World) : typeIn (heapK w.params) (.ref 28) = some (.type "function") := rfl
theorem rf_cls (w : World) : ∃ nm q bs sn sub ab col dd k0 k1 k2 k3 k5, (heapK w.params).lookup 44 = some (excClassObj nm q 44 43 bs rfTail true sn sub ab col dd k0 k1 k2 k3 k5 "Exception.__new__") := ⟨_, _, _, _, _, _, _, _, _, _, _, _, _, rfl⟩
noncomputable abbrev excO (t : Addr) : Obj := { cls := .ref 44, data := .fields #[.ref t, .none, .none, .none, .bool false, .none] }
section
variable {prog : Program} {w : World} {A : Around} {E : Value → Shared → Prop} {h : Heap} {g : Array GenState} {d : Drawn} {t : Nat} {os : OsState}
theorem rf_type_call {rest : List Value} {Q : Fin → Shared → Prop} (X : (heapK w.params).In h)
    (hq : wpAny (model prog w) A (call (.ref 28) (.ref (h.objs.size + 1) :: rest)) (fun r s' => r = .none ∧ Q (.done (.ret (.ref (h.objs.size + 1)))) s') E
      ⟨(h.push { cls := .type "tuple", data := .seq rest.toArray }).push (excO h.objs.size), g, d, t, os⟩) (hrest : rest.length ≤ sizeLine := by size_fits) :
    wpAny (model prog w) A (Builtin.«type.__call__» ⟨.ref 44 :: rest, []⟩) Q E ⟨h, g, d, t, os⟩ := by
  obtain ⟨nm, q, bs, sn, sub, ab, col, dd, k0, k1, k2, k3, k5, hl⟩ := rf_cls w
  have hC := X _ _ hl
  repeat (first | with_reducible refine wpAny_loadPart_at hC ?_ | with_reducible refine wpAny_madeBy_exc hC ?_ | wp_step)
  refine codeAny_call_builtin_code (Code.quiet_builtin _ PySem.F.excBase_Exception.quiet) (rf_check_new hC ?_)
  refine rf_new hC ?_ hrest
  show wpAny _ _ _ _ _ _
  have X₁ : (heapK w.params).In ((h.push { cls := .type "tuple", data := .seq rest.toArray }).push (excO h.objs.size)) := X.keeps fun b o e => Heap.get?_push_of_some _ (Heap.get?_push_of_some _ e)
  have hC₁ := X₁ _ _ hl
  have hget : ((h.push { cls := .type "tuple", data := .seq rest.toArray }).push (excO h.objs.size)).get? (h.objs.size + 1) = some (excO h.objs.size) := by heap_get
  have hcC : (Value.ref 44 :: rfTail).contains (.ref 44) = true := by simp
  unfold isInstance
  repeat (first | with_reducible refine wpAny_loadPart_at hget ?_ | (with_reducible refine wpAny_isSubtype_exc hC₁ ?_; rw [hcC]) | wp_step)
  show wpAny _ _ (typeLookup (.ref 44) _) _ _ _
  refine (looks_findIn X₁ (rf_find w)).here ?_
  refine wpAny_holding (wpAny_bind ?_)
  refine (bind_fn X₁ _ (rf_fn w)).here ?_
  refine wpAny_bind (wpAny_mono hq (fun r s' hr => ?_) fun _ _ x => x)
  obtain ⟨rfl, hQ⟩ := hr
  wp_walk
  exact hQ
theorem rf_call {rest : List Value} {Q : Value → Shared → Prop} (X : (heapK w.params).In h)
    (hq : wpAny (model prog w) (A.under (.builtin "type.__call__" ⟨.ref 44 :: rest, []⟩)) (call (.ref 28) (.ref (h.objs.size + 1) :: rest)) (fun r s' => r = .none ∧ Q (.ref (h.objs.size + 1)) s') E
      ⟨(h.push { cls := .type "tuple", data := .seq rest.toArray }).push (excO h.objs.size), g, d, t, os⟩) (hrest : rest.length ≤ sizeLine := by size_fits) :
    wpAny (model prog w) A (call (.ref 44) rest) Q E ⟨h, g, d, t, os⟩ := by
  obtain ⟨nm, q, bs, sn, sub, ab, col, dd, k0, k1, k2, k3, k5, hl⟩ := rf_cls w
  have hC := X _ _ hl
  have f1 := tc_lookup
  have f2 := tc_bind (.ref 44)
  have hT : (⟨h, g, d, t, os⟩ : Shared).TypeIs (.ref 44) "type" := ⟨_, hC, rfl⟩
  refine wpAny_call (codeAny_of_tree ?_)
  show wpAny _ _ (callAny (.ref 44) _) _ _ _
  repeat (any_goals (first | assumption | with_reducible refine wpAny_loadPart_at hC ?_ | wp_step))
  refine ⟨rfl, ?_⟩
  exact codeAny_call_builtin_at (Code.quiet_builtin _ (by decide +kernel)) entry_typeCall (wpAny_check_type_call_sub hC (rf_type_call (hrest := hrest) X hq))
end
end Mine
end
section
open PySem PySem.W PyProof.Rows PySem.Calls
set_option maxRecDepth 100000
namespace Mine
theorem meta_exc : typeOf (.type "Exception") = pure (.type "type") := by kernel_rfl
theorem exc_findInit (w : World) : findCls (heapK w.params) (.type "Exception") (.type "type") "__init__" = some (.val (.builtin "Exception.__init__")) := by kernel_rfl
section
variable {prog : Program} {w : World} {M : Model} {A : Around} {E : Value → Shared → Prop} {h : Heap} {g : Array GenState} {d : Drawn} {t : Nat} {os : OsState}
theorem rf_check_init {e : Addr} {oe : Obj} {rest : List Value} {Q : Unit → Shared → Prop} (X : (heapK w.params).In h) (he : h.get? e = some oe) (hcls : oe.cls = .ref 44) (hq : Q () ⟨h, g, d, t, os⟩) :
    wpAny M A (checkBuiltinCall "Exception.__init__" ⟨.ref e :: rest, []⟩) Q E ⟨h, g, d, t, os⟩ := by
  obtain ⟨nm, q, bs, sn, sub, ab, col, dd, k0, k1, k2, k3, k5, hl⟩ := rf_cls w
  have hC := X _ _ hl
  have F := PySem.F.excBase_Exception
  have hshort := F.noStar
  simp only [checkBuiltinCall, F.initKind, F.initSplit, F.initRow]
  repeat (first | (with_reducible refine wpAny_loadPart_at he ?_; rw [hcls]) | with_reducible refine wpAny_loadPart_at hC ?_ | (with_reducible refine wpAny_isSubtype_exc hC ?_; rw [rf_cB]) | wp_step)
  refine wpAny_onRaise ?_
  rw [show ∀ (a b : String) (n : Nat), Bind.check ⟨.positional, "*", "Exception", .self, [⟨"args", .varPos, false⟩]⟩ a b n (List.map (fun x => x.fst) ({ pos := Value.ref e :: rest } : Args).kw) = pure () from
    fun a b n => check_star_args _ _ _ _ _ _]
  exact wpAny_pure hq
theorem rf_base_init {e t0 : Addr} {rest : List Value} {Q : Value → Shared → Prop} (X : (heapK w.params).In h) (he : h.get? e = some (excO t0))
    (hq : ∀ h', h' = (h.push { cls := .type "tuple", data := .seq rest.toArray }).update e (Obj.mapFields (·.setIfInBounds 0 (.ref h.objs.size))) → Q .none ⟨h', g, d, t, os⟩) (hrest : rest.length ≤ sizeLine := by size_fits) :
    wpAny (model prog w) A (call (.builtin "Exception.__init__") (.ref e :: rest)) Q E ⟨h, g, d, t, os⟩ := by
  have F := PySem.F.excBase_Exception
  refine wpAny_call (codeAny_call_builtin F.init.plain F.initEntry (rf_check_init X he rfl ?_))
  have he' := Heap.get?_push_of_some { cls := .type "tuple", data := .seq rest.toArray } he
  wp_walk
  exact hq _ rfl
theorem rf_refuse (self : Value) : refuseLoop self "__setattr__" [.ref 44, .ref 31, .type "Exception", .type "BaseException", .type "object"] = pure () := by
  rw [refuseLoop_ref, refuseLoop_ref]
  kernel_rfl
theorem rf_setattr {e t0 : Addr} {v : Value} {Q : Unit → Shared → Prop} (X : (heapK w.params).In h) (he : h.get? e = some (excO t0))
    (hq : ∀ (f : Obj → Obj) tk', (f { cls := .type "dict", data := .dict #[] }).isFreed = false → Q () ⟨((h.push { cls := .type "dict", data := .dict #[] }).update e (fun o => { o with dict := some h.objs.size })).update h.objs.size f, g, d, tk', os⟩) :
    wpAny (model prog w) A (setAttr (.ref e) "text" v) Q E ⟨h, g, d, t, os⟩ := by
  have I : InstAt h e (excO t0) 44 none := ⟨he, rfl, rfl, trivial⟩
  have SF := PySem.F.store_object
  refine set_plain X I (rf_findS w) ?_
  obtain ⟨nm, q, bs, sn, sub, ab, col, dd, k0, k1, k2, k3, k5, hl⟩ := rf_cls w
  have hC := X _ _ hl
  have hm : Looks (model prog w) h (mroOf (.ref 44)) (.ref 44 :: rfTail) := fun A Q E s k q => by
    obtain ⟨h1, g1, d1, t1, o1⟩ := s
    exact wpAny_mroOf_exc (k _ _ hC) q
  have sub : Looks (model prog w) h (isInstance (.ref e) (.type "object")) true := I.type.andThen (fun A Q E s k q => by
    obtain ⟨h1, g1, d1, t1, o1⟩ := s
    refine wpAny_isSubtype_exc (k _ _ hC) ?_
    simpa using q)
  refine codeAny_call_builtin SF.slot.plain SF.entry (@check_slot (model prog w) _ _ _ "object.__setattr__" "object" "__setattr__" (.ref e) [.str "text" t, v] [] _ SF.kind SF.split sub (SF.args (.ref e) (.str "text" t) v) ?_)
  rw [osa_eq, refuse_eq]
  refine wpAny_bind (wpAny_bind (I.type.here (wpAny_bind (hm.here ?_))))
  rw [rf_refuse]
  refine wpAny_pure (wpAny_bind (I.type.here (wpAny_bind ((looks_findIn X (rf_findT w)).here (wpAny_bind ?_)))))
  refine wpAny_pure ?_
  show wpAny _ _ (Builtin.ObjectAttr.storeInOwnDict (.ref e) (.ref 44) (.str "text" t) "text" v false) _ _ _
  unfold Builtin.ObjectAttr.storeInOwnDict
  refine wpAny_bind (wpAny_pure (wpAny_bind ?_))
  repeat (first | with_reducible refine wpAny_loadPart_at he ?_ | with_reducible refine wpAny_loadPart_at hC ?_ | wp_step)
  have hne : e ≠ h.objs.size := Nat.ne_of_lt (Heap.lt_size he)
  have hD : ((h.push { cls := .type "dict", data := .dict #[] }).update e (fun o => { o with dict := some h.objs.size })).get? h.objs.size = some { cls := .type "dict", data := .dict #[] } := by
    rw [Heap.get?_update_other _ _ hne]
    exact Heap.get?_push_at rfl rfl
  refine wpAny_askSetting (wpAny_pure (wpAny_bind (wpAny_mkText (wpAny_bind (wpAny_loadPart hD ?_)))))
  refine wpAny_updatePart hD ?_
  have hD' := Heap.get?_update_self (Obj.putName (Str.ofString "text") (if (Str.ofString "text").cps.isEmpty = true then 0 else reduceHash (w.params.strHash (Str.ofString "text").cps)) (.str (Str.ofString "text") (t + 1)) v) hD (by rfl)
  refine wpAny_bind (wpAny_lookBehind hD' (by rfl) ?_)
  refine wpAny_pure ?_
  exact hq _ _ rfl
end
section
variable {prog : Program} {w : World} {A : Around} {E : Value → Shared → Prop} {s : Shared} {h₀ : Heap} {L e t : Addr} {m : Str → Option Value} {news : Led} {ot : Obj}
noncomputable abbrev tupO (v : Value) : Obj := { cls := .type "tuple", data := .seq [v].toArray }
theorem ledger_init {v : Value} {Q : Value → Shared → Prop} (X : (heapK w.params).In h₀) (F : Fr h₀ L s.heap m) (N : News h₀ L s.heap ((e, excO t) :: (t, ot) :: news)) (hlt : ∀ p ∈ (t, ot) :: news, p.1 ≠ e)
    (hq : ∀ t' h', Fr h₀ L h' m → News h₀ L h' ((t', tupO v) :: (e, excO t') :: (t, ot) :: news) → t' ≠ e → (∀ p ∈ (t, ot) :: news, p.1 ≠ t') → Q .none { s with heap := h' }) :
    wpAny (model prog w) A (call (.builtin "Exception.__init__") [.ref e, v]) Q E s := by
  obtain ⟨h, g, d, tk, os⟩ := s
  dsimp only at F N
  refine rf_base_init (X.keeps F.keep) (N.get (.head _)) (fun h' eh => ?_) (by show _ ≤ sizeLine; rw [sizeLine_eq]; exact Nat.le_of_ble_eq_true rfl)
  have N1 := N.push F { cls := .type "tuple", data := .seq [v].toArray }
  have F1 := F.push { cls := .type "tuple", data := .seq [v].toArray }
  have hne : h.objs.size ≠ e := Nat.ne_of_gt (Heap.lt_size (N.get (.head _)))
  obtain ⟨F2, N2⟩ := news_upd (pre := [(h.objs.size, { cls := .type "tuple", data := .seq [v].toArray })]) (o' := excO h.objs.size) (f := Obj.mapFields (·.setIfInBounds 0 (.ref h.objs.size))) F1 N1
    (fun p hp => by rw [List.mem_singleton.mp hp]; exact hne) hlt rfl rfl
  rw [← eh] at F2 N2
  exact hq _ _ F2 N2 hne fun p hp => Nat.ne_of_lt (Heap.lt_size (N.get (.tail _ hp)))
theorem ledger_setattr {t' : Addr} {ot' : Obj} {v : Value} {Q : Unit → Shared → Prop} (X : (heapK w.params).In h₀) (F : Fr h₀ L s.heap m) (N : News h₀ L s.heap ((t', ot') :: (e, excO t') :: (t, ot) :: news)) (hlt : ∀ p ∈ (t, ot) :: news, p.1 ≠ e) (hne' : t' ≠ e)
    (hq : ∀ d od h' tk', Fr h₀ L h' m → News h₀ L h' ((d, od) :: (t', ot') :: (e, { excO t' with dict := some d }) :: (t, ot) :: news) → Q () { s with heap := h', toks := tk' }) :
    wpAny (model prog w) A (setAttr (.ref e) "text" v) Q E s := by
  obtain ⟨h, g, d, tk, os⟩ := s
  dsimp only at F N
  have he : h.get? e = some (excO t') := N.get (.tail _ (.head _))
  refine rf_setattr (X.keeps F.keep) he fun f tk' hf => ?_
  have N1 := N.push F { cls := .type "dict", data := .dict #[] }
  have F1 := F.push { cls := .type "dict", data := .dict #[] }
  have hne : h.objs.size ≠ e := Nat.ne_of_gt (Heap.lt_size he)
  obtain ⟨F2, N2⟩ := news_upd (pre := [(h.objs.size, { cls := .type "dict", data := .dict #[] }), (t', ot')]) (o' := { excO t' with dict := some h.objs.size }) (f := fun o => { o with dict := some h.objs.size }) F1 N1
    (fun p hp => by
      rcases List.mem_cons.mp hp with rfl | hp
      · exact hne
      · rw [List.mem_singleton.mp hp]; exact hne') hlt rfl rfl
  have all : ∀ p ∈ (t', ot') :: (e, { excO t' with dict := some h.objs.size }) :: (t, ot) :: news, p.1 ≠ h.objs.size := fun p hp => by
    have h1 : ∀ q ∈ (t', ot') :: (e, excO t') :: (t, ot) :: news, q.1 ≠ h.objs.size := fun q hq => Nat.ne_of_lt (Heap.lt_size (N.get hq))
    rcases List.mem_cons.mp hp with rfl | hp
    · exact h1 _ (.head _)
    rcases List.mem_cons.mp hp with rfl | hp
    · exact hne.symm
    · exact h1 _ (.tail _ (.tail _ hp))
  obtain ⟨F3, N3⟩ := news_upd (pre := []) (o' := f { cls := .type "dict", data := .dict #[] }) (f := f) F2 N2 (fun p hp => by cases hp) all rfl hf
  exact hq _ _ _ _ F3 N3
end
end Mine
end
section
open PySem PySem.W PyProof.Rows
set_option maxRecDepth 100000
namespace Mine
section
local macro_rules | `(tactic| walk_at "getMethod type:Exception") => `(tactic| (k_here; refine' method_type ?F ?X meta_exc (by decide +kernel) (exc_findInit _) ?h ?_; (case F => with_reducible assumption); (case X => with_reducible assumption); (case h => k_handed)))
local macro_rules | `(tactic| walk_at "call builtin:Exception.__init__") => `(tactic| (k_here; k_dflt (refine' ledger_init ?X ?F ?N ?l ?_); (case X => with_reducible assumption); (case F => with_reducible assumption); (case N => with_reducible assumption); (case l => with_reducible assumption); intro t9 h9 F9 N9 n9 n9b; (try k_sweep)))
local macro_rules | `(tactic| walk_at "setAttr ref") => `(tactic| (k_here; k_dflt (refine' ledger_setattr ?X ?F ?N ?l ?l2 ?_); (case X => with_reducible assumption); (case F => with_reducible assumption); (case N => with_reducible assumption); (case l => with_reducible assumption); (case l2 => with_reducible assumption); intro d9 o9 h9 tk9 F9 N9; (try k_sweep)))
set_option maxHeartbeats 1000000 in
theorem rf_init {w : World} {p : Program} {loose : List Str} {mean : ExcName → Option Value} {mg mb : Str → Option Value} (news : Led) (e t : Addr) (ot : Obj) (x : Str) (tk : Tok) (c : Code) (hc : c = .builtin "type.__call__" ⟨[.ref 44, .str x tk], []⟩)
    (dp un : Nat) (gd : Option (List Code)) (cn : Str) (cs : Scope) (ac : Addr) (ccd : Value) (cl : List (Str × Addr)) (outer : List Env) (A₀ : Around) (base h₀ : Heap) (L : Addr) (m : Str → Option Value) (s : Shared) (Q E : Value → Shared → Prop)
    (B : Below A₀ base outer h₀) (F : Fr h₀ L s.heap m) (X : (heapK w.params).In h₀) (N : News h₀ L s.heap ((e, excO t) :: (t, ot) :: news)) (hlt : ∀ p ∈ (t, ot) :: news, p.1 ≠ e) (T : Top p loose mean mg mb h₀) (hk : cs.kind = .function) (hd : dp + 3 < recursionLimit) (hu : un + 24 < cLine)
    (hret : ∀ r t' d od h' tk', Fr h₀ L h' m → News h₀ L h' ((d, od) :: (t', tupO (.str x tk)) :: (e, { excO t' with dict := some d }) :: (t, ot) :: news) → r = .none → (∀ p ∈ (t, ot) :: news, p.1 ≠ t') → Q r { s with heap := h', toks := tk' }) :
    wpAny (model PySem.Challenge.rw_pf0124_01.row.prog w) ((ktrTop dp un gd cn cs L ac ccd cl outer).under c) (call (.ref 28) [.ref e, .str x tk]) Q E s := by
  have kfd : kfDummy PySem.Challenge.rw_pf0124_01 heapK := by k_fill; trivial
  clear kfd
  subst hc
  refine wpAny_call ?_
  k_dflt ktr_enter
  k_steps
  all_goals exact hret _ _ _ _ _ _ (by assumption) (by assumption) rfl (by assumption)
end
end Mine
end
section
open PySem PySem.W PyProof.Rows PySem.Calls PySem.Spec
set_option maxRecDepth 100000
namespace Mine
noncomputable abbrev excD (t d : Addr) : Obj := { cls := .ref 44, dict := some d, data := .fields #[.ref t, .none, .none, .none, .bool false, .none] }
section
variable {prog : Program} {w : World} {M : Model} {A : Around} {E : Value → Shared → Prop} {env : Env}
theorem rf_raiseStmt {s : Shared} {x : Sem Value} {Q : Flow → Shared → Prop} (hh : A.handled = none)
    (h : wpAny M A x (fun v s₁ => ∃ e t d, v = .ref e ∧ (heapK w.params).In s₁.heap ∧ s₁.heap.get? e = some (excD t d) ∧ E (.ref e) s₁) E s) :
    wpAny M A (raiseStmt env (some x) none) Q E s := by
  unfold raiseStmt
  refine wpAny_bind (wpAny_mono h (fun v s₁ h₁ => ?_) fun _ _ x => x)
  obtain ⟨e, t, dd, rfl, X, he, hE⟩ := h₁
  obtain ⟨nm, q, bs, sn, sub, ab, col, d1, k0, k1, k2, k3, k5, hl⟩ := rf_cls w
  have hC := X _ _ hl
  obtain ⟨hp, g, d, tk, os⟩ := s₁
  repeat (first | with_reducible refine wpAny_loadPart_at he ?_ | with_reducible refine wpAny_loadPart_at hC ?_ | (with_reducible refine wpAny_isSubtype_exc hC ?_; rw [rf_cBase]) | wp_step)
  exact wpAny_raiseNew_none hh hE
end
section
variable {w : World} {p : Program} {loose : List Str} {mean : ExcName → Option Value} {mg mb : Str → Option Value} {news : Led} {x : Str}
    {dp un : Nat} {gd : Option (List Code)} {cn : Str} {cs : Scope} {ac : Addr} {ccd : Value} {outer : List Env} {A₀ : Around} {base h₀ : Heap} {L : Addr} {m : Str → Option Value} {s : Shared} {Q : Flow → Shared → Prop} {E : Value → Shared → Prop}
    {np cpos pos p1 : Pos} {k : Nat}
theorem rf_raise (B : Below A₀ base outer h₀) (F : Fr h₀ L s.heap m) (X : (heapK w.params).In h₀) (N : News h₀ L s.heap news) (T : Top p loose mean mg mb h₀) (hk : cs.kind = .function) (hdp : dp + 3 < recursionLimit) (hu : un + 24 < cLine)
    (hx : (envOf cn cs L ac ccd).kindOf "RunFault" = some .globalImplicit)
    (herr : ∀ e t d h' tk' led, Fr h₀ L h' m → News h₀ L h' ((e, excD t d) :: led) → (∀ p ∈ news, p ∈ led ∧ p.1 ≠ e ∧ p.1 ≠ t) → (∃ v, (t, tupO v) ∈ led) → E (.ref e) { s with heap := h', toks := tk' }) :
    wpAny (model PySem.Challenge.rw_pf0124_01.row.prog w) (ktrTop dp un gd cn cs L ac ccd [] outer) (exec (.Raise (some (.Call (.Name "RunFault" np) [.Constant (.str x) k p1] [] cpos)) none pos) (envOf cn cs L ac ccd)) Q E s := by
  rw [arm_exec_Raise]
  have tail : ∀ tk, wpAny (model PySem.Challenge.rw_pf0124_01.row.prog w) (ktrTop dp un gd cn cs L ac ccd [] outer) (call (.ref 44) ([] ++ [.str x tk])) (fun v s₁ => ∃ e t d, v = .ref e ∧ (heapK w.params).In s₁.heap ∧ s₁.heap.get? e = some (excD t d) ∧ E (.ref e) s₁) E { s with toks := s.toks + 1 } := by
    intro tk
    obtain ⟨h, g, dr, tks, os⟩ := s
    dsimp only at F N
    refine rf_call (X.keeps F.keep) ?_ (by show _ ≤ sizeLine; rw [sizeLine_eq]; exact Nat.le_of_ble_eq_true rfl)
    have F1 := F.push { cls := .type "tuple", data := .seq [Value.str x tk].toArray }
    have N1 := N.push F { cls := .type "tuple", data := .seq [Value.str x tk].toArray }
    have F2 := F1.push (excO h.objs.size)
    have N2 := N1.push F1 (excO h.objs.size)
    rw [Heap.size_push] at N2
    refine rf_init news (h.objs.size + 1) h.objs.size _ x tk _ rfl dp un gd cn cs ac ccd [] outer A₀ base h₀ L m _ _ E B F2 X N2 ?_ T hk hdp hu ?_
    · intro p hp
      rcases List.mem_cons.mp hp with rfl | hp
      · exact Nat.ne_of_lt (Nat.lt_succ_self _)
      · exact Nat.ne_of_lt (Nat.lt_succ_of_lt (Heap.lt_size (N.get hp)))
    · intro r t' d od h' tk' F' N' hr hn'
      refine ⟨hr, _, t', d, rfl, X.keeps F'.keep, N'.get (.tail _ (.tail _ (.head _))), ?_⟩
      refine herr _ t' d h' tk' ((d, od) :: (t', tupO (.str x tk)) :: (h.objs.size, { cls := .type "tuple", data := .seq [Value.str x tk].toArray }) :: news) F' (fun p hp => ?_) (fun p hp => ⟨.tail _ (.tail _ (.tail _ hp)), Nat.ne_of_lt (Nat.lt_succ_of_lt (Heap.lt_size (N.get hp))), hn' p (.tail _ hp)⟩) ⟨_, .tail _ (.head _)⟩
      refine N' p ?_
      rcases List.mem_cons.mp hp with rfl | hp
      · exact .tail _ (.tail _ (.head _))
      rcases List.mem_cons.mp hp with rfl | hp
      · exact .head _
      rcases List.mem_cons.mp hp with rfl | hp
      · exact .tail _ (.head _)
      rcases List.mem_cons.mp hp with rfl | hp
      · exact .tail _ (.tail _ (.tail _ (.head _)))
      · exact .tail _ (.tail _ (.tail _ (.tail _ hp)))
  refine wpAny_bind (wpAny_standAt (rf_raiseStmt (w := w) rfl (wpAny_bind (wpAny_mono (wpAny_Call_ofName (name_K (v := .ref 44) F X (topRead_of T) (rfl : nsIn (heapK w.params) mainGlobals "RunFault" = some (some (.ref 44))) ?_ hk hx rfl)) (fun v s₃ h₃ => wpAny_bind (wpAny_standAt (wpAny_pure h₃))) fun _ _ x => x))))
  refine callWith_K X (rfl : keepIn (heapK w.params) (.ref 44) = true) (Calls.spliced_cons (Calls.Constant_str (pos := p1) (k := k) (Calls.spliced_nil ⟨X.keeps F.keep, tail _⟩)))
end
section
variable {M : Model} {A : Around} {E : Value → Shared → Prop} {s' : Shared} {base g h : Heap} {outer : List Env} {L a e t d : Addr} {m : Str → Option Value} {name : Str} {scope : Scope} {cd : Value} {Q : Unit → Shared → Prop} {news led : Led}
theorem rf_leave (K : Below A base outer g) (F : Fr g L s'.heap m) (N : News g L s'.heap ((e, excD t d) :: led)) (hsub : ∀ p ∈ news, p ∈ led ∧ p.1 ≠ e ∧ p.1 ≠ t) (htup : ∃ v, (t, tupO v) ∈ led)
    (hQ : ∀ h' vs, RaisedS base g outer e (.ref 44) t vs news h' → g.UpToSlots h' → Q () { s' with heap := h' }) (hk : scope.kind = .function := by rfl) :
    wpAny M (A.deeper (envOf name scope L a cd)) (leaving (envOf name scope L a cd) (.ref e)) Q E s' := by
  have K' := K.push (name := name) (a := a) (cd := cd) F hk
  obtain ⟨v, htup⟩ := htup
  have hNt := N (t, tupO v) (.tail _ htup)
  have hNe := N (e, excD t d) (.head _)
  have hin : ∀ env ∈ (envOf name scope L a cd :: outer), ∀ b, env.frame = some b → b ∈ e :: t :: (envOf name scope L a cd :: outer).filterMap (·.frame) := fun env he b hb => .tail _ (.tail _ (List.mem_filterMap.mpr ⟨env, he, hb⟩))
  have gone : ∀ b o, g.get? b = some o → b ∉ outer.filterMap (·.frame) → b ∉ e :: t :: (envOf name scope L a cd :: outer).filterMap (·.frame) := fun b o q nm hm => by
    rcases List.mem_cons.mp hm with rfl | hm
    · rw [hNe.2.2] at q; cases q
    rcases List.mem_cons.mp hm with rfl | hm
    · rw [hNt.2.2] at q; cases q
    rcases kts_mem hm with z | z
    · rw [z, kts_self F] at q; cases q
    · exact nm z
  have st : base.StaysIn (hideAll s'.heap (e :: t :: (envOf name scope L a cd :: outer).filterMap (·.frame))) := fun b o q => hideAll_get _ (K'.stays b o q) (gone b o (K.stays b o q) fun hm => by
    rw [(K.frames.mem hm).1] at q; cases q)
  have sg : ∀ b o, g.get? b = some o → b ∉ outer.filterMap (·.frame) → (hideAll s'.heap (e :: t :: (envOf name scope L a cd :: outer).filterMap (·.frame))).get? b = some o := fun b o q nm => hideAll_get _ (F.keep b o q) (gone b o q nm)
  have hl : ∀ q ∈ news, (hideAll s'.heap (e :: t :: (envOf name scope L a cd :: outer).filterMap (·.frame))).get? q.1 = some q.2 ∧ g.get? q.1 = none ∧ base.get? q.1 = none := fun q hq => by
    obtain ⟨h1, h2, h3⟩ := hsub q hq
    have n1 := N q (.tail _ h1)
    refine ⟨hideAll_get _ n1.1 fun hm => ?_, n1.2.2, fresh_of_stays K.stays n1.2.2⟩
    rcases List.mem_cons.mp hm with z | hm
    · exact h2 z
    rcases List.mem_cons.mp hm with z | hm
    · exact h3 z
    obtain ⟨env, he, hf⟩ := List.mem_filterMap.mp hm
    rcases List.mem_cons.mp he with rfl | he
    · exact n1.2.1 (Option.some.inj hf).symm
    · obtain ⟨o, ho, _⟩ := (K.frames.mem (List.mem_filterMap.mpr ⟨env, he, hf⟩)).2
      rw [n1.2.2] at ho; cases ho
  have hstay : (hideAll s'.heap (e :: t :: (envOf name scope L a cd :: outer).filterMap (·.frame))).StaysIn s'.heap := fun b o q => of_hideAll _ q
  refine wpAny_leaving_firstW (a0 := .ref t) K'.stack (funFrames_hide K'.frames hin) rfl hNe.1 hstay (hideAll_none _ (.head _)) rfl rfl rfl fun h' hL => ?_
  obtain ⟨k1, ⟨_, _, k2⟩, k3, k4⟩ := hL
  have up : s'.heap.UpToSlots h' := k4
  exact hQ h' [v] ⟨⟨_, st, sg, hl, ⟨k1, hideAll_none _ (.head _), k2, k3⟩, hideAll_none _ (.tail _ (.head _))⟩, Heap.TupAt.of_slots ⟨_, _, hNt.1, rfl, rfl⟩ up⟩ ((Heap.UpToSlots.of_keeps F.keep).trans up)
end
end Mine
namespace Mine
theorem RaisedS.sub {base G : Heap} {l : List Env} {e : Addr} {cls : Value} {t : Addr} {vs : List Value} {news news' : Led} {h : Heap} (R : RaisedS base G l e cls t vs news h) (hs : ∀ p ∈ news', p ∈ news) : RaisedS base G l e cls t vs news' h := by
  obtain ⟨⟨B, a, b, c, d⟩, k⟩ := R
  exact ⟨⟨B, a, b, fun q hq => c q (hs q hq), d⟩, k⟩
section
variable {w : World} {h₀ : Heap} {L : Addr} {m : Str → Option Value} {s : Shared} {Q : Value → Shared → Prop} {h' : Heap} {tk' : Nat} {news : Led} {x' y' : Int} {a : Addr} {o : Option (Int × Int)} {q : Int × Int}
end
end Mine
namespace Mine
end Mine
end
section
open Mine.FLx (ξ ν κ ζ δ η π ω)
open Mine.FCx (φ ψ θ ϑ Φ Ψ φn ψn θn ϑn Φn Ψn)
open PySem PySem.W PyProof.Rows
namespace Mine
end Mine
namespace Mine
theorem ep_p1 {a e d : Int} (h : EpOk a e d) : 0 ≤ 2 * epP a e d := by have := h.p0; exact fk1 [_] [] (φ (κ 0) (π 2 (ξ 0))) 1 2 (φ (κ 0) (ξ 0)) yes this
theorem ep_p2 {a e d : Int} (h : EpOk a e d) : 2 * epP a e d ≤ 1000000 := by have := h.p1; exact fk1 [_] [] (φ (π 2 (ξ 0)) (κ 1000000)) 1 2 (φ (ξ 0) (κ 100)) yes this
end Mine
end
section
open Mine.FLx (ξ ν κ ζ δ η π ω)
open Mine.FCx (φ ψ θ ϑ Φ Ψ φn ψn θn ϑn Φn Ψn)
namespace Mine
structure At2Ok (y v x u d : Int) : Prop where
  d0 : 0 ≤ d
  d1 : d ≤ 50
  hs : Sm (htV (d + 10))
  q1 : cd ((1 * htV (d + 10)).fdiv 2) ≤ 1900
  q2 : cd ((2 * htV (d + 10)).fdiv 2) ≤ 1900
  sy : Sm y
  sx : Sm x
  cx : cd x ≤ 1000
  cq : cd (quV y x (v - u) d).1 ≤ 1900
  e0 : 0 ≤ v - lowV v u
  e1 : v - lowV v u ≤ 1000
  f0 : 0 ≤ u - lowV v u
  f1 : u - lowV v u ≤ 1000
  sa : Sm (absI y * 10 ^ (v - lowV v u).toNat)
  sb : Sm (absI x * 10 ^ (u - lowV v u).toNat)
  p0 : 0 ≤ atP y v x u d
  p1 : atP y v x u d ≤ 100
  c1 : cd (atA y v x u d) ≤ 1900
  c2 : cd (htV (atP y v x u d) - atA y v x u d) ≤ 1900
section
variable {y v x u d top : Int} {o : Option (Int × Int)}
theorem at_none (h : y = 0) (h2 : x = 0) : at2V y v x u d top = none := by unfold at2V; rw [if_pos ⟨h, h2⟩]
theorem at_0p (h : y = 0) (hx : 0 < x) : at2V y v x u d top = some (0, 0) := by unfold at2V; rw [if_neg (fun z => by exact fn2 [_] [] 1 (ψ (κ 0) (ξ 0)) 1 (θ (ξ 0) (κ 0)) yes hx z.2), if_pos h, if_pos hx]
theorem at_0n (h : y = 0) (h2 : ¬ x = 0) (hx : ¬ 0 < x) (k : saV y 2 d top = o) : at2V y v x u d top = o := by unfold at2V; rw [if_neg (fun z => h2 z.2), if_pos h, if_neg hx]; exact k
theorem at_x0 (h : ¬ y = 0) (h2 : x = 0) (k : saV y 1 d top = o) : at2V y v x u d top = o := by unfold at2V; rw [if_neg (fun z => h z.1), if_neg h, if_pos (.inl h2)]; exact k
theorem at_st (h : ¬ y = 0) (h2 : d + 2 < cd y + v - (cd x + u)) (k : saV y 1 d top = o) : at2V y v x u d top = o := by unfold at2V; rw [if_neg (fun z => h z.1), if_neg h, if_pos (.inr h2)]; exact k
theorem at_fp (h : ¬ y = 0) (hx0 : ¬ x = 0) (h2 : ¬ d + 2 < cd y + v - (cd x + u)) (h3 : d + 2 < cd x + u - (cd y + v)) (hx : 0 < x) (k : rdvV y v x u d top = o) : at2V y v x u d top = o := by
  unfold at2V; rw [if_neg (fun z => h z.1), if_neg h, if_neg (fun z => z.elim hx0 h2), if_pos h3, if_pos hx]; exact k
theorem at_fn (h : ¬ y = 0) (hx0 : ¬ x = 0) (h2 : ¬ d + 2 < cd y + v - (cd x + u)) (h3 : d + 2 < cd x + u - (cd y + v)) (hx : ¬ 0 < x) (k : saV y 2 d top = o) : at2V y v x u d top = o := by
  unfold at2V; rw [if_neg (fun z => h z.1), if_neg h, if_neg (fun z => z.elim hx0 h2), if_pos h3, if_neg hx]; exact k
theorem at_g (h : ¬ y = 0) (hx0 : ¬ x = 0) (h2 : ¬ d + 2 < cd y + v - (cd x + u)) (h3 : ¬ d + 2 < cd x + u - (cd y + v)) (k : rr (sgn y (atB y v x u d)) (-atP y v x u d) d top = o) : at2V y v x u d top = o := by
  unfold at2V; rw [if_neg (fun z => h z.1), if_neg h, if_neg (fun z => z.elim hx0 h2), if_neg h3]; exact k
theorem atb_n {e : Int} (h : x < 0) (k : rr (sgn y (htV (atP y v x u d) - atA y v x u d)) e d top = o) : rr (sgn y (atB y v x u d)) e d top = o := by unfold atB; rw [if_pos h]; exact k
theorem atb_p {e : Int} (h : ¬ x < 0) (k : rr (sgn y (atA y v x u d)) e d top = o) : rr (sgn y (atB y v x u d)) e d top = o := by unfold atB; rw [if_neg h]; exact k
theorem at_ann : 0 ≤ absI y * 10 ^ (v - lowV v u).toNat := Int.mul_nonneg (absI_nn _) (Int.le_of_lt (pow_pos10 _))
theorem at_bnn : 0 ≤ absI x * 10 ^ (u - lowV v u).toNat := Int.mul_nonneg (absI_nn _) (Int.le_of_lt (pow_pos10 _))
theorem at_ab0 {k l : Nat} (h : ¬ y = 0) : ¬ (absI y * 10 ^ k = 0 ∧ absI x * 10 ^ l = 0) := fun z => by
  have a : 0 < absI y := by unfold absI; split <;> lia
  have := Int.mul_pos a (pow_pos10 k)
  exact fn2 [_] [] 1 (θ (ξ 0) (κ 0)) 1 (ψ (κ 0) (ξ 0)) yes z.1 this
theorem At2Ok.smy (h : At2Ok y v x u d) : Sm (absI y) := h.sy.abs
theorem At2Ok.smx (h : At2Ok y v x u d) : Sm (absI x) := h.sx.abs
end
end Mine
end
section
open Mine.FLx (ξ ν κ ζ δ η π ω)
open Mine.FCx (φ ψ θ ϑ Φ Ψ φn ψn θn ϑn Φn Ψn)
open PySem PySem.W PyProof.Rows
namespace Mine
section
variable {x y d top : Int} {o : Option (Int × Int)}
theorem as1 (h : tinyB x y d = true) (k : rr x y d top = o) : asV x y d top = o := by unfold asV; rw [if_pos h]; exact k
theorem sh1 (h : tinyB x y d = true) (k : rr x y d top = o) : shV x y d top = o := by unfold shV; rw [if_pos h]; exact k
theorem sh2 (h : tinyB x y d = false) (h2 : greatB x y top = true) : shV x y d top = none := by unfold shV; rw [if_neg (by rw [h]; decide), if_pos h2]
theorem sh3 (h : tinyB x y d = false) (h2 : greatB x y top = false) (k : rr (sgn x ((epG (absI x) y d - epD (absI x) y d) * 5)) (-epP (absI x) y d - 1) d top = o) : shV x y d top = o := by
  unfold shV; rw [if_neg (by rw [h]; decide), if_neg (by rw [h2]; decide)]; exact k
theorem ch1 (h : tinyB x y d = true) : chV x y d top = some (1, 0) := by unfold chV; rw [if_pos h]
theorem ch2 (h : tinyB x y d = false) (h2 : greatB x y top = true) : chV x y d top = none := by unfold chV; rw [if_neg (by rw [h]; decide), if_pos h2]
theorem ch3 (h : tinyB x y d = false) (h2 : greatB x y top = false) (k : rr ((epG (absI x) y d + epD (absI x) y d) * 5) (-epP (absI x) y d - 1) d top = o) : chV x y d top = o := by
  unfold chV; rw [if_neg (by rw [h]; decide), if_neg (by rw [h2]; decide)]; exact k
theorem th1 (h : tinyB x y d = true) (k : rr x y d top = o) : thV x y d top = o := by unfold thV; rw [if_pos h]; exact k
end
end Mine
end
section
open Mine.FLx (ξ ν κ ζ δ η π ω)
open Mine.FCx (φ ψ θ ϑ Φ Ψ φn ψn θn ϑn Φn Ψn)
namespace Mine
/-! the law's own helpers -/
noncomputable def dropV (m d : Int) : Int := if cd m - d > 0 then cd m - d else 0
noncomputable def ev0 (m d : Int) : Int := (absI m).fdiv (10 ^ (dropV m d).toNat)
noncomputable def evr (m d : Int) : Int := (absI m).fmod (10 ^ (dropV m d).toNat)
noncomputable def ev1 (m d : Int) : Int := if 10 ^ (dropV m d).toNat < 2 * evr m d ∨ (0 < dropV m d ∧ 2 * evr m d = 10 ^ (dropV m d).toNat ∧ (ev0 m d).fmod 2 = 1) then ev0 m d + 1 else ev0 m d
noncomputable def stP (w e : Int) : Int × Int := if w = 0 then (0, e) else strip w e
noncomputable def evS (m e d : Int) : Int × Int := stP (ev1 m d) (e + dropV m d)
noncomputable def evV (m e d : Int) : Int × Int := if (evS m e d).1 = 0 then (0, 0) else (if 0 < m then (evS m e d).1 else -(evS m e d).1, (evS m e d).2)
theorem drop0 (m d : Int) : 0 ≤ dropV m d := by unfold dropV; split <;> omega
theorem drop1 {m d : Int} (hc : cd m ≤ 1900) (hd : 0 ≤ d) : dropV m d ≤ 1900 := by unfold dropV; have := cd_nonneg m; split <;> omega
theorem ev0_nn (m d : Int) : 0 ≤ ev0 m d := by
  unfold ev0; rw [fdivP (pow_pos10 _)]; exact div_nn (pow_pos10 _) (absI_nn m)
theorem ev1_nn (m d : Int) : 0 ≤ ev1 m d := by have := ev0_nn m d; unfold ev1; split <;> omega
theorem evl_s0 {m e d K : Int} (h : K = ev1 m d) : 0 ≤ K ∧ stP K (e + dropV m d) = evS m e d := by subst h; exact ⟨ev1_nn m d, rfl⟩
theorem evl_s1 {k c : Int} {R : Int × Int} (h0 : 0 < k) (h1 : k.fmod 10 = 0) (h : stP k c = R) : 0 ≤ k.fdiv 10 ∧ stP (k.fdiv 10) (c + 1) = R := by
  rw [fmod10] at h1; rw [fdiv10]
  unfold stP at *
  rw [if_neg (by exact fun hq => fn2 [_] [] 1 (ψ (κ 0) (ξ 0)) 1 (θ (ξ 0) (κ 0)) yes h0 hq)] at h
  rw [if_neg (by lia)]
  exact ⟨by lia, by rw [← strip_step (by exact fun hq => fn2 [_] [] 1 (ψ (κ 0) (ξ 0)) 1 (θ (ξ 0) (κ 0)) yes h0 hq) h1]; exact h⟩
theorem evl_m {k : Int} (h0 : 0 < k) : (k.fdiv 10).toNat < k.toNat := fdiv_less h0 (by decide)
theorem evl_e0 {k c m e d : Int} (h : stP k c = evS m e d) (h0 : 0 ≤ k) (h1 : ¬ 0 < k) : (evS m e d).1 = 0 := by
  have : k = 0 := by exact Int.le_antisymm (fk1 [_] [] (φ (ξ 0) (κ 0)) 1 1 (Ψ (κ 0) (ξ 0)) yes h1) (fk1 [_] [] (φ (κ 0) (ξ 0)) 1 1 (φ (κ 0) (ξ 0)) yes h0)
  subst this; rw [← h]; rfl
theorem evl_e1 {k c m e d : Int} (h : stP k c = evS m e d) (h0 : 0 < k) (h1 : ¬ k.fmod 10 = 0) : evS m e d = (k, c) := by
  rw [fmod10] at h1
  rw [← h]; unfold stP; rw [if_neg (by exact fun hq => fn2 [_] [] 1 (ψ (κ 0) (ξ 0)) 1 (θ (ξ 0) (κ 0)) yes h0 hq), strip_stop h1]
theorem evv_0 {k c m e d : Int} (h : stP k c = evS m e d) (h0 : 0 ≤ k) (h1 : ¬ 0 < k) : evV m e d = (0, 0) := by unfold evV; rw [if_pos (evl_e0 h h0 h1)]
theorem evv_p {k c m e d : Int} (h : stP k c = evS m e d) (h0 : 0 < k) (h1 : ¬ k.fmod 10 = 0) (hm : 0 < m) : evV m e d = (k, c) := by
  unfold evV; rw [evl_e1 h h0 h1, if_neg (by show ¬ k = 0; exact fun hq => fn2 [_] [] 1 (ψ (κ 0) (ξ 0)) 1 (θ (ξ 0) (κ 0)) yes h0 hq), if_pos hm]
theorem evv_n {k c m e d : Int} (h : stP k c = evS m e d) (h0 : 0 < k) (h1 : ¬ k.fmod 10 = 0) (hm : ¬ 0 < m) : evV m e d = (-k, c) := by
  unfold evV; rw [evl_e1 h h0 h1, if_neg (by show ¬ k = 0; exact fun hq => fn2 [_] [] 1 (ψ (κ 0) (ξ 0)) 1 (θ (ξ 0) (κ 0)) yes h0 hq), if_neg hm]
noncomputable def nlow (v u d : Int) : Int := (if u < v then u else v) - d - 1
noncomputable def neA (x y u v d : Int) : Int := x * 10 ^ (y - nlow y v d).toNat
noncomputable def neB (x y u v d : Int) : Int := u * 10 ^ (v - nlow y v d).toNat
noncomputable def neT (x y u v d k : Int) : Int := k * 10 ^ ((if cd (neB x y u v d) > cd (neA x y u v d) then cd (neB x y u v d) else cd (neA x y u v d)) - d).toNat
noncomputable def nearB (x y u v d k : Int) : Bool := decide (absI (neA x y u v d - neB x y u v d) ≤ neT x y u v d k)
end Mine
namespace Mine
open PySem PySem.W PyProof.Rows
end Mine
end
section
open Mine.FLx (ξ ν κ ζ δ η π ω)
open Mine.FCx (φ ψ θ ϑ Φ Ψ φn ψn θn ϑn Φn Ψn)
namespace Mine
noncomputable def neC (x y u v d : Int) : Int := (if cd (neB x y u v d) > cd (neA x y u v d) then cd (neB x y u v d) else cd (neA x y u v d)) - d
structure NearOk (x y u v d : Int) : Prop where
  d0 : 0 ≤ d
  sx : Sm x
  su : Sm u
  e1 : y - nlow y v d ≤ 1000
  e2 : v - nlow y v d ≤ 1000
  t0 : 0 ≤ neC x y u v d
  t1 : neC x y u v d ≤ 1000
theorem NearOk.e10 {x y u v d : Int} (h : NearOk x y u v d) : 0 ≤ y - nlow y v d := by have := h.d0; unfold nlow; split <;> omega
theorem NearOk.e20 {x y u v d : Int} (h : NearOk x y u v d) : 0 ≤ v - nlow y v d := by have := h.d0; unfold nlow; split <;> omega
theorem NearOk.s1 {x y u v d : Int} (h : NearOk x y u v d) : Sm (10 ^ (y - nlow y v d).toNat) := sm_pow (by have := h.e1; have := h.e10; lia)
theorem NearOk.s2 {x y u v d : Int} (h : NearOk x y u v d) : Sm (10 ^ (v - nlow y v d).toNat) := sm_pow (by have := h.e2; have := h.e20; lia)
theorem NearOk.s3 {x y u v d : Int} (h : NearOk x y u v d) : Sm (10 ^ (neC x y u v d).toNat) := sm_pow (by have := h.t0; have := h.t1; lia)
end Mine
namespace Mine
open PySem PySem.W PyProof.Rows
section
variable {x y d K e k : Int}
end
end Mine
end
section
open PySem PySem.W PyProof.Rows
set_option maxRecDepth 100000
namespace Mine
section
variable {prog : Program} {w : World} {A : Around} {E : Value → Shared → Prop} {s : Shared} {a b : Int} {t u : Tok} {Q : Value → Shared → Prop}
end
noncomputable def PairE (o : Obj) (x y : Int) : Prop := o.cls = .type "tuple" ∧ ∃ t u n, o.data = .seq #[.int x t, .int y u] n
theorem PairE.pin {w : World} {o : Obj} {x y : Int} {a : Addr} {news : Led} (h : PairE o x y) (hm : (a, o) ∈ news) : PairIn w news a x y := by
  obtain ⟨h1, t, u, n, h2⟩ := h
  exact ⟨o, t, u, n, h1, h2, .inl hm⟩
theorem PairE.pinN {w : World} {o : Obj} {x y : Int} {a : Addr} {led : Led} {h₀ : Heap} {L : Addr} {h' : Heap} (h : PairE o x y) (_N : News h₀ L h' ((a, o) :: led)) : PairIn w ((a, o) :: led) a x y := h.pin (.head _)
noncomputable def EvenOut (x y : Int) (r : Value) (tl : Led) : Prop := ∃ a o, r = .ref a ∧ tl = [(a, o)] ∧ PairE o x y
section
variable {prog : Program} {w w₀ : World} {A : Around} {E : Value → Shared → Prop} {s : Shared} {h₀ : Heap} {L : Addr} {m : Str → Option Value} {news : Led} {x y x' y' : Int}
theorem newPairE {t u : Tok} {Q : Value → Shared → Prop} (F : Fr h₀ L s.heap m) (N : News h₀ L s.heap news)
    (h : ∀ a o h', Fr h₀ L h' m → News h₀ L h' ((a, o) :: news) → PairIn w₀ ((a, o) :: news) a x y → PairE o x y → Q (.ref a) { s with heap := h' }) :
    wpAny (model prog w) A (newTuple [.int x t, .int y u]) Q E s :=
  newTuple_N F N (fun h' F' N' => h _ _ h' F' N' ⟨_, t, u, _, rfl, rfl, .inl (.head _)⟩ ⟨rfl, t, u, _, rfl⟩) (by show _ ≤ sizeLine; rw [sizeLine_eq]; exact Nat.le_of_ble_eq_true rfl)
end
section
variable {x y d K e k c W R M M2 P1 P2 P3 P4 : Int}
end
end Mine
end
section
namespace Mine
noncomputable def halfI : Int := 31415926535897932384626433832795028841971
theorem sm_half : Sm 31415926535897932384626433832795028841971 := by unfold Sm; decide +kernel
noncomputable def anR (a b : Int) : Int := halfI * 10 ^ (-40 - (b - 45)).toNat - a * 10 ^ (45 : Int).toNat
noncomputable def anF (y x : Int) : Int := (y * 10 ^ (60 : Int).toNat).fdiv x
structure AngleOk (y v x u d a b a2 b2 : Int) : Prop where
  o1 : At2Ok y v x u d
  o2 : At2Ok (-y) v x u d
  o3 : At2Ok y v (-x) u d
  o4 : At2Ok (-y) v (-x) u d
  e1 : at2V y v x u d 99 = some (a, b)
  e2 : at2V (-y) v x u d 99 = some (-a, b)
  e3 : at2V y v (-x) u d 99 = some (a2, b2)
  e4 : at2V (-y) v (-x) u d 99 = some (-a2, b2)
  p0 : 0 ≤ -40 - (b - 45)
  p1 : -40 - (b - 45) ≤ 1000
  sa : Sm a
  sy : Sm y
  sx : Sm x
  x0 : x ≠ 0
  n1 : NearOk a2 b2 (anR a b) (b - 45) d ∧ nearB a2 b2 (anR a b) (b - 45) d 2 = true
  n2 : d + 2 < u + cd x - v - cd y → NearOk a b (anF y x) (v - u - 60) d ∧ nearB a b (anF y x) (v - u - 60) d 2 = true
structure AxesOk (y v d : Int) : Prop where
  d0 : 0 ≤ d
  o1 : At2Ok 0 0 y v d
  o2 : At2Ok 0 0 (-y) v d
  o3 : At2Ok y v 0 0 d
  o4 : At2Ok (-y) v 0 0 d
  o5 : At2Ok 0 0 0 0 d
  e1 : at2V 0 0 y v d 99 = some (0, 0)
  e2 : at2V 0 0 (-y) v d 99 = some ((evV 31415926535897932384626433832795028841971 (-40) d).1, (evV 31415926535897932384626433832795028841971 (-40) d).2)
  e3 : at2V y v 0 0 d 99 = some ((evV (31415926535897932384626433832795028841971 * 5) (-41) d).1, (evV (31415926535897932384626433832795028841971 * 5) (-41) d).2)
  e4 : at2V (-y) v 0 0 d 99 = some (-(evV (31415926535897932384626433832795028841971 * 5) (-41) d).1, (evV (31415926535897932384626433832795028841971 * 5) (-41) d).2)
  e5 : at2V 0 0 0 0 d 99 = none
theorem cd_half : cd 31415926535897932384626433832795028841971 ≤ 1900 := by decide +kernel
theorem cd_half5 : cd (31415926535897932384626433832795028841971 * 5) ≤ 1900 := by decide +kernel
structure TinyOk (m d a1 b1 a2 b2 a3 b3 a4 b4 : Int) : Prop where
  d0 : 0 ≤ d
  c0 : cd m ≤ 1900
  c00 : cd 0 ≤ 1900
  A : beyB m (-d - cd m - 1) = false → ArcCond m (-d - cd m - 1) d
  A0 : beyB 0 0 = false → ArcCond 0 0 d
  O : At2Ok m (-d - cd m - 1) 1 0 d
  E : EpOk (absI m) (-d - cd m - 1) d
  e1 : asV m (-d - cd m - 1) d 99 = some (a1, b1)
  e2 : at2V m (-d - cd m - 1) 1 0 d 99 = some (a2, b2)
  e3 : shV m (-d - cd m - 1) d 99 = some (a3, b3)
  e4 : thV m (-d - cd m - 1) d 99 = some (a4, b4)
  e5 : chV m (-d - cd m - 1) d 99 = some (1, 0)
  e6 : asV 0 0 d 99 = some (0, 0)
  n1 : NearOk a1 b1 (evV m (-d - cd m - 1) d).1 (evV m (-d - cd m - 1) d).2 d ∧ nearB a1 b1 (evV m (-d - cd m - 1) d).1 (evV m (-d - cd m - 1) d).2 d 1 = true
  n2 : NearOk a2 b2 (evV m (-d - cd m - 1) d).1 (evV m (-d - cd m - 1) d).2 d ∧ nearB a2 b2 (evV m (-d - cd m - 1) d).1 (evV m (-d - cd m - 1) d).2 d 1 = true
  n3 : NearOk a3 b3 (evV m (-d - cd m - 1) d).1 (evV m (-d - cd m - 1) d).2 d ∧ nearB a3 b3 (evV m (-d - cd m - 1) d).1 (evV m (-d - cd m - 1) d).2 d 1 = true
  n4 : NearOk a4 b4 (evV m (-d - cd m - 1) d).1 (evV m (-d - cd m - 1) d).2 d ∧ nearB a4 b4 (evV m (-d - cd m - 1) d).1 (evV m (-d - cd m - 1) d).2 d 1 = true
end Mine
end
section
namespace Mine
structure StepsOk (x y d top s1 s2 c1 c2 t1 t2 : Int) : Prop where
  d0 : 0 ≤ d
  top0 : 0 ≤ top
  top1 : top ≤ 1000
  cx : cd x ≤ 1900
  cn : cd (-x) ≤ 1900
  E : EpOk (absI x) y d
  En : EpOk (absI (-x)) y d
  w1 : shV x y d (1000 * top + 1000) = some (s1, s2)
  w2 : top < s2 + cd s1 - 1 → shV x y d top = none
  w3 : ¬ top < s2 + cd s1 - 1 → shV x y d top = some (s1, s2)
  v1 : chV x y d (1000 * top + 1000) = some (c1, c2)
  v2 : top < c2 + cd c1 - 1 → chV x y d top = none
  v3 : ¬ top < c2 + cd c1 - 1 → chV x y d top = some (c1, c2)
  th : thV x y d top = some (t1, t2)
  thn : thV (-x) y d top = some (-t1, t2)
  pe0 : 0 ≤ 30 - t2
  pe1 : 30 - t2 ≤ 1000
  st : Sm t1
  le : absI t1 * 10 ^ 30 ≤ 10 ^ (30 - t2).toNat
  y0 : 0 ≤ y + 3
  y1 : y + 3 ≤ 1000
  sx : Sm x
  sd : Sm (2 * d)
  gr : 2 * d * 1000 < absI x * 10 ^ (y + 3).toNat → t1 = (if x > 0 then 1 else -1) ∧ t2 = 0
end Mine
end
section
namespace Mine
structure OnesOk (k d : Int) : Prop where
  d0 : 0 ≤ d
  k0 : 0 ≤ k
  k1 : k ≤ 3
  c1 : cd (10 ^ k.toNat) ≤ 1900
  c1n : cd (-(10 ^ k.toNat)) ≤ 1900
  A1 : beyB (10 ^ k.toNat) (-k) = false → ArcCond (10 ^ k.toNat) (-k) d
  A1n : beyB (-(10 ^ k.toNat)) (-k) = false → ArcCond (-(10 ^ k.toNat)) (-k) d
  e1 : asV (10 ^ k.toNat) (-k) d 99 = some ((evV (31415926535897932384626433832795028841971 * 5) (-41) d).1, (evV (31415926535897932384626433832795028841971 * 5) (-41) d).2)
  e2 : asV (-(10 ^ k.toNat)) (-k) d 99 = some (-(evV (31415926535897932384626433832795028841971 * 5) (-41) d).1, (evV (31415926535897932384626433832795028841971 * 5) (-41) d).2)
  e3 : acV (10 ^ k.toNat) (-k) d 99 = some (0, 0)
  e4 : acV (-(10 ^ k.toNat)) (-k) d 99 = some ((evV 31415926535897932384626433832795028841971 (-40) d).1, (evV 31415926535897932384626433832795028841971 (-40) d).2)
  c2 : cd (10 ^ k.toNat + 1) ≤ 1900
  c2n : cd (-(10 ^ k.toNat + 1)) ≤ 1900
  A2 : 0 < k → beyB (10 ^ k.toNat + 1) (-k) = false → ArcCond (10 ^ k.toNat + 1) (-k) d
  A2n : 0 < k → beyB (-(10 ^ k.toNat + 1)) (-k) = false → ArcCond (-(10 ^ k.toNat + 1)) (-k) d
  b1 : 0 < k → asV (10 ^ k.toNat + 1) (-k) d 99 = none
  b1n : 0 < k → asV (-(10 ^ k.toNat + 1)) (-k) d 99 = none
  b2 : 0 < k → acV (10 ^ k.toNat + 1) (-k) d 99 = none
  b2n : 0 < k → acV (-(10 ^ k.toNat + 1)) (-k) d 99 = none
  c3 : cd 2 ≤ 1900
  c3n : cd (-2) ≤ 1900
  A3 : beyB 2 0 = false → ArcCond 2 0 d
  A3n : beyB (-2) 0 = false → ArcCond (-2) 0 d
  b3 : asV 2 0 d 99 = none
  b3n : asV (-2) 0 d 99 = none
  b4 : acV 2 0 d 99 = none
  b4n : acV (-2) 0 d 99 = none
end Mine
end
section
open PySem PySem.W PyProof.Rows PySem.Calls
set_option maxRecDepth 100000
namespace Mine
noncomputable def CallS (w : World) (p : Program) (loose : List Str) (mean : ExcName → Option Value) (mg mb : Str → Option Value) (f : Addr) (cost : Nat) (news : Led) (vs : List Value) (Post : Value → Led → Prop) : Prop :=
  ∀ (dp un : Nat) (gd : Option (List Code)) (cn : Str) (cs : Scope) (a : Addr) (ccd : Value) (outer : List Env) (A₀ : Around) (base h₀ : Heap) (L : Addr) (m : Str → Option Value) (s : Shared) (Q E : Value → Shared → Prop),
    Below A₀ base outer h₀ → Fr h₀ L s.heap m → (heapK w.params).In h₀ → News h₀ L s.heap news → Top p loose mean mg mb h₀ → (heapK w.params).In base → Top p loose mean mg mb base → KtsDicts (outer.filterMap (·.frame)) h₀ → cs.kind = .function → dp + cost < recursionLimit → un + 8 * cost < cLine →
    (∀ r tl h₀' h' tk', KtsTurn (outer.filterMap (·.frame)) h₀ h₀' → Fr h₀' L h' m → News h₀' L h' (tl ++ news) → Below A₀ base outer h₀' → (heapK w.params).In h₀' → Top p loose mean mg mb h₀' → KtsDicts (outer.filterMap (·.frame)) h₀' → Post r tl → Q r { s with heap := h', toks := tk' }) →
    wpAny (model PySem.Challenge.rw_pf0124_01.row.prog w) (ktrTop dp un gd cn cs L a ccd [] outer) (call (.ref f) vs) Q E s
noncomputable def CallS0 (w : World) (p : Program) (loose : List Str) (mean : ExcName → Option Value) (mg mb : Str → Option Value) (f : Addr) (cost : Nat) (news : Led) (vs : List Value) (Post : Value → Led → Prop) : Prop :=
  ∀ (dp un : Nat) (gd : Option (List Code)) (cn : Str) (cs : Scope) (a : Addr) (ccd : Value) (A₀ : Around) (base h₀ : Heap) (L : Addr) (m : Str → Option Value) (s : Shared) (Q E : Value → Shared → Prop),
    Below A₀ base [] h₀ → Fr h₀ L s.heap m → (heapK w.params).In h₀ → News h₀ L s.heap news → Top p loose mean mg mb h₀ → (heapK w.params).In base → Top p loose mean mg mb base → cs.kind = .function → dp + cost < recursionLimit → un + 8 * cost < cLine →
    (∀ r tl h' tk', Fr h₀ L h' m → News h₀ L h' (tl ++ news) → Post r tl → Q r { s with heap := h', toks := tk' }) →
    wpAny (model PySem.Challenge.rw_pf0124_01.row.prog w) (ktrTop dp un gd cn cs L a ccd [] []) (call (.ref f) vs) Q E s
section
variable {w : World} {p : Program} {loose : List Str} {mean : ExcName → Option Value} {mg mb : Str → Option Value} {f : Addr} {cost : Nat} {news : Led} {vs : List Value} {Post : Value → Led → Prop}
theorem CallS.use (C : CallS w p loose mean mg mb f cost news vs Post)
    {dp un : Nat} {gd : Option (List Code)} {cn : Str} {cs : Scope} {a : Addr} {ccd : Value} {outer : List Env} {A₀ : Around} {base h₀ : Heap} {L : Addr} {m : Str → Option Value} {s : Shared} {Q E : Value → Shared → Prop}
    (B : Below A₀ base outer h₀) (F : Fr h₀ L s.heap m) (X : (heapK w.params).In h₀) (N : News h₀ L s.heap news) (T : Top p loose mean mg mb h₀) (XB : (heapK w.params).In base) (TB : Top p loose mean mg mb base) (D : KtsDicts (outer.filterMap (·.frame)) h₀) (hk : cs.kind = .function) (hd : dp + cost < recursionLimit) (hu : un + 8 * cost < cLine)
    (ret : ∀ r tl h₀' h' tk', KtsTurn (outer.filterMap (·.frame)) h₀ h₀' → Fr h₀' L h' m → News h₀' L h' (tl ++ news) → Below A₀ base outer h₀' → (heapK w.params).In h₀' → Top p loose mean mg mb h₀' → KtsDicts (outer.filterMap (·.frame)) h₀' → Post r tl → Q r { s with heap := h', toks := tk' }) :
    wpAny (model PySem.Challenge.rw_pf0124_01.row.prog w) (ktrTop dp un gd cn cs L a ccd [] outer) (call (.ref f) vs) Q E s := C _ _ _ _ _ _ _ _ _ _ _ _ _ _ _ _ B F X N T XB TB D hk hd hu ret
theorem CallS0.use (C : CallS0 w p loose mean mg mb f cost news vs Post)
    {dp un : Nat} {gd : Option (List Code)} {cn : Str} {cs : Scope} {a : Addr} {ccd : Value} {A₀ : Around} {base h₀ : Heap} {L : Addr} {m : Str → Option Value} {s : Shared} {Q E : Value → Shared → Prop}
    (B : Below A₀ base [] h₀) (F : Fr h₀ L s.heap m) (X : (heapK w.params).In h₀) (N : News h₀ L s.heap news) (T : Top p loose mean mg mb h₀) (XB : (heapK w.params).In base) (TB : Top p loose mean mg mb base) (hk : cs.kind = .function) (hd : dp + cost < recursionLimit) (hu : un + 8 * cost < cLine)
    (ret : ∀ r tl h' tk', Fr h₀ L h' m → News h₀ L h' (tl ++ news) → Post r tl → Q r { s with heap := h', toks := tk' }) :
    wpAny (model PySem.Challenge.rw_pf0124_01.row.prog w) (ktrTop dp un gd cn cs L a ccd [] []) (call (.ref f) vs) Q E s := C _ _ _ _ _ _ _ _ _ _ _ _ _ _ _ B F X N T XB TB hk hd hu ret
end
section
variable {w : World} {p : Program} {loose : List Str} {mean : ExcName → Option Value} {mg mb : Str → Option Value} {A₀ : Around} {base h₀ : Heap} {outer : List Env} {L : Addr} {m : Str → Option Value} {s : Shared} {Q : Value → Shared → Prop} {h' : Heap} {tk' : Nat} {news : Led} {a : Addr} {o : Option (Int × Int)} {q : Int × Int}
end
end Mine
end
section
open PySem PySem.W PyProof.Rows
set_option maxRecDepth 100000
namespace Mine
inductive V where
  | int (z : Int) | tf (P : Prop) (d : Decidable P) | two (x y : Int) | tri (x y z : Int) | str (s : Str) | fn (a : Addr) | none
inductive Out where
  | val (v : V) | pair (o : Option (Int × Int)) | trip (o : Option (Int × Int × Int)) | unit (bad : Prop) | pos (o : Option (Int × Int)) | fresh (x y : Int)
noncomputable abbrev Sg := List (Str × V)
structure Spec where
  cost : Nat
  val : List V → Option (List Prop × Out)
  deep : Bool := false
structure Ann where
  line : Nat
  nms : List Str
  I : List Int → Prop
  μ : List Int → Nat
structure Cfg where
  sc : Scope
  room : Nat
  fns : List (Str × Addr × Spec)
  an : List Ann := []
  deep : Bool := false
noncomputable def Rep (w : World) (led : Led) (u : Value) : V → Prop
  | .int z => ∃ t, u = .int z t
  | .tf P _ => ∃ b, u = .bool b ∧ (b = true ↔ P)
  | .two x y => ∃ a, u = .ref a ∧ PairIn w led a x y
  | .tri x y z => ∃ a, u = .ref a ∧ TripIn led a x y z
  | .str s => ∃ t, u = .str s t
  | .fn a => u = .ref a
  | .none => u = .none
noncomputable def Reps (w : World) (led : Led) : List Value → List V → Prop
  | [], [] => True
  | u :: us, v :: vs => Rep w led u v ∧ Reps w led us vs
  | _, _ => False
noncomputable def conj : List Prop → Prop → Prop
  | [], p => p
  | a :: l, p => a ∧ conj l p
noncomputable def truth : V → Option ((P : Prop) × Decidable P)
  | .int z => some ⟨z ≠ 0, inferInstance⟩
  | .tf P d => some ⟨P, d⟩
  | _ => .none
noncomputable abbrev Rs := Option (List Prop × V)
noncomputable def lit : Expr → Option Int
  | .Constant (.int i) _ _ => some i
  | _ => none
noncomputable def nameOf : Expr → Option Str
  | .Name x _ => some x
  | _ => none
noncomputable def namesOf : List Expr → Option (List Str)
  | [] => some []
  | e :: r => match nameOf e with
    | some x => match namesOf r with
      | some l => some (x :: l)
      | none => none
    | none => none
noncomputable def sng {α : Type} : List α → Option α
  | [a] => some a
  | _ => none
noncomputable def constV : Const → Option V
  | .int i => some (.int i)
  | .bool b => some (.tf (b = true) inferInstance)
  | .str s => some (.str s)
  | _ => .none
noncomputable def asInt : Rs → Option (List Prop × Int)
  | some (S, .int x) => some (S, x)
  | _ => none
noncomputable def asTf : Rs → Option (List Prop × ((P : Prop) × Decidable P))
  | some (S, .tf P d) => some (S, ⟨P, d⟩)
  | _ => none
noncomputable def asTest : Rs → Option (List Prop × ((P : Prop) × Decidable P))
  | some (S, v) => match truth v with
    | some p => some (S, p)
    | none => none
  | none => none
noncomputable def bin (op : Operator) (la lb : Option Int) (x y : Int) : Rs :=
  match op with
  | .Add => some ([], .int (x + y))
  | .Sub => some ([], .int (x - y))
  | .Mult => match la with
    | some i => if i.natAbs < 1000000 then some ([], .int (x * y)) else .none
    | none => some ([Sm x, Sm y], .int (x * y))
  | .FloorDiv => match lb with
    | some i => if 0 < i ∧ i ≤ 1000000000 then some ([], .int (x.fdiv y)) else .none
    | none => some ([y ≠ 0, Sm y], .int (x.fdiv y))
  | .Mod => match lb with
    | some i => if 0 < i then some ([], .int (x.fmod y)) else .none
    | none => some ([y ≠ 0], .int (x.fmod y))
  | .Pow => match la with
    | some i => if i.natAbs < 1000000 then (match lb with
        | some j => if 0 ≤ j ∧ j ≤ 1000000 then some ([], .int (x ^ y.toNat)) else .none
        | none => some ([0 ≤ y, y ≤ 1000000], .int (x ^ y.toNat))) else .none
    | none => .none
  | _ => .none
noncomputable abbrev DP := (P : Prop) × Decidable P
noncomputable def cmpI (op : CmpOp) (x y : Int) : Option DP :=
  match op with
  | .Eq => some ⟨x = y, inferInstance⟩
  | .NotEq => some ⟨¬ x = y, inferInstance⟩
  | .Lt => some ⟨x < y, inferInstance⟩
  | .LtE => some ⟨x ≤ y, inferInstance⟩
  | .Gt => some ⟨y < x, inferInstance⟩
  | .GtE => some ⟨y ≤ x, inferInstance⟩
  | _ => .none
noncomputable def cmpP (op : CmpOp) (x y x' y' : Int) : Option DP :=
  match op with
  | .Eq => some ⟨x = x' ∧ y = y', inferInstance⟩
  | .NotEq => some ⟨¬ (x = x' ∧ y = y'), inferInstance⟩
  | _ => .none
noncomputable def neOnly (op : CmpOp) (P : DP) : Option DP :=
  match op with
  | .NotEq => some P
  | _ => .none
noncomputable def cmp (op : CmpOp) (a b : V) : Option DP :=
  match a, b with
  | .int x, .int y => cmpI op x y
  | .tf P d, .tf P' d' => neOnly op ⟨(@decide P d != @decide P' d') = true, inferInstance⟩
  | .two x y, .two x' y' => cmpP op x y x' y'
  | .two _ _, .str _ => neOnly op ⟨True, inferInstance⟩
  | .str _, .two _ _ => neOnly op ⟨True, inferInstance⟩
  | .str a, .str b => neOnly op ⟨¬ a = b, inferInstance⟩
  | _, _ => .none
noncomputable def item (i : Int) : V → Rs
  | .two x y => if i = 0 then some ([], .int x) else if i = 1 then some ([], .int y) else .none
  | _ => .none
noncomputable def disp : List V → Rs
  | [.int x, .int y] => some ([], .two x y)
  | [.int x, .int y, .int z] => some ([], .tri x y z)
  | _ => .none
noncomputable def absV : List V → Rs
  | [.int x] => some ([], .int (absI x))
  | _ => .none
noncomputable def maxV : List V → Rs
  | [.int a, .int b] => some ([], .int (if b > a then b else a))
  | _ => .none
noncomputable def minV : List V → Rs
  | [.int a, .int b] => some ([], .int (if b < a then b else a))
  | _ => .none
noncomputable def dmV : List V → Rs
  | [.int a, .int b] => some ([b ≠ 0, Sm b], .two (a.fdiv b) (a.fmod b))
  | _ => .none
noncomputable def builtin (f : Str) (vs : List V) : Rs :=
  if f = Str.ofString "abs" then absV vs
  else if f = Str.ofString "max" then maxV vs
  else if f = Str.ofString "min" then minV vs
  else if f = Str.ofString "divmod" then dmV vs
  else .none
noncomputable def glob (f : Str) : Option V :=
  if f = Str.ofString "NOUGHT" then some (.two 0 0)
  else if f = Str.ofString "SPARE" then some (.int 10)
  else if f = Str.ofString "_law_half" then some (.int 31415926535897932384626433832795028841971)
  else .none
noncomputable def isGlob (Γ : Cfg) (f : Str) : Bool := Γ.sc.names.lookup f == some .globalImplicit && !(f == Str.ofString "__debug__")
noncomputable def isLoc (Γ : Cfg) (f : Str) : Bool := Γ.sc.names.lookup f == some .local && !(f == Str.ofString "__debug__")
noncomputable def answer (Γ : Cfg) (p : Addr × Spec → Bool) (vs : List V) : Option (Addr × Nat × List Prop × Out) :=
  match Γ.fns.find? (fun q => p q.2) with
  | some (_, a, sp) => if Nat.ble sp.cost Γ.room && (!sp.deep || Γ.deep) then (match sp.val vs with | some (S, o) => some (a, sp.cost, S, o) | none => .none) else .none
  | none => .none
noncomputable def fnOfName (Γ : Cfg) (σ : Sg) (f : Str) : Option Addr :=
  match σ.lookup f with
  | some (.fn a) => some a
  | some _ => .none
  | none => if isGlob Γ f then (match Γ.fns.find? (fun q => q.1 == f) with | some (_, a, _) => some a | none => .none) else .none
noncomputable def pvs (f : Expr → Rs) : List Expr → Option (List Prop × List V)
  | [] => some ([], [])
  | e :: r => match f e with
    | some (S, v) => match pvs f r with
      | some (T, vs) => some (S ++ T, v :: vs)
      | none => .none
    | none => .none
noncomputable def callV (Γ : Cfg) (f : Expr → Rs) (σ : Sg) (g : Str) (args : List Expr) : Option (List Prop × Out) :=
  if args.isEmpty then .none else match pvs f args with
  | some (S, vs) => match fnOfName Γ σ g with
    | some a => match answer Γ (fun q => q.1 == a) vs with
      | some (_, _, T, o) => some (S ++ T, o)
      | none => .none
    | none => .none
  | none => .none
noncomputable def isBuiltin (Γ : Cfg) (σ : Sg) (g : Str) : Bool := (σ.lookup g).isNone && isGlob Γ g && (g == Str.ofString "abs" || g == Str.ofString "max" || g == Str.ofString "min" || g == Str.ofString "divmod")
noncomputable def conjs (a : Prop) : List Prop → Prop
  | [] => a
  | b :: r => a ∧ conjs b r
noncomputable def guard (P : Prop) : List Prop → List Prop
  | [] => []
  | a :: r => [P → conjs a r]
noncomputable def bop2 (op : BoolOp) (a b : List Prop × ((P : Prop) × Decidable P)) : List Prop × ((P : Prop) × Decidable P) :=
  match op with
  | .Or => (a.1 ++ guard (¬ a.2.1) b.1, ⟨a.2.1 ∨ b.2.1, @instDecidableOr _ _ a.2.2 b.2.2⟩)
  | .And => (a.1 ++ guard a.2.1 b.1, ⟨a.2.1 ∧ b.2.1, @instDecidableAnd _ _ a.2.2 b.2.2⟩)
noncomputable def bops (f : Expr → Rs) (op : BoolOp) : List Expr → Option (List Prop × ((P : Prop) × Decidable P))
  | [] => .none
  | a :: r => match asTf (f a) with
    | some p => match r with
      | [] => some p
      | _ :: _ => match bops f op r with
        | some q => some (bop2 op p q)
        | none => .none
    | none => .none
noncomputable def nameR (Γ : Cfg) (σ : Sg) (x : Str) : Rs :=
  match σ.lookup x with
  | some v => some ([], v)
  | none => if isGlob Γ x then (match glob x with | some v => some ([], v) | none => .none) else .none
noncomputable def unR (op : UnaryOp) (r : Rs) : Rs :=
  match op with
  | .USub => (match asInt r with | some (S, z) => some (S, .int (-z)) | none => .none)
  | .Not => (match asTf r with | some (S, p) => some (S, .tf (¬ p.1) (@instDecidableNot _ p.2)) | none => .none)
  | _ => .none
noncomputable def binR (op : Operator) (la lb : Option Int) (ra rb : Rs) : Rs :=
  match asInt ra with
  | some (S, x) => match asInt rb with
    | some (T, y) => match bin op la lb x y with
      | some (U, v) => some (S ++ (T ++ U), v)
      | none => .none
    | none => .none
  | none => .none
noncomputable def ifR (t a b : Rs) : Rs :=
  match asTest t with
  | some (S, p) => match asInt a with
    | some (T, x) => match asInt b with
      | some (U, y) => some (S ++ (guard p.1 T ++ guard (¬ p.1) U), .int (@ite _ p.1 p.2 x y))
      | none => .none
    | none => .none
  | none => .none
noncomputable def cmpR (op : CmpOp) (a b : Rs) : Rs :=
  match a with
  | some (S, x) => match b with
    | some (T, y) => match cmp op x y with
      | some p => some (S ++ T, .tf p.1 p.2)
      | none => .none
    | none => .none
  | none => .none
noncomputable def itemR (i : Int) (a : Rs) : Rs :=
  match a with
  | some (S, v) => match item i v with
    | some (_, r) => some (S, r)
    | none => .none
  | none => .none
noncomputable def tupR (a : Option (List Prop × List V)) : Rs :=
  match a with
  | some (S, vs) => match disp vs with
    | some (_, r) => some (S, r)
    | none => .none
  | none => .none
noncomputable def callB (f : Expr → Rs) (g : Str) (args : List Expr) : Rs :=
  match pvs f args with
  | some (S, vs) => match builtin g vs with
    | some (T, r) => some (S ++ T, r)
    | none => .none
  | none => .none
noncomputable def outV : Out → Option (List Prop × V)
  | .val v => some ([], v)
  | .pair o => some ([o.isSome = true], .two (o.getD (0, 0)).1 (o.getD (0, 0)).2)
  | .fresh x y => some ([], .two x y)
  | _ => .none
noncomputable def callR (Γ : Cfg) (f : Expr → Rs) (σ : Sg) (g : Str) (args : List Expr) : Rs :=
  if isBuiltin Γ σ g then callB f g args else (match callV Γ f σ g args with
    | some (S, o) => (match outV o with
      | some (T, v) => some (S ++ T, v)
      | none => .none)
    | none => .none)
noncomputable def step (Γ : Cfg) (f : Expr → Rs) (σ : Sg) (e : Expr) : Rs :=
  match e with
  | .Constant c _ _ => (match constV c with | some v => some ([], v) | none => .none)
  | .Name x _ => nameR Γ σ x
  | .UnaryOp op a _ => unR op (f a)
  | .BinOp a op b _ => binR op (lit a) (lit b) (f a) (f b)
  | .IfExp t a b _ => ifR (f t) (f a) (f b)
  | .Compare a ops bs _ => (match sng ops with
    | some op => (match sng bs with
      | some b => cmpR op (f a) (f b)
      | none => .none)
    | none => .none)
  | .BoolOp op es _ => (match bops f op es with
    | some (S, p) => some (S, .tf p.1 p.2)
    | none => .none)
  | .Subscript a s _ => (match lit s with
    | some i => itemR i (f a)
    | none => .none)
  | .Tuple es _ _ => tupR (pvs f es)
  | .Call g args kws _ => (match nameOf g with
    | some g => (match kws with
      | [] => callR Γ f σ g args
      | _ :: _ => .none)
    | none => .none)
  | _ => .none
noncomputable def pv (Γ : Cfg) (σ : Sg) : Nat → Expr → Rs
  | 0, _ => .none
  | n + 1, e => step Γ (pv Γ σ n) σ e
noncomputable def setS (σ : Sg) (x : Str) (v : V) : Sg :=
  match σ with
  | [] => [(x, v)]
  | (y, u) :: r => if x = y then (x, v) :: r else (y, u) :: setS r x v
noncomputable def outK (K : V → Prop) (R : Prop) : Out → Prop
  | .val v => K v
  | .pair o => (∀ x y, o = some (x, y) → K (.two x y)) ∧ (o = none → R)
  | .trip o => (∀ x y z, o = some (x, y, z) → K (.tri x y z)) ∧ (o = none → R)
  | .unit bad => (¬ bad → K .none) ∧ (bad → R)
  | .pos o => (∀ x y, o = some (x, y) → K (.two x y)) ∧ (o = none → K (.str (Str.ofString "none")))
  | .fresh x y => K (.two x y)
noncomputable def testX (r : Rs) (A B : Prop) : Prop :=
  match asTest r with
  | some (S, p) => conj S ((p.1 → A) ∧ (¬ p.1 → B))
  | none => False
noncomputable def callN (Γ : Cfg) (f : Expr → Rs) (σ : Sg) (g : Expr) (args : List Expr) (kws : List Keyword) : Option (List Prop × Out) :=
  match nameOf g with
  | some g => (match kws with
    | [] => if isBuiltin Γ σ g then .none else callV Γ f σ g args
    | _ :: _ => .none)
  | none => .none
noncomputable def callT (Γ : Cfg) (f : Expr → Rs) (σ : Sg) (e : Expr) : Option (List Prop × Out) :=
  match e with
  | .Call g args kws _ => callN Γ f σ g args kws
  | _ => .none
noncomputable def rv (Γ : Cfg) (σ : Sg) (K : V → Prop) (R : Prop) : Nat → Expr → Prop
  | 0, _ => False
  | n + 1, e => match callT Γ (pv Γ σ n) σ e with
    | some (S, o) => conj S (outK K R o)
    | none => match pv Γ σ n e with
      | some (S, v) => conj S (K v)
      | none => match e with
        | .IfExp t a b _ => testX (pv Γ σ n t) (rv Γ σ K R n a) (rv Γ σ K R n b)
        | _ => False
noncomputable def numsOf (σ : Sg) : List Str → Option (List Int)
  | [] => some []
  | x :: r => match σ.lookup x with
    | some (.int z) => match numsOf σ r with
      | some l => some (z :: l)
      | none => .none
    | _ => .none
noncomputable def kept (nms : List Str) (τ : Sg) : Sg → Prop
  | [] => True
  | (x, v) :: r => if nms.contains x then kept nms τ r else (τ.lookup x = some v ∧ kept nms τ r)
noncomputable def head (nms : List Str) (σ : Sg) (l : List Int) : Sg := nms.zip (l.map V.int) ++ σ.filter (fun p => !nms.contains p.1)
noncomputable def allL : Nat → (List Int → Prop) → Prop
  | 0, P => P []
  | n + 1, P => ∀ a : Int, allL n (fun l => P (a :: l))
noncomputable def findAn (line : Nat) : List Ann → Option Ann
  | [] => .none
  | a :: r => if a.line = line then some a else findAn line r
noncomputable def asg (Γ : Cfg) (N : Sg → Prop) (σ : Sg) (xs : List Str) (v : V) : Prop :=
  match v with
  | .two a b => (match xs with
    | [x, y] => if isLoc Γ x && isLoc Γ y then N (setS (setS σ x (.int a)) y (.int b)) else False
    | _ => False)
  | .tri a b c => (match xs with
    | [x, y, z] => if isLoc Γ x && isLoc Γ y && isLoc Γ z then N (setS (setS (setS σ x (.int a)) y (.int b)) z (.int c)) else False
    | _ => False)
  | _ => False
noncomputable def aug (op : Operator) (lb : Option Int) (x y : Int) : Rs :=
  match op with
  | .Add => some ([], .int (x + y))
  | .FloorDiv => match lb with
    | some i => if 0 < i ∧ i ≤ 1000000000 then some ([], .int (x.fdiv y)) else .none
    | none => some ([y ≠ 0, Sm y], .int (x.fdiv y))
  | .Mult => some ([Sm x, Sm y], .int (x * y))
  | _ => .none
noncomputable def eqV : V → V → Prop
  | .int x, .int y => x = y
  | .tf P _, .tf Q _ => P ↔ Q
  | .two a b, .two c d => a = c ∧ b = d
  | .tri a b c, .tri d e f => a = d ∧ b = e ∧ c = f
  | .none, .none => True
  | _, _ => False
noncomputable def retK : Out → V → Prop
  | .val v, u => eqV u v
  | .pair o, .two a b => o = some (a, b)
  | .trip o, .tri a b c => o = some (a, b, c)
  | .unit bad, .none => ¬ bad
  | .pos o, .two a b => o = some (a, b)
  | .pos o, .str s => s = Str.ofString "none" ∧ o = none
  | _, _ => False
noncomputable def endK : Out → Prop
  | .unit bad => ¬ bad
  | _ => False
noncomputable def OutBad : Out → Prop
  | .val _ => False
  | .pair o => o = none
  | .trip o => o = none
  | .unit bad => bad
  | .pos _ => False
  | .fresh _ _ => False
noncomputable def tail (o : Out) (R : Prop) : Out → Prop
  | .pair p => (match o with | .pair q => p = q | _ => outK (retK o) R (.pair p))
  | .trip p => (match o with | .trip q => p = q | _ => outK (retK o) R (.trip p))
  | p => outK (retK o) R p
noncomputable def two? (l : List V) : Option (Int × Int) :=
  match disp l with
  | some (_, v) => match v with
    | .two a b => some (a, b)
    | _ => .none
  | none => .none
noncomputable def tupOf : Expr → Option (List Expr)
  | .Tuple es _ _ => some es
  | _ => none
noncomputable def frX (o : Out) (f : Expr → Rs) (e : Expr) : Option Prop :=
  match o with
  | .fresh x y => (match tupOf e with
    | some es => (match pvs f es with
      | some (S, l) => (match two? l with
        | some (a, b) => some (conj S (a = x ∧ b = y))
        | none => .none)
      | none => .none)
    | none => .none)
  | _ => .none
noncomputable def ret (Γ : Cfg) (σ : Sg) (o : Out) : Nat → Expr → Prop
  | 0, _ => False
  | n + 1, e => match callT Γ (pv Γ σ n) σ e with
    | some (S, p) => conj S (tail o (OutBad o) p)
    | none => match frX o (pv Γ σ n) e with
      | some P => P
      | none => match pv Γ σ n e with
        | some (S, v) => conj S (retK o v)
        | none => match e with
          | .IfExp t a b _ => testX (pv Γ σ n t) (ret Γ σ o n a) (ret Γ σ o n b)
          | _ => False
noncomputable def cmpK (op : CmpOp) (r : List Prop × V) (A B : Prop) (v : V) : Prop :=
  match cmp op v r.2 with
  | some p => conj r.1 ((p.1 → A) ∧ (¬ p.1 → B))
  | none => False
noncomputable def cmpX (Γ : Cfg) (σ : Sg) (n : Nat) (R A B : Prop) (l : Expr) (ops : List CmpOp) (rs : List Expr) : Prop :=
  match sng ops with
  | some op => (match sng rs with
    | some r => (match pv Γ σ n r with
      | some q => if op == .NotEq then rv Γ σ (cmpK op q A B) R n l else False
      | none => False)
    | none => False)
  | none => False
noncomputable def ifX (Γ : Cfg) (σ : Sg) (n : Nat) (R A B : Prop) (t : Expr) : Prop :=
  match pv Γ σ n t with
  | some r => testX (some r) A B
  | none => (match t with
    | .Compare l ops rs _ => cmpX Γ σ n R A B l ops rs
    | _ => False)
noncomputable def swapB (Γ : Cfg) (x y : Str) (px py : Pos) (a b : Expr) : Bool :=
  isLoc Γ x && isLoc Γ y && (py.line == px.line) && !(x == y) && !([a, b].any fun | .Starred .. => true | _ => false) && !([a, b].all (foldedForSure 8)) && !([a, b].all (constantsAlone 8))
noncomputable def pr2 {α : Type} : List α → Option (α × α)
  | [a, b] => some (a, b)
  | _ => none
noncomputable def posOf : Expr → Pos
  | .Name _ p => p
  | _ => ⟨0, 0, 0, 0⟩
noncomputable def swapX (Γ : Cfg) (σ : Sg) (N : Sg → Prop) (f : Expr → Rs) (es vs : List Expr) : Prop :=
  match pr2 es with
  | some (p, q) => (match pr2 vs with
    | some (a, b) => (match nameOf p with
      | some x => (match nameOf q with
        | some y => if swapB Γ x y (posOf p) (posOf q) a b then (match pvs f [a, b] with
          | some (S, l) => (match pr2 l with
            | some (u, v) => conj S (N (setS (setS σ y v) x u))
            | none => False)
          | none => False) else False
        | none => False)
      | none => False)
    | none => False)
  | none => False
noncomputable def nameK (Γ : Cfg) (N : Sg → Prop) (σ : Sg) (x : Str) (v : V) : Prop := if isLoc Γ x then N (setS σ x v) else False
noncomputable def asgX (Γ : Cfg) (o : Out) (σ : Sg) (N : Sg → Prop) (n : Nat) (ts : List Expr) (e : Expr) : Prop :=
  match sng ts with
  | some t => (match tupOf t with
    | some es => (match tupOf e with
      | some vs => swapX Γ σ N (pv Γ σ n) es vs
      | none => (match namesOf es with
        | some xs => rv Γ σ (asg Γ N σ xs) (OutBad o) n e
        | none => False))
    | none => (match nameOf t with
      | some x => rv Γ σ (nameK Γ N σ x) (OutBad o) n e
      | none => False))
  | none => False
noncomputable def augX (Γ : Cfg) (σ : Sg) (N : Sg → Prop) (n : Nat) (t : Expr) (op : Operator) (e : Expr) : Prop :=
  match nameOf t with
  | some x => if isLoc Γ x then (match σ.lookup x with
    | some w => (match asInt (some ([], w)) with
      | some (_, a) => (match asInt (pv Γ σ n e) with
        | some (S, b) => (match aug op (lit e) a b with
          | some (T, v) => conj S (conj T (N (setS σ x v)))
          | none => False)
        | none => False)
      | none => False)
    | none => False) else False
  | none => False
noncomputable def fnLit (Γ : Cfg) (σ : Sg) (e : Expr) : Option Addr :=
  match nameOf e with
  | some f => fnOfName Γ σ f
  | none => .none
noncomputable def forT (Γ : Cfg) (σ : Sg) (es : List Expr) : Option (V × V) :=
  match pr2 es with
  | some (f, g) => (match fnLit Γ σ f with
    | some a => (match fnLit Γ σ g with
      | some b => some (.fn a, .fn b)
      | none => .none)
    | none => .none)
  | none => .none
noncomputable def forR (Γ : Cfg) (g : Expr) (args : List Expr) (kws : List Keyword) : Option (V × V) :=
  match nameOf g with
  | some g => (match kws with
    | [] => (match sng args with
      | some a => (match lit a with
        | some i => if isGlob Γ g && (g == Str.ofString "range") && (i == 2) && !Γ.deep then some (.int 0, .int 1) else .none
        | none => .none)
      | none => .none)
    | _ :: _ => .none)
  | none => .none
noncomputable def forK (Γ : Cfg) (σ : Sg) (e : Expr) : Option (V × V) :=
  match e with
  | .Tuple es _ _ => forT Γ σ es
  | .Call g args kws _ => forR Γ g args kws
  | _ => .none
noncomputable def strLit : Expr → Bool
  | .Constant (.str _) _ _ => true
  | _ => false
noncomputable def raiseC (g : Expr) (args : List Expr) (kws : List Keyword) : Option Str :=
  match nameOf g with
  | some g => (match kws with
    | [] => (match sng args with
      | some a => if strLit a then some g else .none
      | none => .none)
    | _ :: _ => .none)
  | none => .none
noncomputable def raiseK (e c : Option Expr) : Option Str :=
  match c with
  | none => (match e with
    | some (.Call g args kws _) => raiseC g args kws
    | _ => .none)
  | some _ => .none
noncomputable def handK : ExceptHandler → Option (Str × Const)
  | .ExceptHandler (some (.Name g _)) none [.Return (some (.Constant c _ _)) _] _ => some (g, c)
  | _ => none
noncomputable def oneE : Stmt → Option (Bool × Expr)
  | .Expr e _ => some (false, e)
  | .Return (some e) _ => some (true, e)
  | _ => none
noncomputable def tryX (Γ : Cfg) (o : Out) (σ : Sg) (N : Sg → Prop) (n : Nat) (body : List Stmt) (hs : List ExceptHandler) : Prop :=
  match sng body with
  | some st => (match oneE st with
    | some (r, e) => (match sng hs with
      | some h => (match handK h with
        | some (g, c) => (match constV c with
          | some v => if Γ.deep && isGlob Γ g && (g == Str.ofString "RunFault") then rv Γ σ (match r with | true => retK o | false => fun _ => N σ) (retK o v) n e else False
          | none => False)
        | none => False)
      | none => False)
    | none => False)
  | none => False
noncomputable def dropK (P : Prop) : V → Prop
  | .none => P
  | _ => False
mutual
noncomputable def ex (Γ : Cfg) (o : Out) : Nat → Stmt → Sg → (Sg → Prop) → Prop
  | 0, _, _, _ => False
  | n + 1, st, σ, N => match st with
    | .Return e _ => (match e with
      | some e => ret Γ σ o n e
      | none => False)
    | .Expr e _ => rv Γ σ (dropK (N σ)) (OutBad o) n e
    | .Assign ts e _ => asgX Γ o σ N n ts e
    | .AugAssign t op e _ => augX Γ σ N n t op e
    | .If t a b _ => ifX Γ σ n (OutBad o) (exs Γ o n a σ N) (exs Γ o n b σ N) t
    | .While t body els pos => (match els with
      | [] => (match findAn pos.line Γ.an with
        | some an => if an.nms.all (isLoc Γ) && !Γ.deep then (match numsOf σ an.nms with
          | some l₀ => an.I l₀ ∧ kept an.nms σ σ ∧ allL an.nms.length (fun l => an.I l → testX (pv Γ (head an.nms σ l) n t)
              (exs Γ o n body (head an.nms σ l) (fun τ => (match numsOf τ an.nms with
                  | some l' => an.I l' ∧ an.μ l' < an.μ l ∧ kept an.nms τ σ
                  | none => False))) (N (head an.nms σ l)))
          | none => False) else False
        | none => False)
      | _ :: _ => False)
    | .For t it body els _ => (match els with
      | [] => (match nameOf t with
        | some x => if isLoc Γ x then (match forK Γ σ it with
          | some (v, w) => exs Γ o n body (setS σ x v) (fun τ => exs Γ o n body (setS τ x w) N)
          | none => False) else False
        | none => False)
      | _ :: _ => False)
    | .Try body hs els fin _ => (match els with
      | [] => (match fin with
        | [] => tryX Γ o σ N n body hs
        | _ :: _ => False)
      | _ :: _ => False)
    | .Raise e c _ => (match raiseK e c with
      | some g => if isGlob Γ g && (g == Str.ofString "RunFault") && Nat.ble 3 Γ.room then OutBad o else False
      | none => False)
    | .Pass _ => N σ
    | _ => False
noncomputable def exs (Γ : Cfg) (o : Out) : Nat → List Stmt → Sg → (Sg → Prop) → Prop
  | 0, _, _, _ => False
  | n + 1, l, σ, N => match l with
    | [] => N σ
    | st :: rest => ex Γ o n st σ (fun τ => exs Γ o n rest τ N)
end
end Mine
end
section
open PySem PySem.W PyProof.Rows
set_option maxRecDepth 100000
namespace Mine
noncomputable abbrev prog0 : Program := PySem.Challenge.rw_pf0124_01.row.prog
noncomputable def OutRep (w : World) (led : Led) (r : Value) : Out → Prop
  | .val v => Rep w led r v
  | .pair o => ∃ x y, o = some (x, y) ∧ Rep w led r (.two x y)
  | .trip o => ∃ x y z, o = some (x, y, z) ∧ Rep w led r (.tri x y z)
  | .unit bad => ¬ bad ∧ Rep w led r .none
  | .fresh x y => ∃ a o, r = .ref a ∧ (a, o) ∈ led ∧ PairE o x y
  | .pos o => (∃ x y, o = some (x, y) ∧ Rep w led r (.two x y)) ∨ (o = none ∧ Rep w led r (.str (Str.ofString "none")))
noncomputable def SpecOk (a : Addr) (sp : Spec) : Prop :=
  ∀ (w : World) (p : Program) (loose : List Str) (mean : ExcName → Option Value) (mg mb : Str → Option Value) (news : Led) (vs : List V) (us : List Value) (S : List Prop) (o : Out),
    sp.val vs = some (S, o) → (∀ q ∈ S, q) → Reps w news us vs → (sp.deep = false → CallR w p loose mean mg mb a sp.cost news us (fun r tl => OutRep w (tl ++ news) r o) (OutBad o)) ∧ (sp.deep = true → CallS w p loose mean mg mb a sp.cost news us (fun r tl => OutRep w (tl ++ news) r o))
noncomputable def FnOk (q : Str × Addr × Spec) : Prop :=
  (∀ w : World, nsIn (heapK w.params) mainGlobals q.1 = some (some (.ref q.2.1)) ∧ keepIn (heapK w.params) (.ref q.2.1) = true) ∧ SpecOk q.2.1 q.2.2
structure Cx where
  w : World
  p : Program
  loose : List Str
  mean : ExcName → Option Value
  mg : Str → Option Value
  mb : Str → Option Value
  dp : Nat
  un : Nat
  gd : Option (List Code)
  cn : Str
  L : Addr
  a : Addr
  cd : Value
  outer : List Env
  A₀ : Around
  base : Heap
  g : Heap
  s : Shared
  Γ : Cfg
namespace Cx
noncomputable def env (C : Cx) : Env := envX C.cn C.Γ.sc C.L C.a C.cd []
noncomputable def A (C : Cx) : Around := ktrTop C.dp C.un C.gd C.cn C.Γ.sc C.L C.a C.cd [] C.outer
noncomputable def at' (C : Cx) (h : Heap) (tk : Nat) : Shared := { C.s with heap := h, toks := tk }
structure Ok (C : Cx) : Prop where
  XB : C.Γ.deep = true → (heapK C.w.params).In C.base ∧ Top C.p C.loose C.mean C.mg C.mb C.base
  hk : C.Γ.sc.kind = .function
  hd : C.dp + C.Γ.room < recursionLimit
  hu : C.un + 8 * C.Γ.room < cLine
  fns : ∀ q ∈ C.Γ.fns, FnOk q
  dA : C.A = C.A₀.deeper C.env
end Cx
structure Gr (C : Cx) (g : Heap) : Prop where
  B : Below C.A₀ C.base C.outer g
  X : (heapK C.w.params).In g
  T : Top C.p C.loose C.mean C.mg C.mb g
  flat : C.Γ.deep = false → g = C.g
  deep : C.Γ.deep = true → KtsDicts (C.outer.filterMap (·.frame)) g ∧ KtsTurn (C.outer.filterMap (·.frame)) C.g g
theorem isLoc_of {Γ : Cfg} {x : Str} (h : isLoc Γ x = true) : Γ.sc.names.lookup x = some .local ∧ (x == Str.ofString "__debug__") = false := by
  simp only [isLoc, Bool.and_eq_true, beq_iff_eq, Bool.not_eq_true'] at h; exact h
theorem isGlob_of {Γ : Cfg} {x : Str} (h : isGlob Γ x = true) : Γ.sc.names.lookup x = some .globalImplicit ∧ (x == Str.ofString "__debug__") = false := by
  simp only [isGlob, Bool.and_eq_true, beq_iff_eq, Bool.not_eq_true'] at h; exact h
structure St (C : Cx) (σ : Sg) (led : Led) (h : Heap) : Prop where
  fr : ∃ g m, Gr C g ∧ Fr g C.L h m ∧ (∀ x v, σ.lookup x = some v → ∃ u, m x = some u ∧ Rep C.w led u v) ∧ (∀ z, C.Γ.sc.names.lookup z = none → m z = none) ∧ News g C.L h led
  loc : ∀ x v, σ.lookup x = some v → isLoc C.Γ x = true
noncomputable abbrev wpc (C : Cx) {α : Type} (t : Sem α) (Q : α → Shared → Prop) (E : Value → Shared → Prop) (h : Heap) (tk : Nat) : Prop :=
  wpAny (model prog0 C.w) C.A t Q E (C.at' h tk)
section
variable {C : Cx} {σ : Sg} {led led' : Led} {h h' : Heap} {u : Value} {v : V}
theorem Rep.mono {w : World} : ∀ {v : V}, Rep w led u v → (∀ p ∈ led, p ∈ led') → Rep w led' u v
  | .int _, h, _ => h
  | .tf _ _, h, _ => h
  | .two _ _, ⟨a, e, P⟩, k => ⟨a, e, P.sub k⟩
  | .tri _ _ _, ⟨a, e, o, t, u, v, n, a1, a2, a3⟩, k => ⟨a, e, o, t, u, v, n, a1, a2, k _ a3⟩
  | .str _, h, _ => h
  | .fn _, h, _ => h
  | .none, h, _ => h
theorem Reps.one {w : World} {vs : List V} {us : List Value} (h : Reps w led us (v :: vs)) : ∃ u r, us = u :: r ∧ Rep w led u v ∧ Reps w led r vs := by
  cases us with
  | nil => exact h.elim
  | cons u r => exact ⟨u, r, rfl, h⟩
theorem Reps.none {w : World} {us : List Value} (h : Reps w led us []) : us = [] := by
  cases us with
  | nil => rfl
  | cons u r => exact h.elim
theorem St.of {g : Heap} {m : Str → Option Value} (G : Gr C g) (F : Fr g C.L h m) (a : ∀ x v, σ.lookup x = some v → ∃ u, m x = some u ∧ Rep C.w led u v) (b : ∀ z, C.Γ.sc.names.lookup z = none → m z = none)
    (N : News g C.L h led) (l : ∀ x v, σ.lookup x = some v → isLoc C.Γ x = true) : St C σ led h := ⟨⟨g, m, G, F, a, b, N⟩, l⟩
end
noncomputable def Snd (C : Cx) (σ : Sg) (f : Expr → Rs) : Prop := ∀ e S v, f e = some (S, v) → (∀ q ∈ S, q) →
  ∀ led h tk Q E, St C σ led h → (∀ u led' h' tk', (∀ p ∈ led, p ∈ led') → Rep C.w led' u v → St C σ led' h' → Q u (C.at' h' tk')) → wpc C (eval e C.env) Q E h tk
noncomputable def SndT (C : Cx) (σ : Sg) (f : Expr → Rs) : Prop := ∀ e S v P d, f e = some (S, v) → truth v = some ⟨P, d⟩ → (∀ q ∈ S, q) →
  ∀ led h tk Q E, St C σ led h → (∀ b led' h' tk', (b = true ↔ P) → (∀ p ∈ led, p ∈ led') → St C σ led' h' → Q b (C.at' h' tk')) → wpc C (isTrue e C.env (eval e C.env)) Q E h tk
noncomputable def Plain (f : Expr → Rs) : Prop := ∀ e r, f e = some r → (∀ t l env, swapsWith e t l env = pure false) ∧ (∀ rest env, starEach (e :: rest) env = (false, eval e env) :: starEach rest env) ∧ (∀ op, op ≠ .In → op ≠ .NotIn → behindInMarks op e = false)
section
variable {C : Cx} (O : C.Ok) {σ : Sg} {f : Expr → Rs}
theorem all_app {S T : List Prop} (h : ∀ q ∈ S ++ T, q) : (∀ q ∈ S, q) ∧ (∀ q ∈ T, q) := ⟨fun q m => h q (List.mem_append_left _ m), fun q m => h q (List.mem_append_right _ m)⟩
theorem conjs_of : ∀ {r : List Prop} {a : Prop}, conjs a r → ∀ q ∈ a :: r, q
  | [], a, h, q, m => by rcases List.mem_cons.mp m with rfl | m; exact h; cases m
  | b :: r, a, h, q, m => (List.mem_cons.mp m).elim (fun e => e ▸ h.1) (conjs_of h.2 q)
theorem all_map {T : List Prop} {P : Prop} (h : ∀ q ∈ guard P T, q) (p : P) : ∀ q ∈ T, q := by
  cases T with
  | nil => exact fun q m => nomatch m
  | cons a r => exact conjs_of (h _ (.head _) p)
theorem truthy_ok {v : V} {P : Prop} {d : Decidable P} {u : Value} {led : Led} {Q : Bool → Shared → Prop} {E : Value → Shared → Prop} {s : Shared} {A : Around} {w : World} (ht : truth v = some ⟨P, d⟩) (R : Rep w led u v)
    (h : ∀ b, (b = true ↔ P) → Q b s) : wpAny (model prog0 w) A (truthy u) Q E s := by
  cases v <;> simp only [truth, Option.some.injEq, reduceCtorEq] at ht
  · rename_i z
    obtain ⟨t, rfl⟩ := R
    have e : (z ≠ 0) = P := congrArg Sigma.fst ht
    subst e
    exact truthy_int (h _ (by simp))
  · rename_i P' d'
    obtain ⟨b, rfl, hb⟩ := R
    have e : P' = P := congrArg Sigma.fst ht
    subst e
    exact wpAny_truthy_bool (h _ hb)
theorem pvs_ok (H : Snd C σ f) (PL : Plain f) (pos : Pos) : ∀ (es : List Expr) (S : List Prop) (vs : List V), pvs f es = some (S, vs) → (∀ q ∈ S, q) →
    (((backTo pos (starEach es C.env)).any fun x => x.1) = false) ∧ (∀ led h tk Q E, St C σ led h → (∀ us led' h' tk', (∀ p ∈ led, p ∈ led') → Reps C.w led' us vs → St C σ led' h' → Q us (C.at' h' tk')) → wpc C (spliced (backTo pos (starEach es C.env))) Q E h tk)
  | [], S, vs, e, _ => by
    simp only [pvs, Option.some.injEq, Prod.mk.injEq] at e
    obtain ⟨rfl, rfl⟩ := e
    exact ⟨rfl, fun led h tk Q E hs k => args_nil (k [] led h tk (fun _ h => h) trivial hs)⟩
  | e :: r, S, vs, he, hS => by
    unfold pvs at he
    split at he
    · rename_i S₁ v h₁
      split at he
      · rename_i T vs' h₂
        simp only [Option.some.injEq, Prod.mk.injEq] at he
        obtain ⟨rfl, rfl⟩ := he
        obtain ⟨a1, a2⟩ := all_app hS
        obtain ⟨b1, b2⟩ := pvs_ok H PL pos r T vs' h₂ a2
        obtain ⟨_, p2, _⟩ := PL e _ h₁
        refine ⟨?_, fun led h tk Q E hs k => args_cons (H e _ _ h₁ a1 led h tk _ _ hs fun u led' h' tk' k1 R1 s1 => b2 led' h' tk' _ _ s1 fun us led2 h2 tk2 k2 R2 s2 => k (u :: us) led2 h2 tk2 (fun p m => k2 p (k1 p m)) ⟨R1.mono k2, R2⟩ s2) (p2 r _)⟩
        rw [p2]
        exact b1
      · cases he
    · cases he
end
end Mine
end
section
open Mine.FLx (ξ ν κ ζ δ η π ω)
open Mine.FCx (φ ψ θ ϑ Φ Ψ φn ψn θn ϑn Φn Ψn)
open PySem PySem.W PyProof.Rows
set_option maxRecDepth 100000
namespace Mine
theorem lit_const {e : Expr} {i : Int} (h : lit e = some i) : ∃ k p, e = .Constant (.int i) k p := by
  cases e <;> first
    | exact nomatch (show (Option.none : Option Int) = some i from h)
    | skip
  rename_i c k p
  cases c <;> first
    | exact nomatch (show (Option.none : Option Int) = some i from h)
    | (cases h; exact ⟨_, _, rfl⟩)
theorem nameOf_inv {e : Expr} {x : Str} (h : nameOf e = some x) : ∃ p, e = .Name x p := by
  cases e <;> first
    | exact nomatch (show (Option.none : Option Str) = some x from h)
    | (cases h; exact ⟨_, rfl⟩)
theorem sng_inv {α : Type} {l : List α} {a : α} (h : sng l = some a) : l = [a] := by
  match l, h with
  | [_], h => cases h; rfl
theorem pr2_inv {α : Type} {l : List α} {a b : α} (h : pr2 l = some (a, b)) : l = [a, b] := by
  match l, h with
  | [_, _], h => cases h; rfl
theorem asInt_inv {r : Rs} {S : List Prop} {x : Int} (h : asInt r = some (S, x)) : r = some (S, .int x) := by
  match r, h with
  | some (_, .int _), h => cases h; rfl
theorem asTf_inv {r : Rs} {S : List Prop} {p : (P : Prop) × Decidable P} (h : asTf r = some (S, p)) : r = some (S, .tf p.1 p.2) := by
  match r, h with
  | some (_, .tf _ _), h => cases h; rfl
theorem asTest_inv {r : Rs} {S : List Prop} {p : (P : Prop) × Decidable P} (h : asTest r = some (S, p)) : ∃ v, r = some (S, v) ∧ truth v = some p := by
  cases r with
  | none => cases h
  | some q =>
    obtain ⟨T, v⟩ := q
    unfold asTest at h
    dsimp only at h
    split at h
    · rename_i p' e
      cases h
      exact ⟨v, rfl, e⟩
    · cases h
theorem bits_small {i : Int} (h : i.natAbs < 1000000) : Builtin.Int.intBits i ≤ 64 := PySem.intBits_le_64 (by omega) (by omega)
theorem lit_pos {i y : Int} (hi : 0 < i ∧ i ≤ 1000000000) (e : y = i) : y ≠ 0 ∧ Sm y := ⟨by exact fun hq => fn3 [_,_] [] 1 (ψ (κ 0) (ξ 0)) 1 (ϑ (ξ 1) (ξ 0)) 1 (θ (ξ 1) (κ 0)) yes hi.1 e hq, sm_small (by omega)⟩
theorem lit_pos' {i y : Int} (hi : 0 < i) (e : y = i) : y ≠ 0 := by exact fun hq => fn3 [_,_] [] 1 (ψ (κ 0) (ξ 0)) 1 (ϑ (ξ 1) (ξ 0)) 1 (θ (ξ 1) (κ 0)) yes hi e hq
theorem lit_base {i x : Int} (hi : i.natAbs < 1000000) (e : x = i) : x.natAbs < 2 ^ 64 := by lia
theorem nbb (x x' y y' : Int) : ((!((x == x') && (y == y'))) = true) ↔ ¬ (x = x' ∧ y = y') := by
  by_cases h1 : x = x' <;> by_cases h2 : y = y' <;> simp [h1, h2]
theorem pbb (x x' y y' : Int) : (((x == x') && (y == y')) = true) ↔ (x = x' ∧ y = y') := by simp
theorem dec_of {P : Prop} {d : Decidable P} {x : Bool} (hx : x = true ↔ P) : @decide P d = x := by
  cases x
  · exact decide_eq_false fun p => Bool.noConfusion (hx.mpr p)
  · exact decide_eq_true (hx.mp rfl)
section
variable {w : World} {A : Around} {s : Shared} {Q : Value → Shared → Prop} {E : Value → Shared → Prop}
theorem bin_ok {op : Operator} {la lb : Option Int} {x y : Int} {U : List Prop} {v : V} {t u : Tok} (hb : bin op la lb x y = some (U, v)) (hx : ∀ i, la = some i → x = i) (hy : ∀ i, lb = some i → y = i) (hU : ∀ q ∈ U, q)
    (k : ∀ z, v = .int z → Q (.int z s.toks) { s with toks := s.toks + 1 }) :
    wpAny (model prog0 w) A (binaryOp op (.int x t) (.int y u)) Q E s := by
  unfold bin at hb
  split at hb
  · cases hb; exact add_int (k _ rfl)
  · cases hb; exact sub_int (k _ rfl)
  · split at hb
    · split at hb
      · rename_i hi
        cases hb; exact mul_int (k _ rfl) (IntMulOk.of_left (bits_small (by rw [hx _ rfl]; exact hi)))
      · cases hb
    · cases hb; exact mul_sm (hU _ (.head _)) (hU _ (.tail _ (.head _))) (k _ rfl)
  · split at hb
    · split at hb
      · rename_i hi
        cases hb; exact floordiv_sm (lit_pos hi (hy _ rfl)).1 (lit_pos hi (hy _ rfl)).2 (k _ rfl)
      · cases hb
    · cases hb; exact floordiv_sm (hU _ (.head _)) (hU _ (.tail _ (.head _))) (k _ rfl)
  · split at hb
    · split at hb
      · rename_i hi
        cases hb; exact mod_int' (lit_pos' hi (hy _ rfl)) (k _ rfl)
      · cases hb
    · cases hb; exact mod_int' (hU _ (.head _)) (k _ rfl)
  · split at hb
    · split at hb
      · rename_i hi
        split at hb
        · split at hb
          · rename_i hj
            cases hb; exact pow_int_small (by rw [hy _ rfl]; exact hj.1) (by rw [hy _ rfl]; exact hj.2) (lit_base hi (hx _ rfl)) (k _ rfl)
          · cases hb
        · cases hb; exact pow_int_small (hU _ (.head _)) (hU _ (.tail _ (.head _))) (lit_base hi (hx _ rfl)) (k _ rfl)
      · cases hb
    · cases hb
  · cases hb
theorem aug_ok {op : Operator} {lb : Option Int} {x y : Int} {U : List Prop} {v : V} {t u : Tok} (hb : aug op lb x y = some (U, v)) (hy : ∀ i, lb = some i → y = i) (hU : ∀ q ∈ U, q)
    (k : ∀ z, v = .int z → Q (.int z s.toks) { s with toks := s.toks + 1 }) :
    wpAny (model prog0 w) A (inplaceOp op (.int x t) (.int y u)) Q E s := by
  unfold aug at hb
  split at hb
  · cases hb; exact iadd_int (k _ rfl)
  · split at hb
    · split at hb
      · rename_i hi
        cases hb; exact ifloordiv_sm (lit_pos hi (hy _ rfl)).1 (lit_pos hi (hy _ rfl)).2 (k _ rfl)
      · cases hb
    · cases hb; exact ifloordiv_sm (hU _ (.head _)) (hU _ (.tail _ (.head _))) (k _ rfl)
  · cases hb; exact imul_sm (hU _ (.head _)) (hU _ (.tail _ (.head _))) (k _ rfl)
  · cases hb
theorem cmpI_ok {op : CmpOp} {x y : Int} {P : Prop} {d : Decidable P} {t u : Tok} (hc : cmpI op x y = some ⟨P, d⟩) (k : ∀ c : Bool, (c = true ↔ P) → Q (.bool c) s) : wpAny (model prog0 w) A (compareOp op (.int x t) (.int y u)) Q E s := by
  unfold cmpI at hc
  split at hc <;> first | (cases hc; done) | skip
  · cases hc; exact eq_int (k _ beq_iff_eq)
  · cases hc; exact ne_int (k _ bne_iff_ne)
  · cases hc; exact lt_int (k _ decide_eq_true_iff)
  · cases hc; exact le_int (k _ decide_eq_true_iff)
  · cases hc; exact gt_int (k _ decide_eq_true_iff)
  · cases hc; exact ge_int (k _ decide_eq_true_iff)
theorem cmpP_ok {C : Cx} {g : Heap} {m : Str → Option Value} {led : Led} {op : CmpOp} {x y x' y' : Int} {a b : Addr} {P : Prop} {d : Decidable P} (hc : cmpP op x y x' y' = some ⟨P, d⟩) (P1 : PairIn C.w led a x y) (P2 : PairIn C.w led b x' y') (X : (heapK C.w.params).In g) (F : Fr g C.L s.heap m) (N : News g C.L s.heap led) (hu : A.units < cLine)
    (k : ∀ c : Bool, (c = true ↔ P) → Q (.bool c) s) : wpAny (model prog0 w) A (compareOp op (.ref a) (.ref b)) Q E s := by
  unfold cmpP at hc
  split at hc
  · cases hc; exact pair_eq P1 P2 X F N (fun _ m => m) (fun _ m => m) hu (k _ (pbb ..))
  · cases hc; exact pair_ne P1 P2 X F N (fun _ m => m) (fun _ m => m) hu (k _ (nbb ..))
  · cases hc
theorem neOnly_of {op : CmpOp} {P Q : DP} (h : neOnly op P = some Q) : op = .NotEq ∧ P = Q := by
  unfold neOnly at h
  split at h
  · cases h; exact ⟨rfl, rfl⟩
  · cases h
end
section
variable {C : Cx} (O : C.Ok) {σ : Sg} {f : Expr → Rs} {led : Led} {h : Heap} {tk : Nat} {Q : Value → Shared → Prop} {E : Value → Shared → Prop}
theorem cmp_ok (O : C.Ok) {op : CmpOp} {va vb : V} {P : Prop} {d : Decidable P} {a b : Value} (hc : cmp op va vb = some ⟨P, d⟩) (Ra : Rep C.w led a va) (Rb : Rep C.w led b vb)
    (hs : St C σ led h) (k : ∀ c : Bool, (c = true ↔ P) → Q (.bool c) (C.at' h tk)) :
    wpc C (compareOp op a b) Q E h tk := by
  obtain ⟨g, m, G, F, _, _, N⟩ := hs.fr
  clear hs
  have hu : C.A.units < cLine := Nat.lt_of_le_of_lt (Nat.le_add_right _ _) O.hu
  unfold cmp at hc
  split at hc
  · obtain ⟨t, rfl⟩ := Ra
    obtain ⟨u, rfl⟩ := Rb
    exact cmpI_ok hc k
  · obtain ⟨x, rfl, hx⟩ := Ra
    obtain ⟨y, rfl, hy⟩ := Rb
    obtain ⟨rfl, e⟩ := neOnly_of hc
    cases e
    exact PySem.SeqAt.RcNeAt.bool_bool x y _ _ _ _ (k _ (by rw [dec_of hx, dec_of hy]; exact Iff.rfl))
  · obtain ⟨x, rfl, P1⟩ := Ra
    obtain ⟨y, rfl, P2⟩ := Rb
    exact cmpP_ok hc P1 P2 G.X F N hu k
  · obtain ⟨x, rfl, P1⟩ := Ra
    obtain ⟨t, rfl⟩ := Rb
    obtain ⟨rfl, e⟩ := neOnly_of hc
    cases e
    exact pair_ne_str P1 G.X F N (fun _ m => m) hu (k _ (by simp))
  · obtain ⟨t, rfl⟩ := Ra
    obtain ⟨x, rfl, P1⟩ := Rb
    obtain ⟨rfl, e⟩ := neOnly_of hc
    cases e
    exact str_ne_pair P1 G.X F N (fun _ m => m) hu (k _ (by simp))
  · obtain ⟨t, rfl⟩ := Ra
    obtain ⟨u, rfl⟩ := Rb
    obtain ⟨rfl, e⟩ := neOnly_of hc
    cases e
    exact ne_str (k _ (by simp))
  · cases hc
theorem cmp_op {op : CmpOp} {va vb : V} {r} (hc : cmp op va vb = some r) : op ≠ .In ∧ op ≠ .NotIn := by
  constructor <;> (rintro rfl; unfold cmp at hc; split at hc <;> cases hc)
theorem item_ok {i : Int} {v r : V} {T : List Prop} {a : Value} {ve : Expr} {k : Nat} {p : Pos} {t : Tok} (hi : item i v = some (T, r)) (R : Rep C.w led a v) (hs : St C σ led h)
    (kk : ∀ u, Rep C.w led u r → Q u (C.at' h tk)) :
    wpc C (subscriptTail ve (.Constant (.int i) k p) a (.int i t)) Q E h tk := by
  obtain ⟨g, m, G, F, _, _, N⟩ := hs.fr
  clear hs
  unfold item at hi
  split at hi
  · obtain ⟨b, rfl, P⟩ := R
    split at hi
    · rename_i e
      subst e
      cases hi
      exact pair_item0 P G.X F N (fun _ m => m) (fun u => kk _ ⟨_, rfl⟩)
    · split at hi
      · rename_i e
        subst e
        cases hi
        exact pair_item1 P G.X F N (fun _ m => m) (fun u => kk _ ⟨_, rfl⟩)
      · cases hi
  · cases hi
theorem push_ok {vs : List Value} (hl : vs.length ≤ 3) (hs : St C σ led h)
    (kk : ∀ a o led' h', o.cls = .type "tuple" → (∃ n, o.data = .seq vs.toArray n) → led' = (a, o) :: led → St C σ led' h' → Q (.ref a) (C.at' h' tk)) : wpc C (newTuple vs) Q E h tk := by
  obtain ⟨⟨g, m, G, F, a, b, N⟩, l⟩ := hs
  exact newTuple_N (s := C.at' h tk) F N (fun h' F' N' => kk _ _ _ h' rfl ⟨_, rfl⟩ rfl (St.of G F' (fun x v e => (a x v e).imp fun u q => ⟨q.1, q.2.mono fun p m => .tail _ m⟩) b N' l)) (Nat.le_trans hl (by rw [sizeLine_eq]; exact Nat.le_of_ble_eq_true rfl))
theorem disp_ok {vs : List V} {r : V} {T : List Prop} {us : List Value} (hd : disp vs = some (T, r)) (R : Reps C.w led us vs) (hs : St C σ led h)
    (kk : ∀ u led' h' tk', (∀ p ∈ led, p ∈ led') → Rep C.w led' u r → St C σ led' h' → Q u (C.at' h' tk')) :
    wpc C (newTuple us) Q E h tk := by
  unfold disp at hd
  split at hd
  · cases hd
    obtain ⟨_, us1, rfl, S1, R1⟩ := R.one
    obtain ⟨_, us2, rfl, S2, R2⟩ := R1.one
    cases R2.none
    obtain ⟨t, rfl⟩ := S1
    obtain ⟨u, rfl⟩ := S2
    exact push_ok (Nat.le_of_ble_eq_true rfl) hs fun a o led' h' c d e s1 => by
      subst e
      obtain ⟨n, d⟩ := d
      exact kk _ _ h' _ (fun p m => .tail _ m) ⟨_, rfl, _, t, u, n, c, d, .inl (.head _)⟩ s1
  · cases hd
    obtain ⟨_, us1, rfl, S1, R1⟩ := R.one
    obtain ⟨_, us2, rfl, S2, R2⟩ := R1.one
    obtain ⟨_, us3, rfl, S3, R3⟩ := R2.one
    cases R3.none
    obtain ⟨t, rfl⟩ := S1
    obtain ⟨u, rfl⟩ := S2
    obtain ⟨z, rfl⟩ := S3
    exact push_ok (Nat.le_of_ble_eq_true rfl) hs fun a o led' h' c d e s1 => by
      subst e
      obtain ⟨n, d⟩ := d
      exact kk _ _ h' _ (fun p m => .tail _ m) ⟨_, rfl, _, t, u, z, n, c, d, .head _⟩ s1
  · cases hd
end
end Mine
end
section
open PySem PySem.W PyProof.Rows
set_option maxRecDepth 100000
namespace Mine
inductive FarS (C : Cx) (led : Led) : Value → Shared → Prop
  | mk {g : Heap} {m : Str → Option Value} {e t : Addr} {vs : List Value} {G h' : Heap} {tk' : Nat} (K : Gr C g) (F : Fr g C.L G m) (hn : ∀ z, C.Γ.sc.names.lookup z = none → m z = none) (R : RaisedS C.base G (C.env :: C.outer) e (.ref 44) t vs led h') (U : G.UpToSlots h') : FarS C led (.ref e) (C.at' h' tk')
theorem FarS.sub {C : Cx} {led led' : Led} {v : Value} {s : Shared} (H : FarS C led' v s) (k : ∀ p ∈ led, p ∈ led') : FarS C led v s := by
  cases H with
  | mk K F hn R U => exact .mk K F hn (RaisedS.sub R k) U
section
variable {C : Cx} (O : C.Ok) {σ : Sg} {f : Expr → Rs} {led : Led} {h : Heap} {tk : Nat} {Q : Value → Shared → Prop} {E : Value → Shared → Prop}
theorem abs_ok {vs : List V} {r : V} {T : List Prop} {us : List Value} (hb : absV vs = some (T, r)) (R : Reps C.w led us vs) (kk : ∀ u tk', Rep C.w led u r → Q u (C.at' h tk')) : wpc C (call (.builtin "abs") us) Q E h tk := by
  unfold absV at hb
  split at hb
  · cases hb
    obtain ⟨_, us1, rfl, S1, R1⟩ := R.one
    cases R1.none
    obtain ⟨t, rfl⟩ := S1
    exact call_abs_int fun u tk' => kk _ _ ⟨_, rfl⟩
  · cases hb
theorem max_ok {g : Heap} {m : Str → Option Value} {vs : List V} {r : V} {T : List Prop} {us : List Value} (hb : maxV vs = some (T, r)) (R : Reps C.w led us vs) (F : Fr g C.L h m) (N : News g C.L h led) (kk : ∀ u h' tk', Rep C.w led u r → Fr g C.L h' m → News g C.L h' led → Q u (C.at' h' tk')) : wpc C (call (.builtin "max") us) Q E h tk := by
  unfold maxV at hb
  split at hb
  · cases hb
    obtain ⟨_, us1, rfl, S1, R1⟩ := R.one
    obtain ⟨_, us2, rfl, S2, R2⟩ := R1.one
    cases R2.none
    obtain ⟨t, rfl⟩ := S1
    obtain ⟨u, rfl⟩ := S2
    exact max_two_N (s := C.at' h tk) rfl F N fun h' tk' F' N' => kk _ h' _ ⟨_, rfl⟩ F' N'
  · cases hb
theorem min_ok {g : Heap} {m : Str → Option Value} {vs : List V} {r : V} {T : List Prop} {us : List Value} (hb : minV vs = some (T, r)) (R : Reps C.w led us vs) (F : Fr g C.L h m) (N : News g C.L h led) (kk : ∀ u h' tk', Rep C.w led u r → Fr g C.L h' m → News g C.L h' led → Q u (C.at' h' tk')) : wpc C (call (.builtin "min") us) Q E h tk := by
  unfold minV at hb
  split at hb
  · cases hb
    obtain ⟨_, us1, rfl, S1, R1⟩ := R.one
    obtain ⟨_, us2, rfl, S2, R2⟩ := R1.one
    cases R2.none
    obtain ⟨t, rfl⟩ := S1
    obtain ⟨u, rfl⟩ := S2
    exact min_two_N (s := C.at' h tk) rfl F N fun h' tk' F' N' => kk _ h' _ ⟨_, rfl⟩ F' N'
  · cases hb
theorem dm_ok {g : Heap} {m : Str → Option Value} {vs : List V} {r : V} {T : List Prop} {us : List Value} (hb : dmV vs = some (T, r)) (hT : ∀ q ∈ T, q) (R : Reps C.w led us vs) (F : Fr g C.L h m) (N : News g C.L h led) (kk : ∀ u p h' tk', Rep C.w (p :: led) u r → Fr g C.L h' m → News g C.L h' (p :: led) → Q u (C.at' h' tk')) : wpc C (call (.builtin "divmod") us) Q E h tk := by
  unfold dmV at hb
  split at hb
  · cases hb
    obtain ⟨_, us1, rfl, S1, R1⟩ := R.one
    obtain ⟨_, us2, rfl, S2, R2⟩ := R1.one
    cases R2.none
    obtain ⟨t, rfl⟩ := S1
    obtain ⟨u, rfl⟩ := S2
    exact divmod_pair (w₀ := C.w) (s := C.at' h tk) F N (hT _ (.head _)) (hT _ (.tail _ (.head _))) fun c o h' tk' F' N' P => kk _ _ h' _ ⟨_, rfl, P⟩ F' N'
  · cases hb
theorem builtin_ok {vs : List V} {r : V} {T : List Prop} {us : List Value} {b : String} (hb : builtin (Str.ofString b) vs = some (T, r)) (hT : ∀ q ∈ T, q) (R : Reps C.w led us vs) (hs : St C σ led h)
    (hn : b = "abs" ∨ b = "max" ∨ b = "min" ∨ b = "divmod")
    (kk : ∀ u led' h' tk', (∀ p ∈ led, p ∈ led') → Rep C.w led' u r → St C σ led' h' → Q u (C.at' h' tk')) :
    wpc C (call (.builtin b) us) Q E h tk := by
  obtain ⟨⟨g, m, G, F, a, c, N⟩, l⟩ := hs
  have grow : ∀ u h' tk', Rep C.w led u r → Fr g C.L h' m → News g C.L h' led → Q u (C.at' h' tk') := fun u h' tk' R' F' N' => kk u led h' tk' (fun _ m => m) R' (St.of G F' a c N' l)
  rcases hn with rfl | rfl | rfl | rfl
  · exact abs_ok hb R fun u tk' R' => grow u h tk' R' F N
  · exact max_ok hb R F N grow
  · exact min_ok hb R F N grow
  · exact dm_ok hb hT R F N fun u p h' tk' R' F' N' => kk u _ h' tk' (fun _ m => .tail _ m) R' (St.of G F' (fun x v e => (a x v e).imp fun u q => ⟨q.1, q.2.mono fun _ m => .tail _ m⟩) c N' l)
theorem isB_name {Γ : Cfg} {g : Str} (hb : isBuiltin Γ σ g = true) : isGlob Γ g = true ∧ ∃ b, g = Str.ofString b ∧ (b = "abs" ∨ b = "max" ∨ b = "min" ∨ b = "divmod") := by
  simp only [isBuiltin, Bool.and_eq_true, Bool.or_eq_true, beq_iff_eq] at hb
  obtain ⟨⟨_, e⟩, k⟩ := hb
  refine ⟨e, ?_⟩
  rcases k with ((k | k) | k) | k
  · exact ⟨_, k, .inl rfl⟩
  · exact ⟨_, k, .inr (.inl rfl)⟩
  · exact ⟨_, k, .inr (.inr (.inl rfl))⟩
  · exact ⟨_, k, .inr (.inr (.inr rfl))⟩
theorem callB_ok (O : C.Ok) (H : Snd C σ f) (PL : Plain f) {g : Str} {args : List Expr} {S T : List Prop} {vs : List V} {r : V} {np pos : Pos} (hb : isBuiltin C.Γ σ g = true) (hp : pvs f args = some (S, vs)) (hr : builtin g vs = some (T, r))
    (hS : ∀ q ∈ S, q) (hT : ∀ q ∈ T, q) (hs : St C σ led h)
    (kk : ∀ u led' h' tk', (∀ p ∈ led, p ∈ led') → Rep C.w led' u r → St C σ led' h' → Q u (C.at' h' tk')) :
    wpc C (eval (.Call (.Name g np) args [] pos) C.env) Q E h tk := by
  obtain ⟨hg, b, rfl, hn⟩ := isB_name hb
  obtain ⟨p1, p2⟩ := pvs_ok H PL pos args S vs hp hS
  match args, hp, p1, p2 with
  | [], hp, p1, p2 =>
    simp only [pvs, Option.some.injEq, Prod.mk.injEq] at hp
    obtain ⟨rfl, rfl⟩ := hp
    have hno : builtin (Str.ofString b) [] = none := by rcases hn with rfl | rfl | rfl | rfl <;> rfl
    rw [hno] at hr; cases hr
  | e :: rest, hp, p1, p2 =>
    obtain ⟨g, m, G, F, _, _, _⟩ := hs.fr
    have hst : starEach (e :: rest) C.env = (false, eval e C.env) :: starEach rest C.env := by
      unfold pvs at hp
      split at hp
      · rename_i S₁ v h₁
        exact (PL e _ h₁).2.1 rest _
      · cases hp
    have hboot : bootBuiltins (Str.ofString b) = some (.builtin b) ∧ nsIn (heapK C.w.params) mainGlobals (Str.ofString b) = some none ∧ Str.ofString b ≠ Str.ofString "__name__" := by
      rcases hn with rfl | rfl | rfl | rfl
      · exact ⟨boot_abs, rfl, by decide⟩
      · exact ⟨boot_max, rfl, by decide⟩
      · exact ⟨boot_min, rfl, by decide⟩
      · exact ⟨boot_divmod, rfl, by decide⟩
    refine Call_ (nameX_B (s := C.at' h tk) F G.X (topRead_of G.T) hboot.2.1 hboot.1 hboot.2.2 ?_ O.hk (isGlob_of hg).1 (isGlob_of hg).2) rfl
    refine PyProof.Rows.callWith_builtin1 ?_ hst (by rw [hst] at p1; exact p1)
    exact p2 led h tk _ _ hs fun us led' h' tk' k1 R1 s1 => builtin_ok hr hT R1 s1 hn fun u led2 h2 tk2 k2 => kk u led2 h2 tk2 fun p m => k2 p (k1 p m)
theorem find_mem {α : Type} {p : α → Bool} {l : List α} {a : α} (h : l.find? p = some a) : a ∈ l ∧ p a = true := ⟨List.mem_of_find?_eq_some h, List.find?_some h⟩
theorem answer_ok {Γ : Cfg} {a : Addr} {vs : List V} {r : Addr × Nat × List Prop × Out} (h : answer Γ (fun q => q.1 == a) vs = some r) : ∃ nm sp, (nm, a, sp) ∈ Γ.fns ∧ sp.cost ≤ Γ.room ∧ (sp.deep = true → Γ.deep = true) ∧ sp.val vs = some (r.2.2.1, r.2.2.2) := by
  unfold answer at h
  split at h
  · rename_i nm a' sp hf
    obtain ⟨m, e⟩ := find_mem hf
    have e' : a' = a := by simpa using e
    subst e'
    split at h
    · rename_i hc
      split at h
      · rename_i S o hv
        cases h
        simp only [Bool.and_eq_true, Nat.ble_eq, Bool.or_eq_true, Bool.not_eq_true'] at hc
        exact ⟨nm, sp, m, hc.1, fun d => hc.2.resolve_left (by rw [d]; exact Bool.noConfusion), hv⟩
      · cases h
    · cases h
  · cases h
theorem nameFn_ok (O : C.Ok) {g : Str} {a : Addr} {np : Pos} (hf : fnOfName C.Γ σ g = some a) (hs : St C σ led h) (k : Q (.ref a) (C.at' h tk)) : wpc C (eval (.Name g np) C.env) Q E h tk := by
  obtain ⟨g', m, G, F, hm, _, _⟩ := hs.fr
  unfold fnOfName at hf
  split at hf
  · rename_i a' e
    cases hf
    obtain ⟨u, e1, R⟩ := hm _ _ e
    have R : u = .ref a := R
    subst R
    exact nameX_L (s := C.at' h tk) F e1 k O.hk (isLoc_of (hs.loc _ _ e)).1 (isLoc_of (hs.loc _ _ e)).2
  · cases hf
  · split at hf
    · rename_i hg
      split at hf
      · rename_i nm a' sp e
        cases hf
        obtain ⟨hmem, e2⟩ := find_mem e
        have e2 : nm = g := by simpa using e2
        subst e2
        exact nameX_K (s := C.at' h tk) F G.X (topRead_of G.T) ((O.fns _ hmem).1 C.w).1 k O.hk (isGlob_of hg).1 (isGlob_of hg).2
      · cases hf
    · cases hf
theorem callV_ok (O : C.Ok) (H : Snd C σ f) (PL : Plain f) {g : Str} {args : List Expr} {S : List Prop} {o : Out} {np pos : Pos} (hc : callV C.Γ f σ g args = some (S, o))
    (hS : ∀ q ∈ S, q) (hs : St C σ led h)
    (kk : ∀ u led' h' tk', (∀ p ∈ led, p ∈ led') → OutRep C.w led' u o → St C σ led' h' → Q u (C.at' h' tk')) (ke : OutBad o → ∀ v s', FarS C led v s' → E v s') :
    wpc C (eval (.Call (.Name g np) args [] pos) C.env) Q E h tk := by
  unfold callV at hc
  have hne : args ≠ [] := fun e => by subst e; cases hc
  rw [if_neg (by simpa using hne)] at hc
  split at hc
  · rename_i S₁ vs hp
    split at hc
    · rename_i a ha
      split at hc
      · rename_i x y T o' hans
        cases hc
        obtain ⟨hS1, hS2⟩ := all_app hS
        obtain ⟨nm, sp, hmem, hcost, hdeep, hval⟩ := answer_ok hans
        obtain ⟨p1, p2⟩ := pvs_ok H PL pos args _ vs hp hS1
        match args, hne, hp, p1, p2 with
        | e :: rest, _, hp, p1, p2 =>
          have hst : starEach (e :: rest) C.env = (false, eval e C.env) :: starEach rest C.env := by
            unfold pvs at hp
            split at hp
            · rename_i S₁ v h₁
              exact (PL e _ h₁).2.1 rest _
            · cases hp
          refine Call_ (nameFn_ok O ha hs ?_) rfl
          obtain ⟨_, _, G₀, _⟩ := hs.fr
          refine callWith_K G₀.X ((O.fns _ hmem).1 C.w).2 ?_ hst (by rw [hst] at p1; exact p1)
          refine p2 led h tk _ _ hs fun us led' h' tk' k1 R1 s1 => ?_
          obtain ⟨⟨g, m, G, F, hm1, hm2, N⟩, l⟩ := s1
          refine ⟨G.X.keeps F.keep, ?_⟩
          obtain ⟨c1, c2⟩ := (O.fns _ hmem).2 C.w C.p C.loose C.mean C.mg C.mb led' vs us _ _ hval hS2 R1
          have hd := Nat.lt_of_le_of_lt (Nat.add_le_add_left hcost _) O.hd
          have hu := Nat.lt_of_le_of_lt (Nat.add_le_add_left (Nat.mul_le_mul_left 8 hcost) _) O.hu
          cases hdp : sp.deep with
          | false =>
            refine CallR.use (c1 hdp) G.B F G.X N G.T O.hk hd hu ?_ ?_
            · intro r tl h2 tk2 F2 N2 P2
              exact kk r (tl ++ led') h2 tk2 (fun p m => List.mem_append_right _ (k1 p m)) P2 (St.of G F2 (fun x v e => (hm1 x v e).imp fun u q => ⟨q.1, q.2.mono fun p m => List.mem_append_right _ m⟩) hm2 N2 l)
            · intro e2 t2 vs2 G2 h2 tk2 hbad FG R2 U2
              exact ke hbad _ _ (FarS.sub (FarS.mk G FG hm2 R2 U2) k1)
          | true =>
            have hΓ := hdeep hdp
            obtain ⟨XB, TB⟩ := O.XB hΓ
            obtain ⟨D, U⟩ := G.deep hΓ
            refine CallS.use (c2 hdp) G.B F G.X N G.T XB TB D O.hk hd hu ?_
            intro r tl g' h2 tk2 U2 F2 N2 B2 X2 T2 D2 P2
            exact kk r (tl ++ led') h2 tk2 (fun p m => List.mem_append_right _ (k1 p m)) P2 (St.of ⟨B2, X2, T2, fun e => (nomatch hΓ.symm.trans e), fun _ => ⟨D2, U.trans U2⟩⟩ F2 (fun x v e => (hm1 x v e).imp fun u q => ⟨q.1, q.2.mono fun p m => List.mem_append_right _ m⟩) hm2 N2 l)
      · cases hc
    · cases hc
  · cases hc
end
end Mine
end
section
open PySem PySem.W PyProof.Rows
set_option maxRecDepth 100000
namespace Mine
theorem step_plain {Γ : Cfg} {σ : Sg} {f : Expr → Rs} : Plain (step Γ f σ) := by
  intro e r h
  cases e <;> first
    | exact nomatch (show (Option.none : Rs) = some r from h)
    | exact ⟨fun t l env => by cases t <;> rfl, fun rest env => rfl, fun op a b => rfl⟩
section
variable {C : Cx} (O : C.Ok) {σ : Sg} {f : Expr → Rs}
theorem glob_ok (O : C.Ok) {led : Led} {h : Heap} {tk : Nat} {Q : Value → Shared → Prop} {E : Value → Shared → Prop} {x : Str} {v : V} {np : Pos} (hg : isGlob C.Γ x = true) (hv : glob x = some v) (hs : St C σ led h)
    (kk : ∀ u led' h' tk', (∀ p ∈ led, p ∈ led') → Rep C.w led' u v → St C σ led' h' → Q u (C.at' h' tk')) : wpc C (eval (.Name x np) C.env) Q E h tk := by
  obtain ⟨g, m, G, F, _, _, _⟩ := hs.fr
  have K : ∀ (val : Value), nsIn (heapK C.w.params) mainGlobals x = some (some val) → Rep C.w led val v → wpc C (eval (.Name x np) C.env) Q E h tk := fun val e R =>
    nameX_K (s := C.at' h tk) F G.X (topRead_of G.T) e (kk val led h _ (fun _ m => m) R hs) O.hk (isGlob_of hg).1 (isGlob_of hg).2
  unfold glob at hv
  split at hv
  · rename_i e
    cases hv; subst e
    exact K (.ref 47) rfl ⟨_, rfl, nought⟩
  · split at hv
    · rename_i e
      cases hv; subst e
      exact K (.int 10 307) rfl ⟨_, rfl⟩
    · split at hv
      · rename_i e
        cases hv; subst e
        exact K (.int 31415926535897932384626433832795028841971 580) rfl ⟨_, rfl⟩
      · cases hv
theorem name_ok (O : C.Ok) {led : Led} {h : Heap} {tk : Nat} {Q : Value → Shared → Prop} {E : Value → Shared → Prop} {x : Str} {v : V} {np : Pos} (hv : σ.lookup x = some v) (hs : St C σ led h)
    (kk : ∀ u led' h' tk', (∀ p ∈ led, p ∈ led') → Rep C.w led' u v → St C σ led' h' → Q u (C.at' h' tk')) : wpc C (eval (.Name x np) C.env) Q E h tk := by
  obtain ⟨g, m, G, F, hm, _, _⟩ := hs.fr
  obtain ⟨u, e1, R⟩ := hm _ _ hv
  exact nameX_L (s := C.at' h tk) F e1 (kk u led h _ (fun _ m => m) R hs) O.hk (isLoc_of (hs.loc _ _ hv)).1 (isLoc_of (hs.loc _ _ hv)).2
theorem bops_ok (H : Snd C σ f) (pos : Pos) (op : BoolOp) : ∀ (es : List Expr) (S : List Prop) (p : (P : Prop) × Decidable P), bops f op es = some (S, p) → (∀ q ∈ S, q) →
    ∀ led h tk Q E, St C σ led h → (∀ u led' h' tk', (∀ p ∈ led, p ∈ led') → Rep C.w led' u (.tf p.1 p.2) → St C σ led' h' → Q u (C.at' h' tk')) → wpc C (eval (.BoolOp op es pos) C.env) Q E h tk
  | [], S, p, e, _ => by cases e
  | a :: r, S, p, e, hS => by
    unfold bops at e
    split at e
    · rename_i p₁ h₁
      have h₁ := asTf_inv h₁
      cases r with
      | nil =>
        cases e
        exact fun led h tk Q E hs k => BoolOp_one (H a _ _ h₁ hS led h tk _ _ hs k)
      | cons b r =>
        dsimp only at e
        split at e
        · rename_i q h₂
          intro led h tk Q E hs k
          have go := bops_ok H pos op (b :: r) q.1 q.2 h₂
          obtain ⟨S₁, P, d⟩ := p₁
          obtain ⟨T, P', d'⟩ := q
          cases op <;> (cases e; obtain ⟨hS1, hS2⟩ := all_app hS)
          · refine BoolOp_and (H a _ _ h₁ hS1 led h tk _ _ hs fun u led' h' tk' k1 R1 s1 => ?_)
            obtain ⟨c, rfl, hc⟩ := R1
            refine wpAny_truthy_bool ?_
            cases c
            · exact k _ led' h' tk' k1 ⟨_, rfl, ⟨fun x => Bool.noConfusion x, fun x => Bool.noConfusion (hc.mpr x.1)⟩⟩ s1
            · have p : P := hc.mp rfl
              exact go (all_map hS2 p) led' h' tk' _ _ s1 fun u led2 h2 tk2 k2 R2 s2 => k u led2 h2 tk2 (fun x m => k2 x (k1 x m)) (by obtain ⟨c, e, hc⟩ := R2; exact ⟨c, e, hc.trans ⟨fun x => ⟨p, x⟩, fun x => x.2⟩⟩) s2
          · refine BoolOp_or (H a _ _ h₁ hS1 led h tk _ _ hs fun u led' h' tk' k1 R1 s1 => ?_)
            obtain ⟨c, rfl, hc⟩ := R1
            refine wpAny_truthy_bool ?_
            cases c
            · have p : ¬ P := fun p => Bool.noConfusion (hc.mpr p)
              exact go (all_map hS2 p) led' h' tk' _ _ s1 fun u led2 h2 tk2 k2 R2 s2 => k u led2 h2 tk2 (fun x m => k2 x (k1 x m)) (by obtain ⟨c, e, hc⟩ := R2; exact ⟨c, e, hc.trans ⟨.inr, fun x => x.resolve_left p⟩⟩) s2
            · exact k _ led' h' tk' k1 ⟨_, rfl, ⟨fun _ => .inl (hc.mp rfl), fun _ => rfl⟩⟩ s1
        · cases e
    · cases e
theorem bopsT_ok (H : SndT C σ f) (pos : Pos) (op : BoolOp) (whole : Sem Value) : ∀ (es : List Expr) (S : List Prop) (p : (P : Prop) × Decidable P), bops f op es = some (S, p) → (∀ q ∈ S, q) →
    ∀ led h tk Q E, St C σ led h → (∀ b led' h' tk', (b = true ↔ p.1) → (∀ p ∈ led, p ∈ led') → St C σ led' h' → Q b (C.at' h' tk')) → wpc C (isTrue (.BoolOp op es pos) C.env whole) Q E h tk
  | [], S, p, e, _ => by cases e
  | a :: r, S, p, e, hS => by
    unfold bops at e
    split at e
    · rename_i p₁ h₁
      have h₁ := asTf_inv h₁
      cases r with
      | nil =>
        cases e
        intro led h tk Q E hs k
        cases op
        · refine isTrue_and (H a _ _ _ p.2 h₁ rfl hS led h tk _ _ hs fun b led' h' tk' hb k1 s1 => ?_)
          cases b
          · exact k _ _ _ _ hb k1 s1
          · exact isTrue_and_nil (k _ _ _ _ hb k1 s1)
        · refine isTrue_or (H a _ _ _ p.2 h₁ rfl hS led h tk _ _ hs fun b led' h' tk' hb k1 s1 => ?_)
          cases b
          · exact isTrue_or_nil (k _ _ _ _ hb k1 s1)
          · exact k _ _ _ _ hb k1 s1
      | cons b r =>
        dsimp only at e
        split at e
        · rename_i q h₂
          intro led h tk Q E hs k
          have go := bopsT_ok H pos op whole (b :: r) q.1 q.2 h₂
          obtain ⟨S₁, P, d⟩ := p₁
          obtain ⟨T, P', d'⟩ := q
          cases op <;> (cases e; obtain ⟨hS1, hS2⟩ := all_app hS)
          · refine isTrue_and (H a _ _ _ d h₁ rfl hS1 led h tk _ _ hs fun c led' h' tk' hc k1 s1 => ?_)
            cases c
            · exact k _ led' h' tk' ⟨fun x => Bool.noConfusion x, fun x => Bool.noConfusion (hc.mpr x.1)⟩ k1 s1
            · have p : P := hc.mp rfl
              exact go (all_map hS2 p) led' h' tk' _ _ s1 fun c led2 h2 tk2 hc2 k2 s2 => k c led2 h2 tk2 (hc2.trans ⟨fun x => ⟨p, x⟩, fun x => x.2⟩) (fun x m => k2 x (k1 x m)) s2
          · refine isTrue_or (H a _ _ _ d h₁ rfl hS1 led h tk _ _ hs fun c led' h' tk' hc k1 s1 => ?_)
            cases c
            · have p : ¬ P := fun p => Bool.noConfusion (hc.mpr p)
              exact go (all_map hS2 p) led' h' tk' _ _ s1 fun c led2 h2 tk2 hc2 k2 s2 => k c led2 h2 tk2 (hc2.trans ⟨.inr, fun x => x.resolve_left p⟩) (fun x m => k2 x (k1 x m)) s2
            · exact k _ led' h' tk' ⟨fun _ => .inl (hc.mp rfl), fun _ => rfl⟩ k1 s1
        · cases e
    · cases e
end
end Mine
end
section
open PySem PySem.W PySem.Calls PyProof.Rows
set_option maxRecDepth 100000
namespace Mine
noncomputable def LitOk (f : Expr → Rs) : Prop := ∀ i k p S x, f (.Constant (.int i) k p) = some (S, .int x) → x = i
noncomputable def EOk (C : Cx) (σ : Sg) (t : Sem Value) (S : List Prop) (v : V) : Prop := (∀ q ∈ S, q) →
  ∀ led h tk Q E, St C σ led h → (∀ u led' h' tk', (∀ p ∈ led, p ∈ led') → Rep C.w led' u v → St C σ led' h' → Q u (C.at' h' tk')) → wpc C t Q E h tk
section
variable {C : Cx} (O : C.Ok) {σ : Sg} {f : Expr → Rs}
theorem const_ok {c : Const} {v : V} {k : Nat} {p : Pos} {A : Around} {s : Shared} {Q : Value → Shared → Prop} {E : Value → Shared → Prop} (hc : constV c = some v) (kk : ∀ u tk', (∀ led, Rep C.w led u v) → Q u { s with toks := tk' }) : wpAny (model prog0 C.w) A (eval (.Constant c k p) C.env) Q E s := by
  cases c <;> first
    | exact nomatch (show (Option.none : Option V) = some v from hc)
    | skip
  · cases hc
    exact fun _ _ _ => kk _ _ fun _ => ⟨_, rfl, Iff.rfl⟩
  · cases hc
    exact wpAny_Constant_int (kk _ _ fun _ => ⟨_, rfl⟩)
  · cases hc
    exact Constant_str (kk _ _ fun _ => ⟨_, rfl⟩)
theorem name_sok (O : C.Ok) {x : Str} {p : Pos} {S : List Prop} {v : V} (h : nameR C.Γ σ x = some (S, v)) : EOk C σ (eval (.Name x p) C.env) S v := by
  intro hS led h' tk Q E hs kk
  unfold nameR at h
  split at h
  · rename_i h₁
    cases h
    exact name_ok O h₁ hs kk
  · split at h
    · rename_i hg
      split at h
      · rename_i h₁
        cases h
        exact glob_ok O hg h₁ hs kk
      · cases h
    · cases h
theorem un_sok (H : Snd C σ f) {op : UnaryOp} {a : Expr} {p : Pos} {S : List Prop} {v : V} (h : unR op (f a) = some (S, v)) : EOk C σ (eval (.UnaryOp op a p) C.env) S v := by
  intro hS led h' tk Q E hs kk
  cases op <;> first
    | exact nomatch (show (Option.none : Rs) = some (S, v) from h)
    | skip
  · dsimp only [unR] at h
    split at h
    · rename_i T p h₁
      cases h
      refine UnaryOp_ (H _ _ _ (asTf_inv h₁) hS led h' tk _ _ hs fun u led' h' tk' k1 R1 s1 => ?_)
      obtain ⟨b, rfl, hb⟩ := R1
      exact not_of (wpAny_truthy_bool (kk _ led' h' _ k1 ⟨_, rfl, by rw [← hb]; cases b <;> simp⟩ s1))
    · cases h
  · dsimp only [unR] at h
    split at h
    · rename_i h₁
      cases h
      refine UnaryOp_ (H _ _ _ (asInt_inv h₁) hS led h' tk _ _ hs fun u led' h' tk' k1 R1 s1 => ?_)
      obtain ⟨t, rfl⟩ := R1
      exact neg_int (kk _ led' h' _ k1 ⟨_, rfl⟩ s1)
    · cases h
theorem lit_is (LI : LitOk f) {a : Expr} {S : List Prop} {x : Int} (h₁ : f a = some (S, .int x)) : ∀ i, lit a = some i → x = i := fun i hi => by
  obtain ⟨k, p, rfl⟩ := lit_const hi
  exact LI _ _ _ _ _ h₁
theorem bin_sok (H : Snd C σ f) (LI : LitOk f) {op : Operator} {a b : Expr} {p : Pos} {S : List Prop} {v : V} (h : binR op (lit a) (lit b) (f a) (f b) = some (S, v)) : EOk C σ (eval (.BinOp a op b p) C.env) S v := by
  intro hS led h' tk Q E hs kk
  unfold binR at h
  split at h
  · rename_i h₁
    split at h
    · rename_i h₂
      split at h
      · rename_i h₃
        cases h
        have h₁ := asInt_inv h₁
        have h₂ := asInt_inv h₂
        obtain ⟨q1, q2⟩ := all_app hS
        obtain ⟨q2, q3⟩ := all_app q2
        refine wpAny_BinOp (H _ _ _ h₁ q1 led h' tk _ _ hs fun u led' h' tk' k1 R1 s1 => H _ _ _ h₂ q2 led' h' tk' _ _ s1 fun v led2 h2 tk2 k2 R2 s2 => ?_)
        obtain ⟨t, rfl⟩ := R1
        obtain ⟨t', rfl⟩ := R2
        exact bin_ok h₃ (lit_is LI h₁) (lit_is LI h₂) q3 fun z e => kk _ led2 h2 _ (fun x m => k2 x (k1 x m)) (by subst e; exact ⟨_, rfl⟩) s2
      · cases h
    · cases h
  · cases h
theorem if_inv {t a b : Rs} {S : List Prop} {v : V} (h : ifR t a b = some (S, v)) : ∃ S₁ c p T x U y, t = some (S₁, c) ∧ truth c = some p ∧ a = some (T, .int x) ∧ b = some (U, .int y) ∧ S = S₁ ++ (guard p.1 T ++ guard (¬ p.1) U) ∧ v = .int (@ite _ p.1 p.2 x y) := by
  unfold ifR at h
  split at h
  · rename_i h₁
    split at h
    · rename_i h₂
      split at h
      · rename_i h₃
        cases h
        obtain ⟨c, e1, e2⟩ := asTest_inv h₁
        exact ⟨_, c, _, _, _, _, _, e1, e2, asInt_inv h₂, asInt_inv h₃, rfl, rfl⟩
      · cases h
    · cases h
  · cases h
theorem if_sok (H : Snd C σ f) (HT : SndT C σ f) {t a b : Expr} {p : Pos} {S : List Prop} {v : V} (h : ifR (f t) (f a) (f b) = some (S, v)) : EOk C σ (eval (.IfExp t a b p) C.env) S v := by
  intro hS led h' tk Q E hs kk
  obtain ⟨S₁, c, p, T, x, U, y, h₁, ht, h₂, h₃, rfl, rfl⟩ := if_inv h
  obtain ⟨q1, q2⟩ := all_app hS
  obtain ⟨q2, q3⟩ := all_app q2
  refine IfExp_ (HT t _ _ _ _ h₁ ht q1 led h' tk _ _ hs fun c led' h' tk' hc k1 s1 => ?_)
  cases c
  · have n : ¬ p.1 := fun n => Bool.noConfusion (hc.mpr n)
    rw [if_neg n] at kk
    exact H b _ _ h₃ (all_map q3 n) led' h' tk' _ _ s1 fun u led2 h2 tk2 k2 => kk u led2 h2 tk2 fun x m => k2 x (k1 x m)
  · have n : p.1 := hc.mp rfl
    rw [if_pos n] at kk
    exact H a _ _ h₂ (all_map q2 n) led' h' tk' _ _ s1 fun u led2 h2 tk2 k2 => kk u led2 h2 tk2 fun x m => k2 x (k1 x m)
theorem cmp_inv {op : CmpOp} {a b : Rs} {S : List Prop} {v : V} (h : cmpR op a b = some (S, v)) : ∃ S₁ x T y p, a = some (S₁, x) ∧ b = some (T, y) ∧ cmp op x y = some p ∧ S = S₁ ++ T ∧ v = .tf p.1 p.2 := by
  unfold cmpR at h
  split at h
  · split at h
    · split at h
      · rename_i h₃
        cases h
        exact ⟨_, _, _, _, _, rfl, rfl, h₃, rfl, rfl⟩
      · cases h
    · cases h
  · cases h
theorem cmpE_ok (O : C.Ok) (H : Snd C σ f) {a b : Expr} {op : CmpOp} {S T : List Prop} {x y : V} {p : (P : Prop) × Decidable P} (h₁ : f a = some (S, x)) (h₂ : f b = some (T, y)) (hc : cmp op x y = some p) (hS : ∀ q ∈ S ++ T, q)
    (led h tk) (Q : Value → Shared → Prop) (E) (hs : St C σ led h) (k : ∀ (c : Bool) led' h' tk', (c = true ↔ p.1) → (∀ p ∈ led, p ∈ led') → St C σ led' h' → Q (.bool c) (C.at' h' tk')) :
    wpc C (eval a C.env) (fun u s₁ => wpAny (model prog0 C.w) C.A (eval b C.env) (fun v s₂ => wpAny (model prog0 C.w) C.A (compareOp op u v) Q E s₂) E s₁) E h tk := by
  obtain ⟨q1, q2⟩ := all_app hS
  exact H a _ _ h₁ q1 led h tk _ _ hs fun u led' h' tk' k1 R1 s1 => H b _ _ h₂ q2 led' h' tk' _ _ s1 fun v led2 h2 tk2 k2 R2 s2 =>
    cmp_ok O hc (R1.mono k2) R2 s2 fun c hc => k c led2 h2 tk2 hc (fun x m => k2 x (k1 x m)) s2
theorem item_sok (H : Snd C σ f) {a : Expr} {i : Int} {k : Nat} {cp p : Pos} {S : List Prop} {v : V} (h : itemR i (f a) = some (S, v)) : EOk C σ (eval (.Subscript a (.Constant (.int i) k cp) p) C.env) S v := by
  intro hS led h' tk Q E hs kk
  unfold itemR at h
  split at h
  · rename_i h₁
    split at h
    · rename_i h₂
      cases h
      exact Subscript_ (H _ _ _ h₁ hS led h' tk _ _ hs fun u led' h' tk' k1 R1 s1 => wpAny_Constant_int (item_ok h₂ R1 s1 fun u R2 => kk u led' h' _ k1 R2 s1))
    · cases h
  · cases h
theorem tup_sok (H : Snd C σ f) (PL : Plain f) {es : List Expr} {k : Nat} {p : Pos} {S : List Prop} {v : V} (h : tupR (pvs f es) = some (S, v)) : EOk C σ (eval (.Tuple es k p) C.env) S v := by
  intro hS led h' tk Q E hs kk
  unfold tupR at h
  split at h
  · rename_i h₁
    split at h
    · rename_i h₂
      cases h
      exact Tuple_ ((pvs_ok H PL _ _ _ _ h₁ hS).2 led h' tk _ _ hs fun us led' h' tk' k1 R1 s1 => disp_ok h₂ R1 s1 fun u led2 h2 tk2 k2 => kk u led2 h2 tk2 fun x m => k2 x (k1 x m))
    · cases h
  · cases h
theorem outV_rep {o : Out} {T : List Prop} {v : V} {w : World} {led : Led} {u : Value} (h : outV o = some (T, v)) (hT : ∀ q ∈ T, q) : (OutRep w led u o → Rep w led u v) ∧ ¬ OutBad o := by
  cases o with
  | val v' => cases h; exact ⟨id, id⟩
  | pair o =>
    cases h
    have hs := hT _ (.head _)
    cases o with
    | none => cases hs
    | some q => exact ⟨fun ⟨x, y, e, r⟩ => by cases e; exact r, fun e => nomatch (show some q = none from e)⟩
  | trip o => cases h
  | unit b => cases h
  | pos o => cases h
  | fresh x y => cases h; exact ⟨fun ⟨a, o, e, m, p⟩ => ⟨a, e, p.pin m⟩, id⟩
theorem call_sok (O : C.Ok) (H : Snd C σ f) (PL : Plain f) {g : Str} {args : List Expr} {np p : Pos} {S : List Prop} {v : V} (h : callR C.Γ f σ g args = some (S, v)) : EOk C σ (eval (.Call (.Name g np) args [] p) C.env) S v := by
  intro hS led h' tk Q E hs kk
  unfold callR at h
  split at h
  · rename_i hb
    unfold callB at h
    split at h
    · rename_i h₁
      split at h
      · rename_i h₂
        cases h
        obtain ⟨q1, q2⟩ := all_app hS
        exact callB_ok O H PL hb h₁ h₂ q1 q2 hs kk
      · cases h
    · cases h
  · split at h
    · rename_i h₁
      split at h
      · rename_i h₂
        cases h
        obtain ⟨q1, q2⟩ := all_app hS
        exact callV_ok O H PL h₁ q1 hs (fun u led' h' tk' k1 R => kk u led' h' tk' k1 ((outV_rep h₂ q2).1 R)) (fun x => ((outV_rep (w := C.w) (led := []) (u := .none) h₂ q2).2 x).elim)
      · cases h
    · cases h
theorem bopN_inv {op : BoolOp} {es : List Expr} {r : List Prop × V} (h : (match bops f op es with | some (S, p) => some (S, V.tf p.1 p.2) | none => none) = some r) : ∃ p, bops f op es = some p ∧ r = (p.1, .tf p.2.1 p.2.2) := by
  cases h1 : bops f op es with
  | none => rw [h1] at h; cases h
  | some p => rw [h1] at h; cases h; exact ⟨p, rfl, rfl⟩
theorem constN_inv {c : Const} {r : List Prop × V} (h : (match constV c with | some v => some (([] : List Prop), v) | none => none) = some r) : ∃ v, constV c = some v ∧ r = ([], v) := by
  cases h1 : constV c with
  | none => rw [h1] at h; cases h
  | some p => rw [h1] at h; cases h; exact ⟨p, rfl, rfl⟩
theorem itemN_inv {s : Expr} {a : Rs} {r : List Prop × V} (h : (match lit s with | some i => itemR i a | none => Option.none) = some r) : ∃ i k cp, s = .Constant (.int i) k cp ∧ itemR i a = some r := by
  cases h1 : lit s with
  | none => rw [h1] at h; cases h
  | some i =>
    rw [h1] at h
    obtain ⟨k, cp, rfl⟩ := lit_const h1
    exact ⟨i, k, cp, rfl, h⟩
theorem callN_inv {Γ : Cfg} {g : Expr} {args : List Expr} {kws : List Keyword} {r : List Prop × V} (h : (match nameOf g with | some g => (match kws with | [] => callR Γ f σ g args | _ :: _ => Option.none) | none => .none) = some r) : ∃ x np, g = .Name x np ∧ kws = [] ∧ callR Γ f σ x args = some r := by
  cases hg : nameOf g with
  | none => rw [hg] at h; cases h
  | some x =>
    rw [hg] at h
    cases kws with
    | cons _ _ => cases h
    | nil =>
      obtain ⟨np, rfl⟩ := nameOf_inv hg
      exact ⟨x, np, rfl, rfl, h⟩
theorem cmpN_inv {ops : List CmpOp} {bs : List Expr} {a : Rs} {r : List Prop × V} (h : (match sng ops with | some op => (match sng bs with | some b => cmpR op a (f b) | none => .none) | none => Option.none) = some r) : ∃ op b, ops = [op] ∧ bs = [b] ∧ cmpR op a (f b) = some r := by
  cases h1 : sng ops with
  | none => rw [h1] at h; cases h
  | some op =>
    rw [h1] at h
    cases h2 : sng bs with
    | none => rw [h2] at h; cases h
    | some b =>
      rw [h2] at h
      exact ⟨op, b, sng_inv h1, sng_inv h2, h⟩
theorem step_ok (O : C.Ok) (H : Snd C σ f) (HT : SndT C σ f) (PL : Plain f) (LI : LitOk f) : Snd C σ (step C.Γ f σ) := by
  intro e S v he
  cases e <;> first
    | exact nomatch (show (Option.none : Rs) = some (S, v) from he)
    | exact un_sok H he
    | exact bin_sok H LI he
    | exact if_sok H HT he
    | exact tup_sok H PL he
    | exact name_sok O he
    | skip
  · intro hS led h tk Q E hs kk
    obtain ⟨p, h₁, h₂⟩ := bopN_inv he
    cases h₂
    exact bops_ok H _ _ _ _ _ h₁ hS led h tk _ _ hs kk
  · intro hS led h tk Q E hs kk
    obtain ⟨op, b, rfl, rfl, h₁⟩ := cmpN_inv he
    obtain ⟨S₁, x, T, y, p, e1, e2, e3, rfl, rfl⟩ := cmp_inv h₁
    exact wpAny_Compare1 (cmpE_ok O H e1 e2 e3 hS led h tk _ _ hs fun c led' h' tk' hc k1 s1 => kk _ led' h' tk' k1 ⟨c, rfl, hc⟩ s1) ((PL _ _ e2).2.2 _ (cmp_op e3).1 (cmp_op e3).2)
  · obtain ⟨x, np, rfl, rfl, h₁⟩ := callN_inv he
    exact call_sok O H PL h₁
  · intro hS led h tk Q E hs kk
    obtain ⟨w, h₁, h₂⟩ := constN_inv he
    cases h₂
    exact const_ok h₁ fun u tk' R => kk u led h tk' (fun _ m => m) (R _) hs
  · obtain ⟨i, k, cp, rfl, h₁⟩ := itemN_inv he
    exact item_sok H h₁
theorem isTrue_std (PL : Plain f) (H : Snd C σ (step C.Γ f σ)) {e : Expr} {S : List Prop} {v : V} {P : Prop} {d : Decidable P} (he : step C.Γ f σ e = some (S, v)) (ht : truth v = some ⟨P, d⟩) (hS : ∀ q ∈ S, q)
    (hi : isTrue e C.env (eval e C.env) = (do let v ← eval e C.env; standAt e.pos; holding [v] (truthy v))) (led h tk) (Q : Bool → Shared → Prop) (E) (hs : St C σ led h)
    (k : ∀ b led' h' tk', (b = true ↔ P) → (∀ p ∈ led, p ∈ led') → St C σ led' h' → Q b (C.at' h' tk')) : wpc C (isTrue e C.env (eval e C.env)) Q E h tk :=
  isTrue_plain (H e _ _ he hS led h tk _ _ hs fun u led' h' tk' k1 R1 s1 => truthy_ok ht R1 fun b hb => k b led' h' tk' hb k1 s1) hi
theorem ifT_sok (HT : SndT C σ f) {t a b : Expr} {p : Pos} {whole : Sem Value} {S : List Prop} {v : V} {P : Prop} {d : Decidable P} (h : ifR (f t) (f a) (f b) = some (S, v)) (ht : truth v = some ⟨P, d⟩) (hS : ∀ q ∈ S, q) (led h' tk) (Q : Bool → Shared → Prop) (E) (hs : St C σ led h')
    (kk : ∀ b led' h' tk', (b = true ↔ P) → (∀ p ∈ led, p ∈ led') → St C σ led' h' → Q b (C.at' h' tk')) : wpc C (isTrue (.IfExp t a b p) C.env whole) Q E h' tk := by
  obtain ⟨S₁, c, p, T, x, U, y, h₁, h₀, h₂, h₃, rfl, rfl⟩ := if_inv h
  obtain ⟨q1, q2⟩ := all_app hS
  obtain ⟨q2, q3⟩ := all_app q2
  have e : (@ite _ p.1 p.2 x y ≠ 0) = P := congrArg Sigma.fst (Option.some.inj ht)
  subst e
  refine isTrue_IfExp (HT t _ _ _ _ h₁ h₀ q1 led h' tk _ _ hs fun c led' h' tk' hc k1 s1 => ?_)
  cases c
  · have n : ¬ p.1 := fun n => Bool.noConfusion (hc.mpr n)
    rw [if_neg n] at kk
    exact HT b _ _ _ _ h₃ rfl (all_map q3 n) led' h' tk' _ _ s1 fun b led2 h2 tk2 hb k2 => kk b led2 h2 tk2 hb (fun x m => k2 x (k1 x m))
  · have n : p.1 := hc.mp rfl
    rw [if_pos n] at kk
    exact HT a _ _ _ _ h₂ rfl (all_map q2 n) led' h' tk' _ _ s1 fun b led2 h2 tk2 hb k2 => kk b led2 h2 tk2 hb (fun x m => k2 x (k1 x m))
theorem notT_sok (O : C.Ok) (H : Snd C σ f) (HT : SndT C σ f) (PL : Plain f) (LI : LitOk f) {op : UnaryOp} {x : Expr} {p : Pos} : ∀ {S : List Prop} {v : V} {P : Prop} {d : Decidable P}, unR op (f x) = some (S, v) → truth v = some ⟨P, d⟩ → (∀ q ∈ S, q) → ∀ led h tk (Q : Bool → Shared → Prop) E, St C σ led h →
    (∀ b led' h' tk', (b = true ↔ P) → (∀ p ∈ led, p ∈ led') → St C σ led' h' → Q b (C.at' h' tk')) → wpc C (isTrue (.UnaryOp op x p) C.env (eval (.UnaryOp op x p) C.env)) Q E h tk := by
  intro S v P d h ht hS led h' tk Q E hs kk
  cases op <;> first
    | exact nomatch (show (Option.none : Rs) = some (S, v) from h)
    | exact isTrue_std PL (step_ok O H HT PL LI) (e := .UnaryOp .USub x p) h ht hS rfl led h' tk Q E hs kk
    | skip
  dsimp only [unR] at h
  split at h
  · rename_i T p h₁
    cases h
    cases ht
    exact isTrue_not (HT _ _ _ _ p.2 (asTf_inv h₁) rfl hS led h' tk _ _ hs fun b led' h' tk' hb => kk (!b) led' h' tk' (by rw [← hb]; cases b <;> simp))
  · cases h
theorem stepT_ok (O : C.Ok) (H : Snd C σ f) (HT : SndT C σ f) (PL : Plain f) (LI : LitOk f) : SndT C σ (step C.Γ f σ) := by
  intro e S v P d he ht hS led h tk Q E hs kk
  cases e <;> first
    | exact nomatch (show (Option.none : Rs) = some (S, v) from he)
    | exact isTrue_std PL (step_ok O H HT PL LI) he ht hS rfl led h tk Q E hs kk
    | exact ifT_sok HT he ht hS led h tk Q E hs kk
    | exact notT_sok O H HT PL LI he ht hS led h tk Q E hs kk
    | skip
  · obtain ⟨p, h₁, h₂⟩ := bopN_inv he
    cases h₂
    cases ht
    exact bopsT_ok HT _ _ _ _ _ _ h₁ hS led h tk Q E hs kk
  · obtain ⟨op, b, rfl, rfl, h₁⟩ := cmpN_inv he
    obtain ⟨S₁, x, T, y, p, e1, e2, e3, rfl, rfl⟩ := cmp_inv h₁
    cases ht
    exact wpAny_isTrue_Compare1 (cmpE_ok O H e1 e2 e3 hS led h tk _ _ hs fun c led' h' tk' hc k1 s1 => wpAny_truthy_bool (kk c led' h' tk' hc k1 s1)) ((PL _ _ e2).2.2 _ (cmp_op e3).1 (cmp_op e3).2)
end
theorem pv_plain (Γ : Cfg) (σ : Sg) : ∀ n, Plain (pv Γ σ n)
  | 0 => fun e r h => (nomatch (show (Option.none : Rs) = some r from h))
  | n + 1 => step_plain
theorem pv_lit (Γ : Cfg) (σ : Sg) : ∀ n, LitOk (pv Γ σ n)
  | 0 => fun i k p S x h => (nomatch (show (Option.none : Rs) = some _ from h))
  | n + 1 => fun i k p S x h => by cases h; rfl
theorem pv_both {C : Cx} (O : C.Ok) (σ : Sg) : ∀ n, Snd C σ (pv C.Γ σ n) ∧ SndT C σ (pv C.Γ σ n)
  | 0 => ⟨fun e S v h => (nomatch (show (Option.none : Rs) = some _ from h)), fun e S v P d h => (nomatch (show (Option.none : Rs) = some _ from h))⟩
  | n + 1 => ⟨step_ok O (pv_both O σ n).1 (pv_both O σ n).2 (pv_plain _ _ n) (pv_lit _ _ n), stepT_ok O (pv_both O σ n).1 (pv_both O σ n).2 (pv_plain _ _ n) (pv_lit _ _ n)⟩
end Mine
end
section
open PySem PySem.W PyProof.Rows
set_option maxRecDepth 100000
namespace Mine
theorem tupOf_inv {e : Expr} {es : List Expr} (h : tupOf e = some es) : ∃ k p, e = .Tuple es k p := by
  cases e <;> cases h
  exact ⟨_, _, rfl⟩
theorem two_inv {l : List V} {a b : Int} (h : two? l = some (a, b)) : l = [.int a, .int b] := by
  unfold two? at h
  split at h
  · rename_i h1
    unfold disp at h1
    split at h1
    · cases h1; cases h; rfl
    · cases h1; cases h
    · cases h1
  · cases h
theorem conj_of : ∀ {S : List Prop} {P : Prop}, conj S P → (∀ q ∈ S, q) ∧ P
  | [], _, h => ⟨fun _ m => (nomatch m), h⟩
  | a :: l, P, h => ⟨fun q m => (List.mem_cons.mp m).elim (fun e => e ▸ h.1) ((conj_of h.2).1 q), (conj_of h.2).2⟩
section
variable {C : Cx} (O : C.Ok) {σ : Sg} {E : Value → Shared → Prop}
theorem outK_ok {K : V → Prop} {R : Prop} {o : Out} {led : Led} {u : Value} (hk : outK K R o) (Ro : OutRep C.w led u o) : ∃ v, K v ∧ Rep C.w led u v := by
  cases o with
  | val v => exact ⟨v, hk, Ro⟩
  | pair o => obtain ⟨x, y, e, r⟩ := Ro; exact ⟨_, hk.1 x y e, r⟩
  | trip o => obtain ⟨x, y, z, e, r⟩ := Ro; exact ⟨_, hk.1 x y z e, r⟩
  | unit b => exact ⟨_, hk.1 Ro.1, Ro.2⟩
  | fresh x y => obtain ⟨a, o, e, m, p⟩ := Ro; exact ⟨_, hk, a, e, p.pin m⟩
  | pos o => exact Ro.elim (fun ⟨x, y, e, r⟩ => ⟨_, hk.1 x y e, r⟩) fun ⟨e, r⟩ => ⟨_, hk.2 e, r⟩
theorem outK_bad {K : V → Prop} {R : Prop} {o : Out} (hk : outK K R o) (b : OutBad o) : R := by
  cases o with
  | val v => exact b.elim
  | pair o => exact hk.2 b
  | trip o => exact hk.2 b
  | unit b' => exact hk.2 b
  | pos o => exact b.elim
  | fresh x y => exact b.elim
theorem testX_inv {r : Rs} {A B : Prop} (h : testX r A B) : ∃ S v p, r = some (S, v) ∧ truth v = some p ∧ (∀ q ∈ S, q) ∧ (p.1 → A) ∧ (¬ p.1 → B) := by
  unfold testX at h
  split at h
  · rename_i h₁
    obtain ⟨v, e1, e2⟩ := asTest_inv h₁
    exact ⟨_, v, _, e1, e2, (conj_of h).1, (conj_of h).2.1, (conj_of h).2.2⟩
  · exact h.elim
theorem callT_inv {Γ : Cfg} {f : Expr → Rs} {e : Expr} {S : List Prop} {o : Out} (h : callT Γ f σ e = some (S, o)) : ∃ x np args p, e = .Call (.Name x np) args [] p ∧ callV Γ f σ x args = some (S, o) := by
  cases e <;> first
    | exact nomatch (show (Option.none : Option (List Prop × Out)) = some (S, o) from h)
    | skip
  rename_i g args kws p
  have h1 : callN Γ f σ g args kws = some (S, o) := h
  clear h
  unfold callN at h1
  split at h1
  · rename_i hg
    obtain ⟨np, rfl⟩ := nameOf_inv hg
    split at h1
    · split at h1
      · cases h1
      · exact ⟨_, np, args, p, rfl, h1⟩
    · cases h1
  · cases h1
theorem rv_plain {K : V → Prop} {R : Prop} {n : Nat} {e : Expr} (h : rv C.Γ σ K R n e) : ∀ t l env, swapsWith e t l env = pure false := by
  cases n with
  | zero => exact h.elim
  | succ n =>
    unfold rv at h
    split at h
    · rename_i h₁
      obtain ⟨x, np, args, p, rfl, _⟩ := callT_inv h₁
      intro t l env; cases t <;> rfl
    · split at h
      · rename_i h₁
        exact (pv_plain _ _ n _ _ h₁).1
      · cases e <;> first
          | exact False.elim h
          | (intro t l env; cases t <;> rfl)
theorem ifX_ok (O : C.Ok) {n : Nat} {t a b : Expr} {p : Pos} {A B : Prop} {Q : Value → Shared → Prop} {led : Led} {h : Heap} {tk : Nat} (hx : testX (pv C.Γ σ n t) A B) (hs : St C σ led h)
    (go : ∀ e, (A ∧ e = a) ∨ (B ∧ e = b) → ∀ led' h' tk', (∀ p ∈ led, p ∈ led') → St C σ led' h' → wpc C (eval e C.env) Q E h' tk') : wpc C (eval (.IfExp t a b p) C.env) Q E h tk := by
  obtain ⟨S, v, q, h₁, h₂, q1, q2, q3⟩ := testX_inv hx
  refine IfExp_ ((pv_both O σ n).2 _ _ _ _ _ h₁ h₂ q1 led h tk _ _ hs fun c led' h' tk' hc k1 s1 => ?_)
  cases c
  · exact go b (.inr ⟨q3 fun p => Bool.noConfusion (hc.mpr p), rfl⟩) led' h' tk' k1 s1
  · exact go a (.inl ⟨q2 (hc.mp rfl), rfl⟩) led' h' tk' k1 s1
theorem rv_ok (O : C.Ok) {K : V → Prop} {R : Prop} : ∀ n e, rv C.Γ σ K R n e → ∀ led h tk (Q : Value → Shared → Prop), St C σ led h →
    (∀ v u led' h' tk', K v → (∀ p ∈ led, p ∈ led') → Rep C.w led' u v → St C σ led' h' → Q u (C.at' h' tk')) → (R → ∀ v s', FarS C led v s' → E v s') → wpc C (eval e C.env) Q E h tk
  | 0, e, hv, led, h, tk, Q, hs, kk, ke => hv.elim
  | n + 1, e, hv, led, h, tk, Q, hs, kk, ke => by
    unfold rv at hv
    split at hv
    · rename_i h₁
      obtain ⟨x, np, args, p, rfl, h₂⟩ := callT_inv h₁
      exact callV_ok O (pv_both O σ n).1 (pv_plain _ _ n) h₂ (conj_of hv).1 hs (fun u led' h' tk' k1 Ro s1 => let ⟨v, kv, r⟩ := outK_ok (conj_of hv).2 Ro; kk v u led' h' tk' kv k1 r s1) fun b => ke (outK_bad (conj_of hv).2 b)
    · split at hv
      · rename_i h₁
        exact (pv_both O σ n).1 e _ _ h₁ (conj_of hv).1 led h tk _ _ hs fun u led' h' tk' => kk _ u led' h' tk' (conj_of hv).2
      · cases e <;> first
          | exact False.elim hv
          | skip
        refine ifX_ok O hv hs fun e he led' h' tk' k1 s1 => ?_
        have go : rv C.Γ σ K R n e := he.elim (fun x => x.2 ▸ x.1) fun x => x.2 ▸ x.1
        exact rv_ok O n e go led' h' tk' _ s1 (fun v u led2 h2 tk2 hv k2 => kk v u led2 h2 tk2 hv fun x m => k2 x (k1 x m)) fun r v s' es => ke r v s' (es.sub k1)
theorem look_set {x y : Str} {v : V} : ∀ {σ : Sg}, (setS σ x v).lookup y = if y = x then some v else σ.lookup y
  | [] => by
    simp only [setS, List.lookup_cons, List.lookup_nil]
    by_cases h : y = x
    · subst h; simp
    · simp [beq_eq_false_iff_ne.mpr h, h]
  | (z, u) :: r => by
    unfold setS
    split
    · rename_i e
      subst e
      simp only [List.lookup_cons]
      by_cases h : y = x
      · subst h; simp
      · simp [beq_eq_false_iff_ne.mpr h, h]
    · rename_i e
      simp only [List.lookup_cons, look_set (σ := r)]
      by_cases h : y = x
      · subst h; simp [beq_eq_false_iff_ne.mpr e]
      · simp [h]
theorem St.set {led : Led} {g h' : Heap} {m : Str → Option Value} {x : Str} {u : Value} {v : V} (G : Gr C g) (hm : ∀ x v, σ.lookup x = some v → ∃ u, m x = some u ∧ Rep C.w led u v) (hn : ∀ z, C.Γ.sc.names.lookup z = none → m z = none)
    (l : ∀ x v, σ.lookup x = some v → isLoc C.Γ x = true) (hl : isLoc C.Γ x = true) (R : Rep C.w led u v) (F : Fr g C.L h' (fun y => if y = x then some u else m y)) (N : News g C.L h' led) : St C (setS σ x v) led h' := by
  refine St.of G F (fun y w e => ?_) (fun z e => ?_) N (fun y w e => ?_)
  · rw [look_set] at e
    by_cases h : y = x
    · rw [if_pos h] at e
      cases e
      exact ⟨u, if_pos h, R⟩
    · rw [if_neg h] at e
      rw [if_neg h]
      exact hm _ _ e
  · have : z ≠ x := fun q => by subst q; rw [(isLoc_of hl).1] at e; cases e
    rw [if_neg this]
    exact hn z e
  · rw [look_set] at e
    by_cases h : y = x
    · rw [h]; exact hl
    · rw [if_neg h] at e; exact l _ _ e
theorem store_ok (O : C.Ok) {led : Led} {h : Heap} {tk : Nat} {Q : Unit → Shared → Prop} {x : Str} {u : Value} {v : V} (hl : isLoc C.Γ x = true) (R : Rep C.w led u v) (hs : St C σ led h) (k : ∀ h' tk', St C (setS σ x v) led h' → Q () (C.at' h' tk')) :
    wpc C (storeName C.env x u) Q E h tk := by
  obtain ⟨⟨g, m, G, F, hm, hn, N⟩, l⟩ := hs
  exact storeX_L (s := C.at' h tk) F N (fun h' F' N' => k h' _ (St.set G hm hn l hl R F' N')) O.hk (isLoc_of hl).1
theorem store2_ok (O : C.Ok) {led : Led} {h : Heap} {tk : Nat} {Q : Unit → Shared → Prop} {x y : Str} {px py : Pos} {a b : Int} {t u : Tok} {ts : List (Value → Sem Unit)} {us : List Value} (hx : isLoc C.Γ x = true) (hy : isLoc C.Γ y = true) (hs : St C σ led h)
    (k : ∀ h' tk', St C (setS (setS σ x (.int a)) y (.int b)) led h' → wpc C (assignInOrder ts us) Q E h' tk') : wpc C (assignInOrder (assign (.Name x px) C.env :: assign (.Name y py) C.env :: ts) (.int a t :: .int b u :: us)) Q E h tk :=
  assignInOrder_cons (PyProof.Rows.assign_Name (store_ok (v := .int a) O hx ⟨_, rfl⟩ hs fun h2 tk2 s2 =>
    assignInOrder_cons (PyProof.Rows.assign_Name (store_ok (v := .int b) O hy ⟨_, rfl⟩ s2 fun h3 tk3 s3 => k h3 tk3 s3))))
theorem namesOf_one {es : List Expr} {x : Str} {l : List Str} (h : namesOf es = some (x :: l)) : ∃ p r, es = .Name x p :: r ∧ namesOf r = some l := by
  cases es with
  | nil => cases h
  | cons e r =>
    unfold namesOf at h
    split at h
    · rename_i h₁
      obtain ⟨p, rfl⟩ := nameOf_inv h₁
      split at h
      · rename_i h₂
        cases h
        exact ⟨p, r, rfl, h₂⟩
      · cases h
    · cases h
theorem namesOf_nil {es : List Expr} (h : namesOf es = some []) : es = [] := by
  cases es with
  | nil => rfl
  | cons e r =>
    unfold namesOf at h
    split at h
    · split at h <;> cases h
    · cases h
theorem namesOf2 {es : List Expr} {x y : Str} (h : namesOf es = some [x, y]) : ∃ p q, es = [.Name x p, .Name y q] := by
  obtain ⟨p, r1, rfl, h1⟩ := namesOf_one h
  obtain ⟨q, r2, rfl, h2⟩ := namesOf_one h1
  cases namesOf_nil h2
  exact ⟨p, q, rfl⟩
theorem namesOf3 {es : List Expr} {x y z : Str} (h : namesOf es = some [x, y, z]) : ∃ p q r, es = [.Name x p, .Name y q, .Name z r] := by
  obtain ⟨p, r1, rfl, h1⟩ := namesOf_one h
  obtain ⟨q, r, rfl⟩ := namesOf2 h1
  exact ⟨p, q, r, rfl⟩
theorem asg_ok (O : C.Ok) {N : Sg → Prop} {led : Led} {h : Heap} {tk : Nat} {Q : Unit → Shared → Prop} {es : List Expr} {xs : List Str} {k : Nat} {p : Pos} {u : Value} {v : V} (hn : namesOf es = some xs) (ha : asg C.Γ N σ xs v) (R : Rep C.w led u v) (hs : St C σ led h) (kk : ∀ τ h' tk', N τ → St C τ led h' → Q () (C.at' h' tk')) :
    wpc C (assign (.Tuple es k p) C.env u) Q E h tk := by
  obtain ⟨⟨g, m, G, F, hm, hn', Nw⟩, l⟩ := hs
  cases v <;> first
    | exact False.elim ha
    | skip
  · rename_i a b
    obtain ⟨a1, rfl, P⟩ := R
    match xs, hn, ha with
    | [x, y], hn, ha =>
      obtain ⟨p1, p2, rfl⟩ := namesOf2 hn
      have ha : (if isLoc C.Γ x && isLoc C.Γ y then N (setS (setS σ x (.int a)) y (.int b)) else False) := ha
      split at ha
      · rename_i hl
        obtain ⟨l1, l2⟩ := Bool.and_eq_true_iff.mp hl
        exact pair_unpack (s := C.at' h tk) P G.X F Nw (fun _ m => m) rfl rfl rfl fun h' t u F' N' => store2_ok O l1 l2 (St.of G F' hm hn' N' l) fun h2 tk2 s2 => assignInOrder_nil (kk _ h2 tk2 ha s2)
      · exact ha.elim
  · rename_i a b c
    obtain ⟨a1, rfl, P⟩ := R
    match xs, hn, ha with
    | [x, y, z], hn, ha =>
      obtain ⟨p1, p2, p3, rfl⟩ := namesOf3 hn
      have ha : (if isLoc C.Γ x && isLoc C.Γ y && isLoc C.Γ z then N (setS (setS (setS σ x (.int a)) y (.int b)) z (.int c)) else False) := ha
      split at ha
      · rename_i hl
        obtain ⟨l1, l3⟩ := Bool.and_eq_true_iff.mp hl
        obtain ⟨l1, l2⟩ := Bool.and_eq_true_iff.mp l1
        exact trip_unpack (s := C.at' h tk) P F Nw (fun _ m => m) rfl rfl rfl fun h' t u u' F' N' => store2_ok O l1 l2 (St.of G F' hm hn' N' l) fun h2 tk2 s2 =>
          assignInOrder_cons (PyProof.Rows.assign_Name (store_ok (v := .int c) O l3 ⟨_, rfl⟩ s2 fun h4 tk4 s4 => assignInOrder_nil (kk _ h4 tk4 ha s4)))
      · exact ha.elim
theorem retK_rep {w : World} {led : Led} {u : Value} {v : V} {o : Out} (h : retK o v) (R : Rep w led u v) : OutRep w led u o := by
  cases o with
  | val v' =>
    cases v <;> cases v' <;> first
      | exact (h : False).elim
      | skip
    · cases (show _ = _ from h); exact R
    · obtain ⟨b, e, hb⟩ := R; exact ⟨b, e, hb.trans h⟩
    · obtain ⟨e1, e2⟩ := h; subst e1 e2; exact R
    · obtain ⟨e1, e2, e3⟩ := h; subst e1 e2 e3; exact R
    · exact R
  | pair o => cases v <;> first | exact h.elim | exact ⟨_, _, h, R⟩
  | trip o => cases v <;> first | exact h.elim | exact ⟨_, _, _, h, R⟩
  | unit b => cases v <;> first | exact h.elim | exact ⟨h, R⟩
  | fresh x y => cases v <;> exact h.elim
  | pos o => cases v <;> first
    | exact h.elim
    | exact .inl ⟨_, _, h, R⟩
    | (obtain ⟨e, h⟩ := h; subst e; exact .inr ⟨h, R⟩)
theorem tail_ok {o p : Out} {led : Led} {u : Value} (hk : tail o (OutBad o) p) (Ro : OutRep C.w led u p) : OutRep C.w led u o := by
  have K : outK (retK o) (OutBad o) p → OutRep C.w led u o := fun h => let ⟨v, a, b⟩ := outK_ok h Ro; retK_rep a b
  cases p with
  | pair q => cases o <;> first | exact K hk | (cases (show _ = _ from hk); exact Ro)
  | trip q => cases o <;> first | exact K hk | (cases (show _ = _ from hk); exact Ro)
  | val v => exact K hk
  | unit b => exact K hk
  | pos b => exact K hk
  | fresh a b => exact K hk
theorem tail_bad {o p : Out} (hk : tail o (OutBad o) p) (b : OutBad p) : OutBad o := by
  have K : outK (retK o) (OutBad o) p → OutBad o := fun h => outK_bad h b
  cases p with
  | pair q => cases o <;> first | exact K hk | (cases (show _ = _ from hk); exact b)
  | trip q => cases o <;> first | exact K hk | (cases (show _ = _ from hk); exact b)
  | val v => exact b.elim
  | unit b' => exact K hk
  | pos b' => exact b.elim
  | fresh a c => exact b.elim
theorem frX_ok (O : C.Ok) {o : Out} {n : Nat} {e : Expr} {P : Prop} (h : frX o (pv C.Γ σ n) e = some P) (hP : P) (led h' tk) (Q : Value → Shared → Prop) (hs : St C σ led h')
    (kk : ∀ u led' h' tk', (∀ p ∈ led, p ∈ led') → OutRep C.w led' u o → St C σ led' h' → Q u (C.at' h' tk')) : wpc C (eval e C.env) Q E h' tk := by
  cases o <;> first
    | exact nomatch (show (Option.none : Option Prop) = some P from h)
    | skip
  dsimp only [frX] at h
  split at h
  · rename_i h1
    obtain ⟨k, p, rfl⟩ := tupOf_inv h1
    split at h
    · rename_i h2
      split at h
      · rename_i a b h3
        cases h
        obtain ⟨q1, rfl, rfl⟩ := conj_of hP
        refine Tuple_ ((pvs_ok (pv_both O σ n).1 (pv_plain _ _ n) _ _ _ _ h2 q1).2 led h' tk _ _ hs fun us led' h' tk' k1 R1 s1 => ?_)
        cases two_inv h3
        obtain ⟨_, us1, rfl, S1, R2⟩ := R1.one
        obtain ⟨_, us2, rfl, S2, R3⟩ := R2.one
        cases R3.none
        obtain ⟨t, rfl⟩ := S1
        obtain ⟨u, rfl⟩ := S2
        exact push_ok (Nat.le_of_ble_eq_true rfl) s1 fun a o led2 h2 c d e s2 => by
          subst e
          obtain ⟨n, d⟩ := d
          exact kk _ _ h2 _ (fun p m => .tail _ (k1 p m)) ⟨a, o, rfl, .head _, c, t, u, n, d⟩ s2
      · cases h
    · cases h
  · cases h
theorem ret_ok (O : C.Ok) {o : Out} : ∀ n e, ret C.Γ σ o n e → ∀ led h tk (Q : Value → Shared → Prop), St C σ led h →
    (∀ u led' h' tk', (∀ p ∈ led, p ∈ led') → OutRep C.w led' u o → St C σ led' h' → Q u (C.at' h' tk')) → (OutBad o → ∀ v s', FarS C led v s' → E v s') → wpc C (eval e C.env) Q E h tk
  | 0, e, hv, led, h, tk, Q, hs, kk, ke => hv.elim
  | n + 1, e, hv, led, h, tk, Q, hs, kk, ke => by
    unfold ret at hv
    split at hv
    · rename_i h₁
      obtain ⟨x, np, args, p, rfl, h₂⟩ := callT_inv h₁
      exact callV_ok O (pv_both O σ n).1 (pv_plain _ _ n) h₂ (conj_of hv).1 hs (fun u led' h' tk' k1 Ro => kk u led' h' tk' k1 (tail_ok (conj_of hv).2 Ro)) fun b => ke (tail_bad (conj_of hv).2 b)
    · split at hv
      · rename_i h₁
        exact frX_ok O h₁ hv led h tk Q hs kk
      · split at hv
        · rename_i h₁
          exact (pv_both O σ n).1 e _ _ h₁ (conj_of hv).1 led h tk _ _ hs fun u led' h' tk' k1 R1 => kk u led' h' tk' k1 (retK_rep (conj_of hv).2 R1)
        · cases e <;> first
            | exact False.elim hv
            | skip
          refine ifX_ok O hv hs fun e he led' h' tk' k1 s1 => ?_
          have go : ret C.Γ σ o n e := he.elim (fun x => x.2 ▸ x.1) fun x => x.2 ▸ x.1
          exact ret_ok O n e go led' h' tk' _ s1 (fun u led2 h2 tk2 k2 => kk u led2 h2 tk2 fun x m => k2 x (k1 x m)) fun r v s' es => ke r v s' (es.sub k1)
end
end Mine
end
section
open PySem PySem.W PySem.Calls PyProof.Rows
set_option maxRecDepth 100000
namespace Mine
noncomputable def holds (ρ τ : Sg) : Prop := ∀ p ∈ ρ, τ.lookup p.1 = some p.2
noncomputable def PR (w : World) (led : Led) : List (Str × Value) → Sg → Prop
  | [], [] => True
  | p :: ps, q :: τ => p.1 = q.1 ∧ Rep w led p.2 q.2 ∧ PR w led ps τ
  | _, _ => False
theorem PR.look {w : World} {led : Led} {x : Str} {v : V} {rest : Str → Option Value} : ∀ {ps : List (Str × Value)} {τ : Sg}, PR w led ps τ → τ.lookup x = some v → ∃ u, kstB rest ps x = some u ∧ Rep w led u v
  | [], [], _, e => nomatch e
  | (y, u) :: ps, (z, v') :: τ, ⟨h1, h2, h3⟩, e => by
    have h1 : y = z := h1
    subst h1
    rw [List.lookup_cons] at e
    by_cases h : x = y
    · subst h
      simp only [beq_self_eq_true, Option.some.injEq] at e
      subst e
      exact ⟨u, by simp [kstB], h2⟩
    · simp only [beq_eq_false_iff_ne.mpr h] at e
      obtain ⟨u', a, b⟩ := PR.look (rest := rest) h3 e
      exact ⟨u', by simp [kstB, h, a], b⟩
theorem PR.out {w : World} {led : Led} {x : Str} {rest : Str → Option Value} : ∀ {ps : List (Str × Value)} {τ : Sg}, PR w led ps τ → (∀ q ∈ τ, x ≠ q.1) → kstB rest ps x = rest x
  | [], [], _, _ => rfl
  | (y, u) :: ps, (z, v') :: τ, ⟨h1, h2, h3⟩, e => by
    have h1 : y = z := h1
    subst h1
    have := e _ (.head _)
    simp only [kstB, this, if_false]
    exact PR.out h3 fun q m => e q (.tail _ m)
theorem PR.make {w : World} {led : Led} {m : Str → Option Value} {τ : Sg} (hm : ∀ x v, τ.lookup x = some v → ∃ u, m x = some u ∧ Rep w led u v) : ∀ {ρ : Sg}, holds ρ τ → ∃ ps, PR w led ps ρ ∧ ∀ p ∈ ps, m p.1 = some p.2
  | [], _ => ⟨[], trivial, fun _ h => nomatch h⟩
  | (x, v) :: r, h => by
    have a := h _ (.head _)
    have b : holds r τ := fun p m => h p (.tail _ m)
    obtain ⟨u, c, d⟩ := hm x v a
    obtain ⟨ps, e, f⟩ := PR.make hm b
    exact ⟨(x, u) :: ps, ⟨rfl, d, e⟩, fun p hp => (List.mem_cons.mp hp).elim (fun q => by subst q; exact c) (f p)⟩
theorem mem_look {x : Str} {v : V} : ∀ {σ : Sg}, (x, v) ∈ σ → ∃ v', σ.lookup x = some v'
  | (y, u) :: r, h => by
    rw [List.lookup_cons]
    by_cases e : x = y
    · subst e; exact ⟨u, by simp⟩
    · simp only [beq_eq_false_iff_ne.mpr e]
      exact mem_look ((List.mem_cons.mp h).resolve_left fun q => e (congrArg Prod.fst q))
theorem look_mem {α : Type} {x : Str} {v : α} : ∀ {l : List (Str × α)}, l.lookup x = some v → (x, v) ∈ l
  | (y, u) :: r, e => by
    rw [List.lookup_cons] at e
    by_cases h : x = y
    · subst h
      simp only [beq_self_eq_true, Option.some.injEq] at e
      subst e; exact .head _
    · simp only [beq_eq_false_iff_ne.mpr h] at e
      exact .tail _ (look_mem e)
theorem contains_look {names : List (Str × NameKind)} {z : Str} (h : (names.map (·.1)).contains z = false) : names.lookup z = none := by
  rw [List.lookup_eq_none_iff]
  intro p hp
  rw [List.contains_eq_mem, decide_eq_false_iff_not] at h
  exact bne_iff_ne.mpr fun (e : z = p.1) => h (by rw [e]; exact List.mem_map_of_mem hp)
theorem look_contains {names : List (Str × NameKind)} {z : Str} (e : names.lookup z = none) : (names.map (·.1)).contains z = false := by
  cases hq : (names.map (·.1)).contains z with
  | false => rfl
  | true =>
    rw [List.contains_eq_mem, decide_eq_true_eq] at hq
    obtain ⟨p, hp, e1⟩ := List.mem_map.mp hq
    have := List.lookup_eq_none_iff.mp e p hp
    rw [← e1] at this; simp at this
theorem swapNone {e : Expr} {es : List Expr} {k : Nat} {p : Pos} {env : Env} (h : tupOf e = none) : swappedStores [.Tuple es k p] e env = pure none := by
  cases e <;> first | rfl | cases h
structure WS (ι : Type) where
  i : ι
  ps : List (Str × Value)
  led : Led
section
variable {C : Cx} (O : C.Ok) {E : Value → Shared → Prop} {o : Out}
theorem St.nil {σ : Sg} {led : Led} {h : Heap} (H : St C σ led h) : St C [] led h := by
  obtain ⟨⟨g, m, G, F, _, b, N⟩, _⟩ := H
  exact ⟨⟨g, m, G, F, fun _ _ e => (nomatch e), b, N⟩, fun _ _ e => (nomatch e)⟩
inductive ErrS (C : Cx) (led : Led) : Value → Shared → Prop
  | here {g : Heap} {m : Str → Option Value} {e t d : Addr} {h' : Heap} {tk' : Nat} {led' : Led} (G : Gr C g) (F : Fr g C.L h' m) (N : News g C.L h' ((e, excD t d) :: led')) (k : ∀ p ∈ led, p ∈ led' ∧ p.1 ≠ e ∧ p.1 ≠ t) (T : ∃ v, (t, tupO v) ∈ led') : ErrS C led (.ref e) (C.at' h' tk')
  | far {v : Value} {s : Shared} (H : FarS C led v s) : ErrS C led v s
theorem ErrS.sub {C : Cx} {led led' : Led} {v : Value} {s : Shared} (H : ErrS C led' v s) (k : ∀ p ∈ led, p ∈ led') : ErrS C led v s := by
  cases H with
  | here G F N k' T => exact .here G F N (fun p m => k' p (k p m)) T
  | far H => exact .far (H.sub k)
noncomputable def SOk (C : Cx) (E : Value → Shared → Prop) (o : Out) (N : Sg → Prop) (σ : Sg) (t : Sem Flow) : Prop :=
  ∀ led h tk (Q : Flow → Shared → Prop), St C σ led h → (∀ τ led' h' tk', N τ → (∀ p ∈ led, p ∈ led') → St C τ led' h' → Q .next (C.at' h' tk')) →
    (∀ u led' h' tk', (∀ p ∈ led, p ∈ led') → OutRep C.w led' u o → St C [] led' h' → Q (.ret u) (C.at' h' tk')) → (OutBad o → ∀ v s', ErrS C led v s' → E v s') → wpc C t Q E h tk
theorem SOk.cons {N : Sg → Prop} {N' : Sg → Prop} {σ : Sg} {st : Stmt} {rest : List Stmt} (h1 : SOk C E o N' σ (exec st C.env)) (h2 : ∀ τ, N' τ → SOk C E o N τ (execs rest C.env)) : SOk C E o N σ (execs (st :: rest) C.env) :=
  fun led h tk Q hs hN hR hE => wpAny_execs_cons (h1 led h tk _ hs (fun τ led' h' tk' n k1 s1 => h2 τ n led' h' tk' Q s1 (fun τ' led2 h2' tk2 n2 k2 => hN τ' led2 h2' tk2 n2 fun p m => k2 p (k1 p m))
    (fun u led2 h2' tk2 k2 => hR u led2 h2' tk2 fun p m => k2 p (k1 p m)) fun r v s' e => hE r v s' (e.sub k1)) hR hE)
theorem while_ok (O : C.Ok) (PO : PassesOwn (model prog0 C.w) C.A C.env E) (hdp : C.Γ.deep = false) {N : Sg → Prop} {σ : Sg} {t : Expr} {body : List Stmt} {pos : Pos} {ι : Type} (hd : ι → Sg) (I : ι → Prop) (μ : ι → Nat) (i₀ : ι)
    (hl' : ∀ i x v, (hd i).lookup x = some v → isLoc C.Γ x = true) (h0 : I i₀) (hh : holds (hd i₀) σ)
    (turn : ∀ i, I i → ∃ (f : Expr → Rs) (S : List Prop) (c : V) (P : Prop) (d : Decidable P), f t = some (S, c) ∧ truth c = some ⟨P, d⟩ ∧ (∀ q ∈ S, q) ∧ SndT C (hd i) f ∧
      (P → SOk C E o (fun τ => ∃ j, holds (hd j) τ ∧ I j ∧ μ j < μ i) (hd i) (execs body C.env)) ∧ (¬ P → N (hd i))) :
    SOk C E o N σ (exec (.While t body [] pos) C.env) := by
  intro led h tk Q hs hN hR hE
  obtain ⟨⟨g, m, G, F, hm, hn, Nw⟩, l⟩ := hs
  have eg := G.flat hdp
  subst eg
  obtain ⟨ps0, e0, f0⟩ := PR.make hm hh
  refine ksw_while (s := C.at' h tk) (σ := WS ι) (m₀ := m) (fun c => c.led) (fun c => c.ps) (fun c => PR C.w c.led c.ps (hd c.i) ∧ ∀ p ∈ led, p ∈ c.led) (C.Γ.sc.names.map (·.1)) (fun c => I c.i) (fun c => μ c.i) ⟨i₀, ps0, led⟩ F Nw ⟨e0, fun _ m => m⟩ f0 h0 ?_ PO
  intro c u h1 tk1 hf hI F1 N1
  obtain ⟨f, S, cv, P, d, t1, t2, t3, t4, t5, t6⟩ := turn c.i hI
  have s1 : St C (hd c.i) c.led h1 := by
    refine St.of G F1 (fun x v e => PR.look hf.1 e) (fun z e => ?_) N1 (hl' c.i)
    have hz : ∀ q ∈ hd c.i, z ≠ q.1 := fun q hq ez => by
      obtain ⟨v', e'⟩ := mem_look (x := q.1) (v := q.2) hq
      have := (isLoc_of (hl' c.i _ _ e')).1
      rw [ez] at e; rw [this] at e; cases e
    rw [PR.out hf.1 hz]
    have hc : (C.Γ.sc.names.map (·.1)).contains z = false := look_contains e
    simp only [hc]
    exact hn z e
  refine t4 t _ _ _ _ t1 t2 t3 c.led h1 tk1 _ _ s1 fun b led2 h2 tk2 hb k2 s2 => ?_
  cases b
  · exact hN _ led2 h2 tk2 (t6 fun p => Bool.noConfusion (hb.mpr p)) (fun p m => k2 p (hf.2 p m)) s2
  · refine t5 (hb.mp rfl) led2 h2 tk2 _ s2 (fun τ led3 h3 tk3 n3 k3 s3 => ?_) (fun u' led3 h3 tk3 k3 => hR u' led3 h3 tk3 fun p m => k3 p (k2 p (hf.2 p m))) fun r v s' e => hE r v s' (e.sub fun p m => k2 p (hf.2 p m))
    obtain ⟨j, j1, j2, j3⟩ := n3
    obtain ⟨⟨g3, m3, G3, F3, hm3, hn3, N3⟩, l3⟩ := s3
    have eg := G3.flat hdp
    subst eg
    obtain ⟨ps3, e3, f3⟩ := PR.make hm3 j1
    exact ksw_end (s := C.at' h tk) (c := c) (Led := fun c : WS ι => c.led) (⟨j, ps3, led3⟩ : WS ι) F3 N3 (fun p m => m) ⟨e3, fun p m => k3 p (k2 p (hf.2 p m))⟩ f3 (fun z _ hz => by rw [hn3 z (contains_look hz), hn z (contains_look hz)]) j2 j3
theorem tasg_sok (O : C.Ok) {N : Sg → Prop} {σ : Sg} {es : List Expr} {xs : List Str} {e : Expr} {k : Nat} {p pos : Pos} {n : Nat} (ht : tupOf e = none) (hn : namesOf es = some xs) (hv : rv C.Γ σ (asg C.Γ N σ xs) (OutBad o) n e) : SOk C E o N σ (exec (.Assign [.Tuple es k p] e pos) C.env) := by
  intro led h tk Q hs hN hR hE
  exact Assign_Tuple (rv_ok O n e hv led h tk _ hs (fun v u led' h' tk' ha k1 R1 s1 => asg_ok O hn ha R1 s1 fun τ h2 tk2 n2 s2 => hN τ led' h2 tk2 n2 k1 s2) fun r v s' es => hE r v s' (.far es)) (show swapsWith e (some (.Tuple es k p)) pos.line C.env = pure false from rv_plain hv _ _ _) (swapNone ht)
theorem nasg_sok (O : C.Ok) {N : Sg → Prop} {σ : Sg} {x : Str} {e : Expr} {p pos : Pos} {n : Nat} (hv : rv C.Γ σ (nameK C.Γ N σ x) (OutBad o) n e) : SOk C E o N σ (exec (.Assign [.Name x p] e pos) C.env) := by
  intro led h tk Q hs hN hR hE
  refine wpAny_Assign_Name (rv_ok O n e hv led h tk _ hs (fun v u led' h' tk' ha k1 R1 s1 => ?_) fun r v s' es => hE r v s' (.far es)) (rv_plain hv _ _ _)
  unfold nameK at ha
  split at ha
  · rename_i hl
    exact store_ok O hl R1 s1 fun h2 tk2 s2 => hN _ led' h2 tk2 ha k1 s2
  · exact ha.elim
theorem aug_sok (O : C.Ok) {N : Sg → Prop} {σ : Sg} {t : Expr} {op : Operator} {e : Expr} {pos : Pos} {n : Nat} (hx : augX C.Γ σ N n t op e) : SOk C E o N σ (exec (.AugAssign t op e pos) C.env) := by
  intro led h tk Q hs hN hR hE
  unfold augX at hx
  split at hx
  · rename_i hnm
    obtain ⟨xp, rfl⟩ := nameOf_inv hnm
    split at hx
    · rename_i hl
      split at hx
      · rename_i h₁
        split at hx
        · rename_i h₀
          cases asInt_inv h₀
          split at hx
          · rename_i h₂
            have h₂ := asInt_inv h₂
            split at hx
            · rename_i h₃
              obtain ⟨g, m, G, F, hm, _, _⟩ := hs.fr
              obtain ⟨u, e1, t, rfl⟩ := hm _ _ h₁
              refine wpAny_AugAssign_Name (wpAny_loadName_local (s := C.at' h tk) O.hk (isLoc_of hl).1 F.ns e1 ?_)
              refine (pv_both O σ n).1 e _ _ h₂ (conj_of hx).1 led h tk _ _ hs fun w led' h' tk' k1 R1 s1 => ?_
              obtain ⟨t', rfl⟩ := R1
              exact aug_ok h₃ (lit_is (pv_lit _ _ n) h₂) (conj_of (conj_of hx).2).1 fun z ez => store_ok O hl (show Rep C.w led' _ _ by subst ez; exact ⟨_, rfl⟩) s1 fun h3 tk3 s3 => hN _ led' h3 tk3 (conj_of (conj_of hx).2).2 k1 s3
            · exact hx.elim
          · exact hx.elim
        · exact hx.elim
      · exact hx.elim
    · exact hx.elim
  · exact hx.elim
theorem raiseK_inv {e c : Option Expr} {g : Str} (h : raiseK e c = some g) : ∃ np x k p1 cp, e = some (.Call (.Name g np) [.Constant (.str x) k p1] [] cp) ∧ c = none := by
  cases c with
  | some c => cases h
  | none =>
    cases e with
    | none => cases h
    | some e =>
      cases e <;> first
        | exact nomatch (show (Option.none : Option Str) = some g from h)
        | skip
      rename_i f args kws cp
      have h1 : raiseC f args kws = some g := h
      clear h
      have h := h1
      clear h1
      unfold raiseC at h
      split at h
      · rename_i hn
        obtain ⟨np, rfl⟩ := nameOf_inv hn
        split at h
        · split at h
          · rename_i ha
            cases sng_inv ha
            split at h
            · rename_i hl
              cases h
              rename_i a
              cases a <;> first
                | exact nomatch (show false = true from hl)
                | skip
              rename_i c k p1
              cases c <;> first
                | exact nomatch (show false = true from hl)
                | exact ⟨np, _, k, p1, cp, rfl, rfl⟩
            · cases h
          · cases h
        · cases h
      · cases h
theorem raise_sok (O : C.Ok) {N : Sg → Prop} {σ : Sg} {g x : Str} {np p1 cp pos : Pos} {k : Nat} (hg : isGlob C.Γ g = true) (hr : g = Str.ofString "RunFault") (hroom : 3 ≤ C.Γ.room) (r : OutBad o) :
    SOk C E o N σ (exec (.Raise (some (.Call (.Name g np) [.Constant (.str x) k p1] [] cp)) none pos) C.env) := by
  intro led h tk Q hs hN hR hE
  subst hr
  obtain ⟨⟨g', m, G, F, hm, hn', Nw⟩, l⟩ := hs
  refine rf_raise (s := C.at' h tk) G.B F G.X Nw G.T O.hk (Nat.lt_of_le_of_lt (Nat.add_le_add_left hroom _) O.hd) (Nat.lt_of_le_of_lt (Nat.add_le_add_left (Nat.mul_le_mul_left 8 hroom) _) O.hu) (isGlob_of hg).1 ?_
  intro e t d h' tk' led' F' N' hk ht
  exact hE r _ _ (ErrS.here G F' N' hk ht)
theorem inter (O : C.Ok) : interactive C.env = false := by
  show (_ && _) = false
  simp [Cx.env, O.hk]
theorem try_sok (O : C.Ok) (PA : ∀ hd, PassesOwnAt (model prog0 C.w) (C.A.mark hd) C.A C.env E) {N : Sg → Prop} {σ : Sg} {st : Stmt} {g : Str} {c : Const} {v : V} {np cp rp hp pos : Pos} {k : Nat} (hdp : C.Γ.deep = true) (hg : isGlob C.Γ g = true) (hr : g = Str.ofString "RunFault") (hc : constV c = some v) (P : Prop) (hP : P → retK o v)
    (body : ∀ (E' : Value → Shared → Prop) led h tk (Q : Flow → Shared → Prop), St C σ led h → (∀ τ led' h' tk', N τ → (∀ p ∈ led, p ∈ led') → St C τ led' h' → Q .next (C.at' h' tk')) →
      (∀ u led' h' tk', (∀ p ∈ led, p ∈ led') → OutRep C.w led' u o → St C [] led' h' → Q (.ret u) (C.at' h' tk')) → (P → ∀ v s', FarS C led v s' → E' v s') → wpAny (model prog0 C.w) C.A (exec st C.env) Q E' (C.at' h tk)) :
    SOk C E o N σ (exec (.Try [st] [.ExceptHandler (some (.Name g np)) none [.Return (some (.Constant c k cp)) rp] hp] [] [] pos) C.env) := by
  intro led h tk Q hs hN hR hE
  subst hr
  refine wpAny_Try_except (wpAny_execs_cons (body _ led h tk _ hs (fun τ led' h' tk' n k1 s1 => wpAny_execs_nil (wpAny_execs_nil (hN τ led' h' tk' n k1 s1))) hR ?_))
  intro p v' s' es
  cases es with
  | mk K F hn R U =>
    obtain ⟨XB, TB⟩ := O.XB hdp
    obtain ⟨D, T0⟩ := K.deep hdp
    have PA' := PA
    rw [O.dA] at PA' ⊢
    refine caught_SO0 (p := C.p) (loose := C.loose) (mean := C.mean) (mg := C.mg) (mb := C.mb) R F K.B U XB TB D T0 rfl rfl ?_ O.hk (isGlob_of hg).1 (isGlob_of hg).2 (PA' _)
    intro h' g' news₂ U2 F2 N2 _ N3 B2 X2 T2 D2
    refine wpAny_execs_cons (wpAny_Return_some (const_ok hc fun u tk' R2 => ?_))
    exact hR u led h' tk' (fun _ m => m) (retK_rep (hP p) (R2 _)) (St.of ⟨B2, X2, T2, fun e => (nomatch hdp.symm.trans e), fun _ => ⟨D2, U2⟩⟩ F2 (fun _ _ e => nomatch e) hn N3 (fun _ _ e => nomatch e))
end
end Mine
end
section
open Mine.FLx (ξ ν κ ζ δ η π ω)
open Mine.FCx (φ ψ θ ϑ Φ Ψ φn ψn θn ϑn Φn Ψn)
open PySem PySem.W PySem.Calls PyProof.Rows PyProof.Rows.LCg
set_option maxRecDepth 100000
namespace Mine
noncomputable abbrev off (I : Addr) (led : Led) : Led := led.filter (fun p => decide (p.1 ≠ I))
theorem mem_off {I : Addr} {led : Led} {p : Addr × Obj} : p ∈ off I led ↔ p ∈ led ∧ p.1 ≠ I := by
  rw [List.mem_filter, decide_eq_true_eq]
theorem notTup {a b : Int} : (itR a b).cls ≠ .type "tuple" := fun e => by injection e with e; exact absurd e (by decide)
theorem rep_off {w : World} {g h : Heap} {L I : Addr} {led : Led} {oI : Obj} {u : Value} {v : V} (N : News g L h led) (hI : (I, oI) ∈ led) (hc : oI.cls ≠ .type "tuple") (R : Rep w led u v) : Rep w (off I led) u v := by
  have ne : ∀ a o, (a, o) ∈ led → o.cls = .type "tuple" → (a, o) ∈ off I led := fun a o ha ho => mem_off.mpr ⟨ha, fun e => by
    have e : a = I := e
    subst e
    have := (N.get ha).symm.trans (N.get hI)
    cases this
    exact hc ho⟩
  cases v with
  | two x y =>
    obtain ⟨a, e, o, t, u, n, a1, a2, a3⟩ := R
    exact ⟨a, e, o, t, u, n, a1, a2, a3.imp (fun m => ne a o m a1) id⟩
  | tri x y z =>
    obtain ⟨a, e, o, t, u, v, n, a1, a2, a3⟩ := R
    exact ⟨a, e, o, t, u, v, n, a1, a2, ne a o a3 a1⟩
  | int _ => exact R
  | tf _ _ => exact R
  | str _ => exact R
  | fn _ => exact R
  | none => exact R
section
variable {C : Cx} (O : C.Ok) {E : Value → Shared → Prop} {o : Out}
theorem St.seti {σ : Sg} {led : Led} {g h' : Heap} {m : Str → Option Value} {x : Str} {u : Value} {v : V} (l : ∀ x v, σ.lookup x = some v → isLoc C.Γ x = true) (G : Gr C g) (hm : ∀ x v, σ.lookup x = some v → ∃ u, m x = some u ∧ Rep C.w led u v) (hn : ∀ z, C.Γ.sc.names.lookup z = none → m z = none)
    (hl : isLoc C.Γ x = true) {led' : Led} (k : ∀ u v, Rep C.w led u v → Rep C.w led' u v) (R : Rep C.w led' u v) (F : Fr g C.L h' (fun y => if y = x then some u else m y)) (N : News g C.L h' led') : St C (setS σ x v) led' h' :=
  St.set G (fun x v e => (hm x v e).imp fun u q => ⟨q.1, k u v q.2⟩) hn l hl R F N
theorem notCls (O : C.Ok) : (C.env.scope.kind == ScopeKind.class || C.env.scope.kind == ScopeKind.module && C.env.locals != C.env.globals) = false := by
  simp [Cx.env, O.hk]
theorem range_sok (O : C.Ok) (PO : PassesOwn (model prog0 C.w) C.A C.env E) (hdp : C.Γ.deep = false) {N N1 : Sg → Prop} {σ : Sg} {x g : Str} {body : List Stmt} {xp np cp gp pos : Pos} {k : Nat} (hl : isLoc C.Γ x = true) (hg : isGlob C.Γ g = true) (hr : g = Str.ofString "range")
    (b0 : SOk C E o N1 (setS σ x (.int 0)) (execs body C.env)) (b1 : ∀ τ, N1 τ → SOk C E o N (setS τ x (.int 1)) (execs body C.env)) :
    SOk C E o N σ (exec (.For (.Name x xp) (.Call (.Name g np) [.Constant (.int 2) k cp] [] gp) body [] pos) C.env) := by
  intro led h tk Q hs hN hR hE
  subst hr
  obtain ⟨⟨g, m, G, F, hm, hn, Nw⟩, l⟩ := hs
  have eg := G.flat hdp
  subst eg
  refine For_invVF (s := C.at' h tk) (h₀ := C.g) F (isLoc_of hl).1 (notCls O) ?_ (fun _ => rfl) PO
  refine Call_ (nameX_B (s := C.at' h tk) F G.X (topRead_of G.T) (show nsIn (heapK C.w.params) mainGlobals (Str.ofString "range") = some none from rfl) boot_range (by decide) ?_ O.hk (isGlob_of hg).1 (isGlob_of hg).2) rfl
  refine Pv.callWith_type1 (args_cons (wpAny_Constant_int (args_nil (range1_rows (h₀ := C.g) F Nw fun h1 tk1 t1 u1 v1 hrg F1 N1' up => ?_))))
  refine iter_rangeUnr (n := 2) rfl hrg rfl rfl F1 N1' fun I hI => RangeRest.succ fun t h2 tk2 F2 N2 => ?_
  have sub0 : ∀ p ∈ led, p.1 ≠ I := fun p hp => Nat.ne_of_lt (hI p hp)
  refine b0 ((I, itR (0 + (0 + 1 : Nat)) ((2 : Nat) - (0 + 1 : Nat))) :: led) h2 tk2 (UnrPost _ _ _ I _ _ Q) (St.seti l G hm hn hl (fun u v r => r.mono fun p m => .tail _ m) ⟨_, rfl⟩ F2 N2) (fun τ led' h' tk' n1 k1 s1 => ?_) (fun u led' h' tk' k1 => hR u led' h' tk' fun p m => k1 p (.tail _ m)) (fun r v s' e => hE r v s' (e.sub fun p m => .tail _ m))
  obtain ⟨⟨g3, m3, G3, F3, hm3, hn3, N3⟩, l3⟩ := s1
  have eg := G3.flat hdp
  subst eg
  have hit := k1 _ (.head _)
  refine ⟨h', tk', m3, off I led', rfl, F3, fun p hp => (List.mem_cons.mp hp).elim (fun e => by subst e; exact N3 _ hit) fun hp => N3 p (mem_off.mp hp).1, fun p hp => (mem_off.mp hp).2, RangeRest.succ fun t4 h4 tk4 F4 N4 => ?_⟩
  refine b1 τ n1 ((I, itR (0 + (0 + 1 + 1 : Nat)) ((2 : Nat) - (0 + 1 + 1 : Nat))) :: off I led') h4 tk4 (UnrPost _ _ _ I _ _ Q) (St.seti l3 G3 hm3 hn3 hl (fun u v r => (rep_off N3 hit notTup r).mono fun p m => .tail _ m) ⟨_, rfl⟩ F4 N4) (fun τ' led5 h5 tk5 n5 k5 s5 => ?_) (fun u led5 h5 tk5 k5 => hR u led5 h5 tk5 fun p m => k5 p (.tail _ (mem_off.mpr ⟨k1 p (.tail _ m), sub0 p m⟩))) (fun r v s' e => hE r v s' (e.sub fun p m => .tail _ (mem_off.mpr ⟨k1 p (.tail _ m), sub0 p m⟩)))
  obtain ⟨⟨g6, m6, G6, F6, hm6, hn6, N6⟩, l6⟩ := s5
  have eg := G6.flat hdp
  subst eg
  have hit5 := k5 _ (.head _)
  refine ⟨h5, tk5, m6, off I led5, rfl, F6, fun p hp => (List.mem_cons.mp hp).elim (fun e => by subst e; exact N6 _ hit5) fun hp => N6 p (mem_off.mp hp).1, fun p hp => (mem_off.mp hp).2, RangeRest.zero fun h7 tk7 F7 N7 => ?_⟩
  exact hN τ' (off I led5) h7 tk7 n5 (fun p m => mem_off.mpr ⟨k5 p (.tail _ (mem_off.mpr ⟨k1 p (.tail _ m), sub0 p m⟩)), sub0 p m⟩) (St.of G6 F7 (fun x v e => (hm6 x v e).imp fun u q => ⟨q.1, rep_off N6 hit5 notTup q.2⟩) hn6 N7 l6)
/-! a tuple's parts stored one by one -/
theorem swapSome {Γ : Cfg} {x y : Str} {px py vp tp : Pos} {a b : Expr} {j k : Nat} {env : Env} (hsc : env.scope = Γ.sc) (hk : Γ.sc.kind = .function) (h : swapB Γ x y px py a b = true) :
    swappedStores [.Tuple [.Name x px, .Name y py] j tp] (.Tuple [a, b] k vp) env = pure (some [x, y]) := by
  simp only [swapB, Bool.and_eq_true, Bool.not_eq_true'] at h
  obtain ⟨⟨⟨⟨⟨⟨hx, hy⟩, hl⟩, hne⟩, hst⟩, hf⟩, hc⟩ := h
  have hx := (isLoc_of hx).1
  have hy := (isLoc_of hy).1
  have kx : env.kindOf x = some .local := by rw [Env.kindOf, hsc]; exact hx
  have ky : env.kindOf y = some .local := by rw [Env.kindOf, hsc]; exact hy
  have hb : env.blockKind = .function := by rw [Env.blockKind, hsc, hk]; rfl
  have hl' : py.line = px.line := by simpa using hl
  have hne' : ¬ x = y := by simpa using hne
  have ep : (Expr.Name x px).pos = px := rfl
  have hf' : ¬ (foldedForSure 8 a = true ∧ foldedForSure 8 b = true) := by simpa using hf
  have hc' : ¬ (constantsAlone 8 a = true ∧ constantsAlone 8 b = true) := by simpa using hc
  simp [swappedStores, ep, kx, ky, hb, hl', hne', Ne.symm hne', List.filterMap_cons, List.eraseDups_cons, List.filter_cons, hf', hc']
  have h2 := hst
  simp only [List.any_cons, List.any_nil, Bool.or_false, Bool.or_eq_false_iff] at h2
  intro h
  rcases h with h | h
  · cases (show true = false from h.symm.trans h2.1)
  · cases (show true = false from h.symm.trans h2.2)
theorem swap_sok (O : C.Ok) {N : Sg → Prop} {σ : Sg} {f : Expr → Rs} (H : Snd C σ f) (PL : Plain f) {x y : Str} {px py vp tp pos : Pos} {a b : Expr} {j k : Nat} {S : List Prop} {u v : V} (hsw : swapB C.Γ x y px py a b = true) (hp : pvs f [a, b] = some (S, [u, v])) (hS : ∀ q ∈ S, q)
    (hn : N (setS (setS σ y v) x u)) : SOk C E o N σ (exec (.Assign [.Tuple [.Name x px, .Name y py] j tp] (.Tuple [a, b] k vp) pos) C.env) := by
  intro led h tk Q hs hN hR hE
  have hsw' := hsw
  simp only [swapB, Bool.and_eq_true] at hsw'
  have hx := hsw'.1.1.1.1.1.1
  have hy := hsw'.1.1.1.1.1.2
  refine Assign_Tuple_swapped (names := [x, y]) ?_ rfl (swapSome rfl O.hk hsw)
  refine Tuple_ ((pvs_ok H PL _ _ _ _ hp hS).2 led h tk _ _ hs fun us led' h' tk' k1 R1 s1 => ?_)
  obtain ⟨u1, us1, rfl, S1, R2⟩ := R1.one
  obtain ⟨u2, us2, rfl, S2, R3⟩ := R2.one
  cases R3.none
  refine push_ok (Nat.le_of_ble_eq_true rfl) s1 fun T oT led2 h2 hc hd e s2 => ?_
  subst e
  obtain ⟨n, hd⟩ := hd
  obtain ⟨⟨g, m, G, F, hm, hn', Nw⟩, l⟩ := s2
  refine unpackItemsN_ (s := C.at' h2 tk') F Nw ⟨oT, Nw.get (.head _), hc, n, hd⟩ rfl rfl fun h3 F3 N3 => ?_
  have s3 : St C σ ((T, oT) :: led') h3 := St.of G F3 hm hn' N3 l
  refine assignInOrder_cons (wpAny_bindName (store_ok (v := v) O hy (S2.mono fun p m => .tail _ m) s3 fun h4 tk4 s4 => ?_))
  refine assignInOrder_cons (wpAny_bindName (store_ok (v := u) O hx (S1.mono fun p m => .tail _ m) s4 fun h5 tk5 s5 => ?_))
  exact assignInOrder_nil (hN _ _ h5 tk5 hn (fun p m => .tail _ (k1 p m)) s5)
end
/-! a for over a tuple whose turns may turn the ground -/
noncomputable def GRest (prog : Program) (w : World) (A : Around) (env : Env) (target : Expr) (body : List Stmt) (Q : Flow → Shared → Prop) (E : Value → Shared → Prop) (s : Shared) (I : Addr) : List Value → Heap → (Str → Option Value) → Led → Prop
  | [], h₀, m, led => ∀ h tk, Fr h₀ env.locals h m → News h₀ env.locals h led → Q .next { s with heap := h, toks := tk }
  | v :: vs, h₀, m, led => ∀ o h tk, o.cls = .type "tuple_iterator" → Fr h₀ env.locals h m → News h₀ env.locals h ((I, o) :: led) →
      wpAny (model prog w) A (assign target env v) (fun _ s₂ => wpAny (model prog w) A (execs body env) (fun f s₃ => match f with
        | .ret v => Q (.ret v) s₃
        | .brk => Q .next s₃
        | _ => ∃ h₀' m' led' h tk, s₃ = { s with heap := h, toks := tk } ∧ Fr h₀' env.locals h m' ∧ News h₀' env.locals h led' ∧ (∀ p ∈ (I, o) :: led, p ∈ led') ∧ GRest prog w A env target body Q E s I vs h₀' m' (off I led')) E s₂) E { s with heap := h, toks := tk }
section
variable {prog : Program} {w : World} {A : Around} {E : Value → Shared → Prop} {s : Shared} {env : Env} {h₀ : Heap} {target : Expr} {body : List Stmt} {Q : Flow → Shared → Prop} {m : Str → Option Value} {news : Led}
theorem For_g {iter : Expr} {pos : Pos} (h : wpAny (model prog w) A (eval iter env) (fun xv s₁ => wpAny (model prog w) A (pyIter xv) (fun it s₂ => codeAny (model prog w) A (.forLoop target it body [] env) (fun r s' => match r with | .ok f => Q f s' | .error e => cameBackBy (model prog w) A env E e s') s₂) E s₁) E s)
    (hs : ∀ x, foldedSetIterable iter env x = pure x := by intro _; rfl) : wpAny (model prog w) A (exec (.For target iter body [] pos) env) Q E s := wpAny_For h hs
theorem iter_g {T : Addr} {oT : Obj} {vs : List Value} {n : Nat} (hh : A.handled = none) (F : Fr h₀ env.locals s.heap m) (N : News h₀ env.locals s.heap news) (hT : (T, oT) ∈ news) (hc : oT.cls = .type "tuple") (hd : oT.data = .seq vs.toArray n)
    (ht : ∀ it v, letOwnedTupleGo target it v = pure ()) (hE : PassesOwn (model prog w) A env E)
    (rest : ∀ I : Addr, (∀ p ∈ news, p.1 ≠ I) → GRest prog w A env target body Q E s I vs h₀ m news) :
    wpAny (model prog w) A (pyIter (.ref T)) (fun it s₂ => codeAny (model prog w) A (.forLoop target it body [] env) (fun r s' => match r with | .ok f => Q f s' | .error e => cameBackBy (model prog w) A env E e s') s₂) E s := by
  refine wpAny_pyIter_tuple (items := vs.toArray) ⟨oT, N.get hT, hc, n, hd⟩ ?_
  have rest := rest s.heap.objs.size
  have up : ∀ b o, s.heap.get? b = some o → (s.heap.push { cls := .type "tuple_iterator", data := .fields #[.ref T, .int 0 0] }).get? b = some o := fun b o e => Heap.get?_push_of_some _ e
  have hit₁ : (s.heap.push { cls := .type "tuple_iterator", data := .fields #[.ref T, .int 0 0] }).get? s.heap.objs.size = some { cls := .type "tuple_iterator", data := .fields #[.ref T, .int 0 0] } := Heap.get?_push_size _ rfl
  have F₁ := F.keeps up
  have N₁ : News h₀ env.locals (s.heap.push { cls := .type "tuple_iterator", data := .fields #[.ref T, .int 0 0] }) news := N.grown up
  have hI₀ : h₀.get? s.heap.objs.size = none := next_is_new F
  have hLI : env.locals ≠ s.heap.objs.size := Nat.ne_of_lt F.ns.lt
  have offI : ∀ p ∈ news, p.1 ≠ s.heap.objs.size := fun p hp => Nat.ne_of_lt (Heap.lt_size (N p hp).1)
  have rest := rest offI
  generalize hI : s.heap.objs.size = I at *
  refine codeAny_forLoop
    (fun k s' => ∃ i h₀' m' led h' tk oI, s' = { s with heap := h', toks := tk } ∧ i ≤ vs.length ∧ k = vs.length + 1 - i ∧ oI.cls = .type "tuple_iterator" ∧ oI.data = .fields #[.ref T, .int (i : Nat) 0] ∧ Fr h₀' env.locals h' m' ∧ News h₀' env.locals h' ((I, oI) :: led) ∧ (T, oT) ∈ led ∧ (∀ p ∈ led, p.1 ≠ I) ∧
      GRest prog w A env target body Q E s I (vs.drop i) h₀' m' led) ?_ (vs.length + 1)
    ⟨0, h₀, m, news, _, s.toks, { cls := .type "tuple_iterator", data := .fields #[.ref T, .int 0 0] }, rfl, Nat.zero_le _, rfl, rfl, rfl, F₁, fun p hp => ?_, hT, offI, by rw [List.drop_zero]; exact rest⟩ (ht _)
  · rintro k s' ⟨i, h₀', m', led, h', tk, oI, rfl, hi, rfl, hc', hd', F', N', hT', offI', R⟩
    have zI := N' (I, oI) (List.Mem.head _)
    have hit : h'.IsTupleIter I T i := ⟨oI, zI.1, hc', hd'⟩
    have hl : h'.IsTuple T vs.toArray := ⟨oT, N'.get (List.Mem.tail _ hT'), hc, n, hd⟩
    by_cases hlt : i < vs.length
    · refine wpAny_pyNext_tuple_item hit hl (x := vs[i]) (by simp [hlt]) fun h₁ hit₁ hs₁ => ?_
      obtain ⟨o₁, e₁, c₁, d₁⟩ := hit₁
      have hdrop : vs.drop i = vs[i] :: vs.drop (i + 1) := List.drop_eq_getElem_cons hlt
      rw [hdrop] at R
      have F₂ : Fr h₀' env.locals h₁ m' := F'.change hs₁ (Ne.symm hLI) zI.2.2
      have N₂ : News h₀' env.locals h₁ ((I, o₁) :: led) := fun p hp => by
        rcases List.mem_cons.mp hp with rfl | hp
        · exact ⟨e₁, Ne.symm hLI, zI.2.2⟩
        · exact ⟨hs₁.extBut _ _ (offI' p hp) (N' p (List.Mem.tail _ hp)).1, (N' p (List.Mem.tail _ hp)).2⟩
      refine wpAny_mono (R o₁ h₁ tk c₁ F₂ N₂) (fun _ s₂ h₂ => wpAny_mono h₂ (fun f s₃ p => ?_) hE) hE
      have fin : (∃ h₀' m' led' h tk, s₃ = { s with heap := h, toks := tk } ∧ Fr h₀' env.locals h m' ∧ News h₀' env.locals h led' ∧ (∀ p ∈ (I, o₁) :: led, p ∈ led') ∧ GRest prog w A env target body Q E s I (vs.drop (i + 1)) h₀' m' (off I led')) →
          ∃ k, k < vs.length + 1 - i ∧ ∃ i h₀' m' led h' tk oI, s₃ = { s with heap := h', toks := tk } ∧ i ≤ vs.length ∧ k = vs.length + 1 - i ∧ oI.cls = .type "tuple_iterator" ∧ oI.data = .fields #[.ref T, .int (i : Nat) 0] ∧ Fr h₀' env.locals h' m' ∧ News h₀' env.locals h' ((I, oI) :: led) ∧ (T, oT) ∈ led ∧ (∀ p ∈ led, p.1 ≠ I) ∧
            GRest prog w A env target body Q E s I (vs.drop i) h₀' m' led := by
        rintro ⟨g, m₂, led', h₃, tk₃, rfl, F₃, N₃, S₃, R₃⟩
        exact ⟨vs.length + 1 - (i + 1), by lia, i + 1, g, m₂, off I led', h₃, tk₃, o₁, rfl, hlt, rfl, c₁, d₁, F₃, fun p hp => (List.mem_cons.mp hp).elim (fun e => by subst e; exact N₃ _ (S₃ _ (.head _))) (fun hp => N₃ p (mem_off.mp hp).1),
          mem_off.mpr ⟨S₃ _ (.tail _ hT'), offI' _ hT'⟩, fun p hp => (mem_off.mp hp).2, R₃⟩
      cases f with
      | ret v => exact p
      | brk => exact p
      | next => exact fin p
      | cont => exact fin p
    · obtain rfl : i = vs.length := Nat.le_antisymm hi (Nat.not_lt.mp hlt)
      rw [List.drop_length] at R
      refine wpAny_pyNext_tuple_end hh hit hl (by simp) fun h₁ hs₁ => wpAny_execs_nil ?_
      exact R h₁ tk (fr_but F' (fun b o hb e => hs₁ b o (by simpa using hb) e) hLI zI.2.2) (news_but (fun p hp => N' p (List.Mem.tail _ hp)) (fun b o hb e => hs₁ b o (by simpa using hb) e) offI')
  · rcases List.mem_cons.mp hp with rfl | hp
    · exact ⟨hit₁, Ne.symm hLI, hI₀⟩
    · exact N₁ p hp
end
end Mine
end
section
open PySem PySem.W PySem.Calls PyProof.Rows
set_option maxRecDepth 100000
namespace Mine
theorem holds_append {τ : Sg} : ∀ {a b : Sg}, (∀ p ∈ a, τ.lookup p.1 = some p.2) → (∀ p ∈ b, τ.lookup p.1 = some p.2) → holds (a ++ b) τ := fun ha hb p hp => (List.mem_append.mp hp).elim (ha p) (hb p)
theorem numsOf_holds {τ : Sg} : ∀ {nms : List Str} {l : List Int}, numsOf τ nms = some l → l.length = nms.length ∧ ∀ p ∈ nms.zip (l.map V.int), τ.lookup p.1 = some p.2
  | [], l, h => by cases h; exact ⟨rfl, fun _ m => nomatch m⟩
  | x :: r, l, h => by
    unfold numsOf at h
    split at h
    · rename_i h₁
      split at h
      · rename_i h₂
        cases h
        obtain ⟨a, b⟩ := numsOf_holds h₂
        exact ⟨congrArg (· + 1) a, fun p hp => (List.mem_cons.mp hp).elim (fun e => by subst e; exact h₁) (b p)⟩
      · cases h
    · cases h
theorem kept_holds {nms : List Str} {τ : Sg} : ∀ {σ : Sg}, kept nms τ σ → ∀ p ∈ σ.filter (fun p => !nms.contains p.1), τ.lookup p.1 = some p.2
  | [], _, _, m => nomatch m
  | (x, v) :: r, h, p, m => by
    unfold kept at h
    rw [List.filter_cons] at m
    by_cases c : nms.contains x = true
    · rw [if_pos c] at h
      rw [if_neg (by simpa using c)] at m
      exact kept_holds h p m
    · rw [if_neg c] at h
      rw [if_pos (by simpa using c)] at m
      exact (List.mem_cons.mp m).elim (fun e => by subst e; exact h.1) (kept_holds h.2 p)
theorem allL_of : ∀ {n : Nat} {P : List Int → Prop}, allL n P → ∀ l : List Int, l.length = n → P l
  | 0, _, h, [], _ => h
  | n + 1, P, h, a :: l, e => allL_of (P := fun l => P (a :: l)) (h a) l (Nat.succ.inj e)
theorem head_loc {Γ : Cfg} {nms : List Str} {σ : Sg} {l : List Int} (ha : nms.all (isLoc Γ) = true) (hs : ∀ x v, σ.lookup x = some v → isLoc Γ x = true) : ∀ x v, (head nms σ l).lookup x = some v → isLoc Γ x = true := fun x v e => by
  have m := look_mem e
  rcases List.mem_append.mp m with m | m
  · exact List.all_eq_true.mp ha x (List.of_mem_zip m).1
  · obtain ⟨v', e'⟩ := mem_look (List.mem_filter.mp m).1
    exact hs x v' e'
section
variable {C : Cx} (O : C.Ok) {E : Value → Shared → Prop} {o : Out}
theorem fnLit_ok (O : C.Ok) {σ : Sg} {e : Expr} {a : Addr} (hf : fnLit C.Γ σ e = some a) : (∀ rest env, starEach (e :: rest) env = (false, eval e env) :: starEach rest env) ∧ ∀ led h tk (Q : Value → Shared → Prop), St C σ led h → Q (.ref a) (C.at' h tk) → wpc C (eval e C.env) Q E h tk := by
  unfold fnLit at hf
  split at hf
  · rename_i hn
    obtain ⟨p, rfl⟩ := nameOf_inv hn
    exact ⟨fun _ _ => rfl, fun led h tk Q hs k => nameFn_ok O hf hs k⟩
  · cases hf
theorem St.off {σ : Sg} {led : Led} {h : Heap} {I : Addr} {oI : Obj} (H : St C σ led h) (hI : (I, oI) ∈ led) (hc : oI.cls ≠ .type "tuple") : St C σ (off I led) h := by
  obtain ⟨⟨g, m, G, F, hm, hn, N⟩, l⟩ := H
  exact St.of G F (fun x v e => (hm x v e).imp fun u q => ⟨q.1, rep_off N hI hc q.2⟩) hn (fun p hp => N p (mem_off.mp hp).1) l
theorem two_sok (O : C.Ok) (PO : PassesOwn (model prog0 C.w) C.A C.env E) {N N1 : Sg → Prop} {σ : Sg} {x : Str} {f g : Expr} {a b : Addr} {body : List Stmt} {xp tp pos : Pos} {k : Nat} (hl : isLoc C.Γ x = true) (hf : fnLit C.Γ σ f = some a) (hg : fnLit C.Γ σ g = some b)
    (b0 : SOk C E o N1 (setS σ x (.fn a)) (execs body C.env)) (b1 : ∀ τ, N1 τ → SOk C E o N (setS τ x (.fn b)) (execs body C.env)) :
    SOk C E o N σ (exec (.For (.Name x xp) (.Tuple [f, g] k tp) body [] pos) C.env) := by
  intro led h tk Q hs hN hR hE
  obtain ⟨f1, f2⟩ := fnLit_ok (E := E) O hf
  obtain ⟨g1, g2⟩ := fnLit_ok (E := E) O hg
  refine For_g (Tuple_ (args_cons (f2 led h tk _ hs (args_cons (g2 led h tk _ hs (args_nil ?_)) (g1 _ _))) (f1 _ _))) (fun _ => rfl)
  refine push_ok (Nat.le_of_ble_eq_true rfl) hs fun T oT led' h' hc hd e s1 => ?_
  subst e
  obtain ⟨n, hd⟩ := hd
  obtain ⟨⟨gr, m, G, F, hm, hn, Nw⟩, l⟩ := s1
  refine iter_g (s := C.at' h' tk) (env := C.env) rfl F Nw (.head _) hc hd (fun _ _ => rfl) PO fun I hI o1 h1 tk1 c1 F1 N1' => ?_
  have ne : ∀ {oI : Obj}, oI.cls = .type "tuple_iterator" → oI.cls ≠ .type "tuple" := fun e q => by rw [e] at q; injection q with q; exact absurd q (by decide)
  have s1 : St C σ ((I, o1) :: (T, oT) :: led) h1 := St.of G F1 (fun x v e => (hm x v e).imp fun u q => ⟨q.1, q.2.mono fun p m => .tail _ m⟩) hn N1' l
  refine PyProof.Rows.assign_Name (store_ok (v := .fn a) O hl rfl s1 fun h2 tk2 s2 => ?_)
  refine b0 _ h2 tk2 _ s2 (fun τ led3 h3 tk3 n3 k3 s3 => ?_) (fun u led3 h3 tk3 k3 => hR u led3 h3 tk3 fun p m => k3 p (.tail _ (.tail _ m))) (fun r v s' e => hE r v s' (e.sub fun p m => .tail _ (.tail _ m)))
  have s4 := s3.off (k3 _ (.head _)) (ne c1)
  obtain ⟨g3, m3, G3, F3, hm3, hn3, N3⟩ := s3.fr
  refine ⟨g3, m3, led3, h3, tk3, rfl, F3, N3, k3, fun o5 h5 tk5 c5 F5 N5 => ?_⟩
  have s5 : St C τ ((I, o5) :: off I led3) h5 := St.of G3 F5 (fun x v e => (hm3 x v e).imp fun u q => ⟨q.1, (rep_off N3 (k3 _ (.head _)) (ne c1) q.2).mono fun p m => .tail _ m⟩) hn3 N5 s3.loc
  refine PyProof.Rows.assign_Name (store_ok (v := .fn b) O hl rfl s5 fun h6 tk6 s6 => ?_)
  have sub : ∀ p ∈ led, p ∈ off I led3 := fun p m => mem_off.mpr ⟨k3 p (.tail _ (.tail _ m)), hI p (.tail _ m)⟩
  refine b1 τ n3 _ h6 tk6 _ s6 (fun τ' led7 h7 tk7 n7 k7 s7 => ?_) (fun u led7 h7 tk7 k7 => hR u led7 h7 tk7 fun p m => k7 p (.tail _ (sub p m))) (fun r v s' e => hE r v s' (e.sub fun p m => .tail _ (sub p m)))
  obtain ⟨g7, m7, G7, F7, hm7, hn7, N7⟩ := s7.fr
  refine ⟨g7, m7, led7, h7, tk7, rfl, F7, N7, k7, fun h8 tk8 F8 N8 => ?_⟩
  exact hN τ' (off I led7) h8 tk8 n7 (fun p m => mem_off.mpr ⟨k7 p (.tail _ (sub p m)), hI p (.tail _ m)⟩) (St.of G7 F8 (fun x v e => (hm7 x v e).imp fun u q => ⟨q.1, rep_off N7 (k7 _ (.head _)) (ne c5) q.2⟩) hn7 N8 s7.loc)
theorem swapX_sok (O : C.Ok) {N : Sg → Prop} {σ : Sg} {f : Expr → Rs} (H : Snd C σ f) (PL : Plain f) {es vs : List Expr} {j k : Nat} {tp vp pos : Pos} (hx : swapX C.Γ σ N f es vs) : SOk C E o N σ (exec (.Assign [.Tuple es j tp] (.Tuple vs k vp) pos) C.env) := by
  unfold swapX at hx
  split at hx
  · rename_i h1
    cases pr2_inv h1
    split at hx
    · rename_i h2
      cases pr2_inv h2
      split at hx
      · rename_i h3
        obtain ⟨px, rfl⟩ := nameOf_inv h3
        split at hx
        · rename_i h4
          obtain ⟨py, rfl⟩ := nameOf_inv h4
          split at hx
          · rename_i hsw
            split at hx
            · rename_i hp
              split at hx
              · rename_i h5
                cases pr2_inv h5
                exact swap_sok O H PL hsw hp (conj_of hx).1 (conj_of hx).2
              · exact hx.elim
            · exact hx.elim
          · exact hx.elim
        · exact hx.elim
      · exact hx.elim
    · exact hx.elim
  · exact hx.elim
theorem asgX_sok (O : C.Ok) {N : Sg → Prop} {σ : Sg} {n : Nat} {ts : List Expr} {e : Expr} {pos : Pos} (hx : asgX C.Γ o σ N n ts e) : SOk C E o N σ (exec (.Assign ts e pos) C.env) := by
  unfold asgX at hx
  split at hx
  · rename_i h1
    cases sng_inv h1
    split at hx
    · rename_i h2
      obtain ⟨k, p, rfl⟩ := tupOf_inv h2
      split at hx
      · rename_i h3
        obtain ⟨k', p', rfl⟩ := tupOf_inv h3
        exact swapX_sok O (pv_both O _ n).1 (pv_plain _ _ n) hx
      · rename_i h3
        split at hx
        · rename_i h4
          exact tasg_sok O h3 h4 hx
        · exact hx.elim
    · split at hx
      · rename_i h3
        obtain ⟨p, rfl⟩ := nameOf_inv h3
        exact nasg_sok O hx
      · exact hx.elim
  · exact hx.elim
theorem forT_inv {σ : Sg} {es : List Expr} {v w : V} (h : forT C.Γ σ es = some (v, w)) : ∃ f g a b, es = [f, g] ∧ fnLit C.Γ σ f = some a ∧ fnLit C.Γ σ g = some b ∧ v = .fn a ∧ w = .fn b := by
  unfold forT at h
  split at h
  · rename_i h1
    split at h
    · rename_i h2
      split at h
      · rename_i h3
        cases h
        exact ⟨_, _, _, _, pr2_inv h1, h2, h3, rfl, rfl⟩
      · cases h
    · cases h
  · cases h
theorem forR_inv {g : Expr} {args : List Expr} {kws : List Keyword} {v w : V} (h : forR C.Γ g args kws = some (v, w)) : ∃ x np k cp, g = .Name x np ∧ args = [.Constant (.int 2) k cp] ∧ kws = [] ∧ isGlob C.Γ x = true ∧ x = Str.ofString "range" ∧ C.Γ.deep = false ∧ v = .int 0 ∧ w = .int 1 := by
  unfold forR at h
  split at h
  · rename_i h1
    obtain ⟨np, rfl⟩ := nameOf_inv h1
    split at h
    · split at h
      · rename_i h2
        split at h
        · rename_i h3
          obtain ⟨k, cp, rfl⟩ := lit_const h3
          split at h
          · rename_i hc
            cases h
            simp only [Bool.and_eq_true, beq_iff_eq, Bool.not_eq_true'] at hc
            obtain ⟨⟨⟨a, b⟩, c⟩, d⟩ := hc
            subst c
            exact ⟨_, np, k, cp, rfl, sng_inv h2, rfl, a, b, d, rfl, rfl⟩
          · cases h
        · cases h
      · cases h
    · cases h
  · cases h
theorem for_sok (O : C.Ok) (PO : PassesOwn (model prog0 C.w) C.A C.env E) {N N1 : Sg → Prop} {σ : Sg} {x : Str} {it : Expr} {v w : V} {body : List Stmt} {xp pos : Pos} (hl : isLoc C.Γ x = true) (hk : forK C.Γ σ it = some (v, w))
    (b0 : SOk C E o N1 (setS σ x v) (execs body C.env)) (b1 : ∀ τ, N1 τ → SOk C E o N (setS τ x w) (execs body C.env)) : SOk C E o N σ (exec (.For (.Name x xp) it body [] pos) C.env) := by
  cases it <;> first
    | exact nomatch (show (Option.none : Option (V × V)) = some (v, w) from hk)
    | skip
  · obtain ⟨x, np, k, cp, rfl, rfl, rfl, a, b, d, rfl, rfl⟩ := forR_inv (show forR C.Γ _ _ _ = some (v, w) from hk)
    exact range_sok O PO d hl a b b0 b1
  · obtain ⟨f, g, a, b, rfl, h1, h2, rfl, rfl⟩ := forT_inv (show forT C.Γ σ _ = some (v, w) from hk)
    exact two_sok O PO hl h1 h2 b0 b1
theorem handK_inv {h : ExceptHandler} {g : Str} {c : Const} (e : handK h = some (g, c)) : ∃ np k cp rp hp, h = .ExceptHandler (some (.Name g np)) none [.Return (some (.Constant c k cp)) rp] hp := by
  unfold handK at e
  split at e
  · cases e; exact ⟨_, _, _, _, _, rfl⟩
  · cases e
theorem oneE_inv {st : Stmt} {r : Bool} {e : Expr} (h : oneE st = some (r, e)) : ∃ p, st = (match r with | true => .Return (some e) p | false => .Expr e p) := by
  unfold oneE at h
  split at h
  · cases h; exact ⟨_, rfl⟩
  · cases h; exact ⟨_, rfl⟩
  · cases h
theorem tryX_sok (O : C.Ok) (PA : ∀ hd, PassesOwnAt (model prog0 C.w) (C.A.mark hd) C.A C.env E) {N : Sg → Prop} {σ : Sg} {n : Nat} {body : List Stmt} {hs : List ExceptHandler} {pos : Pos} (hx : tryX C.Γ o σ N n body hs) : SOk C E o N σ (exec (.Try body hs [] [] pos) C.env) := by
  unfold tryX at hx
  split at hx
  · rename_i h1
    cases sng_inv h1
    split at hx
    · rename_i r e h2
      obtain ⟨p, rfl⟩ := oneE_inv h2
      split at hx
      · rename_i h3
        cases sng_inv h3
        split at hx
        · rename_i h4
          obtain ⟨np, k, cp, rp, hp, rfl⟩ := handK_inv h4
          split at hx
          · rename_i hcv
            split at hx
            · rename_i hc
              simp only [Bool.and_eq_true, beq_iff_eq] at hc
              obtain ⟨⟨hdp, hg⟩, hr⟩ := hc
              cases r with
              | false => exact try_sok O PA hdp hg hr hcv _ id fun E' led h tk Q hs hN hR hE => wpAny_Expr_any (rv_ok O n _ hx led h tk _ hs (fun v u led' h' tk' r k1 R1 s1 => hN _ led' h' tk' r k1 s1) hE) (inter O) (rv_plain hx _ _ _)
              | true => exact try_sok O PA hdp hg hr hcv _ id fun E' led h tk Q hs hN hR hE => wpAny_Return_some (rv_ok O n _ hx led h tk _ hs (fun v u led' h' tk' r k1 R1 s1 => hR u led' h' tk' k1 (retK_rep r R1) s1.nil) hE)
            · exact hx.elim
          · exact hx.elim
        · exact hx.elim
      · exact hx.elim
    · exact hx.elim
  · exact hx.elim
theorem SOk.sub {N : Sg → Prop} {σ : Sg} {t : Sem Flow} (H : SOk C E o N σ t) {led led' : Led} {h' : Heap} {tk' : Nat} {Q : Flow → Shared → Prop} (k1 : ∀ p ∈ led, p ∈ led') (s1 : St C σ led' h') (hN : ∀ τ led' h' tk', N τ → (∀ p ∈ led, p ∈ led') → St C τ led' h' → Q .next (C.at' h' tk'))
    (hR : ∀ u led' h' tk', (∀ p ∈ led, p ∈ led') → OutRep C.w led' u o → St C [] led' h' → Q (.ret u) (C.at' h' tk')) (hE : OutBad o → ∀ v s', ErrS C led v s' → E v s') : wpc C t Q E h' tk' :=
  H led' h' tk' Q s1 (fun τ led2 h2 tk2 n2 k2 => hN τ led2 h2 tk2 n2 fun p m => k2 p (k1 p m)) (fun u led2 h2 tk2 k2 => hR u led2 h2 tk2 fun p m => k2 p (k1 p m)) fun r v s' e => hE r v s' (e.sub k1)
theorem cmpX_sok (O : C.Ok) {N : Sg → Prop} {σ : Sg} {n : Nat} {l : Expr} {ops : List CmpOp} {rs : List Expr} {p : Pos} {a b : List Stmt} {pos : Pos} {A B : Prop} (hx : cmpX C.Γ σ n (OutBad o) A B l ops rs) (ha : A → SOk C E o N σ (execs a C.env)) (hb : B → SOk C E o N σ (execs b C.env)) : SOk C E o N σ (exec (.If (.Compare l ops rs p) a b pos) C.env) := by
  intro led h tk Q hs hN hR hE
  unfold cmpX at hx
  split at hx
  · rename_i h1
    cases sng_inv h1
    split at hx
    · rename_i h2
      cases sng_inv h2
      split at hx
      · rename_i hr
        split at hx
        · rename_i hop
          cases eq_of_beq hop
          refine wpAny_If (wpAny_isTrue_Compare1 (rv_ok O n _ hx led h tk _ hs (fun v u led' h' tk' hk k1 R1 s1 => ?_) fun r v s' es => hE r v s' (.far es)) ((pv_plain _ _ n _ _ hr).2.2 _ (by intro e; cases e) (by intro e; cases e)))
          unfold cmpK at hk
          split at hk
          · rename_i P hc
            refine (pv_both O σ n).1 _ _ _ hr (conj_of hk).1 led' h' tk' _ _ s1 fun u2 led2 h2 tk2 k2 R2 s2 => cmp_ok O hc (R1.mono k2) R2 s2 fun c hc => wpAny_truthy_bool ?_
            have k3 := fun p m => k2 p (k1 p m)
            cases c
            · exact (hb ((conj_of hk).2.2 fun p => Bool.noConfusion (hc.mpr p))).sub k3 s2 hN hR hE
            · exact (ha ((conj_of hk).2.1 (hc.mp rfl))).sub k3 s2 hN hR hE
          · exact hk.elim
        · exact hx.elim
      · exact hx.elim
    · exact hx.elim
  · exact hx.elim
theorem if_sok' (O : C.Ok) {N : Sg → Prop} {σ : Sg} {n : Nat} {t : Expr} {a b : List Stmt} {pos : Pos} {A B : Prop} (hx : ifX C.Γ σ n (OutBad o) A B t) (ha : A → SOk C E o N σ (execs a C.env)) (hb : B → SOk C E o N σ (execs b C.env)) : SOk C E o N σ (exec (.If t a b pos) C.env) := by
  intro led h tk Q hs hN hR hE
  cases h₀ : pv C.Γ σ n t with
  | some r =>
    unfold ifX at hx
    rw [h₀] at hx
    obtain ⟨S, v, q, h₁, h₂, q1, q2, q3⟩ := testX_inv hx
    refine wpAny_If ((pv_both O σ n).2 _ _ _ _ _ (h₀.trans h₁) h₂ q1 led h tk _ _ hs fun c led' h' tk' hc k1 s1 => ?_)
    cases c
    · exact (hb (q3 fun p => Bool.noConfusion (hc.mpr p))).sub k1 s1 hN hR hE
    · exact (ha (q2 (hc.mp rfl))).sub k1 s1 hN hR hE
  | none =>
    unfold ifX at hx
    rw [h₀] at hx
    cases t <;> first
      | exact False.elim hx
      | exact cmpX_sok O hx ha hb led h tk Q hs hN hR hE
theorem while_sok (O : C.Ok) (PO : PassesOwn (model prog0 C.w) C.A C.env E) {N : Sg → Prop} {σ : Sg} {n : Nat} {t : Expr} {body : List Stmt} {pos : Pos} {an : Ann} {l₀ : List Int} {B : List Int → (Sg → Prop) → Prop} (ha : (an.nms.all (isLoc C.Γ) && !C.Γ.deep) = true) (hi : numsOf σ an.nms = some l₀)
    (hB : ∀ l K, B l K → SOk C E o K (head an.nms σ l) (execs body C.env))
    (hx : an.I l₀ ∧ kept an.nms σ σ ∧ allL an.nms.length (fun l => an.I l → testX (pv C.Γ (head an.nms σ l) n t) (B l (fun τ => (match numsOf τ an.nms with
                  | some l' => an.I l' ∧ an.μ l' < an.μ l ∧ kept an.nms τ σ
                  | none => False))) (N (head an.nms σ l)))) : SOk C E o N σ (exec (.While t body [] pos) C.env) := by
  obtain ⟨a1, a2, a3⟩ := hx
  simp only [Bool.and_eq_true, Bool.not_eq_true'] at ha
  intro led h tk Q hs hN hR hE
  refine while_ok O PO ha.2 (ι := { l : List Int // l.length = an.nms.length }) (fun i => head an.nms σ i.1) (fun i => an.I i.1) (fun i => an.μ i.1) ⟨l₀, (numsOf_holds hi).1⟩ (fun i => head_loc ha.1 hs.loc) a1 (holds_append (numsOf_holds hi).2 (kept_holds a2)) (fun i hi => ?_) led h tk Q hs hN hR hE
  obtain ⟨S, v, q, h₁, h₂, q1, q2, q3⟩ := testX_inv (allL_of a3 i.1 i.2 hi)
  refine ⟨_, _, _, _, _, h₁, h₂, q1, (pv_both O _ n).2, fun p => ?_, q3⟩
  intro led h tk Q hs hN hR hE
  refine hB _ _ (q2 p) led h tk Q hs (fun τ led' h' tk' n1 => ?_) hR hE
  split at n1
  · rename_i l' hi'
    exact hN τ led' h' tk' ⟨⟨l', (numsOf_holds hi').1⟩, holds_append (numsOf_holds hi').2 (kept_holds n1.2.2), n1.1, n1.2.1⟩
  · exact n1.elim
theorem ex_step (O : C.Ok) (PO : PassesOwn (model prog0 C.w) C.A C.env E) (PA : ∀ hd, PassesOwnAt (model prog0 C.w) (C.A.mark hd) C.A C.env E) {n : Nat} (I2 : ∀ l σ N, exs C.Γ o n l σ N → SOk C E o N σ (execs l C.env)) (st : Stmt) (σ : Sg) (N : Sg → Prop) (hx : ex C.Γ o (n + 1) st σ N) : SOk C E o N σ (exec st C.env) := by
  cases st <;> first
    | exact False.elim hx
    | exact asgX_sok O hx
    | exact aug_sok O hx
    | exact if_sok' O hx (I2 _ _ _) (I2 _ _ _)
    | exact fun led h tk Q hs hN hR hE => wpAny_Pass (hN _ led h tk hx (fun _ m => m) hs)
    | skip
  · rename_i e pos
    cases e with
    | none => exact False.elim hx
    | some e => exact fun led h tk Q hs hN hR hE => wpAny_Return_some (ret_ok O n _ hx led h tk _ hs (fun u led' h' tk' k1 R1 s1 => hR u led' h' tk' k1 R1 s1.nil) fun r v s' e => hE r v s' (.far e))
  · rename_i t it body els pos
    cases els with
    | cons a b => exact False.elim hx
    | nil =>
      unfold ex at hx
      dsimp only at hx
      split at hx
      · rename_i h1
        obtain ⟨xp, rfl⟩ := nameOf_inv h1
        split at hx
        · rename_i hl
          split at hx
          · rename_i hk
            exact for_sok O PO hl hk (I2 _ _ _ hx) fun τ h => I2 _ _ _ h
          · exact hx.elim
        · exact hx.elim
      · exact hx.elim
  · rename_i t body els pos
    cases els with
    | cons a b => exact False.elim hx
    | nil =>
      unfold ex at hx
      dsimp only at hx
      split at hx
      · split at hx
        · rename_i ha
          split at hx
          · rename_i hi
            exact while_sok O PO ha hi (fun l K => I2 _ _ K) hx
          · exact hx.elim
        · exact hx.elim
      · exact hx.elim
  · rename_i e c pos
    unfold ex at hx
    dsimp only at hx
    split at hx
    · rename_i h1
      obtain ⟨np, x, k, p1, cp, rfl, rfl⟩ := raiseK_inv h1
      split at hx
      · rename_i hc
        simp only [Bool.and_eq_true, beq_iff_eq, Nat.ble_eq] at hc
        exact raise_sok O hc.1.1 hc.1.2 hc.2 hx
      · exact hx.elim
    · exact hx.elim
  · rename_i body hs els fin pos
    cases els with
    | cons a b => exact False.elim hx
    | nil =>
      cases fin with
      | cons a b => exact False.elim hx
      | nil => exact tryX_sok O PA hx
  · refine fun led h tk Q hs hN hR hE => wpAny_Expr_any (rv_ok O n _ hx led h tk _ hs (fun v u led' h' tk' r k1 R1 s1 => ?_) fun r v s' e => hE r v s' (.far e)) (inter O) (rv_plain hx _ _ _)
    cases v <;> first
      | exact False.elim r
      | exact hN σ led' h' tk' r k1 s1
theorem ex_both (O : C.Ok) (PO : PassesOwn (model prog0 C.w) C.A C.env E) (PA : ∀ hd, PassesOwnAt (model prog0 C.w) (C.A.mark hd) C.A C.env E) : ∀ n, (∀ st σ N, ex C.Γ o n st σ N → SOk C E o N σ (exec st C.env)) ∧ (∀ l σ N, exs C.Γ o n l σ N → SOk C E o N σ (execs l C.env))
  | 0 => ⟨fun st σ N h => False.elim h, fun l σ N h => False.elim h⟩
  | n + 1 => ⟨ex_step O PO PA (ex_both O PO PA n).2, fun l σ N hx => by
    cases l with
    | nil => exact fun led h tk Q hs hN hR hE => wpAny_execs_nil (hN σ led h tk hx (fun _ m => m) hs)
    | cons st rest => exact SOk.cons ((ex_both O PO PA n).1 _ _ _ hx) fun τ h => (ex_both O PO PA n).2 _ _ _ h⟩
end
end Mine
end
section
open Mine.FLx (ξ ν κ ζ δ η π ω)
open Mine.FCx (φ ψ θ ϑ Φ Ψ φn ψn θn ϑn Φn Ψn)
open PySem PySem.W PySem.Calls PyProof.Rows
set_option maxRecDepth 100000
namespace Mine
theorem endK_rep {w : World} {led : Led} {o : Out} (h : endK o) : OutRep w led .none o := by
  cases o <;> first | exact h.elim | exact ⟨h, rfl⟩
theorem OutRep.mono {w : World} {led led' : Led} {u : Value} {o : Out} (h : OutRep w led u o) (k : ∀ p ∈ led, p ∈ led') : OutRep w led' u o := by
  cases o with
  | val v => exact Rep.mono h k
  | pair o => obtain ⟨x, y, e, r⟩ := h; exact ⟨x, y, e, r.mono k⟩
  | trip o => obtain ⟨x, y, z, e, r⟩ := h; exact ⟨x, y, z, e, r.mono k⟩
  | unit b => exact ⟨h.1, h.2.mono k⟩
  | fresh x y => obtain ⟨a, o, e, m, p⟩ := h; exact ⟨a, o, e, k _ m, p⟩
  | pos o => exact h.imp (fun ⟨x, y, e, r⟩ => ⟨x, y, e, r.mono k⟩) fun ⟨e, r⟩ => ⟨e, r.mono k⟩
theorem PR.append {w : World} {led : Led} {b : List (Str × Value)} {d : Sg} (h2 : PR w led b d) : ∀ {a : List (Str × Value)} {c : Sg}, PR w led a c → PR w led (a ++ b) (c ++ d)
  | [], [], _ => h2
  | _ :: _, _ :: _, ⟨x, y, z⟩ => ⟨x, y, PR.append h2 z⟩
theorem PR.rev {w : World} {led : Led} : ∀ {a : List (Str × Value)} {c : Sg}, PR w led a c → PR w led a.reverse c.reverse
  | [], [], _ => trivial
  | p :: a, q :: c, ⟨x, y, z⟩ => by
    rw [List.reverse_cons, List.reverse_cons]
    exact PR.append (show PR w led [p] [q] from ⟨x, y, trivial⟩) (PR.rev z)
theorem PR.zip {w : World} {led : Led} : ∀ {names : List Str} {us : List Value} {vs : List V}, Reps w led us vs → PR w led (names.zip us) (names.zip vs)
  | [], _, _, _ => trivial
  | _ :: _, [], [], _ => trivial
  | _ :: _, _ :: _, _ :: _, h => ⟨rfl, h.1, PR.zip h.2⟩
theorem kstB_lookup {x : Str} : ∀ {ps : List (Str × Value)}, kstB (fun _ => none) ps x = ps.lookup x
  | [] => rfl
  | (y, u) :: r => by
    rw [List.lookup_cons, kstB]
    by_cases h : x = y
    · subst h; simp
    · simp [h, beq_eq_false_iff_ne.mpr h, kstB_lookup]
theorem Reps.len {w : World} {led : Led} : ∀ {us : List Value} {vs : List V}, Reps w led us vs → us.length = vs.length
  | [], [], _ => rfl
  | _ :: _, _ :: _, h => congrArg (· + 1) h.2.len
theorem len_one {us : List Value} {n : Nat} (h : us.length = n + 1) : ∃ u r, us = u :: r ∧ r.length = n := by
  cases us with
  | nil => cases h
  | cons u r => exact ⟨u, r, rfl, Nat.succ.inj h⟩
theorem len_nil {us : List Value} (h : us.length = 0) : us = [] := List.eq_nil_of_length_eq_zero h
noncomputable abbrev Binds (fd : FuncData) (names : List Str) : Prop := ∀ us : List Value, us.length = names.length → bindArgs fd ⟨us, []⟩ = pure (names.zip us)
theorem bind1 {fd : FuncData} {a : Str} (h : ∀ x, bindArgs fd ⟨[x], []⟩ = pure [(a, x)]) : Binds fd [a] := fun us e => by
  obtain ⟨x, r, rfl, e1⟩ := len_one e
  cases len_nil e1
  exact h x
theorem bind2 {fd : FuncData} {a b : Str} (h : ∀ x y, bindArgs fd ⟨[x, y], []⟩ = pure [(a, x), (b, y)]) : Binds fd [a, b] := fun us e => by
  obtain ⟨x, r, rfl, e1⟩ := len_one e
  obtain ⟨y, r, rfl, e2⟩ := len_one e1
  cases len_nil e2
  exact h x y
theorem bind3 {fd : FuncData} {a b c : Str} (h : ∀ x y z, bindArgs fd ⟨[x, y, z], []⟩ = pure [(a, x), (b, y), (c, z)]) : Binds fd [a, b, c] := fun us e => by
  obtain ⟨x, r, rfl, e1⟩ := len_one e
  obtain ⟨y, r, rfl, e2⟩ := len_one e1
  obtain ⟨z, r, rfl, e3⟩ := len_one e2
  cases len_nil e3
  exact h x y z
theorem bind4 {fd : FuncData} {a b c d : Str} (h : ∀ x y z t, bindArgs fd ⟨[x, y, z, t], []⟩ = pure [(a, x), (b, y), (c, z), (d, t)]) : Binds fd [a, b, c, d] := fun us e => by
  obtain ⟨x, r, rfl, e1⟩ := len_one e
  obtain ⟨y, r, rfl, e2⟩ := len_one e1
  obtain ⟨z, r, rfl, e3⟩ := len_one e2
  obtain ⟨t, r, rfl, e4⟩ := len_one e3
  cases len_nil e4
  exact h x y z t
theorem mem_zip_all {Γ : Cfg} {β : Type} : ∀ {names : List Str} {us : List β}, names.all (isLoc Γ) = true → ∀ y ∈ names.zip us, isLoc Γ y.1 = true
  | n :: ns, u :: us, h, y, hy => by
    simp only [List.all_cons, Bool.and_eq_true] at h
    rcases List.mem_cons.mp hy with rfl | hy
    · exact h.1
    · exact mem_zip_all h.2 y hy
noncomputable def fbody : Stmt → List Stmt
  | .FunctionDef _ _ b .. => b
  | _ => []
noncomputable def fscope : Stmt → Scope
  | .FunctionDef _ _ _ _ _ _ s .. => s
  | _ => ⟨.module, [], false, false, []⟩
noncomputable def fparams : Stmt → List Str
  | .FunctionDef _ p .. => p.args.map (·.arg)
  | _ => []
structure FnB where
  name : Str
  qual : Str
  params : Arguments
  dV : Value
  kV : Value
  doc : Value
  pm : Value
  cdv : Value
  ct : Value
  oc : Value
  an : Option Addr
  od : Option Addr
  osl : Array (Option Value)
noncomputable def FnB.fd (B : FnB) (i : Nat) : FuncData := fnOf B.name B.qual B.params (fbody (st i)) (fscope (st i)) B.dV B.kV B.doc B.pm B.an B.cdv B.ct
structure DefAt (f : Addr) (i : Nat) (B : FnB) : Prop where
  ho : ∀ w : World, (heapK w.params).lookup f = some ⟨B.oc, B.od, .func (B.fd i), B.osl⟩
  hcd : ∀ w : World, codeIn (heapK w.params) B.cdv B.qual = true
  hb : Binds (B.fd i) (fparams (st i))
  c1 : (fscope (st i)).isCoroutine = false
  c2 : (fscope (st i)).isGenerator = false
  c3 : (fscope (st i)).kind = .function
  c4 : (fparams (st i)).all (isLoc ⟨fscope (st i), 0, [], [], false⟩) = true
  c5 : ((fscope (st i)).names.all fun x => decide (x.2 ≠ .cell)) = true
section
variable {w : World} {p : Program} {loose : List Str} {mean : ExcName → Option Value} {mg mb : Str → Option Value} {f : Addr} {i cost room n : Nat} {fns : List (Str × Addr × Spec)} {ann : List Ann} {news : Led} {us : List Value} {vs : List V} {o : Out}
theorem St.entry {C : Cx} {h₁ : Heap} (hR : Reps C.w news us vs) (hl : vs.length = (fparams (st i)).length) (hsc : C.Γ.sc = fscope (st i)) (c4 : (fparams (st i)).all (isLoc ⟨fscope (st i), 0, [], [], false⟩) = true) (G : Gr C C.g) (F' : Fr C.g C.L h₁ (fun y => ((fparams (st i)).zip us).reverse.lookup y)) (N' : News C.g C.L h₁ news) :
    St C ((fparams (st i)).zip vs).reverse news h₁ := by
  have lc : ∀ x, isLoc ⟨fscope (st i), 0, [], [], false⟩ x = true → isLoc C.Γ x = true := fun x h => by
    have e : isLoc C.Γ x = isLoc ⟨fscope (st i), 0, [], [], false⟩ x := by unfold isLoc; rw [hsc]
    rw [e]; exact h
  refine St.of G F' (fun x v e => ?_) (fun z e => ?_) N' (fun x v e => lc _ (mem_zip_all c4 _ (List.mem_reverse.mp (look_mem e))))
  · rw [← kstB_lookup]; exact PR.look (PR.zip (names := fparams (st i)) hR).rev e
  · cases hq : ((fparams (st i)).zip us).reverse.lookup z with
    | none => rfl
    | some u =>
      have := (isLoc_of (lc _ (mem_zip_all c4 _ (List.mem_reverse.mp (look_mem hq))))).1
      rw [e] at this; cases this
theorem fn_ok (D : ∃ B, DefAt f i B) (hc : cost = room + 1) (hf : ∀ q ∈ fns, FnOk q) (hR : Reps w news us vs) (hl : vs.length = (fparams (st i)).length)
    (vc : exs ⟨fscope (st i), room, fns, ann, false⟩ o n (fbody (st i)) ((fparams (st i)).zip vs).reverse (fun _ => endK o)) :
    CallR w p loose mean mg mb f cost news us (fun r tl => OutRep w (tl ++ news) r o) (OutBad o) := by
  intro dp un gd cn cs a ccd cl outer A₀ base h₀ L m s Q E Bl F X N T hk hd hu hret herr
  obtain ⟨B, ho, hcd, hb, c1, c2, c3, c4, c5⟩ := D
  refine wpAny_call (code_def Bl F X N T rfl rfl hk (ho w) (hcd w) (by show dp < _; exact fk2 [] [_,_,_] (ψn (ν 0) (ν 1)) 1 1 (ψn (ζ (ν 0) (ν 2)) (ν 1)) 1 (φn (κ 0) (ν 2)) yes hd (Nat.zero_le _)) (BindsTo.of_eq (hb us (hR.len.trans hl))) (fun y hy => (isLoc_of (mem_zip_all c4 y hy)).1) ?_ c1 c2 c3 (fun x hx => of_decide_eq_true (List.all_eq_true.mp c5 x hx)))
  intro g L' h₁ FG F' N' B' X' T'
  let C : Cx := ⟨w, p, loose, mean, mg, mb, dp + 1, un + 3, gd, B.qual, L', f, B.cdv, envX cn cs L a ccd cl :: outer, ktrTop dp un gd cn cs L a ccd cl outer, base, g, s, ⟨fscope (st i), room, fns, ann, false⟩⟩
  have O : C.Ok := ⟨fun e => (nomatch e), c3, by show dp + 1 + room < _; exact fk2 [] [_,_,_,_] (ψn (ζ (ζ (ν 0) (κ 1)) (ν 1)) (ν 2)) 1 1 (ϑn (ν 3) (ζ (ν 1) (κ 1))) 1 (ψn (ζ (ν 0) (ν 3)) (ν 2)) yes hc hd, by show un + 3 + 8 * room < _; exact fk2 [] [_,_,_,_] (ψn (ζ (ζ (ν 0) (κ 3)) (π 8 (ν 1))) (ν 2)) 1 8 (ϑn (ν 3) (ζ (ν 1) (κ 1))) 1 (ψn (ζ (ν 0) (π 8 (ν 3))) (ν 2)) yes hc hu, hf, rfl⟩
  have G : Gr C g := ⟨B', X', T', fun _ => rfl, fun e => (nomatch e)⟩
  refine wpAny_mono ((ex_both (C := C) (E := fun e s' => wpAny (model prog0 w) C.A (leaving C.env e) (fun x s'' => E e s'') (fun e' s'' => E e' s'') s') O PassesOwn.leaving (fun _ => PassesOwnAt.leaving) n).2 _ _ _ vc news h₁ _ (fun fl s' => LeaveK h₀ L m g (fun r s' => match r with | .ok (.ret v) => Q v s' | .ok _ => False | .error e => E e s') (match fl with | .ret v => v | _ => .none) s') (St.entry hR hl rfl c4 G F' N') ?_ ?_ ?_) (fun _ _ x => x) (fun _ _ x => x)
  · intro τ led' h' tk' he k1 s1
    obtain ⟨⟨g1, m1, G1, F1, _, _, N1⟩, _⟩ := s1
    have eg : g1 = g := G1.flat rfl
    subst eg
    exact leaveK_ F1 N1 fun F2 N2 => hret _ led' _ _ F2 (fun q hq => (List.mem_append.mp hq).elim (N2 q) fun h => N2 q (k1 q h)) (endK_rep he)
  · intro u led' h' tk' k1 R1 s1
    obtain ⟨⟨g1, m1, G1, F1, _, _, N1⟩, _⟩ := s1
    have eg : g1 = g := G1.flat rfl
    subst eg
    exact leaveK_ F1 N1 fun F2 N2 => hret _ led' _ _ F2 (fun q hq => (List.mem_append.mp hq).elim (N2 q) fun h => N2 q (k1 q h)) (R1.mono fun q m => List.mem_append_left _ m)
  · intro hbad v s' es
    cases es with
    | here G1 F1 N1 k1 T1 =>
      have eg := G1.flat rfl
      subst eg
      exact rf_leave B' F1 N1 k1 T1 (fun h2 vs2 R2 U2 => herr _ _ _ _ _ _ hbad FG R2 U2) c3
    | far H =>
      cases H with
      | mk G1 F1 hn1 R1 U1 =>
        have eg := G1.flat rfl
        subst eg
        exact leave_onS B' F1 R1 U1 fun h2 R2 RK2 U2 => herr _ _ _ _ _ _ hbad FG R2 U2
theorem fnS_ok (D : ∃ B, DefAt f i B) (hc : cost = room + 1) (hf : ∀ q ∈ fns, FnOk q) (hR : Reps w news us vs) (hl : vs.length = (fparams (st i)).length) (hno : ¬ OutBad o)
    (vc : exs ⟨fscope (st i), room, fns, ann, true⟩ o n (fbody (st i)) ((fparams (st i)).zip vs).reverse (fun _ => endK o)) :
    CallS w p loose mean mg mb f cost news us (fun r tl => OutRep w (tl ++ news) r o) := by
  intro dp un gd cn cs a ccd outer A₀ base h₀ L m s Q E Bl F X N T XB TB D₀ hk hd hu hret
  obtain ⟨B, ho, hcd, hb, c1, c2, c3, c4, c5⟩ := D
  refine wpAny_call (code_defS Bl F X N T XB TB D₀ KtsTurn.refl rfl (ho w) (hcd w) (by show dp < _; exact fk2 [] [_,_,_] (ψn (ν 0) (ν 1)) 1 1 (ψn (ζ (ν 0) (ν 2)) (ν 1)) 1 (φn (κ 0) (ν 2)) yes hd (Nat.zero_le _)) (BindsTo.of_eq (hb us (hR.len.trans hl))) (fun y hy => (isLoc_of (mem_zip_all c4 y hy)).1) ?_ hk c1 c2 c3 (fun x hx => of_decide_eq_true (List.all_eq_true.mp c5 x hx)))
  intro g L' h₁ FG F' N' B' X' T' D'
  let C : Cx := ⟨w, p, loose, mean, mg, mb, dp + 1, un + 3, gd, B.qual, L', f, B.cdv, envX cn cs L a ccd [] :: outer, ktrTop dp un gd cn cs L a ccd [] outer, base, g, s, ⟨fscope (st i), room, fns, ann, true⟩⟩
  have O : C.Ok := ⟨fun _ => ⟨XB, TB⟩, c3, by show dp + 1 + room < _; exact fk2 [] [_,_,_,_] (ψn (ζ (ζ (ν 0) (κ 1)) (ν 1)) (ν 2)) 1 1 (ϑn (ν 3) (ζ (ν 1) (κ 1))) 1 (ψn (ζ (ν 0) (ν 3)) (ν 2)) yes hc hd, by show un + 3 + 8 * room < _; exact fk2 [] [_,_,_,_] (ψn (ζ (ζ (ν 0) (κ 3)) (π 8 (ν 1))) (ν 2)) 1 8 (ϑn (ν 3) (ζ (ν 1) (κ 1))) 1 (ψn (ζ (ν 0) (π 8 (ν 3))) (ν 2)) yes hc hu, hf, rfl⟩
  have G : Gr C g := ⟨B', X', T', fun e => (nomatch e), fun _ => ⟨D', KtsTurn.refl⟩⟩
  refine wpAny_mono ((ex_both (C := C) (E := fun e s' => wpAny (model prog0 w) C.A (leaving C.env e) (fun x s'' => E e s'') (fun e' s'' => E e' s'') s') O PassesOwn.leaving (fun _ => PassesOwnAt.leaving) n).2 _ _ _ vc news h₁ _ (fun fl s' => LeaveS ((envOf cn cs L a ccd :: outer).filterMap (·.frame)) A₀ base outer (heapK w.params) p loose mean mg mb h₀ h₀ L m g (fun r s' => match r with | .ok (.ret v) => Q v s' | .ok _ => False | .error e => E e s') (match fl with | .ret v => v | _ => .none) s') (St.entry hR hl rfl c4 G F' N') ?_ ?_ ?_) (fun _ _ x => x) (fun _ _ x => x)
  · intro τ led' h' tk' he k1 s1
    obtain ⟨⟨g1, m1, G1, F1, _, _, N1⟩, _⟩ := s1
    exact leaveS_r F1 N1 (G1.deep rfl).2 fun h₀' U2 F2 N2 B2 X2 T2 D2 => hret _ led' _ _ _ U2 F2 (fun q hq => (List.mem_append.mp hq).elim (N2 q) fun h => N2 q (k1 q h)) B2 X2 T2 D2 (endK_rep he)
  · intro u led' h' tk' k1 R1 s1
    obtain ⟨⟨g1, m1, G1, F1, _, _, N1⟩, _⟩ := s1
    exact leaveS_r F1 N1 (G1.deep rfl).2 fun h₀' U2 F2 N2 B2 X2 T2 D2 => hret _ led' _ _ _ U2 F2 (fun q hq => (List.mem_append.mp hq).elim (N2 q) fun h => N2 q (k1 q h)) B2 X2 T2 D2 (R1.mono fun q m => List.mem_append_left _ m)
  · intro hbad
    exact (hno hbad).elim
theorem fnS0_ok (D : ∃ B, DefAt f i B) (hc : cost = room + 1) (hf : ∀ q ∈ fns, FnOk q) (hR : Reps w news us vs) (hl : vs.length = (fparams (st i)).length) (hno : ¬ OutBad o)
    (vc : exs ⟨fscope (st i), room, fns, ann, true⟩ o n (fbody (st i)) ((fparams (st i)).zip vs).reverse (fun _ => endK o)) :
    CallS0 w p loose mean mg mb f cost news us (fun r tl => OutRep w (tl ++ news) r o) := by
  intro dp un gd cn cs a ccd A₀ base h₀ L m s Q E Bl F X N T XB TB hk hd hu hret
  obtain ⟨B, ho, hcd, hb, c1, c2, c3, c4, c5⟩ := D
  refine wpAny_call (code_defS0 Bl F X N T rfl (ho w) (hcd w) (by show dp < _; exact fk2 [] [_,_,_] (ψn (ν 0) (ν 1)) 1 1 (ψn (ζ (ν 0) (ν 2)) (ν 1)) 1 (φn (κ 0) (ν 2)) yes hd (Nat.zero_le _)) (BindsTo.of_eq (hb us (hR.len.trans hl))) (fun y hy => (isLoc_of (mem_zip_all c4 y hy)).1) ?_ hk c1 c2 c3 (fun x hx => of_decide_eq_true (List.all_eq_true.mp c5 x hx)))
  intro g L' h₁ FG F' N' B' X' T' D'
  let C : Cx := ⟨w, p, loose, mean, mg, mb, dp + 1, un + 3, gd, B.qual, L', f, B.cdv, [envX cn cs L a ccd []], ktrTop dp un gd cn cs L a ccd [] [], base, g, s, ⟨fscope (st i), room, fns, ann, true⟩⟩
  have O : C.Ok := ⟨fun _ => ⟨XB, TB⟩, c3, by show dp + 1 + room < _; exact fk2 [] [_,_,_,_] (ψn (ζ (ζ (ν 0) (κ 1)) (ν 1)) (ν 2)) 1 1 (ϑn (ν 3) (ζ (ν 1) (κ 1))) 1 (ψn (ζ (ν 0) (ν 3)) (ν 2)) yes hc hd, by show un + 3 + 8 * room < _; exact fk2 [] [_,_,_,_] (ψn (ζ (ζ (ν 0) (κ 3)) (π 8 (ν 1))) (ν 2)) 1 8 (ϑn (ν 3) (ζ (ν 1) (κ 1))) 1 (ψn (ζ (ν 0) (π 8 (ν 3))) (ν 2)) yes hc hu, hf, rfl⟩
  have G : Gr C g := ⟨B', X', T', fun e => (nomatch e), fun _ => ⟨D', KtsTurn.refl⟩⟩
  refine wpAny_mono ((ex_both (C := C) (E := fun e s' => wpAny (model prog0 w) C.A (leaving C.env e) (fun x s'' => E e s'') (fun e' s'' => E e' s'') s') O PassesOwn.leaving (fun _ => PassesOwnAt.leaving) n).2 _ _ _ vc news h₁ _ (fun fl s' => LeaveS0 ([envOf cn cs L a ccd].filterMap (·.frame)) h₀ L m g (fun r s' => match r with | .ok (.ret v) => Q v s' | .ok _ => False | .error e => E e s') (match fl with | .ret v => v | _ => .none) s') (St.entry hR hl rfl c4 G F' N') ?_ ?_ ?_) (fun _ _ x => x) (fun _ _ x => x)
  · intro τ led' h' tk' he k1 s1
    obtain ⟨⟨g1, m1, G1, F1, _, _, N1⟩, _⟩ := s1
    exact leaveS0_ F1 N1 (G1.deep rfl).2 fun F2 N2 => hret _ led' _ _ F2 (fun q hq => (List.mem_append.mp hq).elim (N2 q) fun h => N2 q (k1 q h)) (endK_rep he)
  · intro u led' h' tk' k1 R1 s1
    obtain ⟨⟨g1, m1, G1, F1, _, _, N1⟩, _⟩ := s1
    exact leaveS0_ F1 N1 (G1.deep rfl).2 fun F2 N2 => hret _ led' _ _ F2 (fun q hq => (List.mem_append.mp hq).elim (N2 q) fun h => N2 q (k1 q h)) (R1.mono fun q m => List.mem_append_left _ m)
  · intro hbad
    exact (hno hbad).elim
theorem SpecOk.flat {val : List V → Option (List Prop × Out)} (D : ∃ B, DefAt f i B) (hc : cost = room + 1) (hf : ∀ q ∈ fns, FnOk q)
    (h : ∀ vs S o, val vs = some (S, o) → vs.length = (fparams (st i)).length ∧ ((∀ q ∈ S, q) → ∃ ann, exs ⟨fscope (st i), room, fns, ann, false⟩ o 60 (fbody (st i)) ((fparams (st i)).zip vs).reverse (fun _ => endK o))) : SpecOk f ⟨cost, val, false⟩ := by
  intro w p loose mean mg mb news vs us S o hv hS hR
  obtain ⟨hl, hx⟩ := h vs S o hv
  obtain ⟨ann, vc⟩ := hx hS
  exact ⟨fun _ => fn_ok D hc hf hR hl vc, fun h => nomatch h⟩
theorem SpecOk.turn {val : List V → Option (List Prop × Out)} (D : ∃ B, DefAt f i B) (hc : cost = room + 1) (hf : ∀ q ∈ fns, FnOk q)
    (h : ∀ vs S o, val vs = some (S, o) → vs.length = (fparams (st i)).length ∧ ((∀ q ∈ S, q) → ¬ OutBad o ∧ ∃ ann, exs ⟨fscope (st i), room, fns, ann, true⟩ o 60 (fbody (st i)) ((fparams (st i)).zip vs).reverse (fun _ => endK o))) : SpecOk f ⟨cost, val, true⟩ := by
  intro w p loose mean mg mb news vs us S o hv hS hR
  obtain ⟨hl, hx⟩ := h vs S o hv
  obtain ⟨hno, ann, vc⟩ := hx hS
  exact ⟨fun h => (nomatch h), fun _ => fnS_ok D hc hf hR hl hno vc⟩
end
end Mine
end
section
open PySem PySem.W PySem.Calls PyProof.Rows
set_option maxRecDepth 100000
namespace Mine
noncomputable abbrev SR := List Prop × Out
noncomputable def aN (r : SR) (vs : List V) : Option SR :=
  match vs with
  | [] => some r
  | _ :: _ => none
noncomputable def aI (f : Int → List V → Option SR) (vs : List V) : Option SR :=
  match vs with
  | [] => none
  | v :: r => match v with
    | .int x => f x r
    | _ => none
noncomputable def aP (f : Int → Int → List V → Option SR) (vs : List V) : Option SR :=
  match vs with
  | [] => none
  | v :: r => match v with
    | .two x y => f x y r
    | _ => none
noncomputable def aF (f : Addr → List V → Option SR) (vs : List V) : Option SR :=
  match vs with
  | [] => none
  | v :: r => match v with
    | .fn a => f a r
    | _ => none
noncomputable abbrev ValOk (P : List V → List Prop → Out → Prop) (g : List V → Option SR) : Prop := ∀ vs S o, g vs = some (S, o) → P vs S o
theorem vN {P : List V → List Prop → Out → Prop} {r : SR} (h : P [] r.1 r.2) : ValOk P (aN r) := fun vs S o e => by
  cases vs with
  | nil => cases e; exact h
  | cons a l => cases e
theorem vI {P : List V → List Prop → Out → Prop} {f : Int → List V → Option SR} (h : ∀ x, ValOk (fun vs => P (.int x :: vs)) (f x)) : ValOk P (aI f) := fun vs S o e => by
  cases vs with
  | nil => cases e
  | cons a l => cases a <;> first | exact h _ _ _ _ e | cases e
theorem vP {P : List V → List Prop → Out → Prop} {f : Int → Int → List V → Option SR} (h : ∀ x y, ValOk (fun vs => P (.two x y :: vs)) (f x y)) : ValOk P (aP f) := fun vs S o e => by
  cases vs with
  | nil => cases e
  | cons a l => cases a <;> first | exact h _ _ _ _ _ e | cases e
theorem vF {P : List V → List Prop → Out → Prop} {f : Addr → List V → Option SR} (h : ∀ x, ValOk (fun vs => P (.fn x :: vs)) (f x)) : ValOk P (aF f) := fun vs S o e => by
  cases vs with
  | nil => cases e
  | cons a l => cases a <;> first | exact h _ _ _ _ e | cases e
theorem fnil : ∀ q ∈ ([] : List (Str × Addr × Spec)), FnOk q := fun _ m => nomatch m
theorem fcons {a : Str × Addr × Spec} {l : List (Str × Addr × Spec)} (h : FnOk a) (t : ∀ q ∈ l, FnOk q) : ∀ q ∈ a :: l, FnOk q := fun q m => (List.mem_cons.mp m).elim (fun e => e ▸ h) (t q)
noncomputable def exR (n p0 : Int) : Int := (exF (10 ^ p0.toNat) n 500 (10 ^ p0.toNat) (10 ^ p0.toNat) 1).getD 0
noncomputable def s_count : Spec := ⟨1, aI fun n => aN ([], .val (.int (cd n))), false⟩
noncomputable abbrev e_count : Str × Addr × Spec := (Str.ofString "count_digits", 54, s_count)
theorem d_count : ∃ B, DefAt 54 5 B := ⟨⟨_, _, _, _, _, _, _, _, _, _, _, _, _⟩, ⟨fun _ => rfl, fun _ => rfl, bind1 fun _ => rfl, rfl, rfl, rfl, rfl, rfl⟩⟩
noncomputable def s_strip : Spec := ⟨1, aI fun x => aI fun y => aN ([], .val (.two (strip x y).1 (strip x y).2)), false⟩
noncomputable abbrev e_strip : Str × Addr × Spec := (Str.ofString "strip_zeros", 61, s_strip)
theorem d_strip : ∃ B, DefAt 61 6 B := ⟨⟨_, _, _, _, _, _, _, _, _, _, _, _, _⟩, ⟨fun _ => rfl, fun _ => rfl, bind2 fun _ _ => rfl, rfl, rfl, rfl, rfl, rfl⟩⟩
noncomputable def s_rd : Spec := ⟨2, aI fun x => aI fun y => aI fun d => aN ([cd x ≤ 1900, 0 ≤ d], .val (.two (rd x y d).1 (rd x y d).2)), false⟩
noncomputable abbrev e_rd : Str × Addr × Spec := (Str.ofString "round_digits", 68, s_rd)
theorem d_rd : ∃ B, DefAt 68 7 B := ⟨⟨_, _, _, _, _, _, _, _, _, _, _, _, _⟩, ⟨fun _ => rfl, fun _ => rfl, bind3 fun _ _ _ => rfl, rfl, rfl, rfl, rfl, rfl⟩⟩
noncomputable def s_rr : Spec := ⟨8, aI fun x => aI fun y => aI fun d => aI fun top => aN ([cd x ≤ 1900, 0 ≤ d], .pair (rr x y d top)), false⟩
noncomputable abbrev e_rr : Str × Addr × Spec := (Str.ofString "round_real", 75, s_rr)
theorem d_rr : ∃ B, DefAt 75 8 B := ⟨⟨_, _, _, _, _, _, _, _, _, _, _, _, _⟩, ⟨fun _ => rfl, fun _ => rfl, bind4 fun _ _ _ _ => rfl, rfl, rfl, rfl, rfl, rfl⟩⟩
noncomputable def s_qu : Spec := ⟨3, aI fun x => aI fun y => aI fun e => aI fun d => aN ([Sm x, Sm y, ¬ y = 0, 0 ≤ d, d ≤ 100, cd y ≤ 1000], .val (.two (quV x y e d).1 (quV x y e d).2)), false⟩
noncomputable abbrev e_qu : Str × Addr × Spec := (Str.ofString "quotient", 82, s_qu)
theorem d_qu : ∃ B, DefAt 82 9 B := ⟨⟨_, _, _, _, _, _, _, _, _, _, _, _, _⟩, ⟨fun _ => rfl, fun _ => rfl, bind4 fun _ _ _ _ => rfl, rfl, rfl, rfl, rfl, rfl⟩⟩
noncomputable def s_div : Spec := ⟨12, aP fun x y => aP fun u v => aI fun d => aI fun top => aN ([Sm x, Sm u, ¬ u = 0, 0 ≤ d, d ≤ 100, cd u ≤ 1000, cd (quV x u (y - v) d).1 ≤ 1900], .pair (rdvV x y u v d top)), false⟩
noncomputable abbrev e_div : Str × Addr × Spec := (Str.ofString "real_div", 89, s_div)
theorem d_div : ∃ B, DefAt 89 10 B := ⟨⟨_, _, _, _, _, _, _, _, _, _, _, _, _⟩, ⟨fun _ => rfl, fun _ => rfl, bind4 fun _ _ _ _ => rfl, rfl, rfl, rfl, rfl, rfl⟩⟩
noncomputable def s_lead : Spec := ⟨2, aP fun x y => aN ([], .val (.int (cd x + y))), false⟩
noncomputable abbrev e_lead : Str × Addr × Spec := (Str.ofString "lead_of", 96, s_lead)
theorem d_lead : ∃ B, DefAt 96 13 B := ⟨⟨_, _, _, _, _, _, _, _, _, _, _, _, _⟩, ⟨fun _ => rfl, fun _ => rfl, bind1 fun _ => rfl, rfl, rfl, rfl, rfl, rfl⟩⟩
noncomputable def s_pf : Spec := ⟨4, aP fun x y => aI fun d => aN ([], .val (.int (pfV x y d))), false⟩
noncomputable abbrev e_pf : Str × Addr × Spec := (Str.ofString "places_for", 103, s_pf)
theorem d_pf : ∃ B, DefAt 103 14 B := ⟨⟨_, _, _, _, _, _, _, _, _, _, _, _, _⟩, ⟨fun _ => rfl, fun _ => rfl, bind2 fun _ _ => rfl, rfl, rfl, rfl, rfl, rfl⟩⟩
noncomputable def s_fixed : Spec := ⟨4, aP fun x y => aI fun p0 => aN ([0 ≤ y + p0, y + p0 ≤ 1000, Sm x], .val (.int (x * 10 ^ (y + p0).toNat))), false⟩
noncomputable abbrev e_fixed : Str × Addr × Spec := (Str.ofString "fixed", 110, s_fixed)
theorem d_fixed : ∃ B, DefAt 110 15 B := ⟨⟨_, _, _, _, _, _, _, _, _, _, _, _, _⟩, ⟨fun _ => rfl, fun _ => rfl, bind2 fun _ _ => rfl, rfl, rfl, rfl, rfl, rfl⟩⟩
noncomputable def s_root : Spec := ⟨2, aI fun n => aN ([0 ≤ n, cd n ≤ 1900], .val (.int (isq n))), false⟩
noncomputable abbrev e_root : Str × Addr × Spec := (Str.ofString "whole_root", 117, s_root)
theorem d_root : ∃ B, DefAt 117 16 B := ⟨⟨_, _, _, _, _, _, _, _, _, _, _, _, _⟩, ⟨fun _ => rfl, fun _ => rfl, bind1 fun _ => rfl, rfl, rfl, rfl, rfl, rfl⟩⟩
noncomputable def s_inv : Spec := ⟨2, aI fun d => aI fun places => aI fun turn => aN ([2 ≤ d, d ≤ 1000, 0 ≤ places, places ≤ 110, -1 ≤ turn, turn ≤ 1], .val (.int (invV d places turn))), false⟩
noncomputable abbrev e_inv : Str × Addr × Spec := (Str.ofString "inverse_series", 124, s_inv)
theorem d_inv : ∃ B, DefAt 124 17 B := ⟨⟨_, _, _, _, _, _, _, _, _, _, _, _, _⟩, ⟨fun _ => rfl, fun _ => rfl, bind3 fun _ _ _ => rfl, rfl, rfl, rfl, rfl, rfl⟩⟩
noncomputable def s_lt : Spec := ⟨3, aI fun p0 => aN ([0 ≤ p0, p0 ≤ 100], .val (.int (ltV p0))), false⟩
noncomputable abbrev e_lt : Str × Addr × Spec := (Str.ofString "log_of_ten", 131, s_lt)
theorem d_lt : ∃ B, DefAt 131 18 B := ⟨⟨_, _, _, _, _, _, _, _, _, _, _, _, _⟩, ⟨fun _ => rfl, fun _ => rfl, bind1 fun _ => rfl, rfl, rfl, rfl, rfl, rfl⟩⟩
noncomputable def s_ht : Spec := ⟨3, aI fun p0 => aN ([0 ≤ p0, p0 ≤ 100], .val (.int (htV p0))), false⟩
noncomputable abbrev e_ht : Str × Addr × Spec := (Str.ofString "half_turn", 138, s_ht)
theorem d_ht : ∃ B, DefAt 138 19 B := ⟨⟨_, _, _, _, _, _, _, _, _, _, _, _, _⟩, ⟨fun _ => rfl, fun _ => rfl, bind1 fun _ => rfl, rfl, rfl, rfl, rfl, rfl⟩⟩
noncomputable def s_exp : Spec := ⟨2, aI fun n => aI fun p0 => aN ([Sm n, 0 ≤ p0, p0 ≤ 110, exF (10 ^ p0.toNat) n 500 (10 ^ p0.toNat) (10 ^ p0.toNat) 1 = some (exR n p0)], .val (.int (exR n p0))), false⟩
noncomputable abbrev e_exp : Str × Addr × Spec := (Str.ofString "exp_fixed", 145, s_exp)
theorem d_exp : ∃ B, DefAt 145 20 B := ⟨⟨_, _, _, _, _, _, _, _, _, _, _, _, _⟩, ⟨fun _ => rfl, fun _ => rfl, bind2 fun _ _ => rfl, rfl, rfl, rfl, rfl, rfl⟩⟩
noncomputable def s_ep : Spec := ⟨6, aP fun x y => aI fun d => aN ([EpOk x y d], .val (.tri (epF x y d) (epK x y d) (epP x y d))), false⟩
noncomputable abbrev e_ep : Str × Addr × Spec := (Str.ofString "exp_parts", 152, s_ep)
theorem d_ep : ∃ B, DefAt 152 21 B := ⟨⟨_, _, _, _, _, _, _, _, _, _, _, _, _⟩, ⟨fun _ => rfl, fun _ => rfl, bind2 fun _ _ => rfl, rfl, rfl, rfl, rfl, rfl⟩⟩
noncomputable def s_great : Spec := ⟨4, aP fun x y => aI fun top => aN ([], .val (.tf (greatB x y top = true) inferInstance)), false⟩
noncomputable abbrev e_great : Str × Addr × Spec := (Str.ofString "is_too_great", 159, s_great)
theorem d_great : ∃ B, DefAt 159 22 B := ⟨⟨_, _, _, _, _, _, _, _, _, _, _, _, _⟩, ⟨fun _ => rfl, fun _ => rfl, bind2 fun _ _ => rfl, rfl, rfl, rfl, rfl, rfl⟩⟩
noncomputable def s_tiny : Spec := ⟨4, aP fun x y => aI fun d => aN ([], .val (.tf (tinyB x y d = true) inferInstance)), false⟩
noncomputable abbrev e_tiny : Str × Addr × Spec := (Str.ofString "is_tiny", 166, s_tiny)
theorem d_tiny : ∃ B, DefAt 166 23 B := ⟨⟨_, _, _, _, _, _, _, _, _, _, _, _, _⟩, ⟨fun _ => rfl, fun _ => rfl, bind2 fun _ _ => rfl, rfl, rfl, rfl, rfl, rfl⟩⟩
noncomputable def s_arc : Spec := ⟨4, aI fun t => aI fun p0 => aN ([0 ≤ p0, ArcOk p0.toNat t], .val (.int (arcV t p0))), false⟩
noncomputable abbrev e_arc : Str × Addr × Spec := (Str.ofString "arc_fixed", 173, s_arc)
theorem d_arc : ∃ B, DefAt 173 25 B := ⟨⟨_, _, _, _, _, _, _, _, _, _, _, _, _⟩, ⟨fun _ => rfl, fun _ => rfl, bind2 fun _ _ => rfl, rfl, rfl, rfl, rfl, rfl⟩⟩
noncomputable def s_ra : Spec := ⟨6, aI fun a => aI fun b => aI fun p0 => aN ([0 ≤ a, 0 ≤ b, ¬ (a = 0 ∧ b = 0), Sm a, Sm b, 0 ≤ p0, p0 ≤ 100], .val (.int (raV a b p0))), false⟩
noncomputable abbrev e_ra : Str × Addr × Spec := (Str.ofString "ratio_angle", 180, s_ra)
theorem d_ra : ∃ B, DefAt 180 26 B := ⟨⟨_, _, _, _, _, _, _, _, _, _, _, _, _⟩, ⟨fun _ => rfl, fun _ => rfl, bind3 fun _ _ _ => rfl, rfl, rfl, rfl, rfl, rfl⟩⟩
noncomputable def s_bey : Spec := ⟨4, aP fun x y => aN ([cd x ≤ 1900], .val (.tf (beyB x y = true) inferInstance)), false⟩
noncomputable abbrev e_bey : Str × Addr × Spec := (Str.ofString "is_beyond_one", 187, s_bey)
theorem d_bey : ∃ B, DefAt 187 27 B := ⟨⟨_, _, _, _, _, _, _, _, _, _, _, _, _⟩, ⟨fun _ => rfl, fun _ => rfl, bind1 fun _ => rfl, rfl, rfl, rfl, rfl, rfl⟩⟩
noncomputable def s_ap : Spec := ⟨12, aP fun x y => aI fun d => aN ([cd x ≤ 1900, beyB x y = false → ArcCond x y d], .trip (if beyB x y = true then none else some (apN x y d, apO x y d, pfV x y d))), false⟩
noncomputable abbrev e_ap : Str × Addr × Spec := (Str.ofString "arc_parts", 194, s_ap)
theorem d_ap : ∃ B, DefAt 194 28 B := ⟨⟨_, _, _, _, _, _, _, _, _, _, _, _, _⟩, ⟨fun _ => rfl, fun _ => rfl, bind2 fun _ _ => rfl, rfl, rfl, rfl, rfl, rfl⟩⟩
noncomputable def s_as : Spec := ⟨16, aP fun x y => aI fun d => aI fun top => aN ([0 ≤ d, cd x ≤ 1900, beyB x y = false → ArcCond x y d], .pair (asV x y d top)), false⟩
noncomputable abbrev e_as : Str × Addr × Spec := (Str.ofString "asin_real", 201, s_as)
theorem d_as : ∃ B, DefAt 201 29 B := ⟨⟨_, _, _, _, _, _, _, _, _, _, _, _, _⟩, ⟨fun _ => rfl, fun _ => rfl, bind3 fun _ _ _ => rfl, rfl, rfl, rfl, rfl, rfl⟩⟩
noncomputable def s_ac : Spec := ⟨16, aP fun x y => aI fun d => aI fun top => aN ([0 ≤ d, cd x ≤ 1900, beyB x y = false → ArcCond x y d], .pair (acV x y d top)), false⟩
noncomputable abbrev e_ac : Str × Addr × Spec := (Str.ofString "acos_real", 208, s_ac)
theorem d_ac : ∃ B, DefAt 208 30 B := ⟨⟨_, _, _, _, _, _, _, _, _, _, _, _, _⟩, ⟨fun _ => rfl, fun _ => rfl, bind3 fun _ _ _ => rfl, rfl, rfl, rfl, rfl, rfl⟩⟩
noncomputable def s_sa : Spec := ⟨12, aP fun x y => aI fun q => aI fun d => aI fun top => aN ([0 ≤ q, q ≤ 2, 0 ≤ d, d ≤ 50, Sm (htV (d + 10)), cd ((q * htV (d + 10)).fdiv 2) ≤ 1900], .pair (saV x q d top)), false⟩
noncomputable abbrev e_sa : Str × Addr × Spec := (Str.ofString "straight_angle", 215, s_sa)
theorem d_sa : ∃ B, DefAt 215 31 B := ⟨⟨_, _, _, _, _, _, _, _, _, _, _, _, _⟩, ⟨fun _ => rfl, fun _ => rfl, bind4 fun _ _ _ _ => rfl, rfl, rfl, rfl, rfl, rfl⟩⟩
noncomputable def s_at2 : Spec := ⟨20, aP fun y v => aP fun x u => aI fun d => aI fun top => aN ([At2Ok y v x u d], .pair (at2V y v x u d top)), false⟩
noncomputable abbrev e_at2 : Str × Addr × Spec := (Str.ofString "atan2_real", 222, s_at2)
theorem d_at2 : ∃ B, DefAt 222 32 B := ⟨⟨_, _, _, _, _, _, _, _, _, _, _, _, _⟩, ⟨fun _ => rfl, fun _ => rfl, bind4 fun _ _ _ _ => rfl, rfl, rfl, rfl, rfl, rfl⟩⟩
noncomputable def s_at : Spec := ⟨24, aP fun x y => aI fun d => aI fun top => aN ([At2Ok x y 1 0 d], .pair (at2V x y 1 0 d top)), false⟩
theorem d_at : ∃ B, DefAt 229 33 B := ⟨⟨_, _, _, _, _, _, _, _, _, _, _, _, _⟩, ⟨fun _ => rfl, fun _ => rfl, bind3 fun _ _ _ => rfl, rfl, rfl, rfl, rfl, rfl⟩⟩
noncomputable def s_xp : Spec := ⟨8, aP fun x y => aI fun d => aN ([EpOk (absI x) y d], .val (.tri (epG (absI x) y d) (epD (absI x) y d) (epP (absI x) y d))), false⟩
noncomputable abbrev e_xp : Str × Addr × Spec := (Str.ofString "exp_pair", 236, s_xp)
theorem d_xp : ∃ B, DefAt 236 34 B := ⟨⟨_, _, _, _, _, _, _, _, _, _, _, _, _⟩, ⟨fun _ => rfl, fun _ => rfl, bind2 fun _ _ => rfl, rfl, rfl, rfl, rfl, rfl⟩⟩
noncomputable def s_cg : Spec := ⟨12, aP fun x y => aI fun top => aN ([], .unit (greatB x y top = true)), false⟩
noncomputable abbrev e_cg : Str × Addr × Spec := (Str.ofString "check_great", 243, s_cg)
theorem d_cg : ∃ B, DefAt 243 35 B := ⟨⟨_, _, _, _, _, _, _, _, _, _, _, _, _⟩, ⟨fun _ => rfl, fun _ => rfl, bind2 fun _ _ => rfl, rfl, rfl, rfl, rfl, rfl⟩⟩
noncomputable def s_sh : Spec := ⟨16, aP fun x y => aI fun d => aI fun top => aN ([0 ≤ d, cd x ≤ 1900, EpOk (absI x) y d], .pair (shV x y d top)), false⟩
noncomputable abbrev e_sh : Str × Addr × Spec := (Str.ofString "sinh_real", 250, s_sh)
theorem d_sh : ∃ B, DefAt 250 36 B := ⟨⟨_, _, _, _, _, _, _, _, _, _, _, _, _⟩, ⟨fun _ => rfl, fun _ => rfl, bind3 fun _ _ _ => rfl, rfl, rfl, rfl, rfl, rfl⟩⟩
noncomputable def s_ch : Spec := ⟨16, aP fun x y => aI fun d => aI fun top => aN ([0 ≤ d, cd x ≤ 1900, EpOk (absI x) y d], .pair (chV x y d top)), false⟩
noncomputable abbrev e_ch : Str × Addr × Spec := (Str.ofString "cosh_real", 257, s_ch)
theorem d_ch : ∃ B, DefAt 257 37 B := ⟨⟨_, _, _, _, _, _, _, _, _, _, _, _, _⟩, ⟨fun _ => rfl, fun _ => rfl, bind3 fun _ _ _ => rfl, rfl, rfl, rfl, rfl, rfl⟩⟩
noncomputable def s_th : Spec := ⟨16, aP fun x y => aI fun d => aI fun top => aN ([0 ≤ d, cd x ≤ 1900, EpOk (absI x) y d], .pair (thV x y d top)), false⟩
noncomputable abbrev e_th : Str × Addr × Spec := (Str.ofString "tanh_real", 264, s_th)
theorem d_th : ∃ B, DefAt 264 38 B := ⟨⟨_, _, _, _, _, _, _, _, _, _, _, _, _⟩, ⟨fun _ => rfl, fun _ => rfl, bind3 fun _ _ _ => rfl, rfl, rfl, rfl, rfl, rfl⟩⟩
noncomputable def s_size : Spec := ⟨2, aI fun n => aN ([], .val (.int (cd n))), false⟩
noncomputable abbrev e_size : Str × Addr × Spec := (Str.ofString "_law_size", 278, s_size)
theorem d_size : ∃ B, DefAt 278 42 B := ⟨⟨_, _, _, _, _, _, _, _, _, _, _, _, _⟩, ⟨fun _ => rfl, fun _ => rfl, bind1 fun _ => rfl, rfl, rfl, rfl, rfl, rfl⟩⟩
noncomputable def s_turned : Spec := ⟨2, aP fun x y => aN ([], .val (.two (-x) y)), false⟩
noncomputable abbrev e_turned : Str × Addr × Spec := (Str.ofString "_law_turned", 292, s_turned)
theorem d_turned : ∃ B, DefAt 292 44 B := ⟨⟨_, _, _, _, _, _, _, _, _, _, _, _, _⟩, ⟨fun _ => rfl, fun _ => rfl, bind1 fun _ => rfl, rfl, rfl, rfl, rfl, rfl⟩⟩
noncomputable def s_even : Spec := ⟨4, aI fun x => aI fun y => aI fun d => aN ([cd x ≤ 1900, 0 ≤ d], .fresh (evV x y d).1 (evV x y d).2), false⟩
noncomputable abbrev e_even : Str × Addr × Spec := (Str.ofString "_law_even", 285, s_even)
theorem d_even : ∃ B, DefAt 285 43 B := ⟨⟨_, _, _, _, _, _, _, _, _, _, _, _, _⟩, ⟨fun _ => rfl, fun _ => rfl, bind3 fun _ _ _ => rfl, rfl, rfl, rfl, rfl, rfl⟩⟩
noncomputable def s_lsh : Spec := ⟨20, aP fun x y => aI fun d => aI fun top => aN ([0 ≤ d, cd x ≤ 1900, EpOk (absI x) y d], .pos (shV x y d top)), true⟩
noncomputable abbrev e_lsh : Str × Addr × Spec := (Str.ofString "_law_sinh", 306, s_lsh)
theorem d_lsh : ∃ B, DefAt 306 46 B := ⟨⟨_, _, _, _, _, _, _, _, _, _, _, _, _⟩, ⟨fun _ => rfl, fun _ => rfl, bind3 fun _ _ _ => rfl, rfl, rfl, rfl, rfl, rfl⟩⟩
noncomputable def s_lch : Spec := ⟨20, aP fun x y => aI fun d => aI fun top => aN ([0 ≤ d, cd x ≤ 1900, EpOk (absI x) y d], .pos (chV x y d top)), true⟩
noncomputable abbrev e_lch : Str × Addr × Spec := (Str.ofString "_law_cosh", 313, s_lch)
theorem d_lch : ∃ B, DefAt 313 47 B := ⟨⟨_, _, _, _, _, _, _, _, _, _, _, _, _⟩, ⟨fun _ => rfl, fun _ => rfl, bind3 fun _ _ _ => rfl, rfl, rfl, rfl, rfl, rfl⟩⟩
theorem d_ref1 : ∃ B, DefAt 320 48 B := ⟨⟨_, _, _, _, _, _, _, _, _, _, _, _, _⟩, ⟨fun _ => rfl, fun _ => rfl, bind3 fun _ _ _ => rfl, rfl, rfl, rfl, rfl, rfl⟩⟩
noncomputable def s_ref : Spec := ⟨20, aF fun a => aP fun x y => aI fun d => aN ([0 ≤ d, cd x ≤ 1900, beyB x y = false → ArcCond x y d, (a = 201 ∧ asV x y d 99 = none) ∨ (a = 208 ∧ acV x y d 99 = none)], .val (.tf True inferInstance)), true⟩
noncomputable abbrev e_ref : Str × Addr × Spec := (Str.ofString "_law_is_refused", 320, s_ref)
noncomputable def s_near : Spec := ⟨4, aP fun x y => aP fun u v => aI fun d => aI fun k => aN ([NearOk x y u v d, Sm k], .val (.tf (nearB x y u v d k = true) inferInstance)), false⟩
noncomputable abbrev e_near : Str × Addr × Spec := (Str.ofString "_law_near", 299, s_near)
theorem d_near : ∃ B, DefAt 299 45 B := ⟨⟨_, _, _, _, _, _, _, _, _, _, _, _, _⟩, ⟨fun _ => rfl, fun _ => rfl, bind4 fun _ _ _ _ => rfl, rfl, rfl, rfl, rfl, rfl⟩⟩
theorem d_ang : ∃ B, DefAt 334 50 B := ⟨⟨_, _, _, _, _, _, _, _, _, _, _, _, _⟩, ⟨fun _ => rfl, fun _ => rfl, bind3 fun _ _ _ => rfl, rfl, rfl, rfl, rfl, rfl⟩⟩
theorem d_stp : ∃ B, DefAt 327 49 B := ⟨⟨_, _, _, _, _, _, _, _, _, _, _, _, _⟩, ⟨fun _ => rfl, fun _ => rfl, bind3 fun _ _ _ => rfl, rfl, rfl, rfl, rfl, rfl⟩⟩
theorem d_axe : ∃ B, DefAt 341 51 B := ⟨⟨_, _, _, _, _, _, _, _, _, _, _, _, _⟩, ⟨fun _ => rfl, fun _ => rfl, bind2 fun _ _ => rfl, rfl, rfl, rfl, rfl, rfl⟩⟩
theorem d_one : ∃ B, DefAt 348 52 B := ⟨⟨_, _, _, _, _, _, _, _, _, _, _, _, _⟩, ⟨fun _ => rfl, fun _ => rfl, bind2 fun _ _ => rfl, rfl, rfl, rfl, rfl, rfl⟩⟩
end Mine
end
section
open Mine.FLx (ξ ν κ ζ δ η π ω)
open Mine.FCx (φ ψ θ ϑ Φ Ψ φn ψn θn ϑn Φn Ψn)
open PySem PySem.W PySem.Calls PyProof.Rows
set_option maxRecDepth 100000
namespace Mine
theorem rdP_up {p a : Int} (h : p < 2 * a.fmod p ∨ 2 * a.fmod p = p ∧ (a.fdiv p).fmod 2 = 1) : a.fdiv p + 1 = rdP p a := by unfold rdP; rw [if_pos h]
theorem rdP_dn {p a : Int} (h : ¬ (p < 2 * a.fmod p ∨ 2 * a.fmod p = p ∧ (a.fdiv p).fmod 2 = 1)) : a.fdiv p = rdP p a := by unfold rdP; rw [if_neg h]
theorem rd_if {x y d K : Int} (h1 : 0 < cd x - d) (h : K = rdP (10 ^ (cd x - d).toNat) (absI x)) : strip (if 0 < x then K else -K) (y + (cd x - d)) = rd x y d := by
  subst h; unfold rd; rw [if_pos h1]
theorem rr_n {x y d top : Int} (h : (rd x y d).1 = 0 ∨ (rd x y d).2 + cd (rd x y d).1 - 1 < -top) : rr x y d top = some (0, 0) := by unfold rr; rw [if_pos h]
theorem rr_e {x y d top : Int} (h : ¬ ((rd x y d).1 = 0 ∨ (rd x y d).2 + cd (rd x y d).1 - 1 < -top)) (k : top < (rd x y d).2 + cd (rd x y d).1 - 1) : rr x y d top = none := by unfold rr; rw [if_neg h, if_pos k]
theorem rr_o {x y d top : Int} (h : ¬ ((rd x y d).1 = 0 ∨ (rd x y d).2 + cd (rd x y d).1 - 1 < -top)) (k : ¬ top < (rd x y d).2 + cd (rd x y d).1 - 1) : rr x y d top = some ((rd x y d).1, (rd x y d).2) := by unfold rr; rw [if_neg h, if_neg k]
theorem qu_n {x y e d : Int} (h : (decide (x < 0) != decide (y < 0)) = true) : -quM x y d = (quV x y e d).1 := by unfold quV; rw [if_pos h]
theorem qu_p {x y e d : Int} (h : ¬ (decide (x < 0) != decide (y < 0)) = true) : quM x y d = (quV x y e d).1 := by unfold quV; rw [if_neg h]
theorem v_count (n : Int) : ((0 : Int) ≤ absI n ∧ cd (absI n) + (0 : Int) = cd n) ∧ True ∧ ∀ (a a_1 : Int), (0 : Int) ≤ a ∧ cd a + a_1 = cd n → ((1000000000 : Int) ≤ a → ((0 : Int) ≤ a.fdiv (1000000000 : Int) ∧ cd (a.fdiv (1000000000 : Int)) + (a_1 + (9 : Int)) = cd n) ∧ (a.fdiv (1000000000 : Int)).toNat < a.toNat ∧ True) ∧ (¬(1000000000 : Int) ≤ a → ((0 : Int) ≤ a ∧ cd a + a_1 = cd n) ∧ True ∧ ∀ (a a_4 : Int), (0 : Int) ≤ a ∧ cd a + a_4 = cd n → ((0 : Int) < a → ((0 : Int) ≤ a.fdiv (10 : Int) ∧ cd (a.fdiv (10 : Int)) + (a_4 + (1 : Int)) = cd n) ∧ (a.fdiv (10 : Int)).toNat < a.toNat ∧ True) ∧ (¬(0 : Int) < a → a_4 = cd n)) := by
  exact ⟨cd_abs n, trivial, fun a c ⟨p, q⟩ => ⟨fun r => ⟨cd_turn9 p q r, fdiv_less (by exact fk1 [_] [] (ψ (κ 0) (ξ 0)) 1 1 (φ (κ 1000000000) (ξ 0)) yes r) (by decide), trivial⟩, fun _ => ⟨⟨p, q⟩, trivial, fun a c ⟨p, q⟩ => ⟨fun r => ⟨cd_turn1 p q r, fdiv_less r (by decide), trivial⟩, fun r => cd_end q p r⟩⟩⟩⟩
theorem k_count : SpecOk 54 s_count :=
  SpecOk.flat d_count rfl fnil (vI fun n => vN ⟨rfl, fun _ => ⟨[⟨14, ["n", "count"], fun l => match l with | [a, b] => 0 ≤ a ∧ cd a + b = cd n | _ => False, fun l => match l with | [a, b] => a.toNat | _ => 0⟩, ⟨17, ["n", "count"], fun l => match l with | [a, b] => 0 ≤ a ∧ cd a + b = cd n | _ => False, fun l => match l with | [a, b] => a.toNat | _ => 0⟩], Eq.mp (by kernel_rfl) (v_count n)⟩⟩)
theorem f_count : FnOk e_count := ⟨fun _ => ⟨rfl, rfl⟩, k_count⟩
theorem v_strip (x y : Int) : (x = (0 : Int) → (0 : Int) = (strip x y).fst ∧ (0 : Int) = (strip x y).snd) ∧ (¬x = (0 : Int) → (¬x = (0 : Int) ∧ strip x y = strip x y) ∧ True ∧ ∀ (a a_1 : Int), ¬a = (0 : Int) ∧ strip a a_1 = strip x y → (a.fmod (10 : Int) = (0 : Int) → (¬a.fdiv (10 : Int) = (0 : Int) ∧ strip (a.fdiv (10 : Int)) (a_1 + (1 : Int)) = strip x y) ∧ (a.fdiv (10 : Int)).natAbs < a.natAbs ∧ True) ∧ (¬a.fmod (10 : Int) = (0 : Int) → a = (strip x y).fst ∧ a_1 = (strip x y).snd)) := by
  exact ⟨fun h => by subst h; exact ⟨rfl, rfl⟩, fun h => ⟨⟨h, rfl⟩, trivial, fun a b ⟨p, q⟩ => ⟨fun m => ⟨st_turn p q m, st_less p m, trivial⟩, fun m => ⟨st_end1 q m, st_end2 q m⟩⟩⟩⟩
theorem k_strip : SpecOk 61 s_strip :=
  SpecOk.flat d_strip rfl fnil (vI fun x => vI fun y => vN ⟨rfl, fun _ => ⟨[⟨24, ["m", "e"], fun l => match l with | [a, b] => a ≠ 0 ∧ strip a b = strip x y | _ => False, fun l => match l with | [a, b] => a.natAbs | _ => 0⟩], Eq.mp (by kernel_rfl) (v_strip x y)⟩⟩)
theorem f_strip : FnOk e_strip := ⟨fun _ => ⟨rfl, rfl⟩, k_strip⟩
theorem v_rd (x y d : Int) (h1 : cd x ≤ 1900) (h2 : 0 ≤ d) : ((0 : Int) < cd x - d → (0 : Int) ≤ cd x - d ∧ cd x - d ≤ (1000000 : Int) ∧ ¬(10 : Int) ^ (cd x - d).toNat = (0 : Int) ∧ Sm ((10 : Int) ^ (cd x - d).toNat) ∧ ((10 : Int) ^ (cd x - d).toNat < (2 : Int) * (absI x).fmod ((10 : Int) ^ (cd x - d).toNat) ∨ (2 : Int) * (absI x).fmod ((10 : Int) ^ (cd x - d).toNat) = (10 : Int) ^ (cd x - d).toNat ∧ ((absI x).fdiv ((10 : Int) ^ (cd x - d).toNat)).fmod (2 : Int) = (1 : Int) → (strip (if (0 : Int) < x then (absI x).fdiv ((10 : Int) ^ (cd x - d).toNat) + (1 : Int) else -((absI x).fdiv ((10 : Int) ^ (cd x - d).toNat) + (1 : Int))) (y + (cd x - d))).fst = (rd x y d).fst ∧ (strip (if (0 : Int) < x then (absI x).fdiv ((10 : Int) ^ (cd x - d).toNat) + (1 : Int) else -((absI x).fdiv ((10 : Int) ^ (cd x - d).toNat) + (1 : Int))) (y + (cd x - d))).snd = (rd x y d).snd) ∧ (¬((10 : Int) ^ (cd x - d).toNat < (2 : Int) * (absI x).fmod ((10 : Int) ^ (cd x - d).toNat) ∨ (2 : Int) * (absI x).fmod ((10 : Int) ^ (cd x - d).toNat) = (10 : Int) ^ (cd x - d).toNat ∧ ((absI x).fdiv ((10 : Int) ^ (cd x - d).toNat)).fmod (2 : Int) = (1 : Int)) → (strip (if (0 : Int) < x then (absI x).fdiv ((10 : Int) ^ (cd x - d).toNat) else -(absI x).fdiv ((10 : Int) ^ (cd x - d).toNat)) (y + (cd x - d))).fst = (rd x y d).fst ∧ (strip (if (0 : Int) < x then (absI x).fdiv ((10 : Int) ^ (cd x - d).toNat) else -(absI x).fdiv ((10 : Int) ^ (cd x - d).toNat)) (y + (cd x - d))).snd = (rd x y d).snd)) ∧ (¬(0 : Int) < cd x - d → (strip x y).fst = (rd x y d).fst ∧ (strip x y).snd = (rd x y d).snd) := by
  exact ⟨fun h => ⟨by exact fk1 [_,_] [] (φ (κ 0) (δ (ξ 0) (ξ 1))) 1 1 (ψ (κ 0) (δ (ξ 0) (ξ 1))) yes h, by exact fk2 [_,_] [] (φ (δ (ξ 0) (ξ 1)) (κ 1000000)) 1 1 (φ (ξ 0) (κ 1900)) 1 (φ (κ 0) (ξ 1)) yes h1 h2, pow_ne10 _, sm_pow (by exact fk3 [_,_] [_] (ψn (ν 0) (κ 2000)) 1 1 (φ (ξ 0) (κ 1900)) 1 (φ (κ 0) (ξ 1)) 1 (θ (ν 0) (δ (ξ 0) (ξ 1))) yes h1 h2 (tn (a := cd x - d) (fk1 [_,_] [] (φ (κ 0) (δ (ξ 0) (ξ 1))) 1 1 (ψ (κ 0) (δ (ξ 0) (ξ 1))) yes h))), fun c => have e := rd_if h (rdP_up c); ⟨congrArg Prod.fst e, congrArg Prod.snd e⟩, fun c => have e := rd_if h (rdP_dn c); ⟨congrArg Prod.fst e, congrArg Prod.snd e⟩⟩, fun h => have e := rd_same h; ⟨congrArg Prod.fst e, congrArg Prod.snd e⟩⟩
theorem k_rd : SpecOk 68 s_rd :=
  SpecOk.flat d_rd rfl (fcons f_count (fcons f_strip fnil)) (vI fun x => vI fun y => vI fun d => vN ⟨rfl, fun hS => ⟨[], Eq.mp (by kernel_rfl) (v_rd x y d (hS _ (.head _)) (hS _ (.tail _ (.head _))))⟩⟩)
theorem f_rd : FnOk e_rd := ⟨fun _ => ⟨rfl, rfl⟩, k_rd⟩
theorem v_rr (x y d top : Int) (h1 : cd x ≤ 1900) (h2 : 0 ≤ d) : cd x ≤ (1900 : Int) ∧ (0 : Int) ≤ d ∧ ((rd x y d).fst = (0 : Int) ∨ (rd x y d).snd + cd (rd x y d).fst - (1 : Int) < -top → rr x y d top = some ((0 : Int), (0 : Int))) ∧ (¬((rd x y d).fst = (0 : Int) ∨ (rd x y d).snd + cd (rd x y d).fst - (1 : Int) < -top) → (top < (rd x y d).snd + cd (rd x y d).fst - (1 : Int) → rr x y d top = none) ∧ (¬top < (rd x y d).snd + cd (rd x y d).fst - (1 : Int) → rr x y d top = some ((rd x y d).fst, (rd x y d).snd))) := by
  exact ⟨h1, h2, fun h => rr_n h, fun h => ⟨fun k => rr_e h k, fun k => rr_o h k⟩⟩
theorem k_rr : SpecOk 75 s_rr :=
  SpecOk.flat d_rr rfl (fcons f_count (fcons f_rd fnil)) (vI fun x => vI fun y => vI fun d => vI fun top => vN ⟨rfl, fun hS => ⟨[], Eq.mp (by kernel_rfl) (v_rr x y d top (hS _ (.head _)) (hS _ (.tail _ (.head _))))⟩⟩)
theorem f_rr : FnOk e_rr := ⟨fun _ => ⟨rfl, rfl⟩, k_rr⟩
theorem v_qu (x y e d : Int) (h1 : Sm x) (h2 : Sm y) (h3 : ¬ y = 0) (h4 : 0 ≤ d) (h5 : d ≤ 100) (h6 : cd y ≤ 1000) : ((0 : Int) ≤ if (0 : Int) > d + (2 : Int) + cd y - cd x then (0 : Int) else d + (2 : Int) + cd y - cd x) ∧ (if (0 : Int) > d + (2 : Int) + cd y - cd x then (0 : Int) else d + (2 : Int) + cd y - cd x) ≤ (1000000 : Int) ∧ Sm (absI x) ∧ Sm ((10 : Int) ^ (if (0 : Int) > d + (2 : Int) + cd y - cd x then (0 : Int) else d + (2 : Int) + cd y - cd x).toNat) ∧ ¬absI y = (0 : Int) ∧ Sm (absI y) ∧ ((decide (x < (0 : Int)) != decide (y < (0 : Int))) = true → -((10 : Int) * (absI x * (10 : Int) ^ (if (0 : Int) > d + (2 : Int) + cd y - cd x then (0 : Int) else d + (2 : Int) + cd y - cd x).toNat).fdiv (absI y) + if (absI x * (10 : Int) ^ (if (0 : Int) > d + (2 : Int) + cd y - cd x then (0 : Int) else d + (2 : Int) + cd y - cd x).toNat).fmod (absI y) ≠ (0 : Int) then (1 : Int) else (0 : Int)) = (quV x y e d).fst ∧ (e - if (0 : Int) > d + (2 : Int) + cd y - cd x then (0 : Int) else d + (2 : Int) + cd y - cd x) - (1 : Int) = (quV x y e d).snd) ∧ (¬(decide (x < (0 : Int)) != decide (y < (0 : Int))) = true → ((10 : Int) * (absI x * (10 : Int) ^ (if (0 : Int) > d + (2 : Int) + cd y - cd x then (0 : Int) else d + (2 : Int) + cd y - cd x).toNat).fdiv (absI y) + if (absI x * (10 : Int) ^ (if (0 : Int) > d + (2 : Int) + cd y - cd x then (0 : Int) else d + (2 : Int) + cd y - cd x).toNat).fmod (absI y) ≠ (0 : Int) then (1 : Int) else (0 : Int)) = (quV x y e d).fst ∧ (e - if (0 : Int) > d + (2 : Int) + cd y - cd x then (0 : Int) else d + (2 : Int) + cd y - cd x) - (1 : Int) = (quV x y e d).snd) := by
  exact ⟨qu_sh0, Int.le_trans (qu_sh1 h5 h6) (by decide), h1.abs, sm_pow (by have := qu_sh1 (x := x) h5 h6; have := qu_sh0 (x := x) (y := y) (d := d); omega), absI_ne h3, h2.abs, fun c => ⟨qu_n c, rfl⟩, fun c => ⟨qu_p c, rfl⟩⟩
theorem k_qu : SpecOk 82 s_qu :=
  SpecOk.flat d_qu rfl (fcons f_count fnil) (vI fun x => vI fun y => vI fun e => vI fun d => vN ⟨rfl, fun hS => ⟨[], Eq.mp (by kernel_rfl) (v_qu x y e d (hS _ (.head _)) (hS _ (.tail _ (.head _))) (hS _ (.tail _ (.tail _ (.head _)))) (hS _ (.tail _ (.tail _ (.tail _ (.head _))))) (hS _ (.tail _ (.tail _ (.tail _ (.tail _ (.head _)))))) (hS _ (.tail _ (.tail _ (.tail _ (.tail _ (.tail _ (.head _))))))))⟩⟩)
theorem f_qu : FnOk e_qu := ⟨fun _ => ⟨rfl, rfl⟩, k_qu⟩
theorem v_div (x y u v d top : Int) (h1 : Sm x) (h2 : Sm u) (h3 : ¬ u = 0) (h4 : 0 ≤ d) (h5 : d ≤ 100) (h6 : cd u ≤ 1000) (h7 : cd (quV x u (y - v) d).1 ≤ 1900) : (u = (0 : Int) → rdvV x y u v d top = none) ∧ (¬u = (0 : Int) → Sm x ∧ Sm u ∧ ¬u = (0 : Int) ∧ (0 : Int) ≤ d ∧ d ≤ (100 : Int) ∧ cd u ≤ (1000 : Int) ∧ cd (quV x u (y - v) d).fst ≤ (1900 : Int) ∧ (0 : Int) ≤ d ∧ rr (quV x u (y - v) d).fst (quV x u (y - v) d).snd d top = rdvV x y u v d top) := by
  exact ⟨fun h => absurd h h3, fun _ => ⟨h1, h2, h3, h4, h5, h6, h7, h4, rfl⟩⟩
theorem k_div : SpecOk 89 s_div :=
  SpecOk.flat d_div rfl (fcons f_qu (fcons f_rr fnil)) (vP fun x y => vP fun u v => vI fun d => vI fun top => vN ⟨rfl, fun hS => ⟨[], Eq.mp (by kernel_rfl) (v_div x y u v d top (hS _ (.head _)) (hS _ (.tail _ (.head _))) (hS _ (.tail _ (.tail _ (.head _)))) (hS _ (.tail _ (.tail _ (.tail _ (.head _))))) (hS _ (.tail _ (.tail _ (.tail _ (.tail _ (.head _)))))) (hS _ (.tail _ (.tail _ (.tail _ (.tail _ (.tail _ (.head _))))))) (hS _ (.tail _ (.tail _ (.tail _ (.tail _ (.tail _ (.tail _ (.head _)))))))))⟩⟩)
theorem f_div : FnOk e_div := ⟨fun _ => ⟨rfl, rfl⟩, k_div⟩
theorem v_lead (x y : Int) : cd x + y = cd x + y := by
  rfl
theorem k_lead : SpecOk 96 s_lead :=
  SpecOk.flat d_lead rfl (fcons f_count fnil) (vP fun x y => vN ⟨rfl, fun _ => ⟨[], Eq.mp (by kernel_rfl) (v_lead x y)⟩⟩)
theorem f_lead : FnOk e_lead := ⟨fun _ => ⟨rfl, rfl⟩, k_lead⟩
theorem v_pf (x y d : Int) : ((d + if cd x > d then cd x else d) + (10 : Int) + if cd x + y > (0 : Int) then cd x + y else (0 : Int)) = pfV x y d := by
  rfl
theorem k_pf : SpecOk 103 s_pf :=
  SpecOk.flat d_pf rfl (fcons f_count (fcons f_lead fnil)) (vP fun x y => vI fun d => vN ⟨rfl, fun _ => ⟨[], Eq.mp (by kernel_rfl) (v_pf x y d)⟩⟩)
theorem f_pf : FnOk e_pf := ⟨fun _ => ⟨rfl, rfl⟩, k_pf⟩
theorem v_fixed (x y p0 : Int) (h1 : 0 ≤ y + p0) (h2 : y + p0 ≤ 1000) (h3 : Sm x) : ((0 : Int) ≤ y + p0 → (0 : Int) ≤ y + p0 ∧ y + p0 ≤ (1000000 : Int) ∧ Sm x ∧ Sm ((10 : Int) ^ (y + p0).toNat) ∧ x * (10 : Int) ^ (y + p0).toNat = x * (10 : Int) ^ (y + p0).toNat) ∧ (¬(0 : Int) ≤ y + p0 → (0 : Int) ≤ -(y + p0) ∧ -(y + p0) ≤ (1000000 : Int) ∧ ¬(10 : Int) ^ (-(y + p0)).toNat = (0 : Int) ∧ Sm ((10 : Int) ^ (-(y + p0)).toNat) ∧ (if x < (0 : Int) then -(absI x).fdiv ((10 : Int) ^ (-(y + p0)).toNat) else (absI x).fdiv ((10 : Int) ^ (-(y + p0)).toNat)) = x * (10 : Int) ^ (y + p0).toNat) := by
  exact ⟨fun _ => ⟨h1, by exact fk1 [_,_] [] (φ (ζ (ξ 0) (ξ 1)) (κ 1000000)) 1 1 (φ (ζ (ξ 0) (ξ 1)) (κ 1000)) yes h2, h3, sm_pow (by exact fk2 [_,_] [_] (ψn (ν 0) (κ 2000)) 1 1 (φ (ζ (ξ 0) (ξ 1)) (κ 1000)) 1 (θ (ν 0) (ζ (ξ 0) (ξ 1))) yes h2 (tn (a := y + p0) (fk1 [_,_] [] (φ (κ 0) (ζ (ξ 0) (ξ 1))) 1 1 (φ (κ 0) (ζ (ξ 0) (ξ 1))) yes h1))), rfl⟩, fun h => absurd h1 h⟩
theorem k_fixed : SpecOk 110 s_fixed :=
  SpecOk.flat d_fixed rfl fnil (vP fun x y => vI fun p0 => vN ⟨rfl, fun hS => ⟨[], Eq.mp (by kernel_rfl) (v_fixed x y p0 (hS _ (.head _)) (hS _ (.tail _ (.head _))) (hS _ (.tail _ (.tail _ (.head _)))))⟩⟩)
theorem f_fixed : FnOk e_fixed := ⟨fun _ => ⟨rfl, rfl⟩, k_fixed⟩
theorem v_root (n : Int) (h1 : 0 ≤ n) (h2 : cd n ≤ 1900) : (n = (0 : Int) → (0 : Int) = isq n) ∧ (¬n = (0 : Int) → (0 : Int) ≤ (cd n + (1 : Int)).fdiv (2 : Int) ∧ (cd n + (1 : Int)).fdiv (2 : Int) ≤ (1000000 : Int) ∧ (Sm ((10 : Int) ^ ((cd n + (1 : Int)).fdiv (2 : Int)).toNat) ∧ (0 : Int) < (10 : Int) ^ ((cd n + (1 : Int)).fdiv (2 : Int)).toNat ∧ n < ((10 : Int) ^ ((cd n + (1 : Int)).fdiv (2 : Int)).toNat + (1 : Int)) * ((10 : Int) ^ ((cd n + (1 : Int)).fdiv (2 : Int)).toNat + (1 : Int))) ∧ (some (V.int n) = some (V.int n) ∧ True) ∧ ∀ (a : Int), Sm a ∧ (0 : Int) < a ∧ n < (a + (1 : Int)) * (a + (1 : Int)) → (true = true → ¬a = (0 : Int) ∧ Sm a ∧ (a ≤ (a + n.fdiv a).fdiv (2 : Int) → a = isq n) ∧ (¬a ≤ (a + n.fdiv a).fdiv (2 : Int) → (Sm ((a + n.fdiv a).fdiv (2 : Int)) ∧ (0 : Int) < (a + n.fdiv a).fdiv (2 : Int) ∧ n < ((a + n.fdiv a).fdiv (2 : Int) + (1 : Int)) * ((a + n.fdiv a).fdiv (2 : Int) + (1 : Int))) ∧ ((a + n.fdiv a).fdiv (2 : Int)).toNat < a.toNat ∧ some (V.int n) = some (V.int n) ∧ True)) ∧ (¬true = true → False)) := by
  exact ⟨fun h => by subst h; exact isq_zero.symm, fun h => ⟨wr_pow0 _, wr_pow1 h2, wr_s0 h1 h h2, ⟨rfl, trivial⟩, fun a ⟨p, q, r⟩ => ⟨fun _ => ⟨by exact fun hq => fn2 [_] [] 1 (ψ (κ 0) (ξ 0)) 1 (θ (ξ 0) (κ 0)) yes q hq, p, fun k => wr_e h1 h r q k, fun k => ⟨wr_s1 h1 h p q r k, wr_m h1 h q k, rfl, trivial⟩⟩, fun k => k rfl⟩⟩⟩
theorem k_root : SpecOk 117 s_root :=
  SpecOk.flat d_root rfl (fcons f_count fnil) (vI fun n => vN ⟨rfl, fun hS => ⟨[⟨74, ["here"], fun l => match l with | [a] => Sm a ∧ 0 < a ∧ n < (a + 1) * (a + 1) | _ => False, fun l => match l with | [a] => a.toNat | _ => 0⟩], Eq.mp (by kernel_rfl) (v_root n (hS _ (.head _)) (hS _ (.tail _ (.head _))))⟩⟩)
theorem f_root : FnOk e_root := ⟨fun _ => ⟨rfl, rfl⟩, k_root⟩
theorem v_inv (d places turn : Int) (h1 : 2 ≤ d) (h2 : d ≤ 1000) (h3 : 0 ≤ places) (h4 : places ≤ 110) (h5 : -1 ≤ turn) (h6 : turn ≤ 1) : (0 : Int) ≤ places ∧ places ≤ (1000000 : Int) ∧ ¬d = (0 : Int) ∧ Sm d ∧ (isF (d * d) turn (((401 : Int) - (1 : Int)) / (2 : Int)).toNat (((10 : Int) ^ places.toNat).fdiv d) (0 : Int) (1 : Int) (1 : Int) = some (invV d places turn) ∧ (1 : Int) ≤ (1 : Int) ∧ (1 : Int) ≤ (401 : Int) ∧ (0 : Int) ≤ ((10 : Int) ^ places.toNat).fdiv d ∧ ((10 : Int) ^ places.toNat).fdiv d ≤ (10 : Int) ^ places.toNat ∧ (-1 : Int) ≤ (1 : Int) ∧ (1 : Int) ≤ (1 : Int)) ∧ (some (V.int turn) = some (V.int turn) ∧ some (V.int places) = some (V.int places) ∧ some (V.int d) = some (V.int d) ∧ True) ∧ ∀ (a a_1 a_2 a_3 : Int), isF (d * d) turn (((401 : Int) - a_3) / (2 : Int)).toNat a a_1 a_2 a_3 = some (invV d places turn) ∧ (1 : Int) ≤ a_3 ∧ a_3 ≤ (401 : Int) ∧ (0 : Int) ≤ a ∧ a ≤ (10 : Int) ^ places.toNat ∧ (-1 : Int) ≤ a_2 ∧ a_2 ≤ (1 : Int) → ((0 : Int) < a → ¬a_3 = (0 : Int) ∧ Sm a_3 ∧ Sm a_2 ∧ Sm (a.fdiv a_3) ∧ Sm d ∧ Sm d ∧ ¬d * d = (0 : Int) ∧ Sm (d * d) ∧ Sm a_2 ∧ Sm turn ∧ (isF (d * d) turn (((401 : Int) - (a_3 + (2 : Int))) / (2 : Int)).toNat (a.fdiv (d * d)) (a_1 + a_2 * a.fdiv a_3) (a_2 * turn) (a_3 + (2 : Int)) = some (invV d places turn) ∧ (1 : Int) ≤ a_3 + (2 : Int) ∧ a_3 + (2 : Int) ≤ (401 : Int) ∧ (0 : Int) ≤ a.fdiv (d * d) ∧ a.fdiv (d * d) ≤ (10 : Int) ^ places.toNat ∧ (-1 : Int) ≤ a_2 * turn ∧ a_2 * turn ≤ (1 : Int)) ∧ (((401 : Int) - (a_3 + (2 : Int))) / (2 : Int)).toNat < (((401 : Int) - a_3) / (2 : Int)).toNat ∧ some (V.int turn) = some (V.int turn) ∧ some (V.int places) = some (V.int places) ∧ some (V.int d) = some (V.int d) ∧ True) ∧ (¬(0 : Int) < a → a_1 = invV d places turn) := by
  exact ⟨h3, by exact fk1 [_] [] (φ (ξ 0) (κ 1000000)) 1 1 (φ (ξ 0) (κ 110)) yes h4, by exact fun hq => fn2 [_] [] 1 (φ (κ 2) (ξ 0)) 1 (θ (ξ 0) (κ 0)) yes h1 hq, sm_small (by omega), is_s0 h1 h4 h3, ⟨rfl, rfl, rfl, trivial⟩, fun a b c e ⟨i1, i2, i3, i4, i5, i6, i7⟩ => ⟨fun k => ⟨by exact fun hq => fn2 [_] [] 1 (φ (κ 1) (ξ 0)) 1 (θ (ξ 0) (κ 0)) yes i2 hq, sm_small (by omega), sm_small (by omega), is_sm (sm_pow (by exact fk2 [_] [_] (ψn (ν 0) (κ 2000)) 1 1 (φ (ξ 0) (κ 110)) 1 (θ (ν 0) (ξ 0)) yes h4 (tn (a := places) (fk1 [_] [] (φ (κ 0) (ξ 0)) 1 1 (φ (κ 0) (ξ 0)) yes h3)))) k i5 i2, sm_small (by omega), sm_small (by omega), sq_ne h1, sq_sm h1 h2, sm_small (by omega), sm_small (by omega), is_s1 h1 h5 h6 i1 i2 k i5 i6 i7, is_m i1, rfl, rfl, rfl, trivial⟩, fun k => is_e i1 k⟩⟩
theorem k_inv : SpecOk 124 s_inv :=
  SpecOk.flat d_inv rfl fnil (vI fun d => vI fun places => vI fun turn => vN ⟨rfl, fun hS => ⟨[⟨84, ["term", "total", "sign", "n"], fun l => match l with | [a, b, c, e] => isF (d * d) turn ((401 - e) / 2).toNat a b c e = some (invV d places turn) ∧ 1 ≤ e ∧ e ≤ 401 ∧ 0 ≤ a ∧ a ≤ 10 ^ places.toNat ∧ -1 ≤ c ∧ c ≤ 1 | _ => False, fun l => match l with | [a, b, c, e] => ((401 - e) / 2).toNat | _ => 0⟩], Eq.mp (by kernel_rfl) (v_inv d places turn (hS _ (.head _)) (hS _ (.tail _ (.head _))) (hS _ (.tail _ (.tail _ (.head _)))) (hS _ (.tail _ (.tail _ (.tail _ (.head _))))) (hS _ (.tail _ (.tail _ (.tail _ (.tail _ (.head _)))))) (hS _ (.tail _ (.tail _ (.tail _ (.tail _ (.tail _ (.head _))))))))⟩⟩)
theorem f_inv : FnOk e_inv := ⟨fun _ => ⟨rfl, rfl⟩, k_inv⟩
theorem v_lt (p0 : Int) (h1 : 0 ≤ p0) (h2 : p0 ≤ 100) : (2 : Int) ≤ (31 : Int) ∧ (31 : Int) ≤ (1000 : Int) ∧ (0 : Int) ≤ p0 + (5 : Int) ∧ p0 + (5 : Int) ≤ (110 : Int) ∧ (-1 : Int) ≤ (1 : Int) ∧ (1 : Int) ≤ (1 : Int) ∧ (2 : Int) ≤ (49 : Int) ∧ (49 : Int) ≤ (1000 : Int) ∧ (0 : Int) ≤ p0 + (5 : Int) ∧ p0 + (5 : Int) ≤ (110 : Int) ∧ (-1 : Int) ≤ (1 : Int) ∧ (1 : Int) ≤ (1 : Int) ∧ (2 : Int) ≤ (161 : Int) ∧ (161 : Int) ≤ (1000 : Int) ∧ (0 : Int) ≤ p0 + (5 : Int) ∧ p0 + (5 : Int) ≤ (110 : Int) ∧ (-1 : Int) ≤ (1 : Int) ∧ (1 : Int) ≤ (1 : Int) ∧ ¬(10 : Int) ^ Int.toNat (5 : Int) = (0 : Int) ∧ Sm ((10 : Int) ^ Int.toNat (5 : Int)) ∧ ((46 : Int) * invV (31 : Int) (p0 + (5 : Int)) (1 : Int) + (34 : Int) * invV (49 : Int) (p0 + (5 : Int)) (1 : Int) + (20 : Int) * invV (161 : Int) (p0 + (5 : Int)) (1 : Int)).fdiv ((10 : Int) ^ Int.toNat (5 : Int)) = ltV p0 := by
  (try dsimp only); refine ⟨by decide, by decide, by exact fk1 [_] [] (φ (κ 0) (ζ (ξ 0) (κ 5))) 1 1 (φ (κ 0) (ξ 0)) yes h1, by exact fk1 [_] [] (φ (ζ (ξ 0) (κ 5)) (κ 110)) 1 1 (φ (ξ 0) (κ 100)) yes h2, by decide, by decide, by decide, by decide, by exact fk1 [_] [] (φ (κ 0) (ζ (ξ 0) (κ 5))) 1 1 (φ (κ 0) (ξ 0)) yes h1, by exact fk1 [_] [] (φ (ζ (ξ 0) (κ 5)) (κ 110)) 1 1 (φ (ξ 0) (κ 100)) yes h2, by decide, by decide, by decide, by decide, by exact fk1 [_] [] (φ (κ 0) (ζ (ξ 0) (κ 5))) 1 1 (φ (κ 0) (ξ 0)) yes h1, by exact fk1 [_] [] (φ (ζ (ξ 0) (κ 5)) (κ 110)) 1 1 (φ (ξ 0) (κ 100)) yes h2, by decide, by decide, pow_ne10 _, sm_pow (by decide), rfl⟩
theorem k_lt : SpecOk 131 s_lt :=
  SpecOk.flat d_lt rfl (fcons f_inv fnil) (vI fun p0 => vN ⟨rfl, fun hS => ⟨[], Eq.mp (by kernel_rfl) (v_lt p0 (hS _ (.head _)) (hS _ (.tail _ (.head _))))⟩⟩)
theorem f_lt : FnOk e_lt := ⟨fun _ => ⟨rfl, rfl⟩, k_lt⟩
theorem v_ht (p0 : Int) (h1 : 0 ≤ p0) (h2 : p0 ≤ 100) : (2 : Int) ≤ (18 : Int) ∧ (18 : Int) ≤ (1000 : Int) ∧ (0 : Int) ≤ p0 + (5 : Int) ∧ p0 + (5 : Int) ≤ (110 : Int) ∧ (-1 : Int) ≤ (-1 : Int) ∧ (-1 : Int) ≤ (1 : Int) ∧ (2 : Int) ≤ (57 : Int) ∧ (57 : Int) ≤ (1000 : Int) ∧ (0 : Int) ≤ p0 + (5 : Int) ∧ p0 + (5 : Int) ≤ (110 : Int) ∧ (-1 : Int) ≤ (-1 : Int) ∧ (-1 : Int) ≤ (1 : Int) ∧ (2 : Int) ≤ (239 : Int) ∧ (239 : Int) ≤ (1000 : Int) ∧ (0 : Int) ≤ p0 + (5 : Int) ∧ p0 + (5 : Int) ≤ (110 : Int) ∧ (-1 : Int) ≤ (-1 : Int) ∧ (-1 : Int) ≤ (1 : Int) ∧ ¬(10 : Int) ^ Int.toNat (5 : Int) = (0 : Int) ∧ Sm ((10 : Int) ^ Int.toNat (5 : Int)) ∧ ((48 : Int) * invV (18 : Int) (p0 + (5 : Int)) (-1 : Int) + (32 : Int) * invV (57 : Int) (p0 + (5 : Int)) (-1 : Int) - (20 : Int) * invV (239 : Int) (p0 + (5 : Int)) (-1 : Int)).fdiv ((10 : Int) ^ Int.toNat (5 : Int)) = htV p0 := by
  (try dsimp only); refine ⟨by decide, by decide, by exact fk1 [_] [] (φ (κ 0) (ζ (ξ 0) (κ 5))) 1 1 (φ (κ 0) (ξ 0)) yes h1, by exact fk1 [_] [] (φ (ζ (ξ 0) (κ 5)) (κ 110)) 1 1 (φ (ξ 0) (κ 100)) yes h2, by decide, by decide, by decide, by decide, by exact fk1 [_] [] (φ (κ 0) (ζ (ξ 0) (κ 5))) 1 1 (φ (κ 0) (ξ 0)) yes h1, by exact fk1 [_] [] (φ (ζ (ξ 0) (κ 5)) (κ 110)) 1 1 (φ (ξ 0) (κ 100)) yes h2, by decide, by decide, by decide, by decide, by exact fk1 [_] [] (φ (κ 0) (ζ (ξ 0) (κ 5))) 1 1 (φ (κ 0) (ξ 0)) yes h1, by exact fk1 [_] [] (φ (ζ (ξ 0) (κ 5)) (κ 110)) 1 1 (φ (ξ 0) (κ 100)) yes h2, by decide, by decide, pow_ne10 _, sm_pow (by decide), rfl⟩
theorem k_ht : SpecOk 138 s_ht :=
  SpecOk.flat d_ht rfl (fcons f_inv fnil) (vI fun p0 => vN ⟨rfl, fun hS => ⟨[], Eq.mp (by kernel_rfl) (v_ht p0 (hS _ (.head _)) (hS _ (.tail _ (.head _))))⟩⟩)
theorem f_ht : FnOk e_ht := ⟨fun _ => ⟨rfl, rfl⟩, k_ht⟩
theorem v_exp (n p0 : Int) (h1 : Sm n) (h2 : 0 ≤ p0) (h3 : p0 ≤ 110) (h4 : exF (10 ^ p0.toNat) n 500 (10 ^ p0.toNat) (10 ^ p0.toNat) 1 = some (exR n p0)) : (0 : Int) ≤ p0 ∧ p0 ≤ (1000000 : Int) ∧ (exF ((10 : Int) ^ p0.toNat) n ((501 : Int) - (1 : Int)).toNat ((10 : Int) ^ p0.toNat) ((10 : Int) ^ p0.toNat) (1 : Int) = some (exR n p0) ∧ (1 : Int) ≤ (1 : Int)) ∧ (some (V.int p0) = some (V.int p0) ∧ some (V.int n) = some (V.int n) ∧ some (V.int ((10 : Int) ^ p0.toNat)) = some (V.int ((10 : Int) ^ p0.toNat)) ∧ True) ∧ ∀ (a a_1 a_2 : Int), exF ((10 : Int) ^ p0.toNat) n ((501 : Int) - a_2).toNat a a_1 a_2 = some (exR n p0) ∧ (1 : Int) ≤ a_2 → (¬a_1 = (0 : Int) → Sm a_1 ∧ Sm n ∧ Sm ((10 : Int) ^ p0.toNat) ∧ Sm a_2 ∧ ¬(10 : Int) ^ p0.toNat * a_2 = (0 : Int) ∧ Sm ((10 : Int) ^ p0.toNat * a_2) ∧ (exF ((10 : Int) ^ p0.toNat) n ((501 : Int) - (a_2 + (1 : Int))).toNat (a + (a_1 * n).fdiv ((10 : Int) ^ p0.toNat * a_2)) ((a_1 * n).fdiv ((10 : Int) ^ p0.toNat * a_2)) (a_2 + (1 : Int)) = some (exR n p0) ∧ (1 : Int) ≤ a_2 + (1 : Int)) ∧ ((501 : Int) - (a_2 + (1 : Int))).toNat < ((501 : Int) - a_2).toNat ∧ some (V.int p0) = some (V.int p0) ∧ some (V.int n) = some (V.int n) ∧ some (V.int ((10 : Int) ^ p0.toNat)) = some (V.int ((10 : Int) ^ p0.toNat)) ∧ True) ∧ (¬¬a_1 = (0 : Int) → a = exR n p0) := by
  exact ⟨h2, by exact fk1 [_] [] (φ (ξ 0) (κ 1000000)) 1 1 (φ (ξ 0) (κ 110)) yes h3, ex_s0 h4, ⟨rfl, rfl, rfl, trivial⟩, fun a b c ⟨p, q⟩ => ⟨fun k => ⟨ex_sm (sm_4pow (p := p0.toNat) (by exact fk2 [_] [_] (φn (ν 0) (κ 150)) 1 1 (φ (ξ 0) (κ 110)) 1 (θ (ν 0) (ξ 0)) yes h3 (tn (a := p0) (fk1 [_] [] (φ (κ 0) (ξ 0)) 1 1 (φ (κ 0) (ξ 0)) yes h2)))) p k, h1, sm_pow (by exact fk2 [_] [_] (ψn (ν 0) (κ 2000)) 1 1 (φ (ξ 0) (κ 110)) 1 (θ (ν 0) (ξ 0)) yes h3 (tn (a := p0) (fk1 [_] [] (φ (κ 0) (ξ 0)) 1 1 (φ (κ 0) (ξ 0)) yes h2))), sm_small (by have := ex_big p; omega), ex_ne q, ex_smd (by exact fk2 [_] [_] (φn (ν 0) (κ 150)) 1 1 (φ (ξ 0) (κ 110)) 1 (θ (ν 0) (ξ 0)) yes h3 (tn (a := p0) (fk1 [_] [] (φ (κ 0) (ξ 0)) 1 1 (φ (κ 0) (ξ 0)) yes h2))) q (ex_big p), ex_s1 p k q, ex_m p, rfl, rfl, rfl, trivial⟩, fun k => ex_e2 p k⟩⟩
theorem k_exp : SpecOk 145 s_exp :=
  SpecOk.flat d_exp rfl fnil (vI fun n => vI fun p0 => vN ⟨rfl, fun hS => ⟨[⟨103, ["total", "term", "k"], fun l => match l with | [a, b, c] => exF (10 ^ p0.toNat) n (501 - c).toNat a b c = some (exR n p0) ∧ 1 ≤ c | _ => False, fun l => match l with | [a, b, c] => (501 - c).toNat | _ => 0⟩], Eq.mp (by kernel_rfl) (v_exp n p0 (hS _ (.head _)) (hS _ (.tail _ (.head _))) (hS _ (.tail _ (.tail _ (.head _)))) (hS _ (.tail _ (.tail _ (.tail _ (.head _))))))⟩⟩)
theorem f_exp : FnOk e_exp := ⟨fun _ => ⟨rfl, rfl⟩, k_exp⟩
end Mine
end
section
open Mine.FLx (ξ ν κ ζ δ η π ω)
open Mine.FCx (φ ψ θ ϑ Φ Ψ φn ψn θn ϑn Φn Ψn)
open PySem PySem.W PySem.Calls PyProof.Rows
set_option maxRecDepth 100000
namespace Mine
theorem bf {b : Bool} (h : ¬ b = true) : b = false := by cases b <;> simp_all
theorem bey_a {x y : Int} (h : x = 0 ∨ cd x + y < 1) : false = true ↔ beyB x y = true := by
  have e : beyB x y = false := by unfold beyB; rw [decide_eq_true h]; rfl
  rw [e]
theorem bey_b {x y : Int} (h : ¬ (x = 0 ∨ cd x + y < 1)) : 1 < cd x + y ∨ ¬ absI x = 10 ^ (cd x - 1).toNat ↔ beyB x y = true := by
  have e : beyB x y = decide (1 < cd x + y ∨ ¬ absI x = 10 ^ (cd x - 1).toNat) := by unfold beyB; rw [decide_eq_false h]; rfl
  rw [e, decide_eq_true_eq]
theorem ArcCond.pw {x y d : Int} (A : ArcCond x y d) : Sm (10 ^ (pfV x y d).toNat) := sm_pow (by have := A.p0; have := A.p1; lia)
theorem ap_some {x y d a b c : Int} (e : (if beyB x y = true then none else some (apN x y d, apO x y d, pfV x y d)) = some (a, b, c)) : ¬ beyB x y = true ∧ apN x y d = a ∧ apO x y d = b ∧ pfV x y d = c := by
  split at e
  · cases e
  · rename_i h
    cases e
    exact ⟨h, rfl, rfl, rfl⟩
theorem ap_none {x y d : Int} (e : (if beyB x y = true then none else some (apN x y d, apO x y d, pfV x y d)) = none) : beyB x y = true := by
  split at e
  · assumption
  · cases e
theorem v_ep (x y d : Int) (h1 : EpOk x y d) : (0 : Int) ≤ pfV x y d ∧ pfV x y d ≤ (100 : Int) ∧ (0 : Int) ≤ y + pfV x y d ∧ y + pfV x y d ≤ (1000 : Int) ∧ Sm x ∧ ¬(2 : Int) * ltV (pfV x y d) = (0 : Int) ∧ Sm ((2 : Int) * ltV (pfV x y d)) ∧ Sm (((2 : Int) * (x * (10 : Int) ^ (y + pfV x y d).toNat) + ltV (pfV x y d)).fdiv ((2 : Int) * ltV (pfV x y d))) ∧ Sm (ltV (pfV x y d)) ∧ Sm (x * (10 : Int) ^ (y + pfV x y d).toNat - ((2 : Int) * (x * (10 : Int) ^ (y + pfV x y d).toNat) + ltV (pfV x y d)).fdiv ((2 : Int) * ltV (pfV x y d)) * ltV (pfV x y d)) ∧ (0 : Int) ≤ pfV x y d ∧ pfV x y d ≤ (110 : Int) ∧ exF ((10 : Int) ^ (pfV x y d).toNat) (x * (10 : Int) ^ (y + pfV x y d).toNat - ((2 : Int) * (x * (10 : Int) ^ (y + pfV x y d).toNat) + ltV (pfV x y d)).fdiv ((2 : Int) * ltV (pfV x y d)) * ltV (pfV x y d)) (500 : Nat) ((10 : Int) ^ (pfV x y d).toNat) ((10 : Int) ^ (pfV x y d).toNat) (1 : Int) = some (exR (x * (10 : Int) ^ (y + pfV x y d).toNat - ((2 : Int) * (x * (10 : Int) ^ (y + pfV x y d).toNat) + ltV (pfV x y d)).fdiv ((2 : Int) * ltV (pfV x y d)) * ltV (pfV x y d)) (pfV x y d)) ∧ exR (x * (10 : Int) ^ (y + pfV x y d).toNat - ((2 : Int) * (x * (10 : Int) ^ (y + pfV x y d).toNat) + ltV (pfV x y d)).fdiv ((2 : Int) * ltV (pfV x y d)) * ltV (pfV x y d)) (pfV x y d) = epF x y d ∧ ((2 : Int) * (x * (10 : Int) ^ (y + pfV x y d).toNat) + ltV (pfV x y d)).fdiv ((2 : Int) * ltV (pfV x y d)) = epK x y d ∧ pfV x y d = epP x y d := by
  exact ⟨h1.p0, h1.p1, h1.sh0, h1.sh1, h1.a0, (fun z => h1.t0 (by unfold epT epP; lia)), h1.t1, (show Sm (epK x y d) from sm_small (by have := h1.k0; have := h1.k1; lia)), h1.t2, h1.r1, h1.p0, Int.le_trans h1.p1 (by decide), h1.run, rfl, rfl, rfl⟩
theorem k_ep : SpecOk 152 s_ep :=
  SpecOk.flat d_ep rfl (fcons f_pf (fcons f_lt (fcons f_fixed (fcons f_exp fnil)))) (vP fun x y => vI fun d => vN ⟨rfl, fun hS => ⟨[], Eq.mp (by kernel_rfl) (v_ep x y d (hS _ (.head _)))⟩⟩)
theorem f_ep : FnOk e_ep := ⟨fun _ => ⟨rfl, rfl⟩, k_ep⟩
theorem v_great (x y top : Int) : cd top + (1 : Int) < cd x + y ↔ greatB x y top = true := by
  exact decide_eq_true_iff.symm
theorem k_great : SpecOk 159 s_great :=
  SpecOk.flat d_great rfl (fcons f_lead (fcons f_count fnil)) (vP fun x y => vI fun top => vN ⟨rfl, fun _ => ⟨[], Eq.mp (by kernel_rfl) (v_great x y top)⟩⟩)
theorem f_great : FnOk e_great := ⟨fun _ => ⟨rfl, rfl⟩, k_great⟩
theorem v_tiny (x y d : Int) : x = (0 : Int) ∨ cd x + y < -d ↔ tinyB x y d = true := by
  exact decide_eq_true_iff.symm
theorem k_tiny : SpecOk 166 s_tiny :=
  SpecOk.flat d_tiny rfl (fcons f_lead fnil) (vP fun x y => vI fun d => vN ⟨rfl, fun _ => ⟨[], Eq.mp (by kernel_rfl) (v_tiny x y d)⟩⟩)
theorem f_tiny : FnOk e_tiny := ⟨fun _ => ⟨rfl, rfl⟩, k_tiny⟩
theorem v_arc (t p0 : Int) (h1 : 0 ≤ p0) (h2 : ArcOk p0.toNat t) : (0 : Int) ≤ p0 ∧ p0 ≤ (1000000 : Int) ∧ Sm t ∧ Sm ((10 : Int) ^ p0.toNat) ∧ Sm ((10 : Int) ^ p0.toNat) ∧ Sm ((10 : Int) ^ p0.toNat) ∧ Sm t ∧ Sm t ∧ (0 : Int) ≤ (10 : Int) ^ p0.toNat * (10 : Int) ^ p0.toNat + t * t ∧ cd ((10 : Int) ^ p0.toNat * (10 : Int) ^ p0.toNat + t * t) ≤ (1900 : Int) ∧ ¬(10 : Int) ^ p0.toNat + isq ((10 : Int) ^ p0.toNat * (10 : Int) ^ p0.toNat + t * t) = (0 : Int) ∧ Sm ((10 : Int) ^ p0.toNat + isq ((10 : Int) ^ p0.toNat * (10 : Int) ^ p0.toNat + t * t)) ∧ Sm (hv p0.toNat t) ∧ Sm ((10 : Int) ^ p0.toNat) ∧ Sm ((10 : Int) ^ p0.toNat) ∧ Sm ((10 : Int) ^ p0.toNat) ∧ Sm (hv p0.toNat t) ∧ Sm (hv p0.toNat t) ∧ (0 : Int) ≤ (10 : Int) ^ p0.toNat * (10 : Int) ^ p0.toNat + hv p0.toNat t * hv p0.toNat t ∧ cd ((10 : Int) ^ p0.toNat * (10 : Int) ^ p0.toNat + hv p0.toNat t * hv p0.toNat t) ≤ (1900 : Int) ∧ ¬(10 : Int) ^ p0.toNat + isq ((10 : Int) ^ p0.toNat * (10 : Int) ^ p0.toNat + hv p0.toNat t * hv p0.toNat t) = (0 : Int) ∧ Sm ((10 : Int) ^ p0.toNat + isq ((10 : Int) ^ p0.toNat * (10 : Int) ^ p0.toNat + hv p0.toNat t * hv p0.toNat t)) ∧ Sm (hv p0.toNat (hv p0.toNat t)) ∧ Sm (hv p0.toNat (hv p0.toNat t)) ∧ ¬(10 : Int) ^ p0.toNat = (0 : Int) ∧ Sm ((10 : Int) ^ p0.toNat) ∧ (arF (sqV p0.toNat t) ((10 : Int) ^ p0.toNat) (((401 : Int) - (1 : Int)) / (2 : Int)).toNat (hv p0.toNat (hv p0.toNat t)) (0 : Int) (1 : Int) (1 : Int) = some (arcR p0.toNat t) ∧ (1 : Int) ≤ (1 : Int) ∧ (1 : Int) ≤ (401 : Int) ∧ (0 : Int) ≤ hv p0.toNat (hv p0.toNat t) ∧ hv p0.toNat (hv p0.toNat t) ≤ (10 : Int) ^ p0.toNat ∧ (-1 : Int) ≤ (1 : Int) ∧ (1 : Int) ≤ (1 : Int)) ∧ (some (V.int p0) = some (V.int p0) ∧ some (V.int ((10 : Int) ^ p0.toNat)) = some (V.int ((10 : Int) ^ p0.toNat)) ∧ some (V.int (1 : Int)) = some (V.int (1 : Int)) ∧ some (V.int ((hv p0.toNat (hv p0.toNat t) * hv p0.toNat (hv p0.toNat t)).fdiv ((10 : Int) ^ p0.toNat))) = some (V.int ((hv p0.toNat (hv p0.toNat t) * hv p0.toNat (hv p0.toNat t)).fdiv ((10 : Int) ^ p0.toNat))) ∧ True) ∧ ∀ (a a_1 a_2 a_3 : Int), arF (sqV p0.toNat t) ((10 : Int) ^ p0.toNat) (((401 : Int) - a_3) / (2 : Int)).toNat a a_1 a_2 a_3 = some (arcR p0.toNat t) ∧ (1 : Int) ≤ a_3 ∧ a_3 ≤ (401 : Int) ∧ (0 : Int) ≤ a ∧ a ≤ (10 : Int) ^ p0.toNat ∧ (-1 : Int) ≤ a_2 ∧ a_2 ≤ (1 : Int) → ((0 : Int) < a → ¬a_3 = (0 : Int) ∧ Sm a_3 ∧ Sm a_2 ∧ Sm (a.fdiv a_3) ∧ Sm a ∧ Sm ((hv p0.toNat (hv p0.toNat t) * hv p0.toNat (hv p0.toNat t)).fdiv ((10 : Int) ^ p0.toNat)) ∧ ¬(10 : Int) ^ p0.toNat = (0 : Int) ∧ Sm ((10 : Int) ^ p0.toNat) ∧ (arF (sqV p0.toNat t) ((10 : Int) ^ p0.toNat) (((401 : Int) - (a_3 + (2 : Int))) / (2 : Int)).toNat ((a * (hv p0.toNat (hv p0.toNat t) * hv p0.toNat (hv p0.toNat t)).fdiv ((10 : Int) ^ p0.toNat)).fdiv ((10 : Int) ^ p0.toNat)) (a_1 + a_2 * a.fdiv a_3) (-a_2) (a_3 + (2 : Int)) = some (arcR p0.toNat t) ∧ (1 : Int) ≤ a_3 + (2 : Int) ∧ a_3 + (2 : Int) ≤ (401 : Int) ∧ (0 : Int) ≤ (a * (hv p0.toNat (hv p0.toNat t) * hv p0.toNat (hv p0.toNat t)).fdiv ((10 : Int) ^ p0.toNat)).fdiv ((10 : Int) ^ p0.toNat) ∧ (a * (hv p0.toNat (hv p0.toNat t) * hv p0.toNat (hv p0.toNat t)).fdiv ((10 : Int) ^ p0.toNat)).fdiv ((10 : Int) ^ p0.toNat) ≤ (10 : Int) ^ p0.toNat ∧ (-1 : Int) ≤ -a_2 ∧ -a_2 ≤ (1 : Int)) ∧ (((401 : Int) - (a_3 + (2 : Int))) / (2 : Int)).toNat < (((401 : Int) - a_3) / (2 : Int)).toNat ∧ some (V.int p0) = some (V.int p0) ∧ some (V.int ((10 : Int) ^ p0.toNat)) = some (V.int ((10 : Int) ^ p0.toNat)) ∧ some (V.int (1 : Int)) = some (V.int (1 : Int)) ∧ some (V.int ((hv p0.toNat (hv p0.toNat t) * hv p0.toNat (hv p0.toNat t)).fdiv ((10 : Int) ^ p0.toNat))) = some (V.int ((hv p0.toNat (hv p0.toNat t) * hv p0.toNat (hv p0.toNat t)).fdiv ((10 : Int) ^ p0.toNat))) ∧ True) ∧ (¬(0 : Int) < a → (4 : Int) * a_1 = arcV t p0) := by
  have hp := h2.small
  have A1 := hvOk' h2
  have A2 := hvOk' A1
  have W : Sm ((10 : Int) ^ p0.toNat) := sm_pow (by exact fk1 [] [_] (ψn (ν 0) (κ 2000)) 1 1 (φn (ν 0) (κ 110)) yes hp)
  exact ⟨h1, by exact fk2 [_] [_] (φ (ξ 0) (κ 1000000)) 1 1 (φn (ν 0) (κ 110)) 1 (ϑ (ν 0) (ξ 0)) yes hp (tn (a := p0) (fk1 [_] [] (φ (κ 0) (ξ 0)) 1 1 (φ (κ 0) (ξ 0)) yes h1)), arc_sm1 h2, W, W, W, arc_sm1 h2, arc_sm1 h2, arc_nn h2, arc_cd h2, arc_ned h2, arc_smd h2, arc_sm1 A1, W, W, W, arc_sm1 A1, arc_sm1 A1, arc_nn A1, arc_cd A1, arc_ned A1, arc_smd A1, arc_sm1 A2, arc_sm1 A2, pow_ne10 _, W, ar_s0 h2, ⟨rfl, rfl, rfl, rfl, trivial⟩, fun a b c e ⟨i1, i2, i3, i4, i5, i6, i7⟩ => ⟨fun k => ⟨by exact fun hq => fn2 [_] [] 1 (φ (κ 1) (ξ 0)) 1 (θ (ξ 0) (κ 0)) yes i2 hq, sm_small (by omega), sm_small (by omega), tn_sm (p := p0.toNat) (by exact fk1 [] [_] (φn (ν 0) (κ 150)) 1 1 (φn (ν 0) (κ 110)) yes hp) k i5 i2, t_sm (p := p0.toNat) (by exact fk1 [] [_] (φn (ν 0) (κ 150)) 1 1 (φn (ν 0) (κ 110)) yes hp) k i5, sqV_sm h2, pow_ne10 _, W, ar_s1 (sqV_ok h2).1 (sqV_ok h2).2 i1 i2 k i5 i6 i7, ar_m i1, rfl, rfl, rfl, rfl, trivial⟩, fun k => congrArg (4 * ·) (ar_e i1 k)⟩⟩
theorem k_arc : SpecOk 173 s_arc :=
  SpecOk.flat d_arc rfl (fcons f_root fnil) (vI fun t => vI fun p0 => vN ⟨rfl, fun hS => ⟨[⟨127, ["t", "total", "sign", "n"], fun l => match l with | [a, b, c, e] => arF (sqV p0.toNat t) (10 ^ p0.toNat) ((401 - e) / 2).toNat a b c e = some (arcR p0.toNat t) ∧ 1 ≤ e ∧ e ≤ 401 ∧ 0 ≤ a ∧ a ≤ 10 ^ p0.toNat ∧ -1 ≤ c ∧ c ≤ 1 | _ => False, fun l => match l with | [a, b, c, e] => ((401 - e) / 2).toNat | _ => 0⟩], Eq.mp (by kernel_rfl) (v_arc t p0 (hS _ (.head _)) (hS _ (.tail _ (.head _))))⟩⟩)
theorem f_arc : FnOk e_arc := ⟨fun _ => ⟨rfl, rfl⟩, k_arc⟩
theorem v_ra (a b p0 : Int) (h1 : 0 ≤ a) (h2 : 0 ≤ b) (h3 : ¬ (a = 0 ∧ b = 0)) (h4 : Sm a) (h5 : Sm b) (h6 : 0 ≤ p0) (h7 : p0 ≤ 100) : (0 : Int) ≤ p0 ∧ p0 ≤ (1000000 : Int) ∧ (a ≤ b → Sm a ∧ Sm ((10 : Int) ^ p0.toNat) ∧ ¬b = (0 : Int) ∧ Sm b ∧ (0 : Int) ≤ p0 ∧ ArcOk p0.toNat ((a * (10 : Int) ^ p0.toNat).fdiv b) ∧ arcV ((a * (10 : Int) ^ p0.toNat).fdiv b) p0 = raV a b p0) ∧ (¬a ≤ b → (0 : Int) ≤ p0 ∧ p0 ≤ (100 : Int) ∧ Sm b ∧ Sm ((10 : Int) ^ p0.toNat) ∧ ¬a = (0 : Int) ∧ Sm a ∧ (0 : Int) ≤ p0 ∧ ArcOk p0.toNat ((b * (10 : Int) ^ p0.toNat).fdiv a) ∧ (htV p0).fdiv (2 : Int) - arcV ((b * (10 : Int) ^ p0.toNat).fdiv a) p0 = raV a b p0) := by
  exact ⟨h6, by exact fk1 [_] [] (φ (ξ 0) (κ 1000000)) 1 1 (φ (ξ 0) (κ 100)) yes h7, fun c => ⟨h4, sm_pow (by exact fk2 [_] [_] (ψn (ν 0) (κ 2000)) 1 1 (φ (ξ 0) (κ 100)) 1 (θ (ν 0) (ξ 0)) yes h7 (tn (a := p0) (fk1 [_] [] (φ (κ 0) (ξ 0)) 1 1 (φ (κ 0) (ξ 0)) yes h6))), by lia, h5, h6, arcOk_div h7 h1 (by lia) c, (if_pos c).symm⟩, fun c => ⟨h6, h7, h5, sm_pow (by exact fk2 [_] [_] (ψn (ν 0) (κ 2000)) 1 1 (φ (ξ 0) (κ 100)) 1 (θ (ν 0) (ξ 0)) yes h7 (tn (a := p0) (fk1 [_] [] (φ (κ 0) (ξ 0)) 1 1 (φ (κ 0) (ξ 0)) yes h6))), by exact fun hq => fn3 [_,_] [] 1 (φ (κ 0) (ξ 0)) 1 (Φ (ξ 1) (ξ 0)) 1 (θ (ξ 1) (κ 0)) yes h2 c hq, h4, h6, arcOk_div h7 h2 (by exact fk2 [_,_] [] (ψ (κ 0) (ξ 0)) 1 1 (φ (κ 0) (ξ 1)) 1 (Φ (ξ 0) (ξ 1)) yes h2 c) (by exact fk1 [_,_] [] (φ (ξ 0) (ξ 1)) 1 1 (Φ (ξ 1) (ξ 0)) yes c), (if_neg c).symm⟩⟩
theorem k_ra : SpecOk 180 s_ra :=
  SpecOk.flat d_ra rfl (fcons f_arc (fcons f_ht fnil)) (vI fun a => vI fun b => vI fun p0 => vN ⟨rfl, fun hS => ⟨[], Eq.mp (by kernel_rfl) (v_ra a b p0 (hS _ (.head _)) (hS _ (.tail _ (.head _))) (hS _ (.tail _ (.tail _ (.head _)))) (hS _ (.tail _ (.tail _ (.tail _ (.head _))))) (hS _ (.tail _ (.tail _ (.tail _ (.tail _ (.head _)))))) (hS _ (.tail _ (.tail _ (.tail _ (.tail _ (.tail _ (.head _))))))) (hS _ (.tail _ (.tail _ (.tail _ (.tail _ (.tail _ (.tail _ (.head _)))))))))⟩⟩)
theorem f_ra : FnOk e_ra := ⟨fun _ => ⟨rfl, rfl⟩, k_ra⟩
theorem v_bey (x y : Int) (h1 : cd x ≤ 1900) : (x = (0 : Int) ∨ cd x + y < (1 : Int) → (false = true ↔ beyB x y = true)) ∧ (¬(x = (0 : Int) ∨ cd x + y < (1 : Int)) → (¬(1 : Int) < cd x + y → (0 : Int) ≤ cd x - (1 : Int) ∧ cd x - (1 : Int) ≤ (1000000 : Int)) ∧ ((1 : Int) < cd x + y ∨ ¬absI x = (10 : Int) ^ (cd x - (1 : Int)).toNat ↔ beyB x y = true)) := by
  exact ⟨fun h => bey_a h, fun h => ⟨fun k => ⟨by have := cd_pos (fun z => h (.inl z)); exact fk1 [_] [] (φ (κ 0) (δ (ξ 0) (κ 1))) 1 1 (φ (κ 1) (ξ 0)) yes this, by exact fk1 [_] [] (φ (δ (ξ 0) (κ 1)) (κ 1000000)) 1 1 (φ (ξ 0) (κ 1900)) yes h1⟩, bey_b h⟩⟩
theorem k_bey : SpecOk 187 s_bey :=
  SpecOk.flat d_bey rfl (fcons f_lead (fcons f_count fnil)) (vP fun x y => vN ⟨rfl, fun hS => ⟨[], Eq.mp (by kernel_rfl) (v_bey x y (hS _ (.head _)))⟩⟩)
theorem f_bey : FnOk e_bey := ⟨fun _ => ⟨rfl, rfl⟩, k_bey⟩
theorem v_ap (x y d : Int) (h1 : cd x ≤ 1900) (h2 : beyB x y = false → ArcCond x y d) : cd x ≤ (1900 : Int) ∧ (beyB x y = true → (if beyB x y = true then none else some (apN x y d, apO x y d, pfV x y d)) = none) ∧ (¬beyB x y = true → (0 : Int) ≤ y + pfV x y d ∧ y + pfV x y d ≤ (1000 : Int) ∧ Sm x ∧ (0 : Int) ≤ pfV x y d ∧ pfV x y d ≤ (1000000 : Int) ∧ Sm ((10 : Int) ^ (pfV x y d).toNat) ∧ Sm ((10 : Int) ^ (pfV x y d).toNat) ∧ Sm (absI (x * (10 : Int) ^ (y + pfV x y d).toNat)) ∧ Sm (absI (x * (10 : Int) ^ (y + pfV x y d).toNat)) ∧ (0 : Int) ≤ (10 : Int) ^ (pfV x y d).toNat * (10 : Int) ^ (pfV x y d).toNat - absI (x * (10 : Int) ^ (y + pfV x y d).toNat) * absI (x * (10 : Int) ^ (y + pfV x y d).toNat) ∧ cd ((10 : Int) ^ (pfV x y d).toNat * (10 : Int) ^ (pfV x y d).toNat - absI (x * (10 : Int) ^ (y + pfV x y d).toNat) * absI (x * (10 : Int) ^ (y + pfV x y d).toNat)) ≤ (1900 : Int) ∧ (if beyB x y = true then none else some (apN x y d, apO x y d, pfV x y d)) = some (absI (x * (10 : Int) ^ (y + pfV x y d).toNat), isq ((10 : Int) ^ (pfV x y d).toNat * (10 : Int) ^ (pfV x y d).toNat - absI (x * (10 : Int) ^ (y + pfV x y d).toNat) * absI (x * (10 : Int) ^ (y + pfV x y d).toNat)), pfV x y d)) := by
  exact ⟨h1, fun b => if_pos b, fun b => have A := h2 (bf b); ⟨A.s0, A.s1, A.hx, A.p0, Int.le_trans A.p1 (by decide), A.pw, A.pw, A.n1, A.n1, A.nn, A.cr, if_neg b⟩⟩
theorem k_ap : SpecOk 194 s_ap :=
  SpecOk.flat d_ap rfl (fcons f_bey (fcons f_pf (fcons f_fixed (fcons f_root fnil)))) (vP fun x y => vI fun d => vN ⟨rfl, fun hS => ⟨[], Eq.mp (by kernel_rfl) (v_ap x y d (hS _ (.head _)) (hS _ (.tail _ (.head _))))⟩⟩)
theorem f_ap : FnOk e_ap := ⟨fun _ => ⟨rfl, rfl⟩, k_ap⟩
theorem v_as (x y d top : Int) (h1 : 0 ≤ d) (h2 : cd x ≤ 1900) (h3 : beyB x y = false → ArcCond x y d) : (tinyB x y d = true → cd x ≤ (1900 : Int) ∧ (0 : Int) ≤ d ∧ rr x y d top = asV x y d top) ∧ (¬tinyB x y d = true → cd x ≤ (1900 : Int) ∧ (beyB x y = false → ArcCond x y d) ∧ (∀ (x_1 y_1 z : Int), (if beyB x y = true then none else some (apN x y d, apO x y d, pfV x y d)) = some (x_1, y_1, z) → (0 : Int) ≤ x_1 ∧ (0 : Int) ≤ y_1 ∧ ¬(x_1 = (0 : Int) ∧ y_1 = (0 : Int)) ∧ Sm x_1 ∧ Sm y_1 ∧ (0 : Int) ≤ z ∧ z ≤ (100 : Int) ∧ cd (if x < (0 : Int) then -raV x_1 y_1 z else raV x_1 y_1 z) ≤ (1900 : Int) ∧ (0 : Int) ≤ d ∧ rr (if x < (0 : Int) then -raV x_1 y_1 z else raV x_1 y_1 z) (-z) d top = asV x y d top) ∧ ((if beyB x y = true then none else some (apN x y d, apO x y d, pfV x y d)) = none → asV x y d top = none)) := by
  refine ⟨fun t => ⟨h2, h1, (if_pos t).symm⟩, fun t => ⟨h2, h3, fun a b c e => ?_, fun e => by unfold asV; rw [if_neg t, if_pos (ap_none e)]⟩⟩
  obtain ⟨B, rfl, rfl, rfl⟩ := ap_some e
  have A := h3 (bf B)
  exact ⟨apN_nn _ _ _, isq_nn A.nn, A.no, A.n1, A.o1, A.p0, A.p1, (cd_sgn x (asA x y d)).symm ▸ A.c1, h1, by unfold asV; rw [if_neg t, if_neg B]; rfl⟩
theorem k_as : SpecOk 201 s_as :=
  SpecOk.flat d_as rfl (fcons f_tiny (fcons f_rr (fcons f_ap (fcons f_ra fnil)))) (vP fun x y => vI fun d => vI fun top => vN ⟨rfl, fun hS => ⟨[], Eq.mp (by kernel_rfl) (v_as x y d top (hS _ (.head _)) (hS _ (.tail _ (.head _))) (hS _ (.tail _ (.tail _ (.head _)))))⟩⟩)
theorem f_as : FnOk e_as := ⟨fun _ => ⟨rfl, rfl⟩, k_as⟩
theorem v_ac (x y d top : Int) (h1 : 0 ≤ d) (h2 : cd x ≤ 1900) (h3 : beyB x y = false → ArcCond x y d) : cd x ≤ (1900 : Int) ∧ (beyB x y = false → ArcCond x y d) ∧ (∀ (x_1 y_1 z : Int), (if beyB x y = true then none else some (apN x y d, apO x y d, pfV x y d)) = some (x_1, y_1, z) → (0 : Int) ≤ y_1 ∧ (0 : Int) ≤ x_1 ∧ ¬(y_1 = (0 : Int) ∧ x_1 = (0 : Int)) ∧ Sm y_1 ∧ Sm x_1 ∧ (0 : Int) ≤ z ∧ z ≤ (100 : Int) ∧ (x < (0 : Int) → (0 : Int) ≤ z ∧ z ≤ (100 : Int) ∧ cd (htV z - raV y_1 x_1 z) ≤ (1900 : Int) ∧ (0 : Int) ≤ d ∧ rr (htV z - raV y_1 x_1 z) (-z) d top = acV x y d top) ∧ (¬x < (0 : Int) → cd (raV y_1 x_1 z) ≤ (1900 : Int) ∧ (0 : Int) ≤ d ∧ rr (raV y_1 x_1 z) (-z) d top = acV x y d top)) ∧ ((if beyB x y = true then none else some (apN x y d, apO x y d, pfV x y d)) = none → acV x y d top = none) := by
  refine ⟨h2, h3, fun a b c e => ?_, fun e => by unfold acV; rw [if_pos (ap_none e)]⟩
  obtain ⟨B, rfl, rfl, rfl⟩ := ap_some e
  have A := h3 (bf B)
  have C := A.c2
  exact ⟨isq_nn A.nn, apN_nn _ _ _, fun z => A.no ⟨z.2, z.1⟩, A.o1, A.n1, A.p0, A.p1, fun k => ⟨A.p0, A.p1, by unfold acA at C; rw [if_pos k] at C; exact C, h1, by unfold acV acA; rw [if_neg B, if_pos k]⟩, fun k => ⟨by unfold acA at C; rw [if_neg k] at C; exact C, h1, by unfold acV acA; rw [if_neg B, if_neg k]⟩⟩
theorem k_ac : SpecOk 208 s_ac :=
  SpecOk.flat d_ac rfl (fcons f_ap (fcons f_ra (fcons f_ht (fcons f_rr fnil)))) (vP fun x y => vI fun d => vI fun top => vN ⟨rfl, fun hS => ⟨[], Eq.mp (by kernel_rfl) (v_ac x y d top (hS _ (.head _)) (hS _ (.tail _ (.head _))) (hS _ (.tail _ (.tail _ (.head _)))))⟩⟩)
theorem f_ac : FnOk e_ac := ⟨fun _ => ⟨rfl, rfl⟩, k_ac⟩
theorem v_sa (x y q d top : Int) (h1 : 0 ≤ q) (h2 : q ≤ 2) (h3 : 0 ≤ d) (h4 : d ≤ 50) (h5 : Sm (htV (d + 10))) (h6 : cd ((q * htV (d + 10)).fdiv 2) ≤ 1900) : (0 : Int) ≤ d + (10 : Int) ∧ d + (10 : Int) ≤ (100 : Int) ∧ Sm q ∧ Sm (htV (d + (10 : Int))) ∧ cd (if x < (0 : Int) then -(q * htV (d + (10 : Int))).fdiv (2 : Int) else (q * htV (d + (10 : Int))).fdiv (2 : Int)) ≤ (1900 : Int) ∧ (0 : Int) ≤ d ∧ rr (if x < (0 : Int) then -(q * htV (d + (10 : Int))).fdiv (2 : Int) else (q * htV (d + (10 : Int))).fdiv (2 : Int)) (-(d + (10 : Int))) d top = saV x q d top := by
  exact ⟨by exact fk1 [_] [] (φ (κ 0) (ζ (ξ 0) (κ 10))) 1 1 (φ (κ 0) (ξ 0)) yes h3, by exact fk1 [_] [] (φ (ζ (ξ 0) (κ 10)) (κ 100)) 1 1 (φ (ξ 0) (κ 50)) yes h4, sm_small (by lia), h5, (cd_sgn x _).symm ▸ h6, h3, rfl⟩
theorem k_sa : SpecOk 215 s_sa :=
  SpecOk.flat d_sa rfl (fcons f_ht (fcons f_rr fnil)) (vP fun x y => vI fun q => vI fun d => vI fun top => vN ⟨rfl, fun hS => ⟨[], Eq.mp (by kernel_rfl) (v_sa x y q d top (hS _ (.head _)) (hS _ (.tail _ (.head _))) (hS _ (.tail _ (.tail _ (.head _)))) (hS _ (.tail _ (.tail _ (.tail _ (.head _))))) (hS _ (.tail _ (.tail _ (.tail _ (.tail _ (.head _)))))) (hS _ (.tail _ (.tail _ (.tail _ (.tail _ (.tail _ (.head _))))))))⟩⟩)
theorem f_sa : FnOk e_sa := ⟨fun _ => ⟨rfl, rfl⟩, k_sa⟩
theorem v_xp (x y d : Int) (h1 : EpOk (absI x) y d) : EpOk (absI x) y d ∧ (0 : Int) ≤ epK (absI x) y d ∧ epK (absI x) y d ≤ (1000000 : Int) ∧ Sm (epF (absI x) y d) ∧ Sm ((10 : Int) ^ (epK (absI x) y d).toNat) ∧ (0 : Int) ≤ (2 : Int) * epP (absI x) y d ∧ (2 : Int) * epP (absI x) y d ≤ (1000000 : Int) ∧ ¬epF (absI x) y d * (10 : Int) ^ (epK (absI x) y d).toNat = (0 : Int) ∧ Sm (epF (absI x) y d * (10 : Int) ^ (epK (absI x) y d).toNat) ∧ epF (absI x) y d * (10 : Int) ^ (epK (absI x) y d).toNat = epG (absI x) y d ∧ ((10 : Int) ^ ((2 : Int) * epP (absI x) y d).toNat).fdiv (epF (absI x) y d * (10 : Int) ^ (epK (absI x) y d).toNat) = epD (absI x) y d ∧ epP (absI x) y d = epP (absI x) y d := by
  exact ⟨h1, h1.k0, Int.le_trans h1.k1 (by decide), h1.f1, sm_pow (by have := h1.k0; have := h1.k1; lia), ep_p1 h1, ep_p2 h1, h1.g0, h1.g1, rfl, rfl, rfl⟩
theorem k_xp : SpecOk 236 s_xp :=
  SpecOk.flat d_xp rfl (fcons f_ep fnil) (vP fun x y => vI fun d => vN ⟨rfl, fun hS => ⟨[], Eq.mp (by kernel_rfl) (v_xp x y d (hS _ (.head _)))⟩⟩)
theorem f_xp : FnOk e_xp := ⟨fun _ => ⟨rfl, rfl⟩, k_xp⟩
theorem v_cg (x y top : Int) : (greatB x y top = true → greatB x y top = true) ∧ (¬greatB x y top = true → ¬greatB x y top = true) := by
  exact ⟨id, id⟩
theorem k_cg : SpecOk 243 s_cg :=
  SpecOk.flat d_cg rfl (fcons f_great fnil) (vP fun x y => vI fun top => vN ⟨rfl, fun _ => ⟨[], Eq.mp (by kernel_rfl) (v_cg x y top)⟩⟩)
theorem f_cg : FnOk e_cg := ⟨fun _ => ⟨rfl, rfl⟩, k_cg⟩
theorem v_sh (x y d top : Int) (h1 : 0 ≤ d) (h2 : cd x ≤ 1900) (h3 : EpOk (absI x) y d) : (tinyB x y d = true → cd x ≤ (1900 : Int) ∧ (0 : Int) ≤ d ∧ rr x y d top = shV x y d top) ∧ (¬tinyB x y d = true → (¬greatB x y top = true → EpOk (absI x) y d ∧ Sm (epG (absI x) y d - epD (absI x) y d) ∧ Sm (5 : Int) ∧ cd (if x < (0 : Int) then -((epG (absI x) y d - epD (absI x) y d) * (5 : Int)) else (epG (absI x) y d - epD (absI x) y d) * (5 : Int)) ≤ (1900 : Int) ∧ (0 : Int) ≤ d ∧ rr (if x < (0 : Int) then -((epG (absI x) y d - epD (absI x) y d) * (5 : Int)) else (epG (absI x) y d - epD (absI x) y d) * (5 : Int)) (-epP (absI x) y d - (1 : Int)) d top = shV x y d top) ∧ (greatB x y top = true → shV x y d top = none)) := by
  exact ⟨fun t => ⟨h2, h1, (if_pos t).symm⟩, fun t => ⟨fun g => ⟨h3, h3.s1, sm_small (by decide), (cd_sgn x _).symm ▸ h3.c1, h1, by unfold shV; rw [if_neg t, if_neg g]; rfl⟩, fun g => by unfold shV; rw [if_neg t, if_pos g]⟩⟩
theorem k_sh : SpecOk 250 s_sh :=
  SpecOk.flat d_sh rfl (fcons f_tiny (fcons f_rr (fcons f_cg (fcons f_xp fnil)))) (vP fun x y => vI fun d => vI fun top => vN ⟨rfl, fun hS => ⟨[], Eq.mp (by kernel_rfl) (v_sh x y d top (hS _ (.head _)) (hS _ (.tail _ (.head _))) (hS _ (.tail _ (.tail _ (.head _)))))⟩⟩)
theorem f_sh : FnOk e_sh := ⟨fun _ => ⟨rfl, rfl⟩, k_sh⟩
theorem v_ch (x y d top : Int) (h1 : 0 ≤ d) (h2 : cd x ≤ 1900) (h3 : EpOk (absI x) y d) : (tinyB x y d = true → chV x y d top = some ((1 : Int), (0 : Int))) ∧ (¬tinyB x y d = true → (¬greatB x y top = true → EpOk (absI x) y d ∧ Sm (epG (absI x) y d + epD (absI x) y d) ∧ Sm (5 : Int) ∧ cd ((epG (absI x) y d + epD (absI x) y d) * (5 : Int)) ≤ (1900 : Int) ∧ (0 : Int) ≤ d ∧ rr ((epG (absI x) y d + epD (absI x) y d) * (5 : Int)) (-epP (absI x) y d - (1 : Int)) d top = chV x y d top) ∧ (greatB x y top = true → chV x y d top = none)) := by
  exact ⟨fun t => if_pos t, fun t => ⟨fun g => ⟨h3, h3.s2, sm_small (by decide), h3.c2, h1, by unfold chV; rw [if_neg t, if_neg g]⟩, fun g => by unfold chV; rw [if_neg t, if_pos g]⟩⟩
theorem k_ch : SpecOk 257 s_ch :=
  SpecOk.flat d_ch rfl (fcons f_tiny (fcons f_rr (fcons f_cg (fcons f_xp fnil)))) (vP fun x y => vI fun d => vI fun top => vN ⟨rfl, fun hS => ⟨[], Eq.mp (by kernel_rfl) (v_ch x y d top (hS _ (.head _)) (hS _ (.tail _ (.head _))) (hS _ (.tail _ (.tail _ (.head _)))))⟩⟩)
theorem f_ch : FnOk e_ch := ⟨fun _ => ⟨rfl, rfl⟩, k_ch⟩
theorem v_th (x y d top : Int) (h1 : 0 ≤ d) (h2 : cd x ≤ 1900) (h3 : EpOk (absI x) y d) : (tinyB x y d = true → cd x ≤ (1900 : Int) ∧ (0 : Int) ≤ d ∧ rr x y d top = thV x y d top) ∧ (¬tinyB x y d = true → (cd ((3 : Int) * d) < cd x + y → (x < (0 : Int) → thV x y d top = some ((-1 : Int), (0 : Int))) ∧ (¬x < (0 : Int) → thV x y d top = some ((1 : Int), (0 : Int)))) ∧ (¬cd ((3 : Int) * d) < cd x + y → EpOk (absI x) y d ∧ (0 : Int) ≤ epP (absI x) y d ∧ epP (absI x) y d ≤ (1000000 : Int) ∧ Sm (epG (absI x) y d - epD (absI x) y d) ∧ Sm ((10 : Int) ^ (epP (absI x) y d).toNat) ∧ ¬epG (absI x) y d + epD (absI x) y d = (0 : Int) ∧ Sm (epG (absI x) y d + epD (absI x) y d) ∧ cd (if x < (0 : Int) then -((epG (absI x) y d - epD (absI x) y d) * (10 : Int) ^ (epP (absI x) y d).toNat).fdiv (epG (absI x) y d + epD (absI x) y d) else ((epG (absI x) y d - epD (absI x) y d) * (10 : Int) ^ (epP (absI x) y d).toNat).fdiv (epG (absI x) y d + epD (absI x) y d)) ≤ (1900 : Int) ∧ (0 : Int) ≤ d ∧ rr (if x < (0 : Int) then -((epG (absI x) y d - epD (absI x) y d) * (10 : Int) ^ (epP (absI x) y d).toNat).fdiv (epG (absI x) y d + epD (absI x) y d) else ((epG (absI x) y d - epD (absI x) y d) * (10 : Int) ^ (epP (absI x) y d).toNat).fdiv (epG (absI x) y d + epD (absI x) y d)) (-epP (absI x) y d) d top = thV x y d top)) := by
  exact ⟨fun t => ⟨h2, h1, (if_pos t).symm⟩, fun t => ⟨fun g => ⟨fun n => by unfold thV sgn; rw [if_neg t, if_pos g, if_pos n], fun n => by unfold thV sgn; rw [if_neg t, if_pos g, if_neg n]⟩, fun g => ⟨h3, h3.p0, Int.le_trans h3.p1 (by decide), h3.s1, sm_pow (by have := h3.p0; have := h3.p1; lia), h3.s0, h3.s2, (cd_sgn x _).symm ▸ h3.c3, h1, by unfold thV; rw [if_neg t, if_neg g]; rfl⟩⟩⟩
theorem k_th : SpecOk 264 s_th :=
  SpecOk.flat d_th rfl (fcons f_tiny (fcons f_rr (fcons f_lead (fcons f_count (fcons f_xp fnil))))) (vP fun x y => vI fun d => vI fun top => vN ⟨rfl, fun hS => ⟨[], Eq.mp (by kernel_rfl) (v_th x y d top (hS _ (.head _)) (hS _ (.tail _ (.head _))) (hS _ (.tail _ (.tail _ (.head _)))))⟩⟩)
theorem f_th : FnOk e_th := ⟨fun _ => ⟨rfl, rfl⟩, k_th⟩
theorem v_size (n : Int) : ((0 : Int) ≤ absI n ∧ cd (absI n) + (0 : Int) = cd n) ∧ True ∧ ∀ (a a_1 : Int), (0 : Int) ≤ a ∧ cd a + a_1 = cd n → ((0 : Int) < a → ((0 : Int) ≤ a.fdiv (10 : Int) ∧ cd (a.fdiv (10 : Int)) + (a_1 + (1 : Int)) = cd n) ∧ (a.fdiv (10 : Int)).toNat < a.toNat ∧ True) ∧ (¬(0 : Int) < a → a_1 = cd n) := by
  exact ⟨cd_abs n, trivial, fun a c ⟨p, q⟩ => ⟨fun r => ⟨cd_turn1 p q r, fdiv_less r (by decide), trivial⟩, fun r => cd_end q p r⟩⟩
theorem k_size : SpecOk 278 s_size :=
  SpecOk.flat d_size rfl fnil (vI fun n => vN ⟨rfl, fun _ => ⟨[⟨221, ["n", "many"], fun l => match l with | [a, b] => 0 ≤ a ∧ cd a + b = cd n | _ => False, fun l => match l with | [a, b] => a.toNat | _ => 0⟩], Eq.mp (by kernel_rfl) (v_size n)⟩⟩)
theorem f_size : FnOk e_size := ⟨fun _ => ⟨rfl, rfl⟩, k_size⟩
theorem v_turned (x y : Int) : -x = -x ∧ y = y := by
  exact ⟨rfl, rfl⟩
theorem k_turned : SpecOk 292 s_turned :=
  SpecOk.flat d_turned rfl fnil (vP fun x y => vN ⟨rfl, fun _ => ⟨[], Eq.mp (by kernel_rfl) (v_turned x y)⟩⟩)
theorem f_turned : FnOk e_turned := ⟨fun _ => ⟨rfl, rfl⟩, k_turned⟩
theorem v_near (x y u v d k : Int) (h1 : NearOk x y u v d) (h2 : Sm k) : (0 : Int) ≤ y - ((if v < y then v else y) - d - (1 : Int)) ∧ y - ((if v < y then v else y) - d - (1 : Int)) ≤ (1000000 : Int) ∧ Sm x ∧ Sm ((10 : Int) ^ (y - ((if v < y then v else y) - d - (1 : Int))).toNat) ∧ (0 : Int) ≤ v - ((if v < y then v else y) - d - (1 : Int)) ∧ v - ((if v < y then v else y) - d - (1 : Int)) ≤ (1000000 : Int) ∧ Sm u ∧ Sm ((10 : Int) ^ (v - ((if v < y then v else y) - d - (1 : Int))).toNat) ∧ (0 : Int) ≤ (if cd (u * (10 : Int) ^ (v - ((if v < y then v else y) - d - (1 : Int))).toNat) > cd (x * (10 : Int) ^ (y - ((if v < y then v else y) - d - (1 : Int))).toNat) then cd (u * (10 : Int) ^ (v - ((if v < y then v else y) - d - (1 : Int))).toNat) else cd (x * (10 : Int) ^ (y - ((if v < y then v else y) - d - (1 : Int))).toNat)) - d ∧ (if cd (u * (10 : Int) ^ (v - ((if v < y then v else y) - d - (1 : Int))).toNat) > cd (x * (10 : Int) ^ (y - ((if v < y then v else y) - d - (1 : Int))).toNat) then cd (u * (10 : Int) ^ (v - ((if v < y then v else y) - d - (1 : Int))).toNat) else cd (x * (10 : Int) ^ (y - ((if v < y then v else y) - d - (1 : Int))).toNat)) - d ≤ (1000000 : Int) ∧ Sm k ∧ Sm ((10 : Int) ^ ((if cd (u * (10 : Int) ^ (v - ((if v < y then v else y) - d - (1 : Int))).toNat) > cd (x * (10 : Int) ^ (y - ((if v < y then v else y) - d - (1 : Int))).toNat) then cd (u * (10 : Int) ^ (v - ((if v < y then v else y) - d - (1 : Int))).toNat) else cd (x * (10 : Int) ^ (y - ((if v < y then v else y) - d - (1 : Int))).toNat)) - d).toNat) ∧ (absI (x * (10 : Int) ^ (y - ((if v < y then v else y) - d - (1 : Int))).toNat - u * (10 : Int) ^ (v - ((if v < y then v else y) - d - (1 : Int))).toNat) ≤ k * (10 : Int) ^ ((if cd (u * (10 : Int) ^ (v - ((if v < y then v else y) - d - (1 : Int))).toNat) > cd (x * (10 : Int) ^ (y - ((if v < y then v else y) - d - (1 : Int))).toNat) then cd (u * (10 : Int) ^ (v - ((if v < y then v else y) - d - (1 : Int))).toNat) else cd (x * (10 : Int) ^ (y - ((if v < y then v else y) - d - (1 : Int))).toNat)) - d).toNat ↔ nearB x y u v d k = true) := by
  exact ⟨h1.e10, Int.le_trans h1.e1 (by decide), h1.sx, h1.s1, h1.e20, Int.le_trans h1.e2 (by decide), h1.su, h1.s2, h1.t0, Int.le_trans h1.t1 (by decide), h2, h1.s3, decide_eq_true_iff.symm⟩
theorem k_near : SpecOk 299 s_near :=
  SpecOk.flat d_near rfl (fcons f_size fnil) (vP fun x y => vP fun u v => vI fun d => vI fun k => vN ⟨rfl, fun hS => ⟨[], Eq.mp (by kernel_rfl) (v_near x y u v d k (hS _ (.head _)) (hS _ (.tail _ (.head _))))⟩⟩)
theorem f_near : FnOk e_near := ⟨fun _ => ⟨rfl, rfl⟩, k_near⟩
theorem v_lsh (x y d top : Int) (h1 : 0 ≤ d) (h2 : cd x ≤ 1900) (h3 : EpOk (absI x) y d) : (0 : Int) ≤ d ∧ cd x ≤ (1900 : Int) ∧ EpOk (absI x) y d ∧ (∀ (x_1 y_1 : Int), shV x y d top = some (x_1, y_1) → shV x y d top = some (x_1, y_1)) ∧ (shV x y d top = none → Str.ofString "none" = Str.ofString "none" ∧ shV x y d top = none) := by
  exact ⟨h1, h2, h3, fun _ _ e => e, fun e => ⟨rfl, e⟩⟩
theorem k_lsh : SpecOk 306 s_lsh :=
  SpecOk.turn d_lsh rfl (fcons f_sh fnil) (vP fun x y => vI fun d => vI fun top => vN ⟨rfl, fun hS => ⟨fun h => h, ⟨[], Eq.mp (by kernel_rfl) (v_lsh x y d top (hS _ (.head _)) (hS _ (.tail _ (.head _))) (hS _ (.tail _ (.tail _ (.head _)))))⟩⟩⟩)
theorem f_lsh : FnOk e_lsh := ⟨fun _ => ⟨rfl, rfl⟩, k_lsh⟩
theorem v_lch (x y d top : Int) (h1 : 0 ≤ d) (h2 : cd x ≤ 1900) (h3 : EpOk (absI x) y d) : (0 : Int) ≤ d ∧ cd x ≤ (1900 : Int) ∧ EpOk (absI x) y d ∧ (∀ (x_1 y_1 : Int), chV x y d top = some (x_1, y_1) → chV x y d top = some (x_1, y_1)) ∧ (chV x y d top = none → Str.ofString "none" = Str.ofString "none" ∧ chV x y d top = none) := by
  exact ⟨h1, h2, h3, fun _ _ e => e, fun e => ⟨rfl, e⟩⟩
theorem k_lch : SpecOk 313 s_lch :=
  SpecOk.turn d_lch rfl (fcons f_ch fnil) (vP fun x y => vI fun d => vI fun top => vN ⟨rfl, fun hS => ⟨fun h => h, ⟨[], Eq.mp (by kernel_rfl) (v_lch x y d top (hS _ (.head _)) (hS _ (.tail _ (.head _))) (hS _ (.tail _ (.tail _ (.head _)))))⟩⟩⟩)
theorem f_lch : FnOk e_lch := ⟨fun _ => ⟨rfl, rfl⟩, k_lch⟩
theorem v_ref1 (x y d : Int) (h1 : 0 ≤ d) (h2 : cd x ≤ 1900) (h3 : beyB x y = false → ArcCond x y d) (h4 : asV x y d 99 = none) : (0 : Int) ≤ d ∧ cd x ≤ (1900 : Int) ∧ (beyB x y = false → ArcCond x y d) ∧ (∀ (x_1 y_1 : Int), asV x y d (99 : Int) = some (x_1, y_1) → (false = true ↔ True)) ∧ (asV x y d (99 : Int) = none → (true = true ↔ True)) := by
  exact ⟨h1, h2, h3, fun a b e => (nomatch h4.symm.trans e), fun _ => ⟨fun _ => trivial, fun _ => rfl⟩⟩
theorem v_ref2 (x y d : Int) (h1 : 0 ≤ d) (h2 : cd x ≤ 1900) (h3 : beyB x y = false → ArcCond x y d) (h4 : acV x y d 99 = none) : (0 : Int) ≤ d ∧ cd x ≤ (1900 : Int) ∧ (beyB x y = false → ArcCond x y d) ∧ (∀ (x_1 y_1 : Int), acV x y d (99 : Int) = some (x_1, y_1) → (false = true ↔ True)) ∧ (acV x y d (99 : Int) = none → (true = true ↔ True)) := by
  exact ⟨h1, h2, h3, fun a b e => (nomatch h4.symm.trans e), fun _ => ⟨fun _ => trivial, fun _ => rfl⟩⟩
end Mine
end
section
open Mine.FLx (ξ ν κ ζ δ η π ω)
open Mine.FCx (φ ψ θ ϑ Φ Ψ φn ψn θn ϑn Φn Ψn)
open PySem PySem.W PySem.Calls PyProof.Rows
set_option maxRecDepth 100000
namespace Mine
theorem ev_z {k c m e d : Int} (h : stP k c = evS m e d) (h0 : 0 ≤ k) (z : k = 0) : 0 = (evV m e d).1 ∧ 0 = (evV m e d).2 := by
  rw [evv_0 h h0 (by exact fk1 [_] [] (Ψ (κ 0) (ξ 0)) 1 1 (θ (ξ 0) (κ 0)) yes z)]; exact ⟨rfl, rfl⟩
theorem ev_f {k c m e d : Int} (h : stP k c = evS m e d) (h0 : 0 ≤ k) (z : ¬ k = 0) (t : ¬ (0 < k ∧ k.fmod 10 = 0)) : (if 0 < m then k else -k) = (evV m e d).1 ∧ c = (evV m e d).2 := by
  have p : 0 < k := by lia
  have q : ¬ k.fmod 10 = 0 := fun q => t ⟨p, q⟩
  by_cases hm : 0 < m
  · rw [evv_p h p q hm, if_pos hm]; exact ⟨rfl, rfl⟩
  · rw [evv_n h p q hm, if_neg hm]; exact ⟨rfl, rfl⟩
theorem gi {o : Option (Int × Int)} {a b : Int} (e : o = some (a, b)) : o.isSome = true := by rw [e]; rfl
theorem gfs {o : Option (Int × Int)} {a b : Int} (e : o = some (a, b)) : (o.getD (0, 0)).fst = a ∧ (o.getD (0, 0)).snd = b := by rw [e]; exact ⟨rfl, rfl⟩
theorem nn2 {P Q R : Prop} (p : P) (q : Q) (h : ¬ P ∨ ¬ Q) : R := (h.elim (fun k => k p) (fun k => k q)).elim
theorem tt : true = true ↔ True := ⟨fun _ => trivial, fun _ => rfl⟩
noncomputable def turnS (F : Int → Option (Int × Int)) (x y d top : Int) (R : Prop) : Prop :=
  0 ≤ d ∧ cd x ≤ 1900 ∧ EpOk (absI x) y d ∧ (∀ a b : Int, F (1000 * top + 1000) = some (a, b) → (top < b + cd a - 1 → 0 ≤ d ∧ cd x ≤ 1900 ∧ EpOk (absI x) y d ∧
      (∀ a2 b2 : Int, F top = some (a2, b2) → (True → (false = true ↔ True)) ∧ (¬ True → R)) ∧ (F top = none → (¬ Str.ofString "none" = Str.ofString "none" → (false = true ↔ True)) ∧ (¬ ¬ Str.ofString "none" = Str.ofString "none" → R))) ∧
    (¬ top < b + cd a - 1 → 0 ≤ d ∧ cd x ≤ 1900 ∧ EpOk (absI x) y d ∧ (∀ a2 b2 : Int, F top = some (a2, b2) → (¬ (a2 = a ∧ b2 = b) → (false = true ↔ True)) ∧ (¬ ¬ (a2 = a ∧ b2 = b) → R)) ∧ (F top = none → (True → (false = true ↔ True)) ∧ (¬ True → R)))) ∧
  (F (1000 * top + 1000) = none → False)
theorem turnS_ok {F : Int → Option (Int × Int)} {x y d top s1 s2 : Int} {R : Prop} (d0 : 0 ≤ d) (cx : cd x ≤ 1900) (E : EpOk (absI x) y d) (w1 : F (1000 * top + 1000) = some (s1, s2)) (w2 : top < s2 + cd s1 - 1 → F top = none) (w3 : ¬ top < s2 + cd s1 - 1 → F top = some (s1, s2)) (r : R) : turnS F x y d top R := by
  refine ⟨d0, cx, E, fun a b e => ?_, fun e => nomatch e.symm.trans w1⟩
  cases w1.symm.trans e
  exact ⟨fun k => ⟨d0, cx, E, fun a b e => (nomatch (w2 k).symm.trans e), fun _ => ⟨fun z => absurd rfl z, fun _ => r⟩⟩, fun k => ⟨d0, cx, E, fun a b e => by cases (w3 k).symm.trans e; exact ⟨fun z => absurd ⟨rfl, rfl⟩ z, fun _ => r⟩, fun e => (nomatch (w3 k).symm.trans e)⟩⟩
theorem stp_g {x y d top s1 s2 c1 c2 t1 t2 : Int} (h : StepsOk x y d top s1 s2 c1 c2 t1 t2) : ¬ 2 * d * 1000 < absI x * 10 ^ (y + 3).toNat ∨ (t1 = if 0 < x then 1 else -1) ∧ t2 = 0 := by
  by_cases k : 2 * d * 1000 < absI x * 10 ^ (y + 3).toNat
  · exact .inr (h.gr k)
  · exact .inl k
theorem v_at2 (y v x u d top : Int) (h1 : At2Ok y v x u d) : (y = (0 : Int) ∧ x = (0 : Int) → at2V y v x u d top = none) ∧ (¬(y = (0 : Int) ∧ x = (0 : Int)) → (y = (0 : Int) → ((0 : Int) < x → at2V y v x u d top = some ((0 : Int), (0 : Int))) ∧ (¬(0 : Int) < x → (0 : Int) ≤ (2 : Int) ∧ (2 : Int) ≤ (2 : Int) ∧ (0 : Int) ≤ d ∧ d ≤ (50 : Int) ∧ Sm (htV (d + (10 : Int))) ∧ cd (((2 : Int) * htV (d + (10 : Int))).fdiv (2 : Int)) ≤ (1900 : Int) ∧ saV y (2 : Int) d top = at2V y v x u d top)) ∧ (¬y = (0 : Int) → (x = (0 : Int) ∨ d + (2 : Int) < cd y + v - (cd x + u) → (0 : Int) ≤ (1 : Int) ∧ (1 : Int) ≤ (2 : Int) ∧ (0 : Int) ≤ d ∧ d ≤ (50 : Int) ∧ Sm (htV (d + (10 : Int))) ∧ cd (((1 : Int) * htV (d + (10 : Int))).fdiv (2 : Int)) ≤ (1900 : Int) ∧ saV y (1 : Int) d top = at2V y v x u d top) ∧ (¬(x = (0 : Int) ∨ d + (2 : Int) < cd y + v - (cd x + u)) → (d + (2 : Int) < cd x + u - (cd y + v) → ((0 : Int) < x → Sm y ∧ Sm x ∧ ¬x = (0 : Int) ∧ (0 : Int) ≤ d ∧ d ≤ (100 : Int) ∧ cd x ≤ (1000 : Int) ∧ cd (quV y x (v - u) d).fst ≤ (1900 : Int) ∧ rdvV y v x u d top = at2V y v x u d top) ∧ (¬(0 : Int) < x → (0 : Int) ≤ (2 : Int) ∧ (2 : Int) ≤ (2 : Int) ∧ (0 : Int) ≤ d ∧ d ≤ (50 : Int) ∧ Sm (htV (d + (10 : Int))) ∧ cd (((2 : Int) * htV (d + (10 : Int))).fdiv (2 : Int)) ≤ (1900 : Int) ∧ saV y (2 : Int) d top = at2V y v x u d top)) ∧ (¬d + (2 : Int) < cd x + u - (cd y + v) → ((0 : Int) ≤ v - lowV v u) ∧ (v - lowV v u) ≤ (1000000 : Int) ∧ Sm (absI y) ∧ Sm ((10 : Int) ^ (v - lowV v u).toNat) ∧ ((0 : Int) ≤ u - lowV v u) ∧ (u - lowV v u) ≤ (1000000 : Int) ∧ Sm (absI x) ∧ Sm ((10 : Int) ^ (u - lowV v u).toNat) ∧ (0 : Int) ≤ absI y * (10 : Int) ^ (v - lowV v u).toNat ∧ (0 : Int) ≤ absI x * (10 : Int) ^ (u - lowV v u).toNat ∧ ¬(absI y * (10 : Int) ^ (v - lowV v u).toNat = (0 : Int) ∧ absI x * (10 : Int) ^ (u - lowV v u).toNat = (0 : Int)) ∧ Sm (absI y * (10 : Int) ^ (v - lowV v u).toNat) ∧ Sm (absI x * (10 : Int) ^ (u - lowV v u).toNat) ∧ ((0 : Int) ≤ atP y v x u d) ∧ (atP y v x u d) ≤ (100 : Int) ∧ (x < (0 : Int) → ((0 : Int) ≤ atP y v x u d) ∧ (atP y v x u d) ≤ (100 : Int) ∧ cd (if y < (0 : Int) then -(htV (atP y v x u d) - atA y v x u d) else htV (atP y v x u d) - atA y v x u d) ≤ (1900 : Int) ∧ (0 : Int) ≤ d ∧ rr (if y < (0 : Int) then -(htV (atP y v x u d) - atA y v x u d) else htV (atP y v x u d) - atA y v x u d) (-(atP y v x u d)) d top = at2V y v x u d top) ∧ (¬x < (0 : Int) → cd (if y < (0 : Int) then -atA y v x u d else atA y v x u d) ≤ (1900 : Int) ∧ (0 : Int) ≤ d ∧ rr (if y < (0 : Int) then -atA y v x u d else atA y v x u d) (-(atP y v x u d)) d top = at2V y v x u d top))))) := by
  exact ⟨fun h => at_none h.1 h.2, fun h => ⟨fun y0 => ⟨fun k => at_0p y0 k, fun k => ⟨by decide, by decide, h1.d0, h1.d1, h1.hs, h1.q2, (at_0n y0 (fun z => h ⟨y0, z⟩) k rfl).symm⟩⟩,
    fun y0 => ⟨fun k => ⟨by decide, by decide, h1.d0, h1.d1, h1.hs, h1.q1, k.elim (fun z => (at_x0 y0 z rfl).symm) fun z => (at_st y0 z rfl).symm⟩,
    fun k => have x0 := fun z => k (.inl z); have nf := fun z => k (.inr z); ⟨fun m => ⟨fun n => ⟨h1.sy, h1.sx, x0, h1.d0, Int.le_trans h1.d1 (by decide), h1.cx, h1.cq, (at_fp y0 x0 nf m n rfl).symm⟩, fun n => ⟨by decide, by decide, h1.d0, h1.d1, h1.hs, h1.q2, (at_fn y0 x0 nf m n rfl).symm⟩⟩,
    fun m => ⟨h1.e0, Int.le_trans h1.e1 (by decide), h1.smy, sm_pow (by have := h1.e0; have := h1.e1; lia), h1.f0, Int.le_trans h1.f1 (by decide), h1.smx, sm_pow (by have := h1.f0; have := h1.f1; lia), at_ann, at_bnn, at_ab0 y0, h1.sa, h1.sb, h1.p0, h1.p1,
      fun n => ⟨h1.p0, h1.p1, (cd_sgn y _).symm ▸ h1.c2, h1.d0, (at_g y0 x0 nf m (atb_n n rfl)).symm⟩, fun n => ⟨(cd_sgn y _).symm ▸ h1.c1, h1.d0, (at_g y0 x0 nf m (atb_p n rfl)).symm⟩⟩⟩⟩⟩⟩
theorem k_at2 : SpecOk 222 s_at2 :=
  SpecOk.flat d_at2 rfl (fcons f_lead (fcons f_sa (fcons f_div (fcons f_ra (fcons f_ht (fcons f_rr fnil)))))) (vP fun y v => vP fun x u => vI fun d => vI fun top => vN ⟨rfl, fun hS => ⟨[], Eq.mp (by kernel_rfl) (v_at2 y v x u d top (hS _ (.head _)))⟩⟩)
theorem f_at2 : FnOk e_at2 := ⟨fun _ => ⟨rfl, rfl⟩, k_at2⟩
theorem v_at (x y d top : Int) (h1 : At2Ok x y 1 0 d) : At2Ok x y (1 : Int) (0 : Int) d ∧ at2V x y (1 : Int) (0 : Int) d top = at2V x y (1 : Int) (0 : Int) d top := by
  exact ⟨h1, rfl⟩
theorem k_at : SpecOk 229 s_at :=
  SpecOk.flat d_at rfl (fcons f_at2 fnil) (vP fun x y => vI fun d => vI fun top => vN ⟨rfl, fun hS => ⟨[], Eq.mp (by kernel_rfl) (v_at x y d top (hS _ (.head _)))⟩⟩)
theorem v_even (x y d : Int) (h1 : cd x ≤ 1900) (h2 : 0 ≤ d) : ((0 : Int) ≤ dropV x d) ∧ (dropV x d) ≤ (1000000 : Int) ∧ ¬(10 : Int) ^ (dropV x d).toNat = (0 : Int) ∧ Sm ((10 : Int) ^ (dropV x d).toNat) ∧ ((0 : Int) ≤ dropV x d) ∧ (dropV x d) ≤ (1000000 : Int) ∧ ¬(10 : Int) ^ (dropV x d).toNat = (0 : Int) ∧ ((0 : Int) ≤ dropV x d) ∧ (dropV x d) ≤ (1000000 : Int) ∧ (¬(10 : Int) ^ (dropV x d).toNat < (2 : Int) * (absI x).fmod ((10 : Int) ^ (dropV x d).toNat) → ((0 : Int) < dropV x d) → ((0 : Int) ≤ dropV x d) ∧ (dropV x d) ≤ (1000000 : Int)) ∧ ((10 : Int) ^ (dropV x d).toNat < (2 : Int) * (absI x).fmod ((10 : Int) ^ (dropV x d).toNat) ∨ ((0 : Int) < dropV x d) ∧ (2 : Int) * (absI x).fmod ((10 : Int) ^ (dropV x d).toNat) = (10 : Int) ^ (dropV x d).toNat ∧ ((absI x).fdiv ((10 : Int) ^ (dropV x d).toNat)).fmod (2 : Int) = (1 : Int) → ((0 : Int) ≤ (absI x).fdiv ((10 : Int) ^ (dropV x d).toNat) + (1 : Int) ∧ stP ((absI x).fdiv ((10 : Int) ^ (dropV x d).toNat) + (1 : Int)) (y + dropV x d) = evS x y d) ∧ (some (V.int d) = some (V.int d) ∧ some (V.int x) = some (V.int x) ∧ some (V.int (dropV x d)) = some (V.int (dropV x d)) ∧ some (V.int ((absI x).fmod ((10 : Int) ^ (dropV x d).toNat))) = some (V.int ((absI x).fmod ((10 : Int) ^ (dropV x d).toNat))) ∧ True) ∧ ∀ (a a_1 : Int), (0 : Int) ≤ a ∧ stP a a_1 = evS x y d → ((0 : Int) < a ∧ a.fmod (10 : Int) = (0 : Int) → ((0 : Int) ≤ a.fdiv (10 : Int) ∧ stP (a.fdiv (10 : Int)) (a_1 + (1 : Int)) = evS x y d) ∧ (a.fdiv (10 : Int)).toNat < a.toNat ∧ some (V.int d) = some (V.int d) ∧ some (V.int x) = some (V.int x) ∧ some (V.int (dropV x d)) = some (V.int (dropV x d)) ∧ some (V.int ((absI x).fmod ((10 : Int) ^ (dropV x d).toNat))) = some (V.int ((absI x).fmod ((10 : Int) ^ (dropV x d).toNat))) ∧ True) ∧ (¬((0 : Int) < a ∧ a.fmod (10 : Int) = (0 : Int)) → (a = (0 : Int) → (0 : Int) = (evV x y d).fst ∧ (0 : Int) = (evV x y d).snd) ∧ (¬a = (0 : Int) → (if (0 : Int) < x then a else -a) = (evV x y d).fst ∧ a_1 = (evV x y d).snd))) ∧ (¬((10 : Int) ^ (dropV x d).toNat < (2 : Int) * (absI x).fmod ((10 : Int) ^ (dropV x d).toNat) ∨ ((0 : Int) < dropV x d) ∧ (2 : Int) * (absI x).fmod ((10 : Int) ^ (dropV x d).toNat) = (10 : Int) ^ (dropV x d).toNat ∧ ((absI x).fdiv ((10 : Int) ^ (dropV x d).toNat)).fmod (2 : Int) = (1 : Int)) → ((0 : Int) ≤ (absI x).fdiv ((10 : Int) ^ (dropV x d).toNat) ∧ stP ((absI x).fdiv ((10 : Int) ^ (dropV x d).toNat)) (y + dropV x d) = evS x y d) ∧ (some (V.int d) = some (V.int d) ∧ some (V.int x) = some (V.int x) ∧ some (V.int (dropV x d)) = some (V.int (dropV x d)) ∧ some (V.int ((absI x).fmod ((10 : Int) ^ (dropV x d).toNat))) = some (V.int ((absI x).fmod ((10 : Int) ^ (dropV x d).toNat))) ∧ True) ∧ ∀ (a a_1 : Int), (0 : Int) ≤ a ∧ stP a a_1 = evS x y d → ((0 : Int) < a ∧ a.fmod (10 : Int) = (0 : Int) → ((0 : Int) ≤ a.fdiv (10 : Int) ∧ stP (a.fdiv (10 : Int)) (a_1 + (1 : Int)) = evS x y d) ∧ (a.fdiv (10 : Int)).toNat < a.toNat ∧ some (V.int d) = some (V.int d) ∧ some (V.int x) = some (V.int x) ∧ some (V.int (dropV x d)) = some (V.int (dropV x d)) ∧ some (V.int ((absI x).fmod ((10 : Int) ^ (dropV x d).toNat))) = some (V.int ((absI x).fmod ((10 : Int) ^ (dropV x d).toNat))) ∧ True) ∧ (¬((0 : Int) < a ∧ a.fmod (10 : Int) = (0 : Int)) → (a = (0 : Int) → (0 : Int) = (evV x y d).fst ∧ (0 : Int) = (evV x y d).snd) ∧ (¬a = (0 : Int) → (if (0 : Int) < x then a else -a) = (evV x y d).fst ∧ a_1 = (evV x y d).snd))) := by
  have D0 : 0 ≤ dropV x d := drop0 x d
  have D2 := drop1 h1 h2
  have D1 : dropV x d ≤ 1000000 := Int.le_trans D2 (by decide)
  have W : Sm (10 ^ (dropV x d).toNat) := sm_pow (by change dropV x d ≤ _ at D2; exact fk2 [_] [_] (ψn (ν 0) (κ 2000)) 1 1 (φ (ξ 0) (κ 1900)) 1 (θ (ν 0) (ξ 0)) yes D2 (tn (a := dropV x d) (fk1 [_] [] (φ (κ 0) (ξ 0)) 1 1 (φ (κ 0) (ξ 0)) yes D0)))
  exact ⟨D0, D1, pow_ne10 _, W, D0, D1, pow_ne10 _, D0, D1, fun _ _ => ⟨D0, D1⟩, fun c => ⟨evl_s0 (if_pos c).symm, ⟨rfl, rfl, rfl, rfl, trivial⟩, fun a b ⟨p, q⟩ => ⟨fun ⟨k, m⟩ => ⟨evl_s1 k m q, evl_m k, rfl, rfl, rfl, rfl, trivial⟩, fun k => ⟨fun z => ev_z q p z, fun z => ev_f q p z k⟩⟩⟩, fun c => ⟨evl_s0 (if_neg c).symm, ⟨rfl, rfl, rfl, rfl, trivial⟩, fun a b ⟨p, q⟩ => ⟨fun ⟨k, m⟩ => ⟨evl_s1 k m q, evl_m k, rfl, rfl, rfl, rfl, trivial⟩, fun k => ⟨fun z => ev_z q p z, fun z => ev_f q p z k⟩⟩⟩⟩
theorem k_even : SpecOk 285 s_even :=
  SpecOk.flat d_even rfl (fcons f_size fnil) (vI fun x => vI fun y => vI fun d => vN ⟨rfl, fun hS => ⟨[⟨230, ["whole", "e"], fun l => match l with | [a, b] => 0 ≤ a ∧ stP a b = evS x y d | _ => False, fun l => match l with | [a, b] => a.toNat | _ => 0⟩], Eq.mp (by kernel_rfl) (v_even x y d (hS _ (.head _)) (hS _ (.tail _ (.head _))))⟩⟩)
theorem f_even : FnOk e_even := ⟨fun _ => ⟨rfl, rfl⟩, k_even⟩
end Mine
end
section
open Mine.FLx (ξ ν κ ζ δ η π ω)
open Mine.FCx (φ ψ θ ϑ Φ Ψ φn ψn θn ϑn Φn Ψn)
open PySem PySem.W PySem.Calls PyProof.Rows
set_option maxRecDepth 100000
namespace Mine
theorem rep_true {w : World} {led : Led} {u : Value} (h : OutRep w led u (.val (.tf True inferInstance))) : u = .bool true := by
  obtain ⟨b, e, hb⟩ := h
  rw [e, hb.mpr trivial]
section
variable {w : World} {p : Program} {loose : List Str} {mean : ExcName → Option Value} {mg mb : Str → Option Value} {f : Addr} {cost : Nat} {news : Led} {us : List Value}
theorem CallOk.true (H : CallOk w p loose mean mg mb f cost news us (fun r tl => OutRep w (tl ++ news) r (.val (.tf True inferInstance)))) : CallOk w p loose mean mg mb f cost news us (BoolOut true) := by
  intro dp un gd cn cs a ccd cl outer A₀ base h₀ L m s Q E B F X N T hk hd hu ret
  exact H _ _ _ _ _ _ _ _ _ _ _ _ _ _ _ _ _ B F X N T hk hd hu fun r tl h' tk' F' N' P => ret r [] h' tk' F' (fun q hq => N' q (List.mem_append_right _ hq)) ⟨rfl, rep_true P⟩
theorem CallS0.true (H : CallS0 w p loose mean mg mb f cost news us (fun r tl => OutRep w (tl ++ news) r (.val (.tf True inferInstance)))) : CallS0 w p loose mean mg mb f cost news us (BoolOut true) := by
  intro dp un gd cn cs a ccd A₀ base h₀ L m s Q E B F X N T XB TB hk hd hu ret
  exact H _ _ _ _ _ _ _ _ _ _ _ _ _ _ _ B F X N T XB TB hk hd hu fun r tl h' tk' F' N' P => ret r [] h' tk' F' (fun q hq => N' q (List.mem_append_right _ hq)) ⟨rfl, rep_true P⟩
end
theorem k_ref : SpecOk 320 s_ref := by
  intro w p loose mean mg mb news vs us S o hv hS hR
  revert hS hR
  refine (vF fun a => vP fun x y => vI fun d => vN ?_ : ValOk (fun vs S o => (∀ q ∈ S, q) → Reps w news us vs → (true = false → _) ∧ (true = true → CallS w p loose mean mg mb 320 20 news us (fun r tl => OutRep w (tl ++ news) r o))) _) vs S o hv
  intro hS hR
  refine ⟨fun h => (nomatch h), fun _ => ?_⟩
  rcases hS _ (.tail _ (.tail _ (.tail _ (.head _)))) with ⟨rfl, e⟩ | ⟨rfl, e⟩
  · exact fnS_ok (ann := []) (n := 60) d_ref1 rfl (fcons f_as fnil) hR rfl (fun h => h) (Eq.mp (by kernel_rfl) (v_ref1 x y d (hS _ (.head _)) (hS _ (.tail _ (.head _))) (hS _ (.tail _ (.tail _ (.head _)))) e))
  · exact fnS_ok (ann := []) (n := 60) d_ref1 rfl (fcons f_ac fnil) hR rfl (fun h => h) (Eq.mp (by kernel_rfl) (v_ref2 x y d (hS _ (.head _)) (hS _ (.tail _ (.head _))) (hS _ (.tail _ (.tail _ (.head _)))) e))
theorem f_ref : FnOk e_ref := ⟨fun _ => ⟨rfl, rfl⟩, k_ref⟩
theorem v_ang (y v x u d : Int) (a b a3 b3 : Int) (hO : AngleOk y v x u d a b a3 b3) : At2Ok y v x u d ∧ (∀ (x_1 y_1 : Int), at2V y v x u d (99 : Int) = some (x_1, y_1) → At2Ok (-y) v x u d ∧ (at2V (-y) v x u d (99 : Int)).isSome = true ∧ (¬(((at2V (-y) v x u d (99 : Int)).getD ((0 : Int), (0 : Int))).fst = -x_1 ∧ ((at2V (-y) v x u d (99 : Int)).getD ((0 : Int), (0 : Int))).snd = y_1) → (false = true ↔ True)) ∧ (¬¬(((at2V (-y) v x u d (99 : Int)).getD ((0 : Int), (0 : Int))).fst = -x_1 ∧ ((at2V (-y) v x u d (99 : Int)).getD ((0 : Int), (0 : Int))).snd = y_1) → At2Ok y v (-x) u d ∧ (∀ (x_2 y_2 : Int), at2V y v (-x) u d (99 : Int) = some (x_2, y_2) → (0 : Int) ≤ (-40 : Int) - (y_1 - (45 : Int)) ∧ (-40 : Int) - (y_1 - (45 : Int)) ≤ (1000000 : Int) ∧ Sm (31415926535897932384626433832795028841971 : Int) ∧ Sm ((10 : Int) ^ ((-40 : Int) - (y_1 - (45 : Int))).toNat) ∧ Sm x_1 ∧ Sm ((10 : Int) ^ Int.toNat (45 : Int)) ∧ NearOk x_2 y_2 ((31415926535897932384626433832795028841971 : Int) * (10 : Int) ^ ((-40 : Int) - (y_1 - (45 : Int))).toNat - x_1 * (10 : Int) ^ Int.toNat (45 : Int)) (y_1 - (45 : Int)) d ∧ Sm (2 : Int) ∧ (¬¬nearB x_2 y_2 ((31415926535897932384626433832795028841971 : Int) * (10 : Int) ^ ((-40 : Int) - (y_1 - (45 : Int))).toNat - x_1 * (10 : Int) ^ Int.toNat (45 : Int)) (y_1 - (45 : Int)) d (2 : Int) = true → At2Ok (-y) v (-x) u d ∧ (at2V (-y) v (-x) u d (99 : Int)).isSome = true) ∧ (¬nearB x_2 y_2 ((31415926535897932384626433832795028841971 : Int) * (10 : Int) ^ ((-40 : Int) - (y_1 - (45 : Int))).toNat - x_1 * (10 : Int) ^ Int.toNat (45 : Int)) (y_1 - (45 : Int)) d (2 : Int) = true ∨ ¬(((at2V (-y) v (-x) u d (99 : Int)).getD ((0 : Int), (0 : Int))).fst = -x_2 ∧ ((at2V (-y) v (-x) u d (99 : Int)).getD ((0 : Int), (0 : Int))).snd = y_2) → (false = true ↔ True)) ∧ (¬(¬nearB x_2 y_2 ((31415926535897932384626433832795028841971 : Int) * (10 : Int) ^ ((-40 : Int) - (y_1 - (45 : Int))).toNat - x_1 * (10 : Int) ^ Int.toNat (45 : Int)) (y_1 - (45 : Int)) d (2 : Int) = true ∨ ¬(((at2V (-y) v (-x) u d (99 : Int)).getD ((0 : Int), (0 : Int))).fst = -x_2 ∧ ((at2V (-y) v (-x) u d (99 : Int)).getD ((0 : Int), (0 : Int))).snd = y_2)) → (d + (2 : Int) < u + cd x - v - cd y → Sm y ∧ Sm ((10 : Int) ^ Int.toNat (60 : Int)) ∧ ¬x = (0 : Int) ∧ Sm x ∧ NearOk x_1 y_1 ((y * (10 : Int) ^ Int.toNat (60 : Int)).fdiv x) (v - u - (60 : Int)) d ∧ Sm (2 : Int) ∧ (nearB x_1 y_1 ((y * (10 : Int) ^ Int.toNat (60 : Int)).fdiv x) (v - u - (60 : Int)) d (2 : Int) = true ↔ True)) ∧ (¬d + (2 : Int) < u + cd x - v - cd y → (true = true ↔ True)))) ∧ (at2V y v (-x) u d (99 : Int) = none → False))) ∧ (at2V y v x u d (99 : Int) = none → False) := by
  refine ⟨hO.o1, fun x1 y1 e => ?_, fun e => nomatch e.symm.trans hO.e1⟩
  cases hO.e1.symm.trans e
  refine ⟨hO.o2, gi hO.e2, fun h => absurd (gfs hO.e2) h, fun _ => ⟨hO.o3, fun x2 y2 e => ?_, fun e => nomatch e.symm.trans hO.e3⟩⟩
  cases hO.e3.symm.trans e
  exact ⟨hO.p0, Int.le_trans hO.p1 (by decide), sm_half, sm_pow (by have := hO.p1; lia), hO.sa, sm_pow (by decide), hO.n1.1, sm_small (by decide), fun _ => ⟨hO.o4, gi hO.e4⟩, nn2 hO.n1.2 (gfs hO.e4), fun _ => ⟨fun m => ⟨hO.sy, sm_pow (by decide), hO.x0, hO.sx, (hO.n2 m).1, sm_small (by decide), ⟨fun _ => trivial, fun _ => (hO.n2 m).2⟩⟩, fun _ => tt⟩⟩
theorem v_axe (y v d : Int) (hO : AxesOk y v d) : cd (31415926535897932384626433832795028841971 : Int) ≤ (1900 : Int) ∧ (0 : Int) ≤ d ∧ Sm (31415926535897932384626433832795028841971 : Int) ∧ Sm (5 : Int) ∧ cd ((31415926535897932384626433832795028841971 : Int) * (5 : Int)) ≤ (1900 : Int) ∧ (0 : Int) ≤ d ∧ At2Ok (0 : Int) (0 : Int) y v d ∧ (at2V (0 : Int) (0 : Int) y v d (99 : Int)).isSome = true ∧ (¬¬(((at2V (0 : Int) (0 : Int) y v d (99 : Int)).getD ((0 : Int), (0 : Int))).fst = (0 : Int) ∧ ((at2V (0 : Int) (0 : Int) y v d (99 : Int)).getD ((0 : Int), (0 : Int))).snd = (0 : Int)) → At2Ok (0 : Int) (0 : Int) (-y) v d ∧ (at2V (0 : Int) (0 : Int) (-y) v d (99 : Int)).isSome = true) ∧ (¬(((at2V (0 : Int) (0 : Int) y v d (99 : Int)).getD ((0 : Int), (0 : Int))).fst = (0 : Int) ∧ ((at2V (0 : Int) (0 : Int) y v d (99 : Int)).getD ((0 : Int), (0 : Int))).snd = (0 : Int)) ∨ ¬(((at2V (0 : Int) (0 : Int) (-y) v d (99 : Int)).getD ((0 : Int), (0 : Int))).fst = (evV (31415926535897932384626433832795028841971 : Int) (-40 : Int) d).fst ∧ ((at2V (0 : Int) (0 : Int) (-y) v d (99 : Int)).getD ((0 : Int), (0 : Int))).snd = (evV (31415926535897932384626433832795028841971 : Int) (-40 : Int) d).snd) → (false = true ↔ True)) ∧ (¬(¬(((at2V (0 : Int) (0 : Int) y v d (99 : Int)).getD ((0 : Int), (0 : Int))).fst = (0 : Int) ∧ ((at2V (0 : Int) (0 : Int) y v d (99 : Int)).getD ((0 : Int), (0 : Int))).snd = (0 : Int)) ∨ ¬(((at2V (0 : Int) (0 : Int) (-y) v d (99 : Int)).getD ((0 : Int), (0 : Int))).fst = (evV (31415926535897932384626433832795028841971 : Int) (-40 : Int) d).fst ∧ ((at2V (0 : Int) (0 : Int) (-y) v d (99 : Int)).getD ((0 : Int), (0 : Int))).snd = (evV (31415926535897932384626433832795028841971 : Int) (-40 : Int) d).snd)) → At2Ok y v (0 : Int) (0 : Int) d ∧ (at2V y v (0 : Int) (0 : Int) d (99 : Int)).isSome = true ∧ (¬¬(((at2V y v (0 : Int) (0 : Int) d (99 : Int)).getD ((0 : Int), (0 : Int))).fst = (evV ((31415926535897932384626433832795028841971 : Int) * (5 : Int)) (-41 : Int) d).fst ∧ ((at2V y v (0 : Int) (0 : Int) d (99 : Int)).getD ((0 : Int), (0 : Int))).snd = (evV ((31415926535897932384626433832795028841971 : Int) * (5 : Int)) (-41 : Int) d).snd) → At2Ok (-y) v (0 : Int) (0 : Int) d ∧ (at2V (-y) v (0 : Int) (0 : Int) d (99 : Int)).isSome = true) ∧ (¬(((at2V y v (0 : Int) (0 : Int) d (99 : Int)).getD ((0 : Int), (0 : Int))).fst = (evV ((31415926535897932384626433832795028841971 : Int) * (5 : Int)) (-41 : Int) d).fst ∧ ((at2V y v (0 : Int) (0 : Int) d (99 : Int)).getD ((0 : Int), (0 : Int))).snd = (evV ((31415926535897932384626433832795028841971 : Int) * (5 : Int)) (-41 : Int) d).snd) ∨ ¬(((at2V (-y) v (0 : Int) (0 : Int) d (99 : Int)).getD ((0 : Int), (0 : Int))).fst = -(evV ((31415926535897932384626433832795028841971 : Int) * (5 : Int)) (-41 : Int) d).fst ∧ ((at2V (-y) v (0 : Int) (0 : Int) d (99 : Int)).getD ((0 : Int), (0 : Int))).snd = (evV ((31415926535897932384626433832795028841971 : Int) * (5 : Int)) (-41 : Int) d).snd) → (false = true ↔ True)) ∧ (¬(¬(((at2V y v (0 : Int) (0 : Int) d (99 : Int)).getD ((0 : Int), (0 : Int))).fst = (evV ((31415926535897932384626433832795028841971 : Int) * (5 : Int)) (-41 : Int) d).fst ∧ ((at2V y v (0 : Int) (0 : Int) d (99 : Int)).getD ((0 : Int), (0 : Int))).snd = (evV ((31415926535897932384626433832795028841971 : Int) * (5 : Int)) (-41 : Int) d).snd) ∨ ¬(((at2V (-y) v (0 : Int) (0 : Int) d (99 : Int)).getD ((0 : Int), (0 : Int))).fst = -(evV ((31415926535897932384626433832795028841971 : Int) * (5 : Int)) (-41 : Int) d).fst ∧ ((at2V (-y) v (0 : Int) (0 : Int) d (99 : Int)).getD ((0 : Int), (0 : Int))).snd = (evV ((31415926535897932384626433832795028841971 : Int) * (5 : Int)) (-41 : Int) d).snd)) → At2Ok (0 : Int) (0 : Int) (0 : Int) (0 : Int) d ∧ (∀ (x y : Int), at2V (0 : Int) (0 : Int) (0 : Int) (0 : Int) d (99 : Int) = some (x, y) → (false = true ↔ True)) ∧ (at2V (0 : Int) (0 : Int) (0 : Int) (0 : Int) d (99 : Int) = none → (true = true ↔ True)))) := by
  exact ⟨cd_half, hO.d0, sm_half, sm_small (by decide), cd_half5, hO.d0, hO.o1, gi hO.e1, fun _ => ⟨hO.o2, gi hO.e2⟩, nn2 (gfs hO.e1) (gfs hO.e2), fun _ => ⟨hO.o3, gi hO.e3, fun _ => ⟨hO.o4, gi hO.e4⟩, nn2 (gfs hO.e3) (gfs hO.e4), fun _ => ⟨hO.o5, fun x y e => (nomatch hO.e5.symm.trans e), fun _ => tt⟩⟩⟩
theorem v_stp (x y d top : Int) (s1 s2 c1 c2 t1 t2 : Int) (hO : StepsOk x y d top s1 s2 c1 c2 t1 t2) : turnS (fun t => shV x y d t) x y d top (turnS (fun t => chV x y d t) x y d top ((0 : Int) ≤ d ∧ cd x ≤ (1900 : Int) ∧ EpOk (absI x) y d ∧ (∀ (x_5 y_5 : Int), thV x y d top = some (x_5, y_5) → (0 : Int) ≤ d ∧ cd (-x) ≤ (1900 : Int) ∧ EpOk (absI (-x)) y d ∧ (thV (-x) y d top).isSome = true ∧ (¬¬(((thV (-x) y d top).getD ((0 : Int), (0 : Int))).fst = -x_5 ∧ ((thV (-x) y d top).getD ((0 : Int), (0 : Int))).snd = y_5) → Sm (absI x_5) ∧ Sm ((10 : Int) ^ Int.toNat (30 : Int)) ∧ (0 : Int) ≤ (30 : Int) - y_5 ∧ (30 : Int) - y_5 ≤ (1000000 : Int)) ∧ (¬(((thV (-x) y d top).getD ((0 : Int), (0 : Int))).fst = -x_5 ∧ ((thV (-x) y d top).getD ((0 : Int), (0 : Int))).snd = y_5) ∨ (10 : Int) ^ ((30 : Int) - y_5).toNat < absI x_5 * (10 : Int) ^ Int.toNat (30 : Int) → (false = true ↔ True)) ∧ (¬(¬(((thV (-x) y d top).getD ((0 : Int), (0 : Int))).fst = -x_5 ∧ ((thV (-x) y d top).getD ((0 : Int), (0 : Int))).snd = y_5) ∨ (10 : Int) ^ ((30 : Int) - y_5).toNat < absI x_5 * (10 : Int) ^ Int.toNat (30 : Int)) → (0 : Int) ≤ y + (3 : Int) ∧ y + (3 : Int) ≤ (1000000 : Int) ∧ Sm (absI x) ∧ Sm ((10 : Int) ^ (y + (3 : Int)).toNat) ∧ Sm ((2 : Int) * d) ∧ Sm (1000 : Int) ∧ (¬(2 : Int) * d * (1000 : Int) < absI x * (10 : Int) ^ (y + (3 : Int)).toNat ∨ (x_5 = if (0 : Int) < x then (1 : Int) else (-1 : Int)) ∧ y_5 = (0 : Int) ↔ True))) ∧ (thV x y d top = none → False))) := by
  refine turnS_ok hO.d0 hO.cx hO.E hO.w1 hO.w2 hO.w3 (turnS_ok hO.d0 hO.cx hO.E hO.v1 hO.v2 hO.v3 ?_)
  refine ⟨hO.d0, hO.cx, hO.E, fun a b e => ?_, fun e => nomatch e.symm.trans hO.th⟩
  cases hO.th.symm.trans e
  exact ⟨hO.d0, hO.cn, hO.En, gi hO.thn, fun _ => ⟨hO.st.abs, sm_pow (by decide), hO.pe0, Int.le_trans hO.pe1 (by decide)⟩, fun h => (h.elim (fun k => k (gfs hO.thn)) fun k => Int.not_lt.mpr hO.le k).elim, fun _ => ⟨hO.y0, Int.le_trans hO.y1 (by decide), hO.sx.abs, sm_pow (by have := hO.y1; lia), hO.sd, sm_small (by decide), ⟨fun _ => trivial, fun _ => stp_g hO⟩⟩⟩
theorem v_one (k d : Int) (hO : OnesOk k d) : (0 : Int) ≤ k ∧ k ≤ (1000000 : Int) ∧ cd (31415926535897932384626433832795028841971 : Int) ≤ (1900 : Int) ∧ (0 : Int) ≤ d ∧ Sm (31415926535897932384626433832795028841971 : Int) ∧ Sm (5 : Int) ∧ cd ((31415926535897932384626433832795028841971 : Int) * (5 : Int)) ≤ (1900 : Int) ∧ (0 : Int) ≤ d ∧ (0 : Int) ≤ d ∧ cd ((10 : Int) ^ k.toNat) ≤ (1900 : Int) ∧ (beyB ((10 : Int) ^ k.toNat) (-k) = false → ArcCond ((10 : Int) ^ k.toNat) (-k) d) ∧ (asV ((10 : Int) ^ k.toNat) (-k) d (99 : Int)).isSome = true ∧ (¬¬(((asV ((10 : Int) ^ k.toNat) (-k) d (99 : Int)).getD ((0 : Int), (0 : Int))).fst = (evV ((31415926535897932384626433832795028841971 : Int) * (5 : Int)) (-41 : Int) d).fst ∧ ((asV ((10 : Int) ^ k.toNat) (-k) d (99 : Int)).getD ((0 : Int), (0 : Int))).snd = (evV ((31415926535897932384626433832795028841971 : Int) * (5 : Int)) (-41 : Int) d).snd) → (0 : Int) ≤ d ∧ cd (-(10 : Int) ^ k.toNat) ≤ (1900 : Int) ∧ (beyB (-(10 : Int) ^ k.toNat) (-k) = false → ArcCond (-(10 : Int) ^ k.toNat) (-k) d) ∧ (asV (-(10 : Int) ^ k.toNat) (-k) d (99 : Int)).isSome = true) ∧ (¬(((asV ((10 : Int) ^ k.toNat) (-k) d (99 : Int)).getD ((0 : Int), (0 : Int))).fst = (evV ((31415926535897932384626433832795028841971 : Int) * (5 : Int)) (-41 : Int) d).fst ∧ ((asV ((10 : Int) ^ k.toNat) (-k) d (99 : Int)).getD ((0 : Int), (0 : Int))).snd = (evV ((31415926535897932384626433832795028841971 : Int) * (5 : Int)) (-41 : Int) d).snd) ∨ ¬(((asV (-(10 : Int) ^ k.toNat) (-k) d (99 : Int)).getD ((0 : Int), (0 : Int))).fst = -(evV ((31415926535897932384626433832795028841971 : Int) * (5 : Int)) (-41 : Int) d).fst ∧ ((asV (-(10 : Int) ^ k.toNat) (-k) d (99 : Int)).getD ((0 : Int), (0 : Int))).snd = (evV ((31415926535897932384626433832795028841971 : Int) * (5 : Int)) (-41 : Int) d).snd) → (false = true ↔ True)) ∧ (¬(¬(((asV ((10 : Int) ^ k.toNat) (-k) d (99 : Int)).getD ((0 : Int), (0 : Int))).fst = (evV ((31415926535897932384626433832795028841971 : Int) * (5 : Int)) (-41 : Int) d).fst ∧ ((asV ((10 : Int) ^ k.toNat) (-k) d (99 : Int)).getD ((0 : Int), (0 : Int))).snd = (evV ((31415926535897932384626433832795028841971 : Int) * (5 : Int)) (-41 : Int) d).snd) ∨ ¬(((asV (-(10 : Int) ^ k.toNat) (-k) d (99 : Int)).getD ((0 : Int), (0 : Int))).fst = -(evV ((31415926535897932384626433832795028841971 : Int) * (5 : Int)) (-41 : Int) d).fst ∧ ((asV (-(10 : Int) ^ k.toNat) (-k) d (99 : Int)).getD ((0 : Int), (0 : Int))).snd = (evV ((31415926535897932384626433832795028841971 : Int) * (5 : Int)) (-41 : Int) d).snd)) → (0 : Int) ≤ d ∧ cd ((10 : Int) ^ k.toNat) ≤ (1900 : Int) ∧ (beyB ((10 : Int) ^ k.toNat) (-k) = false → ArcCond ((10 : Int) ^ k.toNat) (-k) d) ∧ (acV ((10 : Int) ^ k.toNat) (-k) d (99 : Int)).isSome = true ∧ (¬¬(((acV ((10 : Int) ^ k.toNat) (-k) d (99 : Int)).getD ((0 : Int), (0 : Int))).fst = (0 : Int) ∧ ((acV ((10 : Int) ^ k.toNat) (-k) d (99 : Int)).getD ((0 : Int), (0 : Int))).snd = (0 : Int)) → (0 : Int) ≤ d ∧ cd (-(10 : Int) ^ k.toNat) ≤ (1900 : Int) ∧ (beyB (-(10 : Int) ^ k.toNat) (-k) = false → ArcCond (-(10 : Int) ^ k.toNat) (-k) d) ∧ (acV (-(10 : Int) ^ k.toNat) (-k) d (99 : Int)).isSome = true) ∧ (¬(((acV ((10 : Int) ^ k.toNat) (-k) d (99 : Int)).getD ((0 : Int), (0 : Int))).fst = (0 : Int) ∧ ((acV ((10 : Int) ^ k.toNat) (-k) d (99 : Int)).getD ((0 : Int), (0 : Int))).snd = (0 : Int)) ∨ ¬(((acV (-(10 : Int) ^ k.toNat) (-k) d (99 : Int)).getD ((0 : Int), (0 : Int))).fst = (evV (31415926535897932384626433832795028841971 : Int) (-40 : Int) d).fst ∧ ((acV (-(10 : Int) ^ k.toNat) (-k) d (99 : Int)).getD ((0 : Int), (0 : Int))).snd = (evV (31415926535897932384626433832795028841971 : Int) (-40 : Int) d).snd) → (false = true ↔ True)) ∧ (¬(¬(((acV ((10 : Int) ^ k.toNat) (-k) d (99 : Int)).getD ((0 : Int), (0 : Int))).fst = (0 : Int) ∧ ((acV ((10 : Int) ^ k.toNat) (-k) d (99 : Int)).getD ((0 : Int), (0 : Int))).snd = (0 : Int)) ∨ ¬(((acV (-(10 : Int) ^ k.toNat) (-k) d (99 : Int)).getD ((0 : Int), (0 : Int))).fst = (evV (31415926535897932384626433832795028841971 : Int) (-40 : Int) d).fst ∧ ((acV (-(10 : Int) ^ k.toNat) (-k) d (99 : Int)).getD ((0 : Int), (0 : Int))).snd = (evV (31415926535897932384626433832795028841971 : Int) (-40 : Int) d).snd)) → ((0 : Int) < k → (0 : Int) ≤ k ∧ k ≤ (1000000 : Int) ∧ (0 : Int) ≤ d ∧ cd ((10 : Int) ^ k.toNat + (1 : Int)) ≤ (1900 : Int) ∧ (beyB ((10 : Int) ^ k.toNat + (1 : Int)) (-k) = false → ArcCond ((10 : Int) ^ k.toNat + (1 : Int)) (-k) d) ∧ ((201 : Addr) = (201 : Addr) ∧ asV ((10 : Int) ^ k.toNat + (1 : Int)) (-k) d (99 : Int) = none ∨ (201 : Addr) = (208 : Addr) ∧ acV ((10 : Int) ^ k.toNat + (1 : Int)) (-k) d (99 : Int) = none) ∧ (¬¬True → (0 : Int) ≤ d ∧ cd (-((10 : Int) ^ k.toNat + (1 : Int))) ≤ (1900 : Int) ∧ (beyB (-((10 : Int) ^ k.toNat + (1 : Int))) (-k) = false → ArcCond (-((10 : Int) ^ k.toNat + (1 : Int))) (-k) d) ∧ ((201 : Addr) = (201 : Addr) ∧ asV (-((10 : Int) ^ k.toNat + (1 : Int))) (-k) d (99 : Int) = none ∨ (201 : Addr) = (208 : Addr) ∧ acV (-((10 : Int) ^ k.toNat + (1 : Int))) (-k) d (99 : Int) = none)) ∧ (¬True ∨ ¬True → (false = true ↔ True)) ∧ (¬(¬True ∨ ¬True) → (0 : Int) ≤ d ∧ cd ((10 : Int) ^ k.toNat + (1 : Int)) ≤ (1900 : Int) ∧ (beyB ((10 : Int) ^ k.toNat + (1 : Int)) (-k) = false → ArcCond ((10 : Int) ^ k.toNat + (1 : Int)) (-k) d) ∧ ((208 : Addr) = (201 : Addr) ∧ asV ((10 : Int) ^ k.toNat + (1 : Int)) (-k) d (99 : Int) = none ∨ (208 : Addr) = (208 : Addr) ∧ acV ((10 : Int) ^ k.toNat + (1 : Int)) (-k) d (99 : Int) = none) ∧ (¬¬True → (0 : Int) ≤ d ∧ cd (-((10 : Int) ^ k.toNat + (1 : Int))) ≤ (1900 : Int) ∧ (beyB (-((10 : Int) ^ k.toNat + (1 : Int))) (-k) = false → ArcCond (-((10 : Int) ^ k.toNat + (1 : Int))) (-k) d) ∧ ((208 : Addr) = (201 : Addr) ∧ asV (-((10 : Int) ^ k.toNat + (1 : Int))) (-k) d (99 : Int) = none ∨ (208 : Addr) = (208 : Addr) ∧ acV (-((10 : Int) ^ k.toNat + (1 : Int))) (-k) d (99 : Int) = none)) ∧ (¬True ∨ ¬True → (false = true ↔ True)) ∧ (¬(¬True ∨ ¬True) → (true = true ↔ True)))) ∧ (¬(0 : Int) < k → (0 : Int) ≤ d ∧ cd (2 : Int) ≤ (1900 : Int) ∧ (beyB (2 : Int) (0 : Int) = false → ArcCond (2 : Int) (0 : Int) d) ∧ ((201 : Addr) = (201 : Addr) ∧ asV (2 : Int) (0 : Int) d (99 : Int) = none ∨ (201 : Addr) = (208 : Addr) ∧ acV (2 : Int) (0 : Int) d (99 : Int) = none) ∧ (¬¬True → (0 : Int) ≤ d ∧ cd (-2 : Int) ≤ (1900 : Int) ∧ (beyB (-2 : Int) (0 : Int) = false → ArcCond (-2 : Int) (0 : Int) d) ∧ ((201 : Addr) = (201 : Addr) ∧ asV (-2 : Int) (0 : Int) d (99 : Int) = none ∨ (201 : Addr) = (208 : Addr) ∧ acV (-2 : Int) (0 : Int) d (99 : Int) = none)) ∧ (¬True ∨ ¬True → (false = true ↔ True)) ∧ (¬(¬True ∨ ¬True) → (0 : Int) ≤ d ∧ cd (2 : Int) ≤ (1900 : Int) ∧ (beyB (2 : Int) (0 : Int) = false → ArcCond (2 : Int) (0 : Int) d) ∧ ((208 : Addr) = (201 : Addr) ∧ asV (2 : Int) (0 : Int) d (99 : Int) = none ∨ (208 : Addr) = (208 : Addr) ∧ acV (2 : Int) (0 : Int) d (99 : Int) = none) ∧ (¬¬True → (0 : Int) ≤ d ∧ cd (-2 : Int) ≤ (1900 : Int) ∧ (beyB (-2 : Int) (0 : Int) = false → ArcCond (-2 : Int) (0 : Int) d) ∧ ((208 : Addr) = (201 : Addr) ∧ asV (-2 : Int) (0 : Int) d (99 : Int) = none ∨ (208 : Addr) = (208 : Addr) ∧ acV (-2 : Int) (0 : Int) d (99 : Int) = none)) ∧ (¬True ∨ ¬True → (false = true ↔ True)) ∧ (¬(¬True ∨ ¬True) → (true = true ↔ True)))))) := by
  exact ⟨hO.k0, Int.le_trans hO.k1 (by decide), cd_half, hO.d0, sm_half, sm_small (by decide), cd_half5, hO.d0, hO.d0, hO.c1, hO.A1, gi hO.e1, fun _ => ⟨hO.d0, hO.c1n, hO.A1n, gi hO.e2⟩, nn2 (gfs hO.e1) (gfs hO.e2), fun _ => ⟨hO.d0, hO.c1, hO.A1, gi hO.e3, fun _ => ⟨hO.d0, hO.c1n, hO.A1n, gi hO.e4⟩, nn2 (gfs hO.e3) (gfs hO.e4), fun _ => ⟨fun p => ⟨hO.k0, Int.le_trans hO.k1 (by decide), hO.d0, hO.c2, hO.A2 p, .inl ⟨rfl, hO.b1 p⟩, fun _ => ⟨hO.d0, hO.c2n, hO.A2n p, .inl ⟨rfl, hO.b1n p⟩⟩, nn2 trivial trivial, fun _ => ⟨hO.d0, hO.c2, hO.A2 p, .inr ⟨rfl, hO.b2 p⟩, fun _ => ⟨hO.d0, hO.c2n, hO.A2n p, .inr ⟨rfl, hO.b2n p⟩⟩, nn2 trivial trivial, fun _ => tt⟩⟩, fun p => ⟨hO.d0, hO.c3, hO.A3, .inl ⟨rfl, hO.b3⟩, fun _ => ⟨hO.d0, hO.c3n, hO.A3n, .inl ⟨rfl, hO.b3n⟩⟩, nn2 trivial trivial, fun _ => ⟨hO.d0, hO.c3, hO.A3, .inr ⟨rfl, hO.b4⟩, fun _ => ⟨hO.d0, hO.c3n, hO.A3n, .inr ⟨rfl, hO.b4n⟩⟩, nn2 trivial trivial, fun _ => tt⟩⟩⟩⟩⟩
theorem law_angle_ok {w : World} {p : Program} {loose : List Str} {mean : ExcName → Option Value} {mg mb : Str → Option Value} (news : Led) (a1 a2 : Addr) (y v x u d a b a3 b3 : Int) (t1 : Tok) (hp : PairIn w news a1 y v) (hq : PairIn w news a2 x u) (hO : AngleOk y v x u d a b a3 b3) : CallOk w p loose mean mg mb 334 24 news [.ref a1, .ref a2, .int d t1] (BoolOut true) :=
  CallOk.true ((fn_ok (ann := []) (n := 60) (w := w) (news := news) (us := [.ref a1, .ref a2, .int d t1]) (vs := [.two y v, .two x u, .int d]) d_ang rfl (fcons f_at2 (fcons f_turned (fcons f_near (fcons f_size fnil)))) ⟨⟨a1, rfl, hp⟩, ⟨a2, rfl, hq⟩, ⟨t1, rfl⟩, trivial⟩ rfl (Eq.mp (by kernel_rfl) (v_ang y v x u d a b a3 b3 hO))).ok id)
theorem law_axes_ok {w : World} {p : Program} {loose : List Str} {mean : ExcName → Option Value} {mg mb : Str → Option Value} (news : Led) (a1 : Addr) (y v d : Int) (t1 : Tok) (hp : PairIn w news a1 y v) (hO : AxesOk y v d) : CallS0 w p loose mean mg mb 341 24 news [.ref a1, .int d t1] (BoolOut true) :=
  CallS0.true (fnS0_ok (ann := []) (n := 60) (w := w) (news := news) (us := [.ref a1, .int d t1]) (vs := [.two y v, .int d]) d_axe rfl (fcons f_even (fcons f_at2 (fcons f_turned fnil))) ⟨⟨a1, rfl, hp⟩, ⟨t1, rfl⟩, trivial⟩ rfl (fun h => h) (Eq.mp (by kernel_rfl) (v_axe y v d hO)))
theorem law_steps_ok {w : World} {p : Program} {loose : List Str} {mean : ExcName → Option Value} {mg mb : Str → Option Value} (news : Led) (a1 : Addr) (x y d top s1 s2 c1 c2 u1 u2 : Int) (t1 t2 : Tok) (hp : PairIn w news a1 x y) (hO : StepsOk x y d top s1 s2 c1 c2 u1 u2) : CallS0 w p loose mean mg mb 327 30 news [.ref a1, .int d t1, .int top t2] (BoolOut true) :=
  CallS0.true (fnS0_ok (ann := []) (n := 60) (w := w) (news := news) (us := [.ref a1, .int d t1, .int top t2]) (vs := [.two x y, .int d, .int top]) d_stp rfl (fcons f_lsh (fcons f_lch (fcons f_size (fcons f_th (fcons f_turned fnil))))) ⟨⟨a1, rfl, hp⟩, ⟨t1, rfl⟩, ⟨t2, rfl⟩, trivial⟩ rfl (fun h => h) (Eq.mp (by kernel_rfl) (v_stp x y d top s1 s2 c1 c2 u1 u2 hO)))
theorem law_ones_ok {w : World} {p : Program} {loose : List Str} {mean : ExcName → Option Value} {mg mb : Str → Option Value} (news : Led) (k d : Int) (t1 t2 : Tok) (hO : OnesOk k d) : CallS0 w p loose mean mg mb 348 30 news [.int k t1, .int d t2] (BoolOut true) :=
  CallS0.true (fnS0_ok (ann := []) (n := 60) (w := w) (news := news) (us := [.int k t1, .int d t2]) (vs := [.int k, .int d]) d_one rfl (fcons f_even (fcons f_as (fcons f_ac (fcons f_turned (fcons f_ref fnil))))) ⟨⟨t1, rfl⟩, ⟨t2, rfl⟩, trivial⟩ rfl (fun h => h) (Eq.mp (by kernel_rfl) (v_one k d hO)))
end Mine
end
section
open PySem PySem.W PyProof.Rows PySem.Calls
set_option maxRecDepth 100000
namespace Mine
/-! contracts in the walker's form -/
theorem al_nil : ∀ q ∈ ([] : List Prop), q := fun _ m => nomatch m
theorem al {a : Prop} {l : List Prop} (h : a) (t : ∀ q ∈ l, q) : ∀ q ∈ a :: l, q := fun q m => (List.mem_cons.mp m).elim (fun e => e ▸ h) (t q)
section
variable {w : World} {p : Program} {loose : List Str} {mean : ExcName → Option Value} {mg mb : Str → Option Value} {f : Addr} {sp : Spec} {vs : List V} {us : List Value} {S : List Prop} {news : Led}
theorem SpecOk.post {o : Out} {Post : Value → Led → Prop} (k : SpecOk f sp) (hv : sp.val vs = some (S, o)) (hd : sp.deep = false) (hS : ∀ q ∈ S, q) (hR : Reps w news us vs) (hb : ¬ OutBad o)
    (h : ∀ r tl, OutRep w (tl ++ news) r o → ∃ tl', Post r tl' ∧ ∀ q ∈ tl' ++ news, q ∈ tl ++ news) : CallOk w p loose mean mg mb f sp.cost news us Post := by
  intro dp un gd cn cs a ccd cl outer A₀ base h₀ L m s Q E B F X N T hk hd' hu hret
  exact ((k w p loose mean mg mb news vs us S o hv hS hR).1 hd) _ _ _ _ _ _ _ _ _ _ _ _ _ _ _ _ _ B F X N T hk hd' hu
    (fun r tl h' tk' F' N' P => let ⟨tl', P', k'⟩ := h r tl P; hret r tl' h' tk' F' (fun q hq => N' q (k' q hq)) P') fun _ _ _ _ _ _ z => (hb z).elim
theorem SpecOk.pairK {o : Option (Int × Int)} {a b : Int} (k : SpecOk f sp) (hv : sp.val vs = some (S, .pair o)) (hd : sp.deep = false) (hS : ∀ q ∈ S, q) (hR : Reps w news us vs) (e : o = some (a, b)) : CallOk w p loose mean mg mb f sp.cost news us (PairOut w a b news) :=
  k.post hv hd hS hR (fun z => nomatch e.symm.trans z) fun r tl ⟨x, y, e', R⟩ => by
    cases e.symm.trans e'
    exact ⟨tl, R, fun _ m => m⟩
theorem law_size_ok (news : Led) (n : Int) (t : Tok) : CallOk w p loose mean mg mb 278 2 news [.int n t] (IntOut (cd n)) :=
  k_size.post (vs := [.int n]) rfl rfl al_nil ⟨⟨t, rfl⟩, trivial⟩ id fun r tl R => ⟨[], ⟨rfl, R⟩, fun q m => List.mem_append_right _ m⟩
theorem law_even_ok (news : Led) (x y d : Int) (t1 t2 t3 : Tok) (hc : cd x ≤ 1900) (hd0 : 0 ≤ d) : CallOk w p loose mean mg mb 285 4 news [.int x t1, .int y t2, .int d t3] (EvenOut (evV x y d).1 (evV x y d).2) :=
  k_even.post (vs := [.int x, .int y, .int d]) rfl rfl (al hc (al hd0 al_nil)) ⟨⟨t1, rfl⟩, ⟨t2, rfl⟩, ⟨t3, rfl⟩, trivial⟩ id fun r tl ⟨a, o, e, m, P⟩ => ⟨[(a, o)], ⟨a, o, e, rfl, P⟩, fun q hq => (List.mem_cons.mp hq).elim (fun e => e ▸ m) fun hq => List.mem_append_right _ hq⟩
theorem near_known (news : Led) (a1 a2 : Addr) (x y u v d k : Int) (t1 t2 : Tok) (hp : PairIn w news a1 x y) (hq : PairIn w news a2 u v) (hN : NearOk x y u v d ∧ nearB x y u v d k = true) (hk : Sm k) :
    CallOk w p loose mean mg mb 299 4 news [.ref a1, .ref a2, .int d t1, .int k t2] (BoolOut true) :=
  k_near.post (vs := [.two x y, .two u v, .int d, .int k]) rfl rfl (al hN.1 (al hk al_nil)) ⟨⟨a1, rfl, hp⟩, ⟨a2, rfl, hq⟩, ⟨t1, rfl⟩, ⟨t2, rfl⟩, trivial⟩ id fun r tl ⟨b, e, hb⟩ => ⟨[], ⟨rfl, by rw [e, hb.mpr hN.2]⟩, fun q m => List.mem_append_right _ m⟩
theorem as_known (news : Led) (a1 : Addr) (x y d top a b : Int) (t1 t2 : Tok) (hp : PairIn w news a1 x y) (hd0 : 0 ≤ d) (hc : cd x ≤ 1900) (hA : beyB x y = false → ArcCond x y d) (h : asV x y d top = some (a, b)) :
    CallOk w p loose mean mg mb 201 16 news [.ref a1, .int d t1, .int top t2] (PairOut w a b news) := k_as.pairK (vs := [.two x y, .int d, .int top]) rfl rfl (al hd0 (al hc (al hA al_nil))) ⟨⟨a1, rfl, hp⟩, ⟨t1, rfl⟩, ⟨t2, rfl⟩, trivial⟩ h
theorem at_known (news : Led) (a1 : Addr) (x y d top a b : Int) (t1 t2 : Tok) (hp : PairIn w news a1 x y) (hO : At2Ok x y 1 0 d) (h : at2V x y 1 0 d top = some (a, b)) :
    CallOk w p loose mean mg mb 229 24 news [.ref a1, .int d t1, .int top t2] (PairOut w a b news) := k_at.pairK (vs := [.two x y, .int d, .int top]) rfl rfl (al hO al_nil) ⟨⟨a1, rfl, hp⟩, ⟨t1, rfl⟩, ⟨t2, rfl⟩, trivial⟩ h
theorem sh_known (news : Led) (a1 : Addr) (x y d top a b : Int) (t1 t2 : Tok) (hp : PairIn w news a1 x y) (hd0 : 0 ≤ d) (hc : cd x ≤ 1900) (hE : EpOk (absI x) y d) (h : shV x y d top = some (a, b)) :
    CallOk w p loose mean mg mb 250 16 news [.ref a1, .int d t1, .int top t2] (PairOut w a b news) := k_sh.pairK (vs := [.two x y, .int d, .int top]) rfl rfl (al hd0 (al hc (al hE al_nil))) ⟨⟨a1, rfl, hp⟩, ⟨t1, rfl⟩, ⟨t2, rfl⟩, trivial⟩ h
theorem ch_known (news : Led) (a1 : Addr) (x y d top a b : Int) (t1 t2 : Tok) (hp : PairIn w news a1 x y) (hd0 : 0 ≤ d) (hc : cd x ≤ 1900) (hE : EpOk (absI x) y d) (h : chV x y d top = some (a, b)) :
    CallOk w p loose mean mg mb 257 16 news [.ref a1, .int d t1, .int top t2] (PairOut w a b news) := k_ch.pairK (vs := [.two x y, .int d, .int top]) rfl rfl (al hd0 (al hc (al hE al_nil))) ⟨⟨a1, rfl, hp⟩, ⟨t1, rfl⟩, ⟨t2, rfl⟩, trivial⟩ h
theorem th_known (news : Led) (a1 : Addr) (x y d top a b : Int) (t1 t2 : Tok) (hp : PairIn w news a1 x y) (hd0 : 0 ≤ d) (hc : cd x ≤ 1900) (hE : EpOk (absI x) y d) (h : thV x y d top = some (a, b)) :
    CallOk w p loose mean mg mb 264 16 news [.ref a1, .int d t1, .int top t2] (PairOut w a b news) := k_th.pairK (vs := [.two x y, .int d, .int top]) rfl rfl (al hd0 (al hc (al hE al_nil))) ⟨⟨a1, rfl, hp⟩, ⟨t1, rfl⟩, ⟨t2, rfl⟩, trivial⟩ h
end
section
variable {prog : Program} {w w₀ : World} {A : Around} {E : Value → Shared → Prop} {s : Shared} {h₀ : Heap} {L a b : Addr} {m : Str → Option Value} {news news' news₂ : Led} {x y : Int}
theorem pair_eq_same {Q : Value → Shared → Prop} (P : PairIn w₀ news a x y) (P' : PairIn w₀ news₂ b x y) (X : (heapK w₀.params).In h₀) (F : Fr h₀ L s.heap m) (N : News h₀ L s.heap news') (hsub : ∀ p ∈ news, p ∈ news') (hsub' : ∀ p ∈ news₂, p ∈ news') (hu : A.units < cLine)
    (h : Q (.bool true) s) : wpAny (model prog w) A (compareOp .Eq (.ref a) (.ref b)) Q E s :=
  pair_eq P P' X F N hsub hsub' hu (by simpa using h)
end
end Mine
end
section
open Mine.FLx (ξ ν κ ζ δ η π ω)
open Mine.FCx (φ ψ θ ϑ Φ Ψ φn ψn θn ϑn Φn Ψn)
open PySem PySem.W PyProof.Rows PySem.Calls PyProof.Rows.LCg
set_option maxRecDepth 100000
namespace Mine
section
variable {w : World} {h₀ h : Heap} {L : Addr} {m : Str → Option Value}
theorem store_two {M : Model} {A : Around} {E : Value → Shared → Prop} {s : Shared} {cn : Str} {cs : Scope} {a : Addr} {ccd : Value} {cl : List (Str × Addr)} {nm : Str} {Q : Unit → Shared → Prop} {v : Value}
    {b1 b2 c2 c1 : Addr} {o1 o2 oc2 oc1 : Obj} {x y x' y' : Int} {v2 v1 : Option Value}
    (F : Fr h₀ L s.heap m) (N : News h₀ L s.heap [(b1, o1), (b2, o2), (c2, oc2), (c1, oc1)]) (E1 : PairE o1 x y) (E2 : PairE o2 x' y') (hd2 : oc2.data = .cell v2) (hd1 : oc1.data = .cell v1) (hne : c1 ≠ c2)
    (hc : cl.lookup nm = some c2)
    (h : ∀ h' oc', Fr h₀ L h' m → News h₀ L h' [(b1, o1), (b2, o2), (c2, oc'), (c1, oc1)] → oc'.data = .cell (some v) →
      PairIn w [(b1, o1), (b2, o2), (c2, oc'), (c1, oc1)] b1 x y → PairIn w [(b1, o1), (b2, o2), (c2, oc'), (c1, oc1)] b2 x' y' → Q () { s with heap := h' })
    (hk : cs.kind = .function := by rfl) (hx : (envX cn cs L a ccd cl).kindOf nm = some .cell := by rfl) : wpAny M A (storeName (envX cn cs L a ccd cl) nm v) Q E s := by
  have ne : ∀ (b : Addr) (o : Obj) (p q : Int), PairE o p q → (b, o) ∈ [(b1, o1), (b2, o2), (c2, oc2), (c1, oc1)] → b ≠ c2 := by
    rintro b o p q ⟨_, t, u, n, hd⟩ hm rfl
    have e1 := N.get hm
    have e2 := N.get (a := b) (o := oc2) (List.Mem.tail _ (List.Mem.tail _ (List.Mem.head _)))
    rw [e1] at e2
    cases e2
    rw [hd] at hd2; cases hd2
  have n1 := ne b1 o1 x y E1 (List.Mem.head _)
  have n2 := ne b2 o2 x' y' E2 (List.Mem.tail _ (List.Mem.head _))
  refine storeX_C (g := fun o' => [(b1, o1), (b2, o2), (c2, o'), (c1, oc1)]) F N hc ?_ hd2 (fun h' o' F' N' d' => h h' o' F' N' d' (E1.pin (List.Mem.head _)) (E2.pin (List.Mem.tail _ (List.Mem.head _)))) hk hx
  exact .tail n1 (.tail n2 (.head fun p hp => by rw [List.mem_singleton.mp hp]; exact hne))
end
section
variable {prog : Program} {w : World} {A : Around} {E : Value → Shared → Prop} {s : Shared} {h₀ : Heap} {L : Addr} {m : Str → Option Value} {env : Env}
noncomputable def NoEnd (h₀ : Heap) (L : Addr) (m : Str → Option Value) (s : Shared) (keep : Led) (ok : Bool) (s₂ : Shared) : Prop :=
  ok = false ∧ ∃ h' tk' led, s₂ = { s with heap := h', toks := tk' } ∧ Fr h₀ L h' m ∧ News h₀ L h' led ∧ ∀ p ∈ keep, p ∈ led
noncomputable def NoSrc (prog : Program) (w : World) (A : Around) (h₀ : Heap) (L : Addr) (m : Str → Option Value) (env : Env) (c : Expr) (x : Str) (scope : Scope) (cl : List (Str × Addr)) (Q : Value → Shared → Prop) (xv : Value) (s₁ : Shared) : Prop :=
  ∃ ax its k news, xv = .ref ax ∧ A.handled = none ∧ Fr h₀ L s₁.heap m ∧ News h₀ L s₁.heap news ∧ (ax, ({ cls := .type "list", data := .seq its k } : Obj)) ∈ news ∧
    (∀ v I oI C oC D m₂ h tk (E' : Value → Shared → Prop), v ∈ its.toList → NsObj oC m₂ → m₂ x = some v → Fr h₀ L h m → News h₀ L h ((I, oI) :: (C, oC) :: (D, lst []) :: news) →
      wpAny (model prog w) A (isTrue c (compEnvC scope cl C env) (eval c (compEnvC scope cl C env))) (NoEnd h₀ L m s₁ ((I, oI) :: (C, oC) :: (D, lst []) :: news)) E' { s₁ with heap := h, toks := tk }) ∧
    ∀ D h tk, Fr h₀ L h m → News h₀ L h ((D, lst []) :: news) → Q (.ref D) { s₁ with heap := h, toks := tk }
theorem NoEnd.intro {keep led : Led} {h' : Heap} {tk' : Nat} (F : Fr h₀ L h' m) (N : News h₀ L h' led) (sub : ∀ p ∈ keep, p ∈ led) : NoEnd h₀ L m s keep false { s with heap := h', toks := tk' } := ⟨rfl, h', tk', led, rfl, F, N, sub⟩
theorem NoSrc.intro {c : Expr} {x : Str} {scope : Scope} {cl : List (Str × Addr)} {Q : Value → Shared → Prop} {ax : Addr} {its : Array Value} {k : Nat} {news : Led}
    (hh : A.handled = none) (F : Fr h₀ L s.heap m) (N : News h₀ L s.heap news) (hm : (ax, ({ cls := .type "list", data := .seq its k } : Obj)) ∈ news)
    (turn : ∀ v I oI C oC D m₂ h tk (E' : Value → Shared → Prop), v ∈ its.toList → NsObj oC m₂ → m₂ x = some v → Fr h₀ L h m → News h₀ L h ((I, oI) :: (C, oC) :: (D, lst []) :: news) →
      wpAny (model prog w) A (isTrue c (compEnvC scope cl C env) (eval c (compEnvC scope cl C env))) (NoEnd h₀ L m s ((I, oI) :: (C, oC) :: (D, lst []) :: news)) E' { s with heap := h, toks := tk })
    (fin : ∀ D h tk, Fr h₀ L h m → News h₀ L h ((D, lst []) :: news) → Q (.ref D) { s with heap := h, toks := tk }) : NoSrc prog w A h₀ L m env c x scope cl Q (.ref ax) s :=
  ⟨ax, its, k, news, rfl, hh, F, N, hm, turn, fin⟩
theorem ListComp_no {elt iter c : Expr} {x : Str} {px : Pos} {scope : Scope} {cl : List (Str × Addr)} {pos : Pos} {Q : Value → Shared → Prop}
    (_F₀ : Fr h₀ L s.heap m) (hclos : closureFor scope env = pure cl) (hcell : ∀ y ∈ scope.names, y.2 ≠ .cell) (hkind : scope.kind = .function)
    (hnames : ∀ y ∈ scope.names, y.2 = .local → scope.names.lookup y.1 = some .local) (hx : scope.names.lookup x = some .local)
    (h : wpAny (model prog w) A (eval iter env) (NoSrc prog w A h₀ L m env c x scope cl Q) E s)
    (hs : ∀ x, foldedSetIterable iter env x = pure x := by intro _; rfl) :
    wpAny (model prog w) A (eval (.ListComp elt [⟨.Name x px, iter, [c], 0⟩] scope pos) env) Q E s := by
  rw [eval_ListComp]
  refine wpAny_comprehension_free (use := none) rfl hs hclos hkind hnames (wpAny_mono h (fun xv s₁ h₁ => ?_) fun _ _ e => e)
  obtain ⟨ax, its, k, news, rfl, hh, F, N, hm, turn, fin⟩ := h₁
  have hl : s₁.heap.IsList ax its := ⟨_, N.get hm, rfl, _, rfl⟩
  have hlt : ax < s₁.heap.objs.size := by obtain ⟨_, e, _⟩ := hl; exact Heap.lt_size e
  refine wpAny_pyIter_list hl ?_
  generalize hI : s₁.heap.objs.size = I at *
  have up : ∀ b o, s₁.heap.get? b = some o → (s₁.heap.push { cls := .type "list_iterator", data := .fields #[.ref ax, .int 0 0] }).get? b = some o := fun b o e => Heap.get?_push_of_some _ e
  have F₁ := F.keeps up
  have N₁ : News h₀ L (s₁.heap.push { cls := .type "list_iterator", data := .fields #[.ref ax, .int 0 0] }) news := N.grown up
  have hit₁ : (s₁.heap.push { cls := .type "list_iterator", data := .fields #[.ref ax, .int 0 0] }).IsListIter I ax 0 := ⟨_, hI ▸ Heap.get?_push_size _ rfl, rfl, rfl⟩
  have hI₀ : h₀.get? I = none := hI ▸ next_is_new F
  have hLI : L ≠ I := by rw [← hI]; exact Nat.ne_of_lt F.ns.lt
  have offI : ∀ p ∈ news, p.1 ≠ I := fun p hp => by rw [← hI]; exact Nat.ne_of_lt (Heap.lt_size (N p hp).1)
  have sz1 : (s₁.heap.push { cls := .type "list_iterator", data := .fields #[.ref ax, .int 0 0] }).objs.size = I + 1 := by rw [Heap.size_push, hI]
  generalize hH1 : s₁.heap.push { cls := .type "list_iterator", data := .fields #[.ref ax, .int 0 0] } = H1 at *
  refine wpAny_newObj_type (wpAny_newFunctionEnv hcell (by intro y hy; simp at hy) (fun h₁ hns₁ hsb₁ => ?_) hkind)
  dsimp only at hns₁ hsb₁ ⊢
  generalize hH2 : H1.push { cls := .type "list", dict := none, data := .seq ([] : List Value).toArray } = H2 at hns₁ hsb₁ ⊢
  have hC : H2.objs.size = I + 2 := by rw [← hH2, Heap.size_push, sz1]
  rw [sz1]
  have old : ∀ b o, H1.get? b = some o → h₁.get? b = some o := fun b o e => hsb₁.extBut b o (by rw [hC]; have := Heap.lt_size e; rw [sz1] at this; exact Nat.ne_of_lt (Nat.lt_succ_of_lt this)) (Heap.get?_push_of_some _ (hH2 ▸ Heap.get?_push_of_some _ e))
  have hacc : h₁.get? (I + 1) = some (lst []) := hsb₁.extBut _ _ (by rw [hC]; exact Nat.ne_of_lt (Nat.lt_succ_self _)) (Heap.get?_push_of_some _ (by rw [← hH2, ← sz1]; exact Heap.get?_push_size _ rfl))
  rw [hC] at hns₁ ⊢
  have fresh₀ : ∀ a, I + 1 ≤ a → h₀.get? a = none := fun a ha => by
    cases e : h₀.get? a with
    | none => rfl
    | some o' => exact absurd (Heap.lt_size (F₁.keep a o' e)) (by rw [sz1]; exact Nat.not_lt.mpr ha)
  have hD₀ := fresh₀ (I + 1) (Nat.le_refl _)
  have hC₀ := fresh₀ (I + 2) (Nat.le_succ _)
  have hLlt : @LT.lt Nat _ L I := by rw [← hI]; exact F.ns.lt
  have offlt : ∀ p ∈ news, @LT.lt Nat _ p.1 I := fun p hp => by rw [← hI]; exact Heap.lt_size (N p hp).1
  have nCL : @Ne Nat (I + 2) L := by exact fun hq => fn2 [] [_,_] 1 (ψn (ν 0) (ν 1)) 1 (θn (ζ (ν 1) (κ 2)) (ν 0)) yes hLlt hq
  have nDL : @Ne Nat (I + 1) L := by exact fun hq => fn2 [] [_,_] 1 (ψn (ν 0) (ν 1)) 1 (θn (ζ (ν 1) (κ 1)) (ν 0)) yes hLlt hq
  have nDI : @Ne Nat (I + 1) I := by exact fun hq => fn1 [] [_] 1 (θn (ζ (ν 0) (κ 1)) (ν 0)) yes hq
  have nDC : @Ne Nat (I + 1) (I + 2) := by exact fun hq => fn1 [] [_] 1 (ϑn (ζ (ν 0) (κ 1)) (ζ (ν 0) (κ 2))) yes hq
  have nIC : @Ne Nat I (I + 2) := by exact fun hq => fn1 [] [_] 1 (ϑn (ν 0) (ζ (ν 0) (κ 2))) yes hq
  have nCI : @Ne Nat (I + 2) I := by exact fun hq => fn1 [] [_] 1 (θn (ζ (ν 0) (κ 2)) (ν 0)) yes hq
  have offC : ∀ p ∈ news, @Ne Nat p.1 (I + 2) := fun p hp => by have := offlt p hp; exact fun hq => fn2 [] [_,_] 1 (ψn (ν 0) (ν 1)) 1 (ϑn (ν 0) (ζ (ν 1) (κ 2))) yes this hq
  have F₂ : Fr h₀ L h₁ m := F₁.keeps old
  have N₂ : News h₀ L h₁ ((I + 1, lst []) :: news) := fun p hp => by
    rcases List.mem_cons.mp hp with rfl | hp
    · exact ⟨hacc, nDL, hD₀⟩
    · exact ⟨old _ _ (N₁ p hp).1, (N₁ p hp).2⟩
  have hit₂ : h₁.IsListIter I ax 0 := hit₁.at fun o e => old _ _ e
  have loop : ∀ s₃ : Shared, (∃ tk, s₃ = { s₁ with heap := h₁, toks := tk }) →
      codeAny (model prog w) A (.compLoop (.ListComp elt [⟨.Name x px, iter, [c], 0⟩] scope pos) 0 (.ref I) (.ref (I + 1)) (compEnvC scope cl (I + 2) env))
        (compPost (model prog w) A E none Q (.ref (I + 1)) (I + 2)) s₃ := by
    rintro s₃ ⟨tk₀, rfl⟩
    refine codeAny_compLoop_tests
      (fun k s' => ∃ h' tk i m', s' = { s₁ with heap := h', toks := tk } ∧ i ≤ its.size ∧ k = its.size + 1 - i ∧ h'.IsListIter I ax i ∧ Fr h₀ L h' m ∧ h'.Ns (I + 2) m' ∧ News h₀ L h' ((I + 1, lst []) :: news)) ?_ (its.size + 1)
      ⟨h₁, tk₀, 0, _, rfl, Nat.zero_le _, rfl, hit₂, F₂, hns₁, N₂⟩
    rintro k s' ⟨h', tk, i, m', rfl, hi, rfl, hit', F', hn', N'⟩
    have hl' : h'.IsList ax its := ⟨_, N'.get (List.Mem.tail _ hm), rfl, _, rfl⟩
    by_cases hlt' : i < its.size
    · refine wpAny_pyNext_list_item hit' hl' (x := its[i]) (by simp [hlt']) fun h₂ hit₂ hs₂ => ?_
      have F₃ : Fr h₀ L h₂ m := fr_but F' (fun b o hb e => hs₂.extBut b o (by simpa using hb) e) hLI hI₀
      have hn₃ : h₂.Ns (I + 2) m' := hn'.at' fun o e => hs₂.extBut _ o nCI e
      have N₃ : News h₀ L h₂ ((I + 1, lst []) :: news) := news_but N' (fun b o hb e => hs₂.extBut b o (by simpa using hb) e) fun p hp => by
        rcases List.mem_cons.mp hp with rfl | hp
        · exact nDI
        · exact offI p hp
      refine wpAny_assign_Name (wpAny_storeName_local (lookup_relabel_local hx) hn₃ (fun h₃ hn₄ hs₃ => ?_) (by simp [compEnvC, relabel, hkind]))
      refine wpAny_tests_one ?_
      obtain ⟨oI, heI, hoI⟩ := hit₂
      have heI₃ : h₃.get? I = some oI := hs₃.extBut _ _ nIC heI
      obtain ⟨oC, heC, hoC⟩ := ns_obj hn₄
      have F₄ : Fr h₀ L h₃ m := F₃.change hs₃ nCL hC₀
      have N₄ : News h₀ L h₃ ((I, oI) :: (I + 2, oC) :: (I + 1, lst []) :: news) := fun p hp => by
        rcases List.mem_cons.mp hp with rfl | hp
        · exact ⟨heI₃, Ne.symm hLI, hI₀⟩
        · rcases List.mem_cons.mp hp with rfl | hp
          · exact ⟨heC, nCL, hC₀⟩
          · refine ⟨hs₃.extBut _ _ ?_ (N₃ p hp).1, (N₃ p hp).2⟩
            rcases List.mem_cons.mp hp with rfl | hp
            · exact nDC
            · exact offC p hp
      refine wpAny_mono (turn its[i] I oI (I + 2) oC (I + 1) _ h₃ _ _ (by simp) hoC (by simp) F₄ N₄) (fun ok s₄ h₄ => ?_) fun _ _ e => e
      obtain ⟨rfl, h₅, tk₅, led, rfl, F₅, N₅, sub⟩ := h₄
      rw [if_neg (by decide)]
      have g1 := (N₅ _ (sub (I, oI) (List.Mem.head _))).1
      have g2 := (N₅ _ (sub (I + 2, oC) (List.Mem.tail _ (List.Mem.head _)))).1
      exact ⟨its.size + 1 - (i + 1), by lia, h₅, tk₅, i + 1, _, rfl, hlt', rfl, ⟨oI, g1, hoI⟩, F₅, hoC.ns g2, fun p hp => N₅ p (sub p (List.Mem.tail _ (List.Mem.tail _ hp)))⟩
    · obtain rfl : i = its.size := Nat.le_antisymm hi (Nat.not_lt.mp hlt')
      refine wpAny_pyNext_list_end hh hit' hl' (by simp) fun h₂ hs₂ => ?_
      have F₃ : Fr h₀ L h₂ m := fr_but F' (fun b o hb e => hs₂ b o (by simpa using hb) e) hLI hI₀
      have hn₃ : h₂.Ns (I + 2) m' := hn'.at' fun o e => hs₂ _ o nCI e
      have N₃ : News h₀ L h₂ ((I + 1, lst []) :: news) := news_but N' (fun b o hb e => hs₂ b o (by simpa using hb) e) fun p hp => by
        rcases List.mem_cons.mp hp with rfl | hp
        · exact nDI
        · exact offI p hp
      refine ⟨m', hn₃, fun h'' hs'' => fin (I + 1) h'' _ (F₃.change hs'' nCL hC₀) (fun p hp => ?_)⟩
      refine ⟨hs''.extBut _ _ ?_ (N₃ p hp).1, (N₃ p hp).2⟩
      rcases List.mem_cons.mp hp with rfl | hp
      · exact nDC
      · exact offC p hp
  exact codeAny_compStart_list (loop _ ⟨_, rfl⟩) (wpAny_pyIter_listiter hit₂ (loop _ ⟨_, rfl⟩))
end
end Mine
end
section
open Mine.FLx (ξ ν κ ζ δ η π ω)
open Mine.FCx (φ ψ θ ϑ Φ Ψ φn ψn θn ϑn Φn Ψn)
open PySem PySem.W PyProof.Rows PySem.Calls
set_option maxRecDepth 100000
namespace Mine
noncomputable abbrev prg : Program := PySem.Challenge.rw_pf0124_01.row.prog
noncomputable def Jar (w : World) (o : Obj) (D : Addr) (k : Int) : Prop := ∃ t, o.IsDictOf (PySem.strKind prg w) [(Str.ofString "row", Value.ref D), (Str.ofString "at", Value.int k t)]
section
variable {w : World} {A : Around} {E : Value → Shared → Prop} {s : Shared} {h₀ : Heap} {L d D : Addr} {m : Str → Option Value} {news : Led} {o : Obj} {k : Int}
theorem jar_row {value slice : Expr} {t : Tok} {Q : Value → Shared → Prop} (N : News h₀ L s.heap news) (hm : (d, o) ∈ news) (J : Jar w o D k) (h : Q (.ref D) { s with toks := s.toks + 1 })
    (hs : subscripted slice false (.ref d) (.str (Str.ofString "row") t) = operate [.ref d, .str (Str.ofString "row") t] (getItem (.ref d) (.str (Str.ofString "row") t)) := by with_unfolding_all rfl)
    (hg : ∀ r, letTemporaryGo value (.ref d) r = pure () := by intro _; with_unfolding_all rfl) :
    wpAny (model prg w) A (subscriptTail value slice (.ref d) (.str (Str.ofString "row") t)) Q E s := by
  obtain ⟨u, J⟩ := J
  exact kda_item N hm J (strKind_is _ _ _ _) rfl h hs hg
theorem jar_at {value slice : Expr} {t : Tok} {Q : Value → Shared → Prop} (N : News h₀ L s.heap news) (hm : (d, o) ∈ news) (J : Jar w o D k) (h : ∀ u, Q (.int k u) { s with toks := s.toks + 1 })
    (hs : subscripted slice false (.ref d) (.str (Str.ofString "at") t) = operate [.ref d, .str (Str.ofString "at") t] (getItem (.ref d) (.str (Str.ofString "at") t)) := by with_unfolding_all rfl)
    (hg : ∀ r, letTemporaryGo value (.ref d) r = pure () := by intro _; with_unfolding_all rfl) :
    wpAny (model prg w) A (subscriptTail value slice (.ref d) (.str (Str.ofString "at") t)) Q E s := by
  obtain ⟨u, J⟩ := J
  exact kda_item N hm J (strKind_is _ _ _ _) rfl (h u) hs hg
theorem jar_get {t : Tok} {Q : Value → Shared → Prop} (N : News h₀ L s.heap news) (hm : (d, o) ∈ news) (J : Jar w o D k) (h : ∀ u, Q (.int k u) { s with toks := s.toks + 1 }) :
    wpAny (model prg w) A (getItem (.ref d) (.str (Str.ofString "at") t)) Q E s := by
  obtain ⟨u, J⟩ := J
  exact wpAny_getItem_of (strKind_is _ _ _ _) (kda_dict N hm J).mapOf rfl (h u)
theorem jar_set {t : Tok} {v : Int} {u : Tok} {rest : Led} {Q : Unit → Shared → Prop} (F : Fr h₀ L s.heap m) (N : News h₀ L s.heap ((d, o) :: rest)) (hr : ∀ p ∈ rest, p.1 ≠ d) (J : Jar w o D k)
    (h : ∀ h' o', Fr h₀ L h' m → News h₀ L h' ((d, o') :: rest) → Jar w o' D v → Q () { s with heap := h', toks := s.toks + 1 }) :
    wpAny (model prg w) A (setItem (.ref d) (.str (Str.ofString "at") t) (.int v u)) Q E s := by
  obtain ⟨u', J⟩ := J
  refine kda_set (g := fun o' => (d, o') :: rest) F N (.head hr) J (strKind_is _ _ _ _) (by rw [sizeLine_eq]; show 2 ≤ 16777216; decide) fun h' o' F' N' hd' => h h' o' F' N' ⟨u, ?_⟩
  have e : stored [(Str.ofString "row", Value.ref D), (Str.ofString "at", Value.int k u')] (Str.ofString "at") (.int v u) = [(Str.ofString "row", Value.ref D), (Str.ofString "at", Value.int v u)] := by
    unfold stored
    rfl
  rw [e] at hd'
  exact hd'
variable {ws : List Value} {ns : List Int}
theorem row_is (N : News h₀ L s.heap news) (hm : (D, W.listOf ws.toArray 0) ∈ news) : s.heap.IsList D ws.toArray := ⟨_, N.get hm, rfl, _, rfl⟩
theorem row_len {Q : Value → Shared → Prop} (N : News h₀ L s.heap news) (hm : (D, W.listOf ws.toArray 0) ∈ news) (hl : ws.length ≤ 20) (h : Q (.int ws.length (s.toks + 1)) { s with toks := s.toks + 1 + 1 }) :
    wpAny (model prg w) A (call (.builtin "len") [.ref D]) Q E s := by
  refine PyProof.Rows.len_list (row_is N hm) (by rw [List.size_toArray]; lia) ?_
  rw [List.size_toArray]; exact h
theorem row_item {value slice : Expr} {i : Int} {t : Tok} {Q : Value → Shared → Prop} (N : News h₀ L s.heap news) (hm : (D, W.listOf ws.toArray 0) ∈ news) (hI : IntsAre ws ns) (h0 : 0 ≤ i) (h1 : i < ws.length) (hl : ws.length ≤ 20) (h : ∀ a u, Q (.int a u) s)
    (hs : subscripted slice false (.ref D) (.int i t) = operate [.ref D, .int i t] (getItem (.ref D) (.int i t)) := by with_unfolding_all rfl) :
    wpAny (model prg w) A (subscriptTail value slice (.ref D) (.int i t)) Q E s := by
  have hlt : i.toNat < ws.length := by exact fk2 [_] [_,_] (ψn (ν 0) (ν 1)) 1 1 (ψ (ξ 0) (ν 1)) 1 (θ (ν 0) (ξ 0)) yes h1 (tn (a := i) (fk1 [_] [] (φ (κ 0) (ξ 0)) 1 1 (φ (κ 0) (ξ 0)) yes h0))
  obtain ⟨a, u, e, _⟩ := hI.at i.toNat (ws[i.toNat]) (by simp [hlt])
  have hL := row_is N hm
  exact tail_any hL.typeIs slot_list_getitem.lookup (wpAny_getItem_list hL h0 (by lia) (x := .int a u) (by rw [← e]; simp [hlt]) (h a u)) hs
end
noncomputable def CallJ (w : World) (p : Program) (loose : List Str) (mean : ExcName → Option Value) (mg mb : Str → Option Value) (D d : Addr) (ws : List Value) (k many : Int) (t1 : Tok) (o : Obj) (rest : Led) : Prop :=
  ∀ (dp un : Nat) (gd : Option (List Code)) (cn : Str) (cs : Scope) (a : Addr) (ccd : Value) (cl : List (Str × Addr)) (outer : List Env) (A₀ : Around) (base h₀ : Heap) (L : Addr) (m : Str → Option Value) (s : Shared) (Q E : Value → Shared → Prop),
    Below A₀ base outer h₀ → Fr h₀ L s.heap m → (heapK w.params).In h₀ → News h₀ L s.heap ((d, o) :: rest) → Top p loose mean mg mb h₀ → cs.kind = .function → dp + 4 < recursionLimit → un + 8 * 4 < cLine →
    (∀ r t o' h' tk', Fr h₀ L h' m → News h₀ L h' ((d, o') :: rest) → Jar w o' D (k + 1) → 0 ≤ r → r < many → Q (.int r t) { s with heap := h', toks := tk' }) →
    wpAny (model PySem.Challenge.rw_pf0124_01.row.prog w) (ktrTop dp un gd cn cs L a ccd cl outer) (call (.ref 271) [.ref d, .int many t1]) Q E s
theorem mod_lo {a b : Int} (h : 0 < b) : 0 ≤ a.fmod b := by rw [fmodP h]; exact Int.emod_nonneg _ (by exact fun hq => fn2 [_] [] 1 (ψ (κ 0) (ξ 0)) 1 (θ (ξ 0) (κ 0)) yes h hq)
theorem mod_hi {a b : Int} (h : 0 < b) : a.fmod b < b := by rw [fmodP h]; exact Int.emod_lt_of_pos _ h
end Mine
end
section
open PySem PySem.W PySem.Calls PyProof.Rows
set_option maxRecDepth 100000
namespace Mine
theorem lines_C20 : True := by
  k_with_none
  k_with "mine sub" => (intro p9 hp9; repeat (first | exact hp9 | apply List.mem_append_right | apply List.mem_cons_of_mem))
  k_with "subscriptTail Name Constant ref int" => (k_here; (with_reducible show wpAny _ _ (subscriptTail _ _ (Value.ref _) (Value.int 0 _)) _ _ _); k_dflt (refine' pair_item0 ?Pz2 ?Xz2 ?Fz2 ?Nz2 ?Sz2 ?_ ?hsz2); (case Pz2 => with_reducible assumption); (case Xz2 => with_reducible assumption); (case Fz2 => with_reducible assumption); (case Nz2 => with_reducible assumption); (case Sz2 => walk_at "mine sub"); (case hsz2 => with_unfolding_all rfl); k_whole; intro t9)
  k_with "subscriptTail Name Constant ref int" => (k_here; (with_reducible show wpAny _ _ (subscriptTail _ _ (Value.ref _) (Value.int 1 _)) _ _ _); k_dflt (refine' pair_item1 ?Pz3 ?Xz3 ?Fz3 ?Nz3 ?Sz3 ?_ ?hsz3); (case Pz3 => with_reducible assumption); (case Xz3 => with_reducible assumption); (case Fz3 => with_reducible assumption); (case Nz3 => with_reducible assumption); (case Sz3 => walk_at "mine sub"); (case hsz3 => with_unfolding_all rfl); k_whole; intro t9)
  k_with "newTuple cons" => (k_here; (with_reducible show wpAny _ _ (newTuple [Value.int _ _, Value.int _ _]) _ _ _); k_dflt (refine' newPair (w₀ := ‹World›) ?Fz4 ?Nz4 ?_); (case Fz4 => with_reducible assumption); (case Nz4 => with_reducible assumption); intro a9 o9 h9 F9 N9 P9; (try k_sweep))
  k_with "newTuple cons" => (k_here; (with_reducible show wpAny _ _ (newTuple [Value.int _ _, Value.int _ _, Value.int _ _]) _ _ _); k_dflt (refine' newTrip ?Fz5 ?Nz5 ?_); (case Fz5 => with_reducible assumption); (case Nz5 => with_reducible assumption); intro a9 o9 h9 F9 N9 P9; (try k_sweep))
  k_with "assign Tuple" => (k_here; k_dflt (refine' pair_unpack ?Pz6 ?Xz6 ?Fz6 ?Nz6 ?Sz6 ?az6 ?bz6 ?cz6 ?_); (case Pz6 => with_reducible assumption); (case Xz6 => with_reducible assumption); (case Fz6 => with_reducible assumption); (case Nz6 => with_reducible assumption); (case Sz6 => walk_at "mine sub"); (case az6 => exact rfl); (case bz6 => with_unfolding_all exact rfl); (case cz6 => with_unfolding_all exact rfl); k_whole; intro h9 t9 u9 F9 N9; (try k_sweep))
  k_with "assign Tuple" => (k_here; k_dflt (refine' trip_unpack ?Pz7 ?Fz7 ?Nz7 ?Sz7 ?az7 ?bz7 ?cz7 ?_); (case Pz7 => with_reducible assumption); (case Fz7 => with_reducible assumption); (case Nz7 => with_reducible assumption); (case Sz7 => walk_at "mine sub"); (case az7 => exact rfl); (case bz7 => with_unfolding_all exact rfl); (case cz7 => with_unfolding_all exact rfl); k_whole; intro h9 t9 u9 v9 F9 N9; (try k_sweep))
  k_with "unpackItems ref" => (k_here; k_dflt (refine' pair_unpackN ?Pz8 ?Xz8 ?Fz8 ?Nz8 ?Sz8 ?az8 ?bz8 ?_); (case Pz8 => with_reducible assumption); (case Xz8 => with_reducible assumption); (case Fz8 => with_reducible assumption); (case Nz8 => with_reducible assumption); (case Sz8 => walk_at "mine sub"); (case az8 => exact rfl); (case bz8 => with_unfolding_all exact rfl); intro h9 t9 u9 F9 N9; (try k_sweep))
  k_with "compareOp Eq ref ref" => (k_here; k_dflt (refine' pair_eq ?Pz9 ?P2z9 ?Xz9 ?Fz9 ?Nz9 ?Sz9 ?S2z9 ?Uz9 ?_); (case Pz9 => with_reducible assumption); (case P2z9 => with_reducible assumption); (case Xz9 => with_reducible assumption); (case Fz9 => with_reducible assumption); (case Nz9 => with_reducible assumption); (case Sz9 => walk_at "mine sub"); (case S2z9 => walk_at "mine sub"); (case Uz9 => ktr_units); k_whole)
  k_with "compareOp NotEq ref ref" => (k_here; k_dflt (refine' pair_ne ?Pz10 ?P2z10 ?Xz10 ?Fz10 ?Nz10 ?Sz10 ?S2z10 ?Uz10 ?_); (case Pz10 => with_reducible assumption); (case P2z10 => with_reducible assumption); (case Xz10 => with_reducible assumption); (case Fz10 => with_reducible assumption); (case Nz10 => with_reducible assumption); (case Sz10 => walk_at "mine sub"); (case S2z10 => walk_at "mine sub"); (case Uz10 => ktr_units); k_whole)
  k_with "mine sm" => first | with_reducible assumption | exact sm_pow (by omega) | exact sm_small (by omega) | exact Sm.abs (by with_reducible assumption) | k_dflt (k_extra "sm")
  k_with "mine ne" => first | with_reducible assumption | exact pow_ne10 _ | omega | k_dflt (k_extra "ne")
  k_with "binaryOp Mult int int" => (k_here; (with_reducible refine mul_sm ?az13 ?bz13 ?_); (case az13 => walk_at "mine sm"); (case bz13 => walk_at "mine sm"))
  k_with "binaryOp FloorDiv int int" => (k_here; (with_reducible refine floordiv_sm ?az14 ?bz14 ?_); (case az14 => walk_at "mine ne"); (case bz14 => walk_at "mine sm"))
  k_with "inplaceOp FloorDiv int int" => (k_here; (with_reducible refine ifloordiv_sm ?az15 ?bz15 ?_); (case az15 => walk_at "mine ne"); (case bz15 => walk_at "mine sm"))
  k_with "inplaceOp Mult int int" => (k_here; (with_reducible refine imul_sm ?az16 ?bz16 ?_); (case az16 => walk_at "mine sm"); (case bz16 => walk_at "mine sm"))
  k_with "binaryOp Pow int int" => (k_here; (with_reducible refine pow_int_small ?az17 ?bz17 ?cz17 ?_); (case az17 => k_dflt (first | omega | k_extra "pow")); (case bz17 => k_dflt (first | omega | k_extra "pow")); (case cz17 => decide))
  k_with "call builtin:divmod" => (k_here; k_dflt (refine' divmod_pair (w₀ := ‹World›) ?Fz18 ?Nz18 ?az18 ?bz18 ?_); (case Fz18 => with_reducible assumption); (case Nz18 => with_reducible assumption); (case az18 => walk_at "mine ne"); (case bz18 => walk_at "mine sm"); intro a9 o9 h9 tk9 F9 N9 P9; (try k_sweep))
  k_with "UnrEnd" => (k_dflt (refine' unrEnd_lt ?Fz19 ?Nz19 ?lz19 ?sz19 ?_); (case Fz19 => k_asm); (case Nz19 => k_asm); (case lz19 => with_reducible assumption); (case sz19 => walk_at "mine sub"))
  k_with "compareOp Eq ref ref" => (k_here; k_dflt (refine' pair_eq_same ?Pz20 ?P2z20 ?Xz20 ?Fz20 ?Nz20 ?Sz20 ?S2z20 ?Uz20 ?_); (case Pz20 => with_reducible assumption); (case P2z20 => with_reducible assumption); (case Xz20 => with_reducible assumption); (case Fz20 => with_reducible assumption); (case Nz20 => with_reducible assumption); (case Sz20 => walk_at "mine sub"); (case S2z20 => walk_at "mine sub"); (case Uz20 => ktr_units); k_whole)
  k_with "compareOp NotEq ref ref" => (k_here; k_dflt (refine' pair_ne_same ?Pz21 ?P2z21 ?Xz21 ?Fz21 ?Nz21 ?Sz21 ?S2z21 ?Uz21 ?_); (case Pz21 => with_reducible assumption); (case P2z21 => with_reducible assumption); (case Xz21 => with_reducible assumption); (case Fz21 => with_reducible assumption); (case Nz21 => with_reducible assumption); (case Sz21 => walk_at "mine sub"); (case S2z21 => walk_at "mine sub"); (case Uz21 => ktr_units); k_whole)
  k_with "newTuple cons" => (k_here; (with_reducible show wpAny _ _ (newTuple [Value.int _ _, Value.int _ _]) _ _ _); k_dflt (refine' newPairE (w₀ := ‹World›) ?Fz22 ?Nz22 ?_); (case Fz22 => with_reducible assumption); (case Nz22 => with_reducible assumption); intro a9 o9 h9 F9 N9 P9 E9; (try k_sweep))
  k_with "storeName" => (k_here; k_dflt (refine' store_two (w := ‹World›) ?Fz23 ?Nz23 ?E1z23 ?E2z23 ?d2z23 ?d1z23 ?nez23 ?cz23 ?_ ?az23 ?bz23; (case az23 => rfl); (case bz23 => rfl); (case Fz23 => k_asm); (case Nz23 => k_asm); (case E1z23 => with_reducible assumption); (case E2z23 => with_reducible assumption); (case d2z23 => k_asm); (case d1z23 => k_asm); (case nez23 => k_ne); (case cz23 => rfl); k_whole; intro h9 o9 F9 N9 d9 P9 P9b; (try k_sweep)))
  k_with "eval ListComp" => (k_here; k_dflt (refine' ListComp_no ?Fz24 ?az24 ?bz24 ?cz24 ?dz24 ?ez24 ?_; (case Fz24 => k_asm); (case az24 => with_unfolding_all rfl); (case bz24 => decide); (case cz24 => rfl); (case dz24 => decide); (case ez24 => rfl); k_whole))
  k_with "NoSrc" => (k_dflt (refine' NoSrc.intro ?az25 ?Fz25 ?Nz25 ?Mz25 ?_ ?_; (case az25 => with_unfolding_all rfl); (case Fz25 => k_asm); (case Nz25 => k_asm); (case Mz25 => walk_at "mine mem")); rotate_left 1; (intro D9 h9 tk9 F9 N9; (try k_sweep)); rotate_left 1; (intro v9 I9 oI9 C9 oC9 D9 m9 h9 tk9 E9 hv9 hC9 hx9 F9 N9; (simp only [List.mem_cons, List.not_mem_nil, or_false] at hv9); (rcases hv9 with e9 | e9 | e9 | e9) <;> (subst e9; (try k_sweep))))
  k_with "mine mem" => (repeat (first | exact List.Mem.head _ | apply List.mem_append_right | apply List.mem_cons_of_mem))
  k_with "NoEnd" => (k_dflt (refine' NoEnd.intro ?Fz27 ?Nz27 ?Sz27; (case Fz27 => k_asm); (case Nz27 => k_asm); (case Sz27 => walk_at "mine sub")))
  k_with "eval Name" => (k_here; (with_reducible show wpAny _ _ (eval (Expr.Name _ _) (compEnvC _ _ _ _)) _ _ _); k_dflt (first
      | ((with_reducible show wpAny _ _ (eval (Expr.Name (Str.ofString "one") _) _) _ _ _); refine' LCgL.ld_own ?Nz28 ?mz28 ?Cz28 ?xz28 ?_; (case Nz28 => k_asm); (case mz28 => walk_at "mine mem2"); (case Cz28 => with_reducible assumption); (case xz28 => with_reducible assumption); k_whole)
      | ((with_reducible show wpAny _ _ (eval (Expr.Name (Str.ofString "due") _) _) _ _ _); refine' kcf_cell ?Nz28 ?cz28 ?mz28 ?dz28 ?_ ?hkz28 ?hxz28 ?hbz28; (case Nz28 => k_asm); (case cz28 => exact rfl); (case mz28 => walk_at "mine mem2"); (case dz28 => with_reducible assumption); (case hkz28 => exact rfl); (case hxz28 => exact rfl); (case hbz28 => decide); k_whole)
      | ((with_reducible show wpAny _ _ (eval (Expr.Name (Str.ofString "digits") _) _) _ _ _); refine' kcf_cell ?Nz28 ?cz28 ?mz28 ?dz28 ?_ ?hkz28 ?hxz28 ?hbz28; (case Nz28 => k_asm); (case cz28 => exact rfl); (case mz28 => walk_at "mine mem2"); (case dz28 => k_asm); (case hkz28 => exact rfl); (case hxz28 => exact rfl); (case hbz28 => decide); k_whole)
      | ((with_reducible show wpAny _ _ (eval (Expr.Name (Str.ofString "_law_near") _) _) _ _ _); refine' LCgL.ld_global ?Fz28 ?Xz28 ?Tz28 ?ez28 ?_; (case Fz28 => k_asm); (case Xz28 => k_asm); (case Tz28 => k_asm); (case ez28 => k_is); k_whole)))
  k_with "eval Name" => (k_here; (with_reducible show wpAny _ _ (eval (Expr.Name (Str.ofString "digits") _) (envOfC _ _ _ _ _)) _ _ _); k_dflt (refine' nameX_C ?Nz29 ?cz29 ?mz29 ?dz29 ?_ ?az29 ?bz29; (case az29 => rfl); (case bz29 => rfl); (case Nz29 => k_asm); (case cz29 => rfl); (case mz29 => walk_at "mine mem2"); (case dz29 => k_asm); k_whole))
  k_with "mine mem2" => (repeat (first | with_reducible exact List.mem_cons_self | apply List.mem_append_right | apply List.mem_cons_of_mem))
  k_with "call ref" => (k_here; k_dflt (refine' CallOk.use (law_size_ok _ _ _) ?k1z31 ?k2z31 ?k3z31 ?k4z31 ?k5z31 ?k6z31 ?k7z31 ?k8z31 ?_; (case k1z31 => k_asm); (case k2z31 => k_asm); (case k3z31 => k_asm); (case k4z31 => k_asm); (case k5z31 => k_asm); (case k6z31 => first | exact rfl | assumption); (case k7z31 => ktr_room); (case k8z31 => ktr_units); intro r9 tl9 h9 tk9 F9 N9 P9; (obtain ⟨e9, t9, e9b⟩ := P9; subst e9; subst e9b; (simp only [List.nil_append] at N9)); (try dsimp only); (try k_fold); (try k_sweep)))
  k_with "call ref" => (k_here; k_dflt (refine' CallOk.use (near_known _ _ _ _ _ _ _ _ _ _ _ ?p0z32 ?p1z32 ?h0z32 ?h1z32) ?k1z32 ?k2z32 ?k3z32 ?k4z32 ?k5z32 ?k6z32 ?k7z32 ?k8z32 ?_; (case k1z32 => k_asm); (case k2z32 => k_asm); (case k3z32 => k_asm); (case k4z32 => k_asm); (case k5z32 => k_asm); (case p0z32 => exact PairIn.sub (by with_reducible assumption) (by walk_at "mine sub")); (case p1z32 => exact PairIn.sub (by with_reducible assumption) (by walk_at "mine sub")); (case h0z32 => exact (by k_extra "n")); (case h1z32 => exact (sm_small (by decide))); (case k6z32 => first | exact rfl | assumption); (case k7z32 => ktr_room); (case k8z32 => ktr_units); intro r9 tl9 h9 tk9 F9 N9 P9; (obtain ⟨e9, e9b⟩ := P9; subst e9; subst e9b; (simp only [List.nil_append] at N9)); (try dsimp only); (try k_fold); (try k_sweep)))
  k_with "call ref" => (k_here; k_dflt (refine' CallOk.use (law_even_ok _ _ _ _ _ _ _ ?h0z33 ?h1z33) ?k1z33 ?k2z33 ?k3z33 ?k4z33 ?k5z33 ?k6z33 ?k7z33 ?k8z33 ?_; (case k1z33 => k_asm); (case k2z33 => k_asm); (case k3z33 => k_asm); (case k4z33 => k_asm); (case k5z33 => k_asm); (case h0z33 => exact (by k_extra "evc")); (case h1z33 => exact (by k_extra "d0")); (case k6z33 => first | exact rfl | assumption); (case k7z33 => ktr_room); (case k8z33 => ktr_units); intro r9 tl9 h9 tk9 F9 N9 P9; (obtain ⟨a9, o9, e9, e9b, E9⟩ := P9; subst e9; subst e9b; (simp only [List.cons_append, List.nil_append] at N9); have P9 := PairE.pinN (w := ‹World›) E9 N9); (try dsimp only); (try k_fold); (try k_sweep)))
  k_with "call ref" => (k_here; k_dflt (refine' CallOk.use (as_known _ _ _ _ _ _ _ _ _ _ ?p0z34 ?h0z34 ?h1z34 ?h2z34 ?h3z34) ?k1z34 ?k2z34 ?k3z34 ?k4z34 ?k5z34 ?k6z34 ?k7z34 ?k8z34 ?_; (case k1z34 => k_asm); (case k2z34 => k_asm); (case k3z34 => k_asm); (case k4z34 => k_asm); (case k5z34 => k_asm); (case p0z34 => exact PairIn.sub (by with_reducible assumption) (by walk_at "mine sub")); (case h0z34 => exact (by k_extra "d0")); (case h1z34 => exact (by k_extra "cd")); (case h2z34 => exact (by k_extra "c3as")); (case h3z34 => exact (by k_extra "e")); (case k6z34 => first | exact rfl | assumption); (case k7z34 => ktr_room); (case k8z34 => ktr_units); intro r9 tl9 h9 tk9 F9 N9 P9; (obtain ⟨a9, e9b, P9⟩ := P9; subst e9b); (try dsimp only); (try k_fold); (try k_sweep)))
  k_with "call ref" => (k_here; k_dflt (refine' CallOk.use (sh_known _ _ _ _ _ _ _ _ _ _ ?p0z35 ?h0z35 ?h1z35 ?h2z35 ?h3z35) ?k1z35 ?k2z35 ?k3z35 ?k4z35 ?k5z35 ?k6z35 ?k7z35 ?k8z35 ?_; (case k1z35 => k_asm); (case k2z35 => k_asm); (case k3z35 => k_asm); (case k4z35 => k_asm); (case k5z35 => k_asm); (case p0z35 => exact PairIn.sub (by with_reducible assumption) (by walk_at "mine sub")); (case h0z35 => exact (by k_extra "d0")); (case h1z35 => exact (by k_extra "cd")); (case h2z35 => exact (by k_extra "c3sh")); (case h3z35 => exact (by k_extra "e")); (case k6z35 => first | exact rfl | assumption); (case k7z35 => ktr_room); (case k8z35 => ktr_units); intro r9 tl9 h9 tk9 F9 N9 P9; (obtain ⟨a9, e9b, P9⟩ := P9; subst e9b); (try dsimp only); (try k_fold); (try k_sweep)))
  k_with "call ref" => (k_here; k_dflt (refine' CallOk.use (ch_known _ _ _ _ _ _ _ _ _ _ ?p0z36 ?h0z36 ?h1z36 ?h2z36 ?h3z36) ?k1z36 ?k2z36 ?k3z36 ?k4z36 ?k5z36 ?k6z36 ?k7z36 ?k8z36 ?_; (case k1z36 => k_asm); (case k2z36 => k_asm); (case k3z36 => k_asm); (case k4z36 => k_asm); (case k5z36 => k_asm); (case p0z36 => exact PairIn.sub (by with_reducible assumption) (by walk_at "mine sub")); (case h0z36 => exact (by k_extra "d0")); (case h1z36 => exact (by k_extra "cd")); (case h2z36 => exact (by k_extra "c3ch")); (case h3z36 => exact (by k_extra "e")); (case k6z36 => first | exact rfl | assumption); (case k7z36 => ktr_room); (case k8z36 => ktr_units); intro r9 tl9 h9 tk9 F9 N9 P9; (obtain ⟨a9, e9b, P9⟩ := P9; subst e9b); (try dsimp only); (try k_fold); (try k_sweep)))
  k_with "call ref" => (k_here; k_dflt (refine' CallOk.use (th_known _ _ _ _ _ _ _ _ _ _ ?p0z37 ?h0z37 ?h1z37 ?h2z37 ?h3z37) ?k1z37 ?k2z37 ?k3z37 ?k4z37 ?k5z37 ?k6z37 ?k7z37 ?k8z37 ?_; (case k1z37 => k_asm); (case k2z37 => k_asm); (case k3z37 => k_asm); (case k4z37 => k_asm); (case k5z37 => k_asm); (case p0z37 => exact PairIn.sub (by with_reducible assumption) (by walk_at "mine sub")); (case h0z37 => exact (by k_extra "d0")); (case h1z37 => exact (by k_extra "cd")); (case h2z37 => exact (by k_extra "c3th")); (case h3z37 => exact (by k_extra "e")); (case k6z37 => first | exact rfl | assumption); (case k7z37 => ktr_room); (case k8z37 => ktr_units); intro r9 tl9 h9 tk9 F9 N9 P9; (obtain ⟨a9, e9b, P9⟩ := P9; subst e9b); (try dsimp only); (try k_fold); (try k_sweep)))
  k_with "call ref" => (k_here; k_dflt (refine' CallOk.use (at_known _ _ _ _ _ _ _ _ _ _ ?p0z38 ?h0z38 ?h1z38) ?k1z38 ?k2z38 ?k3z38 ?k4z38 ?k5z38 ?k6z38 ?k7z38 ?k8z38 ?_; (case k1z38 => k_asm); (case k2z38 => k_asm); (case k3z38 => k_asm); (case k4z38 => k_asm); (case k5z38 => k_asm); (case p0z38 => exact PairIn.sub (by with_reducible assumption) (by walk_at "mine sub")); (case h0z38 => exact (by k_extra "o")); (case h1z38 => exact (by k_extra "e")); (case k6z38 => first | exact rfl | assumption); (case k7z38 => ktr_room); (case k8z38 => ktr_units); intro r9 tl9 h9 tk9 F9 N9 P9; (obtain ⟨a9, e9b, P9⟩ := P9; subst e9b); (try dsimp only); (try k_fold); (try k_sweep)))
  trivial
set_option maxHeartbeats 2000000 in
theorem law_tiny_ok {w : World} {p : Program} {loose : List Str} {mean : ExcName → Option Value} {mg mb : Str → Option Value} (news : Led) (y d a1 b1 a2 b2 a3 b3 a4 b4 : Int) (t1 t2 : Tok) (hO : TinyOk y d a1 b1 a2 b2 a3 b3 a4 b4) :
    CallOk w p loose mean mg mb 353 30 [] [.int y t1, .int d t2] (BoolOut true) := by
  unfold CallOk
  k_fill
  intro dp un gd cn cs ac ccd cl outer A₀ base h₀ L m s Q E B F X N T hk hd hu hret
  k_with "o" => exact hO.O
  k_with "e" => first | exact hO.e1 | exact hO.e2 | exact hO.e3 | exact hO.e4 | exact hO.e5 | exact hO.e6
  k_with "evc" => exact hO.c0
  k_with "d0" => exact hO.d0
  k_with "cd" => first | exact hO.c0 | exact hO.c00
  k_with "c3as" => first | exact hO.A | exact hO.A0
  k_with "c3sh" => exact hO.E
  k_with "c3ch" => exact hO.E
  k_with "c3th" => exact hO.E
  k_with "n" => first | exact hO.n1 | exact hO.n2 | exact hO.n3 | exact hO.n4
  refine wpAny_call ?_
  k_dflt (refine' code_defC ?k1 ?k2 ?k3 ?k4 ?k5 ?kA ?kF ?kK ?k6 ?k7 ?k8 ?k9 ?kB ?kD ?_ ?c2 ?c3 ?c4; (case kA => exact rfl); (case kF => exact rfl); (case kK => assumption); (case k1 => k_asm); (case k2 => k_asm); (case k3 => k_asm); (case k4 => k_asm); (case k5 => k_asm); (case k6 => k_is); (case k7 => k_is); (case k8 => ktr_room); (case k9 => exact BindsTo.of_eq rfl); (case kB => exact rfl); (case kD => decide +kernel); (case c2 => exact rfl); (case c3 => exact rfl); (case c4 => exact rfl); k_whole; intro g' L' h' tk' cells' FG' F' N' Y' B' X' T' l1; (try k_lt l1); k_cells Y'; (try simp only [List.cons_append, List.nil_append] at N'); (try dsimp only); (try k_lift B'); (try k_fold))
  k_steps
  all_goals first
    | exact ret_boolG hret (by first | assumption | exact Eq.trans (by with_reducible assumption) (by with_reducible assumption)) (by first | assumption | exact Eq.trans (by with_reducible assumption) (by with_reducible assumption)) (by intro p9 hp9; repeat (first | exact hp9 | apply List.mem_append_right | apply List.mem_cons_of_mem)) rfl
end Mine
end
section
open PySem PySem.W PySem.Calls PyProof.Rows
set_option maxRecDepth 100000
namespace Mine
theorem lines_C23 : True := by
  k_with_none
  k_with "mine sub" => (intro p9 hp9; repeat (first | exact hp9 | apply List.mem_append_right | apply List.mem_cons_of_mem))
  k_with "subscriptTail Name Constant ref int" => (k_here; (with_reducible show wpAny _ _ (subscriptTail _ _ (Value.ref _) (Value.int 0 _)) _ _ _); k_dflt (refine' pair_item0 ?Pz2 ?Xz2 ?Fz2 ?Nz2 ?Sz2 ?_ ?hsz2); (case Pz2 => with_reducible assumption); (case Xz2 => with_reducible assumption); (case Fz2 => with_reducible assumption); (case Nz2 => with_reducible assumption); (case Sz2 => walk_at "mine sub"); (case hsz2 => with_unfolding_all rfl); k_whole; intro t9)
  k_with "subscriptTail Name Constant ref int" => (k_here; (with_reducible show wpAny _ _ (subscriptTail _ _ (Value.ref _) (Value.int 1 _)) _ _ _); k_dflt (refine' pair_item1 ?Pz3 ?Xz3 ?Fz3 ?Nz3 ?Sz3 ?_ ?hsz3); (case Pz3 => with_reducible assumption); (case Xz3 => with_reducible assumption); (case Fz3 => with_reducible assumption); (case Nz3 => with_reducible assumption); (case Sz3 => walk_at "mine sub"); (case hsz3 => with_unfolding_all rfl); k_whole; intro t9)
  k_with "newTuple cons" => (k_here; (with_reducible show wpAny _ _ (newTuple [Value.int _ _, Value.int _ _]) _ _ _); k_dflt (refine' newPair (w₀ := ‹World›) ?Fz4 ?Nz4 ?_); (case Fz4 => with_reducible assumption); (case Nz4 => with_reducible assumption); intro a9 o9 h9 F9 N9 P9; (try k_sweep))
  k_with "newTuple cons" => (k_here; (with_reducible show wpAny _ _ (newTuple [Value.int _ _, Value.int _ _, Value.int _ _]) _ _ _); k_dflt (refine' newTrip ?Fz5 ?Nz5 ?_); (case Fz5 => with_reducible assumption); (case Nz5 => with_reducible assumption); intro a9 o9 h9 F9 N9 P9; (try k_sweep))
  k_with "assign Tuple" => (k_here; k_dflt (refine' pair_unpack ?Pz6 ?Xz6 ?Fz6 ?Nz6 ?Sz6 ?az6 ?bz6 ?cz6 ?_); (case Pz6 => with_reducible assumption); (case Xz6 => with_reducible assumption); (case Fz6 => with_reducible assumption); (case Nz6 => with_reducible assumption); (case Sz6 => walk_at "mine sub"); (case az6 => exact rfl); (case bz6 => with_unfolding_all exact rfl); (case cz6 => with_unfolding_all exact rfl); k_whole; intro h9 t9 u9 F9 N9; (try k_sweep))
  k_with "assign Tuple" => (k_here; k_dflt (refine' trip_unpack ?Pz7 ?Fz7 ?Nz7 ?Sz7 ?az7 ?bz7 ?cz7 ?_); (case Pz7 => with_reducible assumption); (case Fz7 => with_reducible assumption); (case Nz7 => with_reducible assumption); (case Sz7 => walk_at "mine sub"); (case az7 => exact rfl); (case bz7 => with_unfolding_all exact rfl); (case cz7 => with_unfolding_all exact rfl); k_whole; intro h9 t9 u9 v9 F9 N9; (try k_sweep))
  k_with "unpackItems ref" => (k_here; k_dflt (refine' pair_unpackN ?Pz8 ?Xz8 ?Fz8 ?Nz8 ?Sz8 ?az8 ?bz8 ?_); (case Pz8 => with_reducible assumption); (case Xz8 => with_reducible assumption); (case Fz8 => with_reducible assumption); (case Nz8 => with_reducible assumption); (case Sz8 => walk_at "mine sub"); (case az8 => exact rfl); (case bz8 => with_unfolding_all exact rfl); intro h9 t9 u9 F9 N9; (try k_sweep))
  k_with "compareOp Eq ref ref" => (k_here; k_dflt (refine' pair_eq ?Pz9 ?P2z9 ?Xz9 ?Fz9 ?Nz9 ?Sz9 ?S2z9 ?Uz9 ?_); (case Pz9 => with_reducible assumption); (case P2z9 => with_reducible assumption); (case Xz9 => with_reducible assumption); (case Fz9 => with_reducible assumption); (case Nz9 => with_reducible assumption); (case Sz9 => walk_at "mine sub"); (case S2z9 => walk_at "mine sub"); (case Uz9 => ktr_units); k_whole)
  k_with "compareOp NotEq ref ref" => (k_here; k_dflt (refine' pair_ne ?Pz10 ?P2z10 ?Xz10 ?Fz10 ?Nz10 ?Sz10 ?S2z10 ?Uz10 ?_); (case Pz10 => with_reducible assumption); (case P2z10 => with_reducible assumption); (case Xz10 => with_reducible assumption); (case Fz10 => with_reducible assumption); (case Nz10 => with_reducible assumption); (case Sz10 => walk_at "mine sub"); (case S2z10 => walk_at "mine sub"); (case Uz10 => ktr_units); k_whole)
  k_with "mine sm" => first | with_reducible assumption | exact sm_pow (by omega) | exact sm_small (by omega) | exact Sm.abs (by with_reducible assumption) | k_dflt (k_extra "sm")
  k_with "mine ne" => first | with_reducible assumption | exact pow_ne10 _ | omega | k_dflt (k_extra "ne")
  k_with "binaryOp Mult int int" => (k_here; (with_reducible refine mul_sm ?az13 ?bz13 ?_); (case az13 => walk_at "mine sm"); (case bz13 => walk_at "mine sm"))
  k_with "binaryOp FloorDiv int int" => (k_here; (with_reducible refine floordiv_sm ?az14 ?bz14 ?_); (case az14 => walk_at "mine ne"); (case bz14 => walk_at "mine sm"))
  k_with "inplaceOp FloorDiv int int" => (k_here; (with_reducible refine ifloordiv_sm ?az15 ?bz15 ?_); (case az15 => walk_at "mine ne"); (case bz15 => walk_at "mine sm"))
  k_with "inplaceOp Mult int int" => (k_here; (with_reducible refine imul_sm ?az16 ?bz16 ?_); (case az16 => walk_at "mine sm"); (case bz16 => walk_at "mine sm"))
  k_with "binaryOp Pow int int" => (k_here; (with_reducible refine pow_int_small ?az17 ?bz17 ?cz17 ?_); (case az17 => k_dflt (first | omega | k_extra "pow")); (case bz17 => k_dflt (first | omega | k_extra "pow")); (case cz17 => decide))
  k_with "call builtin:divmod" => (k_here; k_dflt (refine' divmod_pair (w₀ := ‹World›) ?Fz18 ?Nz18 ?az18 ?bz18 ?_); (case Fz18 => with_reducible assumption); (case Nz18 => with_reducible assumption); (case az18 => walk_at "mine ne"); (case bz18 => walk_at "mine sm"); intro a9 o9 h9 tk9 F9 N9 P9; (try k_sweep))
  k_with "UnrEnd" => (k_dflt (refine' unrEnd_lt ?Fz19 ?Nz19 ?lz19 ?sz19 ?_); (case Fz19 => k_asm); (case Nz19 => k_asm); (case lz19 => with_reducible assumption); (case sz19 => walk_at "mine sub"))
  k_with "subscriptTail Name Constant ref str" => (k_here; k_dflt (first
      | ((with_reducible show wpAny _ _ (subscriptTail _ _ (Value.ref _) (Value.str (Str.ofString "row") _)) _ _ _); refine' jar_row ?Nz20 ?Mz20 ?Jz20 ?_; (case Nz20 => k_asm); (case Mz20 => exact List.mem_cons_self); (case Jz20 => with_reducible assumption); k_whole)
      | ((with_reducible show wpAny _ _ (subscriptTail _ _ (Value.ref _) (Value.str (Str.ofString "at") _)) _ _ _); refine' jar_at ?Nz20 ?Mz20 ?Jz20 ?_; (case Nz20 => k_asm); (case Mz20 => exact List.mem_cons_self); (case Jz20 => with_reducible assumption); k_whole; intro u9)))
  k_with "getItem ref str" => (k_here; k_dflt (refine' jar_get ?Nz21 ?Mz21 ?Jz21 ?_; (case Nz21 => k_asm); (case Mz21 => exact List.mem_cons_self); (case Jz21 => with_reducible assumption); k_whole; intro u9))
  k_with "setItem ref str" => (k_here; k_dflt (refine' jar_set ?Fz22 ?Nz22 ?Rz22 ?Jz22 ?_; (case Fz22 => k_asm); (case Nz22 => k_asm); (case Rz22 => with_reducible assumption); (case Jz22 => with_reducible assumption); k_whole; intro h9 o9 F9 N9 J9; (try k_sweep)))
  k_with "call builtin:len" => (k_here; k_dflt (refine' row_len ?Nz23 ?Mz23 ?lz23 ?_; (case Nz23 => k_asm); (case Mz23 => exact List.mem_cons_of_mem _ (by with_reducible assumption)); (case lz23 => with_reducible assumption); k_whole))
  k_with "subscriptTail" => (k_here; (with_reducible show wpAny _ _ (subscriptTail _ _ (Value.ref _) (Value.int _ _)) _ _ _); k_dflt (refine' row_item ?Nz24 ?Mz24 ?Iz24 ?az24 ?bz24 ?lz24 ?_; (case Nz24 => k_asm); (case Mz24 => exact List.mem_cons_of_mem _ (by with_reducible assumption)); (case Iz24 => with_reducible assumption); (case az24 => omega); (case bz24 => omega); (case lz24 => with_reducible assumption); k_whole; intro a9 u9))
  trivial
set_option maxHeartbeats 1000000 in
theorem law_of_ok {w : World} {p : Program} {loose : List Str} {mean : ExcName → Option Value} {mg mb : Str → Option Value} (D d : Addr) (ws : List Value) (ns : List Int) (k many : Int) (t1 : Tok) (o : Obj) (rest : Led)
    (hI : IntsAre ws ns) (hl : ws.length ≤ 20) (hk0 : 0 ≤ k) (hk1 : k ≤ 1000) (hm0 : 0 < many) (hm1 : many ≤ 100000) (hJ : Jar w o D k) (hM : (D, W.listOf ws.toArray 0) ∈ rest) (hR : ∀ p ∈ rest, p.1 ≠ d) :
    CallJ w p loose mean mg mb D d ws k many t1 o rest := by
  unfold CallJ
  k_fill
  intro dp un gd cn cs ac ccd cl outer A₀ base h₀ L m s Q E B F X N T hk hd hu hret
  k_with "sm" => exact sm_small (by omega)
  k_with "ne" => omega
  refine wpAny_call ?_
  k_dflt ktr_enter
  k_steps
  all_goals first
    | exact hret _ _ _ _ _ (by assumption) (by assumption) (by assumption) (mod_lo hm0) (mod_hi hm0)
end Mine
end
section
open Mine.FLx (ξ ν κ ζ δ η π ω)
open Mine.FCx (φ ψ θ ϑ Φ Ψ φn ψn θn ϑn Φn Ψn)
namespace Mine
/-! plain law: strip and rounding -/
theorem strip_spec : ∀ (n : Nat) (m e : Int), m.natAbs ≤ n → m ≠ 0 → ∃ k : Nat, (strip m e).2 = e + k ∧ m = (strip m e).1 * 10 ^ k ∧ (strip m e).1 ≠ 0 := by
  intro n
  induction n with
  | zero => intro m e h h0; omega
  | succ n ih =>
    intro m e h h0
    by_cases h2 : m % 10 = 0
    · obtain ⟨k, a, b, c⟩ := ih (m / 10) (e + 1) (by lia) (by lia)
      rw [strip_step h0 h2]
      refine ⟨k + 1, by exact Int.le_antisymm (fk1 [_,_] [_] (φ (ξ 0) (ζ (ξ 1) (ζ (ν 0) (κ 1)))) 1 1 (θ (ξ 0) (ζ (ζ (ξ 1) (κ 1)) (ν 0))) yes a) (fk1 [_,_] [_] (φ (ζ (ξ 0) (ζ (ν 0) (κ 1))) (ξ 1)) 1 1 (ϑ (ξ 1) (ζ (ζ (ξ 0) (κ 1)) (ν 0))) yes a), ?_, c⟩
      rw [Int.pow_succ, ← Int.mul_assoc, ← b]; lia
    · rw [strip_stop h2]; exact ⟨0, by simp, by simp, h0⟩
theorem strip_neg : ∀ (n : Nat) (m e : Int), m.natAbs ≤ n → strip (-m) e = (-(strip m e).1, (strip m e).2) := by
  intro n
  induction n with
  | zero => intro m e h; have : m = 0 := by lia
            subst this; rfl
  | succ n ih =>
    intro m e h
    by_cases h0 : m = 0
    · subst h0; rfl
    by_cases h2 : m % 10 = 0
    · rw [strip_step h0 h2, strip_step (m := -m) (by lia) (by lia)]
      have : -m / 10 = -(m / 10) := by lia
      rw [this]; exact ih _ _ (by lia)
    · rw [strip_stop h2, strip_stop (m := -m) (by lia)]
theorem absI_neg (x : Int) : absI (-x) = absI x := by unfold absI; split <;> split <;> lia
theorem absI_of_nn {x : Int} (h : 0 ≤ x) : absI x = x := by unfold absI; split <;> lia
theorem rd_neg' {x y d : Int} (h : 0 < x) : rd (-x) y d = (-(rd x y d).1, (rd x y d).2) := by
  unfold rd
  rw [cd_neg, absI_neg]
  split
  · rw [if_neg (by exact fk1 [_] [] (Ψ (κ 0) (η (ξ 0))) 1 1 (ψ (κ 0) (ξ 0)) yes h : ¬ 0 < -x)]; exact strip_neg _ _ _ (Nat.le_refl _)
  · exact strip_neg _ _ _ (Nat.le_refl _)
theorem rr_neg' {x y d top : Int} (h : 0 < x) {a b : Int} (k : rr x y d top = some (a, b)) : rr (-x) y d top = some (-a, b) := by
  unfold rr at *
  rw [rd_neg' h]
  dsimp only
  rw [cd_neg]
  split at k
  · rename_i q
    rw [if_pos (by lia)]
    cases k; rfl
  · rename_i q
    rw [if_neg (by lia)]
    split at k
    · cases k
    · rename_i r
      rw [if_neg r]
      cases h : rd x y d with
      | mk u v => rw [h] at k; cases k; rfl
noncomputable def unitI (x d : Int) : Int := 10 ^ (cd x - d).toNat
theorem pow_dg_leI {x : Int} (h : 0 < x) : (10 : Int) ^ (cd x - 1).toNat ≤ x := by
  have := pow_dg_le x.natAbs (by omega)
  have e : (cd x - 1).toNat = dg x.natAbs - 1 := by unfold cd; lia
  rw [e, pow10_nat]; lia
theorem lt_pow_cdI {x : Int} (h : 0 ≤ x) : x < (10 : Int) ^ (cd x).toNat := by
  have := lt_pow_dg x.natAbs
  have e : (cd x).toNat = dg x.natAbs := by unfold cd; lia
  rw [e, pow10_nat]; lia
theorem cd_le {x : Int} {k : Nat} (h0 : 0 ≤ x) (h : x < 10 ^ k) : cd x ≤ k := by
  have : dg x.natAbs ≤ k := dg_le (by rw [pow10_nat] at h; lia)
  unfold cd; exact fk1 [] [_,_] (φ (ν 0) (ν 1)) 1 1 (φn (ν 0) (ν 1)) yes this
theorem le_cd {x : Int} {k : Nat} (h : (10 : Int) ^ k ≤ x) : k + 1 ≤ cd x := by
  have : k + 1 ≤ dg x.natAbs := le_dg (by rw [pow10_nat] at h; lia)
  unfold cd; exact fk1 [] [_,_] (φ (ζ (ν 0) (κ 1)) (ν 1)) 1 1 (φn (ζ (ν 0) (κ 1)) (ν 1)) yes this
theorem cd_eqI {x : Int} {k : Nat} (h : (10 : Int) ^ k ≤ x) (h2 : x < 10 ^ (k + 1)) : cd x = k + 1 := by
  have := le_cd h; have := cd_le (by have := pow_pos10 k; exact fk2 [_,_] [] (φ (κ 0) (ξ 0)) 1 1 (φ (ξ 1) (ξ 0)) 1 (ψ (κ 0) (ξ 1)) yes h this) h2; lia
theorem cd_mul_pow {x : Int} (k : Nat) (h : x ≠ 0) : cd (x * 10 ^ k) = cd x + k := by
  unfold cd
  rw [Int.natAbs_mul, Int.natAbs_pow]
  have : (10 : Int).natAbs = 10 := rfl
  rw [this, dg_mul_pow k (by lia)]; exact Int.le_antisymm (fk0 [] [_,_] (φ (ζ (ν 0) (ν 1)) (ζ (ν 0) (ν 1))) 1  yes ) (fk0 [] [_,_] (φ (ζ (ν 0) (ν 1)) (ζ (ν 0) (ν 1))) 1  yes )
theorem cd_monoI {a b : Int} (h0 : 0 ≤ a) (h : a ≤ b) : cd a ≤ cd b := by
  unfold cd; have := dg_mono (a := a.natAbs) (b := b.natAbs) (by lia); exact fk1 [] [_,_] (φ (ν 0) (ν 1)) 1 1 (φn (ν 0) (ν 1)) yes this
theorem pow_addI (a b : Nat) : (10 : Int) ^ (a + b) = 10 ^ a * 10 ^ b := Int.pow_add ..
theorem rd_spec {x y d : Int} (hx : 0 < x) (hd : 1 ≤ d) : ∃ j : Nat, (rd x y d).2 = y + j ∧ 0 < (rd x y d).1 ∧
    2 * ((rd x y d).1 * 10 ^ j - x) ≤ unitI x d ∧ 2 * (x - (rd x y d).1 * 10 ^ j) ≤ unitI x d ∧
    (rd x y d).1 * 10 ^ j ≤ 10 ^ (cd x).toNat ∧ 10 ^ (cd x - 1).toNat ≤ (rd x y d).1 * 10 ^ j ∧ (∃ q, (rd x y d).1 * 10 ^ j = q * unitI x d) ∧ (cd x ≤ d → (rd x y d).1 * 10 ^ j = x) := by
  have c1 := cd_pos (x := x) (by exact fun hq => fn2 [_] [] 1 (ψ (κ 0) (ξ 0)) 1 (θ (ξ 0) (κ 0)) yes hx hq)
  have hlo := pow_dg_leI hx
  have hhi := lt_pow_cdI (x := x) (by exact fk1 [_] [] (φ (κ 0) (ξ 0)) 1 1 (ψ (κ 0) (ξ 0)) yes hx)
  by_cases hD : 0 < cd x - d
  · have e : rd x y d = strip (rdP (10 ^ (cd x - d).toNat) x) (y + (cd x - d)) := by
      unfold rd; rw [if_pos hD, if_pos hx, absI_of_nn (by exact fk1 [_] [] (φ (κ 0) (ξ 0)) 1 1 (ψ (κ 0) (ξ 0)) yes hx)]
    have eC : (cd x).toNat = d.toNat + (cd x - d).toNat := by exact Nat.le_antisymm (fk3 [_,_] [_,_,_] (φn (ν 0) (ζ (ν 1) (ν 2))) 1 1 (θ (ν 0) (ξ 0)) 1 (ϑ (ν 1) (ξ 1)) 1 (ϑ (ν 2) (δ (ξ 0) (ξ 1))) yes (tn (a := cd x) (fk1 [_] [] (φ (κ 0) (ξ 0)) 1 1 (φ (κ 1) (ξ 0)) yes c1)) (tn (a := d) (fk1 [_] [] (φ (κ 0) (ξ 0)) 1 1 (φ (κ 1) (ξ 0)) yes hd)) (tn (a := cd x - d) (fk1 [_,_] [] (φ (κ 0) (δ (ξ 0) (ξ 1))) 1 1 (ψ (κ 0) (δ (ξ 0) (ξ 1))) yes hD))) (fk3 [_,_] [_,_,_] (φn (ζ (ν 0) (ν 1)) (ν 2)) 1 1 (ϑ (ν 2) (ξ 0)) 1 (θ (ν 0) (ξ 1)) 1 (θ (ν 1) (δ (ξ 0) (ξ 1))) yes (tn (a := cd x) (fk1 [_] [] (φ (κ 0) (ξ 0)) 1 1 (φ (κ 1) (ξ 0)) yes c1)) (tn (a := d) (fk1 [_] [] (φ (κ 0) (ξ 0)) 1 1 (φ (κ 1) (ξ 0)) yes hd)) (tn (a := cd x - d) (fk1 [_,_] [] (φ (κ 0) (δ (ξ 0) (ξ 1))) 1 1 (ψ (κ 0) (δ (ξ 0) (ξ 1))) yes hD)))
    have eC1 : (cd x - 1).toNat = (d - 1).toNat + (cd x - d).toNat := by exact Nat.le_antisymm (fk3 [_,_] [_,_,_] (φn (ν 0) (ζ (ν 1) (ν 2))) 1 1 (ϑ (ν 2) (δ (ξ 0) (ξ 1))) 1 (θ (ν 0) (δ (ξ 0) (κ 1))) 1 (ϑ (ν 1) (δ (ξ 1) (κ 1))) yes (tn (a := cd x - d) (fk1 [_,_] [] (φ (κ 0) (δ (ξ 0) (ξ 1))) 1 1 (ψ (κ 0) (δ (ξ 0) (ξ 1))) yes hD)) (tn (a := cd x - 1) (fk1 [_] [] (φ (κ 0) (δ (ξ 0) (κ 1))) 1 1 (φ (κ 1) (ξ 0)) yes c1)) (tn (a := d - 1) (fk1 [_] [] (φ (κ 0) (δ (ξ 0) (κ 1))) 1 1 (φ (κ 1) (ξ 0)) yes hd))) (fk3 [_,_] [_,_,_] (φn (ζ (ν 0) (ν 1)) (ν 2)) 1 1 (θ (ν 1) (δ (ξ 0) (ξ 1))) 1 (ϑ (ν 2) (δ (ξ 0) (κ 1))) 1 (θ (ν 0) (δ (ξ 1) (κ 1))) yes (tn (a := cd x - d) (fk1 [_,_] [] (φ (κ 0) (δ (ξ 0) (ξ 1))) 1 1 (ψ (κ 0) (δ (ξ 0) (ξ 1))) yes hD)) (tn (a := cd x - 1) (fk1 [_] [] (φ (κ 0) (δ (ξ 0) (κ 1))) 1 1 (φ (κ 1) (ξ 0)) yes c1)) (tn (a := d - 1) (fk1 [_] [] (φ (κ 0) (δ (ξ 0) (κ 1))) 1 1 (φ (κ 1) (ξ 0)) yes hd)))
    rw [eC1, pow_addI] at hlo
    rw [eC, pow_addI] at hhi
    rw [e, eC, eC1, pow_addI, pow_addI]
    unfold unitI
    have hP := pow_pos10 (cd x - d).toNat
    have hA := pow_pos10 (d - 1).toNat
    have hjj : (((cd x - d).toNat : Nat) : Int) = cd x - d := by exact Int.le_antisymm (fk1 [_,_] [_] (φ (ν 0) (δ (ξ 0) (ξ 1))) 1 1 (θ (ν 0) (δ (ξ 0) (ξ 1))) yes (tn (a := cd x - d) (fk1 [_,_] [] (φ (κ 0) (δ (ξ 0) (ξ 1))) 1 1 (ψ (κ 0) (δ (ξ 0) (ξ 1))) yes hD))) (fk1 [_,_] [_] (φ (δ (ξ 0) (ξ 1)) (ν 0)) 1 1 (ϑ (ν 0) (δ (ξ 0) (ξ 1))) yes (tn (a := cd x - d) (fk1 [_,_] [] (φ (κ 0) (δ (ξ 0) (ξ 1))) 1 1 (ψ (κ 0) (δ (ξ 0) (ξ 1))) yes hD)))
    generalize hj : (cd x - d).toNat = D at *
    generalize hPe : (10 : Int) ^ D = P at *
    generalize (10 : Int) ^ (d - 1).toNat = A at *
    generalize (10 : Int) ^ d.toNat = B at *
    have m1 := Int.ediv_mul_add_emod x P
    have m2 := Int.emod_nonneg x (by exact fun hq => fn2 [_] [] 1 (ψ (κ 0) (ξ 0)) 1 (θ (ξ 0) (κ 0)) yes hP hq : P ≠ 0)
    have m3 := Int.emod_lt_of_pos x hP
    have hK : rdP P x = x / P ∧ 2 * (x % P) ≤ P ∨ rdP P x = x / P + 1 ∧ P ≤ 2 * (x % P) := by
      unfold rdP
      rw [fdivP hP, fmodP hP]
      split
      · right; refine ⟨rfl, ?_⟩; lia
      · left; refine ⟨rfl, ?_⟩; lia
    have q1 : A ≤ x / P := by
      rw [Int.le_ediv_iff_mul_le hP]; exact hlo
    have q2 : x / P < B := by
      rw [Int.ediv_lt_iff_lt_mul hP]; exact hhi
    generalize hq : x / P = q at *
    generalize hr : x % P = r at *
    generalize hKe : rdP P x = K at *
    have hK0 : A ≤ K ∧ K ≤ B := by lia
    obtain ⟨k, s1, s2, s3⟩ := strip_spec _ K (y + (cd x - d)) (Nat.le_refl _) (by exact fun hq => fn3 [_,_] [] 1 (ψ (κ 0) (ξ 0)) 1 (φ (ξ 0) (ξ 1)) 1 (θ (ξ 1) (κ 0)) yes hA hK0.1 hq)
    refine ⟨k + D, by exact Int.le_antisymm (fk2 [_,_,_,_] [_,_] (φ (ξ 0) (ζ (ξ 1) (ζ (ν 0) (ν 1)))) 1 1 (ϑ (ν 1) (δ (ξ 2) (ξ 3))) 1 (θ (ξ 0) (ζ (ζ (ξ 1) (δ (ξ 2) (ξ 3))) (ν 0))) yes hjj s1) (fk2 [_,_,_,_] [_,_] (φ (ζ (ξ 0) (ζ (ν 0) (ν 1))) (ξ 1)) 1 1 (θ (ν 1) (δ (ξ 2) (ξ 3))) 1 (ϑ (ξ 1) (ζ (ζ (ξ 0) (δ (ξ 2) (ξ 3))) (ν 0))) yes hjj s1), ?_⟩
    have s4 : (strip K (y + (cd x - d))).1 * 10 ^ (k + D) = K * P := by
      rw [pow_addI, hPe, ← Int.mul_assoc, ← s2]
    have pk := pow_pos10 k
    rw [s4]
    have r1 : A * P ≤ K * P := Int.mul_le_mul_of_nonneg_right hK0.1 (by exact fk1 [_] [] (φ (κ 0) (ξ 0)) 1 1 (ψ (κ 0) (ξ 0)) yes hP)
    have r2 : K * P ≤ B * P := Int.mul_le_mul_of_nonneg_right hK0.2 (by exact fk1 [_] [] (φ (κ 0) (ξ 0)) 1 1 (ψ (κ 0) (ξ 0)) yes hP)
    refine ⟨?_, ?_, ?_, r2, r1, ⟨K, rfl⟩, fun h => by exact Int.le_antisymm ((fn2 [_,_] [] 1 (ψ (κ 0) (δ (ξ 0) (ξ 1))) 1 (φ (ξ 0) (ξ 1)) yes hD h).elim) ((fn2 [_,_] [] 1 (ψ (κ 0) (δ (ξ 0) (ξ 1))) 1 (φ (ξ 0) (ξ 1)) yes hD h).elim)⟩
    · rcases Int.lt_or_le 0 (strip K (y + (cd x - d))).1 with h | h
      · exact h
      · have : (strip K (y + (cd x - d))).1 * 10 ^ k ≤ 0 * 10 ^ k := Int.mul_le_mul_of_nonneg_right h (by exact fk1 [_] [] (φ (κ 0) (ξ 0)) 1 1 (ψ (κ 0) (ξ 0)) yes pk)
        exact (fn4 [_,_,_,_] [] 1 (ψ (κ 0) (ξ 0)) 1 (φ (ξ 0) (ξ 1)) 1 (θ (ξ 1) (ξ 2)) 1 (φ (ξ 2) (π 0 (ξ 3))) yes hA hK0.1 s2 this).elim
    · rcases hK with ⟨h1, h2⟩ | ⟨h1, h2⟩ <;> subst h1 <;> grind
    · rcases hK with ⟨h1, h2⟩ | ⟨h1, h2⟩ <;> subst h1 <;> grind
  · have e : rd x y d = strip x y := by unfold rd; rw [if_neg hD]
    obtain ⟨k, s1, s2, s3⟩ := strip_spec _ x y (Nat.le_refl _) (by exact fun hq => fn2 [_] [] 1 (ψ (κ 0) (ξ 0)) 1 (θ (ξ 0) (κ 0)) yes hx hq)
    have pk := pow_pos10 k
    have eU : unitI x d = 1 := by
      unfold unitI; have : (cd x - d).toNat = 0 := by lia
      rw [this]; rfl
    rw [e, eU]
    refine ⟨k, s1, ?_, by exact fk1 [_,_] [] (φ (π 2 (δ (ξ 0) (ξ 1))) (κ 1)) 1 2 (ϑ (ξ 1) (ξ 0)) yes s2, by exact fk1 [_,_] [] (φ (π 2 (δ (ξ 0) (ξ 1))) (κ 1)) 1 2 (θ (ξ 0) (ξ 1)) yes s2, by exact fk2 [_,_,_] [] (φ (ξ 0) (ξ 1)) 1 1 (ψ (ξ 2) (ξ 1)) 1 (ϑ (ξ 2) (ξ 0)) yes hhi s2, by exact fk2 [_,_,_] [] (φ (ξ 0) (ξ 1)) 1 1 (φ (ξ 0) (ξ 2)) 1 (θ (ξ 2) (ξ 1)) yes hlo s2, ⟨x, by exact Int.le_antisymm (fk1 [_,_] [] (φ (ξ 0) (ω (ξ 1) 1)) 1 1 (ϑ (ξ 1) (ξ 0)) yes s2) (fk1 [_,_] [] (φ (ω (ξ 0) 1) (ξ 1)) 1 1 (θ (ξ 0) (ξ 1)) yes s2)⟩, fun _ => s2.symm⟩
    rcases Int.lt_or_le 0 (strip x y).1 with h | h
    · exact h
    · have : (strip x y).1 * 10 ^ k ≤ 0 * 10 ^ k := Int.mul_le_mul_of_nonneg_right h (by exact fk1 [_] [] (φ (κ 0) (ξ 0)) 1 1 (ψ (κ 0) (ξ 0)) yes pk)
      exact (fn3 [_,_,_] [] 1 (ψ (κ 0) (ξ 0)) 1 (θ (ξ 0) (ξ 1)) 1 (φ (ξ 1) (π 0 (ξ 2))) yes hx s2 this).elim
theorem rd_lead {x y d : Int} (hx : 0 < x) (hd : 1 ≤ d) : y + cd x - 1 ≤ (rd x y d).2 + cd (rd x y d).1 - 1 ∧ (rd x y d).2 + cd (rd x y d).1 - 1 ≤ y + cd x := by
  obtain ⟨j, h1, h2, _, _, h5, h6, _, _⟩ := rd_spec (y := y) hx hd
  have c1 := cd_pos (x := x) (by exact fun hq => fn2 [_] [] 1 (ψ (κ 0) (ξ 0)) 1 (θ (ξ 0) (κ 0)) yes hx hq)
  have e := cd_mul_pow (x := (rd x y d).1) j (by exact fun hq => fn2 [_] [] 1 (ψ (κ 0) (ξ 0)) 1 (θ (ξ 0) (κ 0)) yes h2 hq)
  have a := le_cd h6
  have b := cd_monoI (by have := pow_pos10 (cd x - 1).toNat; exact fk2 [_,_] [] (φ (κ 0) (ξ 0)) 1 1 (φ (ξ 1) (ξ 0)) 1 (ψ (κ 0) (ξ 1)) yes h6 this) h5
  have c : cd ((10 : Int) ^ (cd x).toNat) = cd x + 1 := by
    have := cd_mul_pow (x := 1) (cd x).toNat (by decide)
    rw [Int.one_mul] at this
    have h : cd 1 = 1 := rfl
    exact Int.le_antisymm (fk3 [_,_,_] [_] (φ (ξ 0) (ζ (ξ 1) (κ 1))) 1 1 (θ (ξ 0) (ζ (ξ 2) (ν 0))) 1 (θ (ξ 2) (κ 1)) 1 (θ (ν 0) (ξ 1)) yes this h (tn (a := cd x) (fk1 [_] [] (φ (κ 0) (ξ 0)) 1 1 (φ (κ 1) (ξ 0)) yes c1))) (fk3 [_,_,_] [_] (φ (ζ (ξ 0) (κ 1)) (ξ 1)) 1 1 (ϑ (ξ 1) (ζ (ξ 2) (ν 0))) 1 (ϑ (ξ 2) (κ 1)) 1 (ϑ (ν 0) (ξ 0)) yes this h (tn (a := cd x) (fk1 [_] [] (φ (κ 0) (ξ 0)) 1 1 (φ (κ 1) (ξ 0)) yes c1)))
  exact ⟨fk4 [_,_,_,_,_] [_,_] (φ (δ (ζ (ξ 0) (ξ 1)) (κ 1)) (δ (ζ (ξ 2) (ξ 3)) (κ 1))) 1 1 (ϑ (ξ 2) (ζ (ξ 0) (ν 0))) 1 (θ (ξ 4) (ζ (ξ 3) (ν 0))) 1 (φ (ζ (ν 1) (κ 1)) (ξ 4)) 1 (ϑ (ν 1) (δ (ξ 1) (κ 1))) yes h1 e a (tn (a := cd x - 1) (fk1 [_] [] (φ (κ 0) (δ (ξ 0) (κ 1))) 1 1 (φ (κ 1) (ξ 0)) yes c1)), fk4 [_,_,_,_,_,_] [_] (φ (δ (ζ (ξ 0) (ξ 1)) (κ 1)) (ζ (ξ 2) (ξ 3))) 1 1 (θ (ξ 0) (ζ (ξ 2) (ν 0))) 1 (ϑ (ξ 4) (ζ (ξ 1) (ν 0))) 1 (φ (ξ 4) (ξ 5)) 1 (θ (ξ 5) (ζ (ξ 3) (κ 1))) yes h1 e b c⟩
theorem rr_some {x y d top : Int} (hx : 0 < x) (hd : 1 ≤ d) (h1 : -top ≤ y + cd x - 1) (h2 : y + cd x ≤ top) : rr x y d top = some (rd x y d) := by
  have a := rd_lead (y := y) hx hd
  obtain ⟨j, _, h3, _⟩ := rd_spec (y := y) hx hd
  unfold rr
  rw [if_neg (by lia), if_neg (by exact fk2 [_,_,_,_,_] [] (Ψ (ξ 0) (δ (ζ (ξ 1) (ξ 2)) (κ 1))) 1 1 (φ (ζ (ξ 3) (ξ 4)) (ξ 0)) 1 (φ (δ (ζ (ξ 1) (ξ 2)) (κ 1)) (ζ (ξ 3) (ξ 4))) yes h2 a.2)]
end Mine
end
section
open Mine.FLx (ξ ν κ ζ δ η π ω)
open Mine.FCx (φ ψ θ ϑ Φ Ψ φn ψn θn ϑn Φn Ψn)
namespace Mine
/-! the arc's series: an alternating sum -/
theorem fdiv_mono_div {a b n m : Int} (ha : 0 ≤ a) (hab : a ≤ b) (hn : 0 < n) (hnm : n ≤ m) : a.fdiv m ≤ b.fdiv n := by
  rw [fdivP hn, fdivP (by exact fk2 [_,_] [] (ψ (κ 0) (ξ 0)) 1 1 (ψ (κ 0) (ξ 1)) 1 (φ (ξ 1) (ξ 0)) yes hn hnm)]
  rw [Int.le_ediv_iff_mul_le hn]
  have h1 := div_lo (a := a) (by exact fk2 [_,_] [] (ψ (κ 0) (ξ 0)) 1 1 (ψ (κ 0) (ξ 1)) 1 (φ (ξ 1) (ξ 0)) yes hn hnm : 0 < m)
  have h2 := div_nn (a := a) (by exact fk2 [_,_] [] (ψ (κ 0) (ξ 0)) 1 1 (ψ (κ 0) (ξ 1)) 1 (φ (ξ 1) (ξ 0)) yes hn hnm : 0 < m) ha
  have h3 : a / m * n ≤ a / m * m := Int.mul_le_mul_of_nonneg_left hnm h2
  exact fk3 [_,_,_,_] [] (φ (ξ 0) (ξ 1)) 1 1 (φ (ξ 2) (ξ 1)) 1 (φ (ξ 3) (ξ 2)) 1 (φ (ξ 0) (ξ 3)) yes hab h1 h3
theorem fdiv_nn {a n : Int} (ha : 0 ≤ a) (hn : 0 < n) : 0 ≤ a.fdiv n := by rw [fdivP hn]; exact div_nn hn ha
theorem arF_alt {sq one : Int} (h1 : 0 < one) (hs : sq ≤ one) (hs0 : 0 ≤ sq) : ∀ (f : Nat) (t total sign n R : Int), 0 ≤ t → 0 < n → (sign = 1 ∨ sign = -1) → arF sq one f t total sign n = some R →
    0 ≤ sign * (R - total) ∧ sign * (R - total) ≤ t.fdiv n
  | 0, t, total, sign, n, R, _, _, _, h => by simp [arF] at h
  | f + 1, t, total, sign, n, R, ht, hn, hsg, h => by
    rw [arF] at h
    split at h
    · rename_i h0
      have e1 : 0 ≤ (t * sq).fdiv one := fdiv_nn (Int.mul_nonneg ht hs0) h1
      have e2 : (t * sq).fdiv one ≤ t := by
        rw [fdivP h1]
        have a := div_lo (a := t * sq) h1
        have c : t * sq ≤ t * one := Int.mul_le_mul_of_nonneg_left hs ht
        exact Int.le_of_mul_le_mul_right (Int.le_trans a c) h1
      obtain ⟨a, b⟩ := arF_alt h1 hs hs0 f _ _ _ _ _ e1 (by exact fk1 [_] [] (ψ (κ 0) (ζ (ξ 0) (κ 2))) 1 1 (ψ (κ 0) (ξ 0)) yes hn) (by lia) h
      have c : ((t * sq).fdiv one).fdiv (n + 2) ≤ t.fdiv n := fdiv_mono_div e1 e2 hn (by exact fk0 [_] [] (φ (ξ 0) (ζ (ξ 0) (κ 2))) 1  yes )
      generalize ((t * sq).fdiv one).fdiv (n + 2) = q' at *
      generalize t.fdiv n = q at *
      rcases hsg with rfl | rfl <;> lia
    · cases h
      have : 0 ≤ t.fdiv n := fdiv_nn ht hn
      rcases hsg with rfl | rfl <;> lia
theorem arF_low {sq one : Int} (h1 : 0 < one) (hs : sq ≤ one) (hs0 : 0 ≤ sq) (f : Nat) (t R : Int) (ht : 0 ≤ t) (h : arF sq one (f + 1) t 0 1 1 = some R) :
    t - ((t * sq).fdiv one).fdiv 3 ≤ R := by
  rw [arF] at h
  split at h
  · have e1 : 0 ≤ (t * sq).fdiv one := fdiv_nn (Int.mul_nonneg ht hs0) h1
    obtain ⟨a, b⟩ := arF_alt h1 hs hs0 f _ _ _ _ _ e1 (by exact fk0 [] [] (ψ (κ 0) (ζ (κ 1) (κ 2))) 1  yes ) (by lia) h
    have e : t.fdiv 1 = t := by rw [fdivP (by exact fk0 [] [] (ψ (κ 0) (κ 1)) 1  yes )]; lia
    rw [e] at a b
    have e3 : (1 : Int) + 2 = 3 := rfl
    rw [e3] at b
    generalize ((t * sq).fdiv one).fdiv 3 = q' at *
    lia
  · cases h
    have e1 : 0 ≤ ((t * sq).fdiv one).fdiv 3 := fdiv_nn (fdiv_nn (Int.mul_nonneg ht hs0) h1) (by decide)
    omega
theorem arc_bounds {t p : Int} (h : ArcOk p.toNat t) : 0 ≤ arcV t p ∧ arcV t p ≤ t := by
  have a := arcV_run (places := p) h
  have hq := sqV_ok h
  have ho := hv2_ok h
  obtain ⟨b, c⟩ := arF_alt (pow_pos10 p.toNat) hq.2 hq.1 _ _ _ _ _ _ ho.lo (by decide) (.inl rfl) a
  have e1 := hv_half h
  have e2 := hv_half (hvOk' h)
  rw [arcV_eq]
  unfold arcR sqV
  have e : (hv p.toNat (hv p.toNat t)).fdiv 1 = hv p.toNat (hv p.toNat t) := by rw [fdivP (by exact fk0 [] [] (ψ (κ 0) (κ 1)) 1  yes )]; lia
  rw [e] at c
  exact ⟨fk1 [_] [] (φ (κ 0) (π 4 (ξ 0))) 1 4 (φ (κ 0) (π 1 (δ (ξ 0) (κ 0)))) yes b, fk3 [_,_,_,_] [] (φ (π 4 (ξ 0)) (ξ 1)) 1 4 (φ (π 1 (δ (ξ 0) (κ 0))) (ξ 2)) 1 (φ (π 2 (ξ 3)) (ξ 1)) 2 (φ (π 2 (ξ 2)) (ξ 3)) yes c e1.1 e2.1⟩
noncomputable def htB (p : Nat) : Bool := decide (0 ≤ htV p ∧ htV p ≤ 4 * 10 ^ p)
theorem ht_crude_all : ∀ p : Nat, p < 101 → htB p = true := by decide +kernel
theorem ht_crude {p : Int} (h0 : 0 ≤ p) (h1 : p ≤ 100) : 0 ≤ htV p ∧ htV p ≤ 4 * 10 ^ p.toNat := by
  have := ht_crude_all p.toNat (by exact fk2 [_] [_] (ψn (ν 0) (κ 101)) 1 1 (φ (ξ 0) (κ 100)) 1 (θ (ν 0) (ξ 0)) yes h1 (tn (a := p) (fk1 [_] [] (φ (κ 0) (ξ 0)) 1 1 (φ (κ 0) (ξ 0)) yes h0)))
  unfold htB at this
  have e : ((p.toNat : Nat) : Int) = p := by exact Int.le_antisymm (fk1 [_] [_] (φ (ν 0) (ξ 0)) 1 1 (θ (ν 0) (ξ 0)) yes (tn (a := p) (fk1 [_] [] (φ (κ 0) (ξ 0)) 1 1 (φ (κ 0) (ξ 0)) yes h0))) (fk1 [_] [_] (φ (ξ 0) (ν 0)) 1 1 (ϑ (ν 0) (ξ 0)) yes (tn (a := p) (fk1 [_] [] (φ (κ 0) (ξ 0)) 1 1 (φ (κ 0) (ξ 0)) yes h0)))
  rw [e] at this
  exact of_decide_eq_true this
noncomputable def htC (p : Nat) : Bool := decide (htV p * 10 ^ 40 - halfI0 * 10 ^ p ≤ 10 ^ (p + 30) ∧ halfI0 * 10 ^ p - htV p * 10 ^ 40 ≤ 10 ^ (p + 30))
where halfI0 : Int := 31415926535897932384626433832795028841971
theorem ht_near_all : ∀ p : Nat, p < 60 → 12 ≤ p → htC p = true := by decide +kernel
theorem ht_near {p : Int} (h0 : 12 ≤ p) (h1 : p ≤ 59) : htV p * 10 ^ 40 - 31415926535897932384626433832795028841971 * 10 ^ p.toNat ≤ 10 ^ (p.toNat + 30) ∧ 31415926535897932384626433832795028841971 * 10 ^ p.toNat - htV p * 10 ^ 40 ≤ 10 ^ (p.toNat + 30) := by
  have := ht_near_all p.toNat (by exact fk2 [_] [_] (ψn (ν 0) (κ 60)) 1 1 (φ (ξ 0) (κ 59)) 1 (θ (ν 0) (ξ 0)) yes h1 (tn (a := p) (fk1 [_] [] (φ (κ 0) (ξ 0)) 1 1 (φ (κ 12) (ξ 0)) yes h0))) (by exact fk2 [_] [_] (φn (κ 12) (ν 0)) 1 1 (φ (κ 12) (ξ 0)) 1 (ϑ (ν 0) (ξ 0)) yes h0 (tn (a := p) (fk1 [_] [] (φ (κ 0) (ξ 0)) 1 1 (φ (κ 12) (ξ 0)) yes h0)))
  unfold htC at this
  have e : ((p.toNat : Nat) : Int) = p := by exact Int.le_antisymm (fk1 [_] [_] (φ (ν 0) (ξ 0)) 1 1 (θ (ν 0) (ξ 0)) yes (tn (a := p) (fk1 [_] [] (φ (κ 0) (ξ 0)) 1 1 (φ (κ 12) (ξ 0)) yes h0))) (fk1 [_] [_] (φ (ξ 0) (ν 0)) 1 1 (ϑ (ν 0) (ξ 0)) yes (tn (a := p) (fk1 [_] [] (φ (κ 0) (ξ 0)) 1 1 (φ (κ 12) (ξ 0)) yes h0)))
  rw [e] at this
  exact of_decide_eq_true this
end Mine
end
section
open Mine.FLx (ξ ν κ ζ δ η π ω)
open Mine.FCx (φ ψ θ ϑ Φ Ψ φn ψn θn ϑn Φn Ψn)
namespace Mine
theorem cd_abs_le {z : Int} {k : Nat} (h1 : -(10 ^ k) < z) (h2 : z < 10 ^ k) : cd z ≤ k := by
  have : dg z.natAbs ≤ k := dg_le (by rw [pow10_nat] at h1 h2; omega)
  unfold cd; exact fk1 [] [_,_] (φ (ν 0) (ν 1)) 1 1 (φn (ν 0) (ν 1)) yes this
theorem mul_le_mul2 {a A b B : Int} (ha : 0 ≤ a) (haA : a ≤ A) (hb : 0 ≤ b) (hbB : b ≤ B) : a * b ≤ A * B := Int.mul_le_mul haA hbB hb (by exact fk2 [_,_] [] (φ (κ 0) (ξ 0)) 1 1 (φ (κ 0) (ξ 1)) 1 (φ (ξ 1) (ξ 0)) yes ha haA)
theorem sm_of_le {z : Int} {k : Nat} (hk : k < 2000) (h1 : -(10 ^ k) ≤ z) (h2 : z ≤ 10 ^ k) : Sm z := (sm_pow hk).le (by have := pow_pos10 k; omega)
theorem ra_bounds {a b p : Int} (hp : 0 ≤ p) (hp1 : p ≤ 100) (ha : 0 ≤ a) (hb : 0 ≤ b) : -(10 ^ p.toNat) ≤ raV a b p ∧ raV a b p ≤ 4 * 10 ^ p.toNat := by
  have hP := pow_pos10 p.toNat
  unfold raV
  split
  · rename_i h
    by_cases h0 : 0 < b
    · have o := arcOk_div hp1 ha h0 h
      have c := arc_bounds o
      have := o.hi
      exact ⟨fk2 [_,_] [] (φ (η (ξ 0)) (ξ 1)) 1 1 (ψ (κ 0) (ξ 0)) 1 (φ (κ 0) (ξ 1)) yes hP c.1, fk3 [_,_,_] [] (φ (ξ 0) (π 4 (ξ 1))) 1 3 (φ (κ 0) (ξ 0)) 4 (φ (ξ 0) (ξ 2)) 4 (φ (ξ 2) (ξ 1)) yes c.1 c.2 this⟩
    · have e1 : b = 0 := by exact Int.le_antisymm (fk1 [_] [] (φ (ξ 0) (κ 0)) 1 1 (Ψ (κ 0) (ξ 0)) yes h0) (fk1 [_] [] (φ (κ 0) (ξ 0)) 1 1 (φ (κ 0) (ξ 0)) yes hb)
      have e2 : a = 0 := by exact Int.le_antisymm (fk2 [_,_] [] (φ (ξ 0) (κ 0)) 1 1 (φ (ξ 0) (ξ 1)) 1 (Ψ (κ 0) (ξ 1)) yes h h0) (fk1 [_] [] (φ (κ 0) (ξ 0)) 1 1 (φ (κ 0) (ξ 0)) yes ha)
      subst e1 e2
      have o : ArcOk p.toNat ((0 * 10 ^ p.toNat : Int).fdiv 0) := ⟨by simp, by simp; exact fk1 [_] [] (φ (κ 0) (ξ 0)) 1 1 (ψ (κ 0) (ξ 0)) yes hP, by exact fk2 [_] [_] (φn (ν 0) (κ 110)) 1 1 (φ (ξ 0) (κ 100)) 1 (θ (ν 0) (ξ 0)) yes hp1 (tn (a := p) (fk1 [_] [] (φ (κ 0) (ξ 0)) 1 1 (φ (κ 0) (ξ 0)) yes hp))⟩
      have c := arc_bounds o
      have := o.hi
      exact ⟨fk2 [_,_] [] (φ (η (ξ 0)) (ξ 1)) 1 1 (ψ (κ 0) (ξ 0)) 1 (φ (κ 0) (ξ 1)) yes hP c.1, fk3 [_,_,_] [] (φ (ξ 0) (π 4 (ξ 1))) 1 3 (φ (κ 0) (ξ 0)) 4 (φ (ξ 0) (ξ 2)) 4 (φ (ξ 2) (ξ 1)) yes c.1 c.2 this⟩
  · rename_i h
    have o := arcOk_div hp1 hb (by exact fk2 [_,_] [] (ψ (κ 0) (ξ 0)) 1 1 (φ (κ 0) (ξ 1)) 1 (Φ (ξ 0) (ξ 1)) yes hb h : 0 < a) (by exact fk1 [_,_] [] (φ (ξ 0) (ξ 1)) 1 1 (Φ (ξ 1) (ξ 0)) yes h)
    have c := arc_bounds o
    have := o.hi
    have ht := ht_crude hp hp1
    have e : (htV p).fdiv 2 = htV p / 2 := fdivP (by exact fk0 [] [] (ψ (κ 0) (κ 2)) 1  yes )
    rw [e]; omega
theorem absI_le {x B : Int} (h1 : -B ≤ x) (h2 : x ≤ B) : absI x ≤ B := by unfold absI; split <;> lia
theorem abs_cases (x : Int) : absI x = x ∧ 0 ≤ x ∨ absI x = -x ∧ x < 0 := by unfold absI; split <;> lia
theorem at2Ok {y v x u d : Int} (hd : 2 ≤ d) (hd1 : d ≤ 7) (hy : -100000 < y ∧ y < 100000) (hx : -100000 < x ∧ x < 100000) (hv : -30 ≤ v ∧ v ≤ 30) (hu : -30 ≤ u ∧ u ≤ 30) : At2Ok y v x u d := by
  have cy : cd y ≤ 5 := cd_abs_le (k := 5) (by lia) (by lia)
  have cx : cd x ≤ 5 := cd_abs_le (k := 5) (by lia) (by lia)
  have cy0 := cd_nonneg y
  have cx0 := cd_nonneg x
  have hd10 : (d + 10).toNat ≤ 17 := by exact fk2 [_] [_] (φn (ν 0) (κ 17)) 1 1 (φ (ξ 0) (κ 7)) 1 (θ (ν 0) (ζ (ξ 0) (κ 10))) yes hd1 (tn (a := d + 10) (fk1 [_] [] (φ (κ 0) (ζ (ξ 0) (κ 10))) 1 1 (φ (κ 2) (ξ 0)) yes hd))
  have ht := ht_crude (p := d + 10) (by exact fk1 [_] [] (φ (κ 0) (ζ (ξ 0) (κ 10))) 1 1 (φ (κ 2) (ξ 0)) yes hd) (by exact fk1 [_] [] (φ (ζ (ξ 0) (κ 10)) (κ 100)) 1 1 (φ (ξ 0) (κ 7)) yes hd1)
  have hm : (10 : Int) ^ (d + 10).toNat ≤ 10 ^ 17 := pow10_mono hd10
  have ay : absI y ≤ 10 ^ 5 := absI_le (by lia) (by lia)
  have ax : absI x ≤ 10 ^ 5 := absI_le (by lia) (by lia)
  have ay0 := absI_nn y
  have ax0 := absI_nn x
  have hl1 : 0 ≤ v - lowV v u ∧ v - lowV v u ≤ 60 := by unfold lowV; split <;> lia
  have hl2 : 0 ≤ u - lowV v u ∧ u - lowV v u ≤ 60 := by unfold lowV; split <;> lia
  have hp1 : 0 ≤ atP y v x u d ∧ atP y v x u d ≤ 100 := by unfold atP; split <;> lia
  have sa : absI y * 10 ^ (v - lowV v u).toNat ≤ 10 ^ 5 * 10 ^ 60 := mul_le_mul2 ay0 ay (Int.le_of_lt (pow_pos10 _)) (pow10_mono (by exact fk2 [_,_] [_] (φn (ν 0) (κ 60)) 1 1 (φ (δ (ξ 0) (ξ 1)) (κ 60)) 1 (θ (ν 0) (δ (ξ 0) (ξ 1))) yes hl1.2 (tn (a := v - lowV v u) (fk1 [_,_] [] (φ (κ 0) (δ (ξ 0) (ξ 1))) 1 1 (φ (κ 0) (δ (ξ 0) (ξ 1))) yes hl1.1))))
  have sb : absI x * 10 ^ (u - lowV v u).toNat ≤ 10 ^ 5 * 10 ^ 60 := mul_le_mul2 ax0 ax (Int.le_of_lt (pow_pos10 _)) (pow10_mono (by exact fk2 [_,_] [_] (φn (ν 0) (κ 60)) 1 1 (φ (δ (ξ 0) (ξ 1)) (κ 60)) 1 (θ (ν 0) (δ (ξ 0) (ξ 1))) yes hl2.2 (tn (a := u - lowV v u) (fk1 [_,_] [] (φ (κ 0) (δ (ξ 0) (ξ 1))) 1 1 (φ (κ 0) (δ (ξ 0) (ξ 1))) yes hl2.1))))
  have sa0 := at_ann (y := y) (v := v) (u := u)
  have sb0 := at_bnn (x := x) (v := v) (u := u)
  rw [← pow_addI] at sa sb
  have hra : -(10 ^ (atP y v x u d).toNat) ≤ atA y v x u d ∧ atA y v x u d ≤ 4 * 10 ^ (atP y v x u d).toNat := ra_bounds hp1.1 hp1.2 sa0 sb0
  have htp := ht_crude hp1.1 hp1.2
  have hpm : (10 : Int) ^ (atP y v x u d).toNat ≤ 10 ^ 100 := pow10_mono (by exact fk2 [_] [_] (φn (ν 0) (κ 100)) 1 1 (φ (ξ 0) (κ 100)) 1 (θ (ν 0) (ξ 0)) yes hp1.2 (tn (a := atP y v x u d) (fk1 [_] [] (φ (κ 0) (ξ 0)) 1 1 (φ (κ 0) (ξ 0)) yes hp1.1)))
  have hpp := pow_pos10 (atP y v x u d).toNat
  have big : (4 : Int) * 10 ^ 17 < 10 ^ 100 := by decide +kernel
  have big2 : (5 : Int) * 10 ^ 100 < 10 ^ 101 := by decide +kernel
  have f2 : ∀ z : Int, z.fdiv 2 = z / 2 := fun z => fdivP (by exact fk0 [] [] (ψ (κ 0) (κ 2)) 1  yes )
  refine ⟨by exact fk1 [_] [] (φ (κ 0) (ξ 0)) 1 1 (φ (κ 2) (ξ 0)) yes hd, by exact fk1 [_] [] (φ (ξ 0) (κ 50)) 1 1 (φ (ξ 0) (κ 7)) yes hd1, sm_of_le (k := 100) (by exact fk0 [] [] (ψn (κ 100) (κ 2000)) 1  yes ) (by exact fk4 [_,_,_,_] [] (φ (η (ξ 0)) (ξ 1)) 1 2 (φ (κ 0) (ξ 1)) 1 (φ (ξ 1) (π 4 (ξ 2))) 4 (φ (ξ 2) (ξ 3)) 1 (ψ (π 4 (ξ 3)) (ξ 0)) yes ht.1 ht.2 hm big) (by exact fk3 [_,_,_,_] [] (φ (ξ 0) (ξ 1)) 1 1 (φ (ξ 0) (π 4 (ξ 2))) 4 (φ (ξ 2) (ξ 3)) 1 (ψ (π 4 (ξ 3)) (ξ 1)) yes ht.2 hm big), ?_, ?_, sm_small (by omega), sm_small (by omega), by exact fk1 [_] [] (φ (ξ 0) (κ 1000)) 1 1 (φ (ξ 0) (κ 5)) yes cx, ?_, hl1.1, by exact fk1 [_,_] [] (φ (δ (ξ 0) (ξ 1)) (κ 1000)) 1 1 (φ (δ (ξ 0) (ξ 1)) (κ 60)) yes hl1.2, hl2.1, by exact fk3 [_,_,_] [] (φ (δ (ξ 0) (ξ 1)) (κ 1000)) 1 1 (φ (η (κ 30)) (ξ 2)) 1 (φ (ξ 0) (κ 30)) 1 (φ (δ (ξ 2) (ξ 1)) (κ 60)) yes hv.1 hu.2 hl1.2, sm_of_le (k := 5 + 60) (by exact fk0 [] [] (ψn (ζ (κ 5) (κ 60)) (κ 2000)) 1  yes ) (by exact fk2 [_,_] [] (φ (η (ξ 0)) (ξ 1)) 1 1 (φ (ξ 1) (ξ 0)) 2 (φ (κ 0) (ξ 1)) yes sa sa0) sa, sm_of_le (k := 5 + 60) (by exact fk0 [] [] (ψn (ζ (κ 5) (κ 60)) (κ 2000)) 1  yes ) (by exact fk2 [_,_] [] (φ (η (ξ 0)) (ξ 1)) 1 1 (φ (ξ 1) (ξ 0)) 2 (φ (κ 0) (ξ 1)) yes sb sb0) sb, hp1.1, hp1.2, ?_, ?_⟩
  · rw [f2]; exact Int.le_trans (cd_abs_le (k := 100) (by lia) (by lia)) (by decide)
  · rw [f2]; exact Int.le_trans (cd_abs_le (k := 100) (by lia) (by lia)) (by decide)
  · have hs : 0 ≤ quS y x d ∧ quS y x d ≤ 14 := by unfold quS; split <;> lia
    have hN0 : 0 ≤ quN y x d := Int.mul_nonneg ay0 (Int.le_of_lt (pow_pos10 _))
    have hN : quN y x d ≤ 10 ^ 5 * 10 ^ 14 := mul_le_mul2 ay0 ay (Int.le_of_lt (pow_pos10 _)) (pow10_mono (by exact fk2 [_] [_] (φn (ν 0) (κ 14)) 1 1 (φ (ξ 0) (κ 14)) 1 (θ (ν 0) (ξ 0)) yes hs.2 (tn (a := quS y x d) (fk1 [_] [] (φ (κ 0) (ξ 0)) 1 1 (φ (κ 0) (ξ 0)) yes hs.1))))
    rw [← pow_addI] at hN
    have hq : 0 ≤ (quN y x d).fdiv (absI x) ∧ (quN y x d).fdiv (absI x) ≤ quN y x d := by
      by_cases h0 : absI x = 0
      · rw [h0]; simp; exact hN0
      · have h1 : 0 < absI x := by lia
        rw [fdivP h1]
        have n2 := div_nn h1 hN0
        have n1 := div_lo (a := quN y x d) h1
        have n3 : quN y x d / absI x * 1 ≤ quN y x d / absI x * absI x := Int.mul_le_mul_of_nonneg_left (by exact fk1 [_] [] (φ (κ 1) (ξ 0)) 1 1 (ψ (κ 0) (ξ 0)) yes h1) n2
        exact ⟨fk1 [_] [] (φ (κ 0) (ξ 0)) 1 1 (φ (κ 0) (ξ 0)) yes n2, fk2 [_,_,_] [] (φ (ξ 0) (ξ 1)) 1 1 (φ (ξ 2) (ξ 1)) 1 (φ (ω (ξ 0) 1) (ξ 2)) yes n1 n3⟩
    have hM : 0 ≤ quM y x d ∧ quM y x d ≤ 10 * 10 ^ (5 + 14) + 1 := by unfold quM; split <;> lia
    have b3 : (10 : Int) * 10 ^ (5 + 14) + 1 < 10 ^ 100 := by decide +kernel
    have : -(10 ^ 100) < (quV y x (v - u) d).1 ∧ (quV y x (v - u) d).1 < 10 ^ 100 := by unfold quV; dsimp only; split <;> lia
    exact Int.le_trans (cd_abs_le (k := 100) this.1 this.2) (by decide)
  · exact Int.le_trans (cd_abs_le (k := 101) (by exact fk4 [_,_,_,_] [] (ψ (η (ξ 0)) (ξ 1)) 1 1 (φ (η (ξ 2)) (ξ 1)) 5 (φ (ξ 2) (ξ 3)) 4 (ψ (κ 0) (ξ 2)) 1 (ψ (π 5 (ξ 3)) (ξ 0)) yes hra.1 hpm hpp big2) (by exact fk4 [_,_,_,_] [] (ψ (ξ 0) (ξ 1)) 1 1 (φ (ξ 0) (π 4 (ξ 2))) 5 (φ (ξ 2) (ξ 3)) 1 (ψ (κ 0) (ξ 2)) 1 (ψ (π 5 (ξ 3)) (ξ 1)) yes hra.2 hpm hpp big2)) (by decide)
  · exact Int.le_trans (cd_abs_le (k := 101) (by exact fk5 [_,_,_,_,_] [] (ψ (η (ξ 0)) (δ (ξ 1) (ξ 2))) 1 1 (φ (ξ 2) (π 4 (ξ 3))) 1 (φ (κ 0) (ξ 1)) 5 (φ (ξ 3) (ξ 4)) 1 (ψ (κ 0) (ξ 3)) 1 (ψ (π 5 (ξ 4)) (ξ 0)) yes hra.2 htp.1 hpm hpp big2) (by exact fk4 [_,_,_,_,_] [] (ψ (δ (ξ 0) (ξ 1)) (ξ 2)) 1 1 (φ (η (ξ 3)) (ξ 1)) 1 (φ (ξ 0) (π 4 (ξ 3))) 5 (φ (ξ 3) (ξ 4)) 1 (ψ (π 5 (ξ 4)) (ξ 2)) yes hra.1 htp.2 hpm big2)) (by decide)
end Mine
end
section
open Mine.FLx (ξ ν κ ζ δ η π ω)
open Mine.FCx (φ ψ θ ϑ Φ Ψ φn ψn θn ϑn Φn Ψn)
namespace Mine
theorem pow_ge_one (k : Nat) : (1 : Int) ≤ 10 ^ k := by have := pow_pos10 k; exact fk1 [_] [] (φ (κ 1) (ξ 0)) 1 1 (ψ (κ 0) (ξ 0)) yes this
theorem pow_toNat_add {a b : Int} (ha : 0 ≤ a) (hb : 0 ≤ b) : (10 : Int) ^ (a + b).toNat = 10 ^ a.toNat * 10 ^ b.toNat := by
  rw [← pow_addI]; congr 1; exact Nat.le_antisymm (fk3 [_,_] [_,_,_] (φn (ν 0) (ζ (ν 1) (ν 2))) 1 1 (θ (ν 0) (ζ (ξ 0) (ξ 1))) 1 (ϑ (ν 1) (ξ 0)) 1 (ϑ (ν 2) (ξ 1)) yes (tn (a := a + b) (fk2 [_,_] [] (φ (κ 0) (ζ (ξ 0) (ξ 1))) 1 1 (φ (κ 0) (ξ 0)) 1 (φ (κ 0) (ξ 1)) yes ha hb)) (tn (a := a) (fk1 [_] [] (φ (κ 0) (ξ 0)) 1 1 (φ (κ 0) (ξ 0)) yes ha)) (tn (a := b) (fk1 [_] [] (φ (κ 0) (ξ 0)) 1 1 (φ (κ 0) (ξ 0)) yes hb))) (fk3 [_,_] [_,_,_] (φn (ζ (ν 0) (ν 1)) (ν 2)) 1 1 (ϑ (ν 2) (ζ (ξ 0) (ξ 1))) 1 (θ (ν 0) (ξ 0)) 1 (θ (ν 1) (ξ 1)) yes (tn (a := a + b) (fk2 [_,_] [] (φ (κ 0) (ζ (ξ 0) (ξ 1))) 1 1 (φ (κ 0) (ξ 0)) 1 (φ (κ 0) (ξ 1)) yes ha hb)) (tn (a := a) (fk1 [_] [] (φ (κ 0) (ξ 0)) 1 1 (φ (κ 0) (ξ 0)) yes ha)) (tn (a := b) (fk1 [_] [] (φ (κ 0) (ξ 0)) 1 1 (φ (κ 0) (ξ 0)) yes hb)))
theorem scale_eq {x y low : Int} (h1 : low ≤ y) (h2 : -120 ≤ low) : x * 10 ^ (y + 120).toNat = x * 10 ^ (y - low).toNat * 10 ^ (low + 120).toNat := by
  rw [Int.mul_assoc, ← pow_toNat_add (by exact fk1 [_,_] [] (φ (κ 0) (δ (ξ 0) (ξ 1))) 1 1 (φ (ξ 1) (ξ 0)) yes h1) (by exact fk1 [_] [] (φ (κ 0) (ζ (ξ 0) (κ 120))) 1 1 (φ (η (κ 120)) (ξ 0)) yes h2)]
  congr 2; lia
theorem near_of {x y u v d k c : Int} (hd : 2 ≤ d) (hd1 : d ≤ 7) (hk : 0 ≤ k) (hy : -105 ≤ y ∧ y ≤ 10) (hv : -105 ≤ v ∧ v ≤ 10) (hc : y ≤ c) (hc1 : c ≤ 10)
    (sx : -(10 ^ 300) < x ∧ x < 10 ^ 300) (su : -(10 ^ 300) < u ∧ u < 10 ^ 300)
    (hx : 10 ^ (c + 119).toNat ≤ x * 10 ^ (y + 120).toNat)
    (h1 : x * 10 ^ (y + 120).toNat - u * 10 ^ (v + 120).toNat ≤ k * 10 ^ (c + 120 - d).toNat)
    (h2 : u * 10 ^ (v + 120).toNat - x * 10 ^ (y + 120).toNat ≤ k * 10 ^ (c + 120 - d).toNat) :
    NearOk x y u v d ∧ nearB x y u v d k = true := by
  have hlow : nlow y v d ≤ y - d - 1 ∧ nlow y v d ≤ v - d - 1 ∧ -113 ≤ nlow y v d := by unfold nlow; split <;> lia
  have eA : x * 10 ^ (y + 120).toNat = neA x y u v d * 10 ^ (nlow y v d + 120).toNat := scale_eq (by exact fk2 [_,_,_] [] (φ (ξ 0) (ξ 1)) 1 1 (φ (κ 2) (ξ 2)) 1 (φ (ξ 0) (δ (δ (ξ 1) (ξ 2)) (κ 1))) yes hd hlow.1) (by exact fk1 [_] [] (φ (η (κ 120)) (ξ 0)) 1 1 (φ (η (κ 113)) (ξ 0)) yes hlow.2.2)
  have eB : u * 10 ^ (v + 120).toNat = neB x y u v d * 10 ^ (nlow y v d + 120).toNat := scale_eq (by exact fk2 [_,_,_] [] (φ (ξ 0) (ξ 1)) 1 1 (φ (κ 2) (ξ 2)) 1 (φ (ξ 0) (δ (δ (ξ 1) (ξ 2)) (κ 1))) yes hd hlow.2.1) (by exact fk1 [_] [] (φ (η (κ 120)) (ξ 0)) 1 1 (φ (η (κ 113)) (ξ 0)) yes hlow.2.2)
  have hS := pow_pos10 (nlow y v d + 120).toNat
  have e3 : (10 : Int) ^ (c + 119).toNat = 10 ^ (c - 1 - nlow y v d).toNat * 10 ^ (nlow y v d + 120).toNat := by
    rw [← pow_toNat_add (by exact fk3 [_,_,_,_] [] (φ (κ 0) (δ (δ (ξ 0) (κ 1)) (ξ 1))) 1 1 (φ (κ 2) (ξ 2)) 1 (φ (ξ 3) (ξ 0)) 1 (φ (ξ 1) (δ (δ (ξ 3) (ξ 2)) (κ 1))) yes hd hc hlow.1) (by exact fk1 [_] [] (φ (κ 0) (ζ (ξ 0) (κ 120))) 1 1 (φ (η (κ 113)) (ξ 0)) yes hlow.2.2)]; congr 2; exact Int.le_antisymm (fk0 [_,_] [] (φ (ζ (ξ 0) (κ 119)) (ζ (δ (δ (ξ 0) (κ 1)) (ξ 1)) (ζ (ξ 1) (κ 120)))) 1  yes ) (fk0 [_,_] [] (φ (ζ (δ (δ (ξ 0) (κ 1)) (ξ 1)) (ζ (ξ 1) (κ 120))) (ζ (ξ 0) (κ 119))) 1  yes )
  have e4 : (10 : Int) ^ (c + 120 - d).toNat = 10 ^ (c - nlow y v d - d).toNat * 10 ^ (nlow y v d + 120).toNat := by
    rw [← pow_toNat_add (by exact fk2 [_,_,_,_] [] (φ (κ 0) (δ (δ (ξ 0) (ξ 1)) (ξ 2))) 1 1 (φ (ξ 3) (ξ 0)) 1 (φ (ξ 1) (δ (δ (ξ 3) (ξ 2)) (κ 1))) yes hc hlow.1) (by exact fk1 [_] [] (φ (κ 0) (ζ (ξ 0) (κ 120))) 1 1 (φ (η (κ 113)) (ξ 0)) yes hlow.2.2)]; congr 2; exact Int.le_antisymm (fk0 [_,_,_] [] (φ (δ (ζ (ξ 0) (κ 120)) (ξ 1)) (ζ (δ (δ (ξ 0) (ξ 2)) (ξ 1)) (ζ (ξ 2) (κ 120)))) 1  yes ) (fk0 [_,_,_] [] (φ (ζ (δ (δ (ξ 0) (ξ 1)) (ξ 2)) (ζ (ξ 1) (κ 120))) (δ (ζ (ξ 0) (κ 120)) (ξ 2))) 1  yes )
  rw [eA, e3] at hx
  rw [eA, eB, e4, ← Int.sub_mul, ← Int.mul_assoc] at h1
  rw [eA, eB, e4, ← Int.sub_mul, ← Int.mul_assoc] at h2
  have hxA := Int.le_of_mul_le_mul_right hx hS
  have h1' := Int.le_of_mul_le_mul_right h1 hS
  have h2' := Int.le_of_mul_le_mul_right h2 hS
  have cA : c - nlow y v d ≤ cd (neA x y u v d) := by have := le_cd hxA; exact fk2 [_,_,_] [_] (φ (δ (ξ 0) (ξ 1)) (ξ 2)) 1 1 (φ (ζ (ν 0) (κ 1)) (ξ 2)) 1 (ϑ (ν 0) (δ (δ (ξ 0) (κ 1)) (ξ 1))) yes this (tn (a := c - 1 - nlow y v d) (fk3 [_,_,_,_] [] (φ (κ 0) (δ (δ (ξ 0) (κ 1)) (ξ 1))) 1 1 (φ (κ 2) (ξ 2)) 1 (φ (ξ 3) (ξ 0)) 1 (φ (ξ 1) (δ (δ (ξ 3) (ξ 2)) (κ 1))) yes hd hc hlow.1))
  have pA : (10 : Int) ^ (y - nlow y v d).toNat ≤ 10 ^ 130 := pow10_mono (by exact fk3 [_,_] [_] (φn (ν 0) (κ 130)) 1 1 (φ (ξ 0) (κ 10)) 1 (φ (η (κ 113)) (ξ 1)) 1 (θ (ν 0) (δ (ξ 0) (ξ 1))) yes hy.2 hlow.2.2 (tn (a := y - nlow y v d) (fk2 [_,_,_] [] (φ (κ 0) (δ (ξ 0) (ξ 1))) 1 1 (φ (κ 2) (ξ 2)) 1 (φ (ξ 1) (δ (δ (ξ 0) (ξ 2)) (κ 1))) yes hd hlow.1)))
  have pB : (10 : Int) ^ (v - nlow y v d).toNat ≤ 10 ^ 130 := pow10_mono (by exact fk3 [_,_] [_] (φn (ν 0) (κ 130)) 1 1 (φ (ξ 0) (κ 10)) 1 (φ (η (κ 113)) (ξ 1)) 1 (θ (ν 0) (δ (ξ 0) (ξ 1))) yes hv.2 hlow.2.2 (tn (a := v - nlow y v d) (fk2 [_,_,_] [] (φ (κ 0) (δ (ξ 0) (ξ 1))) 1 1 (φ (κ 2) (ξ 2)) 1 (φ (ξ 1) (δ (δ (ξ 0) (ξ 2)) (κ 1))) yes hd hlow.2.1)))
  have p0A := pow_pos10 (y - nlow y v d).toNat
  have p0B := pow_pos10 (v - nlow y v d).toNat
  have ee : (10 : Int) ^ 430 = 10 ^ 300 * 10 ^ 130 := pow_addI 300 130
  have bnd : ∀ z P : Int, -(10 ^ 300) < z ∧ z < 10 ^ 300 → 0 < P → P ≤ 10 ^ 130 → -(10 ^ 430) ≤ z * P ∧ z * P ≤ 10 ^ 430 := by
    intro z P hz hP hP2
    rw [ee]
    have a1 := mul_le_mul2 (absI_nn z) (absI_le (B := 10 ^ 300) (by exact fk1 [_,_] [] (φ (η (ξ 0)) (ξ 1)) 1 1 (ψ (η (ξ 0)) (ξ 1)) yes hz.1) (by exact fk1 [_,_] [] (φ (ξ 0) (ξ 1)) 1 1 (ψ (ξ 0) (ξ 1)) yes hz.2)) (Int.le_of_lt hP) hP2
    rcases abs_cases z with ⟨e, h⟩ | ⟨e, h⟩
    · rw [e] at a1
      have := Int.mul_nonneg h (Int.le_of_lt hP)
      constructor <;> lia
    · rw [e, Int.neg_mul] at a1
      have := Int.mul_nonneg (by exact fk1 [_] [] (φ (κ 0) (η (ξ 0))) 1 1 (ψ (ξ 0) (κ 0)) yes h : 0 ≤ -z) (Int.le_of_lt hP)
      rw [Int.neg_mul] at this
      constructor <;> lia
  have bA := bnd x _ sx p0A pA
  have bB := bnd u _ su p0B pB
  have e5 : (10 : Int) ^ 430 < 10 ^ 431 := by decide +kernel
  have cA1 : cd (neA x y u v d) ≤ 431 := cd_abs_le (k := 431) (by unfold neA; exact fk2 [_,_,_] [] (ψ (η (ξ 0)) (ξ 1)) 1 1 (φ (η (ξ 2)) (ξ 1)) 1 (ψ (ξ 2) (ξ 0)) yes bA.1 e5) (by unfold neA; exact fk2 [_,_,_] [] (ψ (ξ 0) (ξ 1)) 1 1 (φ (ξ 0) (ξ 2)) 1 (ψ (ξ 2) (ξ 1)) yes bA.2 e5)
  have cB1 : cd (neB x y u v d) ≤ 431 := cd_abs_le (k := 431) (by unfold neB; exact fk2 [_,_,_] [] (ψ (η (ξ 0)) (ξ 1)) 1 1 (φ (η (ξ 2)) (ξ 1)) 1 (ψ (ξ 2) (ξ 0)) yes bB.1 e5) (by unfold neB; exact fk2 [_,_,_] [] (ψ (ξ 0) (ξ 1)) 1 1 (φ (ξ 0) (ξ 2)) 1 (ψ (ξ 2) (ξ 1)) yes bB.2 e5)
  have cB0 := cd_nonneg (neB x y u v d)
  have hC : c - nlow y v d - d ≤ neC x y u v d ∧ neC x y u v d ≤ 1000 := by unfold neC; split <;> lia
  refine ⟨⟨by exact fk1 [_] [] (φ (κ 0) (ξ 0)) 1 1 (φ (κ 2) (ξ 0)) yes hd, sm_of_le (k := 300) (by decide) (by exact fk1 [_,_] [] (φ (η (ξ 0)) (ξ 1)) 1 1 (ψ (η (ξ 0)) (ξ 1)) yes sx.1) (by exact fk1 [_,_] [] (φ (ξ 0) (ξ 1)) 1 1 (ψ (ξ 0) (ξ 1)) yes sx.2), sm_of_le (k := 300) (by decide) (by exact fk1 [_,_] [] (φ (η (ξ 0)) (ξ 1)) 1 1 (ψ (η (ξ 0)) (ξ 1)) yes su.1) (by exact fk1 [_,_] [] (φ (ξ 0) (ξ 1)) 1 1 (ψ (ξ 0) (ξ 1)) yes su.2), by exact fk2 [_,_] [] (φ (δ (ξ 0) (ξ 1)) (κ 1000)) 1 1 (φ (ξ 0) (κ 10)) 1 (φ (η (κ 113)) (ξ 1)) yes hy.2 hlow.2.2, by exact fk2 [_,_] [] (φ (δ (ξ 0) (ξ 1)) (κ 1000)) 1 1 (φ (ξ 0) (κ 10)) 1 (φ (η (κ 113)) (ξ 1)) yes hv.2 hlow.2.2, by exact fk3 [_,_,_,_,_] [] (φ (κ 0) (ξ 0)) 1 1 (φ (ξ 1) (ξ 2)) 1 (φ (ξ 3) (δ (δ (ξ 1) (ξ 4)) (κ 1))) 1 (φ (δ (δ (ξ 2) (ξ 3)) (ξ 4)) (ξ 0)) yes hc hlow.1 hC.1, hC.2⟩, ?_⟩
  unfold nearB
  refine decide_eq_true ?_
  have hT : k * 10 ^ (c - nlow y v d - d).toNat ≤ neT x y u v d k := by
    unfold neT
    refine Int.mul_le_mul_of_nonneg_left (pow10_mono ?_) hk
    unfold neC at hC
    exact fk3 [_,_,_,_] [_,_] (φn (ν 0) (ν 1)) 1 1 (φ (δ (δ (ξ 0) (ξ 1)) (ξ 2)) (δ (ξ 3) (ξ 2))) 1 (θ (ν 0) (δ (δ (ξ 0) (ξ 1)) (ξ 2))) 1 (ϑ (ν 1) (δ (ξ 3) (ξ 2))) yes hC.1 (tn (a := c - nlow y v d - d) (fk2 [_,_,_,_] [] (φ (κ 0) (δ (δ (ξ 0) (ξ 1)) (ξ 2))) 1 1 (φ (ξ 3) (ξ 0)) 1 (φ (ξ 1) (δ (δ (ξ 3) (ξ 2)) (κ 1))) yes hc hlow.1)) (tn (a := (if cd (neB x y u v d) > cd (neA x y u v d) then cd (neB x y u v d) else cd (neA x y u v d)) - d) (fk3 [_,_,_,_] [_] (φ (κ 0) (δ (ξ 0) (ξ 1))) 1 1 (φ (δ (δ (ξ 2) (ξ 3)) (ξ 1)) (δ (ξ 0) (ξ 1))) 1 (φn (κ 0) (ν 0)) 1 (θ (ν 0) (δ (δ (ξ 2) (ξ 3)) (ξ 1))) yes hC.1 (Nat.zero_le _) (tn (a := c - nlow y v d - d) (fk2 [_,_,_,_] [] (φ (κ 0) (δ (δ (ξ 0) (ξ 1)) (ξ 2))) 1 1 (φ (ξ 3) (ξ 0)) 1 (φ (ξ 1) (δ (δ (ξ 3) (ξ 2)) (κ 1))) yes hc hlow.1))))
  exact Int.le_trans (absI_le (by exact fk1 [_,_,_] [] (φ (η (ξ 0)) (δ (ξ 1) (ξ 2))) 1 1 (φ (δ (ξ 2) (ξ 1)) (ξ 0)) yes h2') h1') hT
theorem ang_err {r p d : Int} (h0 : 0 ≤ r) (hr : r < 10 ^ (p + 1).toNat) (hp : 12 ≤ p) (hp1 : p ≤ 60) (hd : 2 ≤ d) (hd1 : d ≤ 7) :
    ∃ a b, rr r (-p) d 99 = some (a, b) ∧ rr (-r) (-p) d 99 = some (-a, b) ∧ 0 ≤ a ∧ a ≤ 10 ^ 70 ∧ -60 ≤ b ∧ b ≤ 1 ∧ a * 10 ^ (b + 120).toNat ≤ 10 ^ 121 ∧
      2 * (a * 10 ^ (b + 120).toNat - r * 10 ^ (120 - p).toNat) ≤ 10 ^ (121 - d).toNat ∧ 2 * (r * 10 ^ (120 - p).toNat - a * 10 ^ (b + 120).toNat) ≤ 10 ^ (121 - d).toNat ∧
      (10 ^ p.toNat ≤ r → 10 ^ 120 ≤ a * 10 ^ (b + 120).toNat) := by
  rcases Int.lt_or_le 0 r with hx | hx
  · have hc1 := cd_pos (x := r) (by exact fun hq => fn2 [_] [] 1 (ψ (κ 0) (ξ 0)) 1 (θ (ξ 0) (κ 0)) yes hx hq)
    have hc2 : cd r ≤ p + 1 := by have := cd_le h0 hr; exact fk2 [_,_] [_] (φ (ξ 0) (ζ (ξ 1) (κ 1))) 1 1 (φ (ξ 0) (ν 0)) 1 (θ (ν 0) (ζ (ξ 1) (κ 1))) yes this (tn (a := p + 1) (fk1 [_] [] (φ (κ 0) (ζ (ξ 0) (κ 1))) 1 1 (φ (κ 12) (ξ 0)) yes hp))
    have hs := rr_some (y := -p) (d := d) (top := 99) hx (by exact fk1 [_] [] (φ (κ 1) (ξ 0)) 1 1 (φ (κ 2) (ξ 0)) yes hd) (by exact fk2 [_,_] [] (φ (η (κ 99)) (δ (ζ (η (ξ 0)) (ξ 1)) (κ 1))) 1 1 (φ (ξ 0) (κ 60)) 1 (φ (κ 1) (ξ 1)) yes hp1 hc1) (by exact fk1 [_,_] [] (φ (ζ (η (ξ 0)) (ξ 1)) (κ 99)) 1 1 (φ (ξ 1) (ζ (ξ 0) (κ 1))) yes hc2)
    have hn := rr_neg' hx hs
    obtain ⟨j, g1, g2, g3, g4, g5, g6, _, _⟩ := rd_spec (y := -p) (d := d) hx (by exact fk1 [_] [] (φ (κ 1) (ξ 0)) 1 1 (φ (κ 2) (ξ 0)) yes hd)
    have e1 : (10 : Int) ^ ((rd r (-p) d).2 + 120).toNat = 10 ^ j * 10 ^ (120 - p).toNat := by
      rw [← pow_addI]; congr 1; exact Nat.le_antisymm (fk3 [_,_] [_,_,_] (φn (ν 0) (ζ (ν 1) (ν 2))) 1 1 (θ (ξ 0) (ζ (η (ξ 1)) (ν 1))) 1 (θ (ν 0) (ζ (ξ 0) (κ 120))) 1 (ϑ (ν 2) (δ (κ 120) (ξ 1))) yes g1 (tn (a := (rd r (-p) d).snd + 120) (fk3 [_,_] [_] (φ (κ 0) (ζ (ξ 0) (κ 120))) 1 1 (φ (ξ 1) (κ 60)) 1 (ϑ (ξ 0) (ζ (η (ξ 1)) (ν 0))) 1 (φn (κ 0) (ν 0)) yes hp1 g1 (Nat.zero_le _))) (tn (a := 120 - p) (fk1 [_] [] (φ (κ 0) (δ (κ 120) (ξ 0))) 1 1 (φ (ξ 0) (κ 60)) yes hp1))) (fk3 [_,_] [_,_,_] (φn (ζ (ν 0) (ν 1)) (ν 2)) 1 1 (ϑ (ξ 0) (ζ (η (ξ 1)) (ν 0))) 1 (ϑ (ν 2) (ζ (ξ 0) (κ 120))) 1 (θ (ν 1) (δ (κ 120) (ξ 1))) yes g1 (tn (a := (rd r (-p) d).snd + 120) (fk3 [_,_] [_] (φ (κ 0) (ζ (ξ 0) (κ 120))) 1 1 (φ (ξ 1) (κ 60)) 1 (ϑ (ξ 0) (ζ (η (ξ 1)) (ν 0))) 1 (φn (κ 0) (ν 0)) yes hp1 g1 (Nat.zero_le _))) (tn (a := 120 - p) (fk1 [_] [] (φ (κ 0) (δ (κ 120) (ξ 0))) 1 1 (φ (ξ 0) (κ 60)) yes hp1)))
    have jb : cd (rd r (-p) d).1 + j ≤ cd r + 1 := by
      have e := cd_mul_pow (x := (rd r (-p) d).1) j (by exact fun hq => fn2 [_] [] 1 (ψ (κ 0) (ξ 0)) 1 (θ (ξ 0) (κ 0)) yes g2 hq)
      have b := cd_monoI (by have := pow_pos10 (cd r - 1).toNat; exact fk2 [_,_] [] (φ (κ 0) (ξ 0)) 1 1 (φ (ξ 1) (ξ 0)) 1 (ψ (κ 0) (ξ 1)) yes g6 this) g5
      have c : cd ((10 : Int) ^ (cd r).toNat) = cd r + 1 := by
        have := cd_mul_pow (x := 1) (cd r).toNat (by decide)
        rw [Int.one_mul] at this
        have h : cd 1 = 1 := rfl
        exact Int.le_antisymm (fk3 [_,_,_] [_] (φ (ξ 0) (ζ (ξ 1) (κ 1))) 1 1 (θ (ξ 0) (ζ (ξ 2) (ν 0))) 1 (θ (ξ 2) (κ 1)) 1 (θ (ν 0) (ξ 1)) yes this h (tn (a := cd r) (fk1 [_] [] (φ (κ 0) (ξ 0)) 1 1 (φ (κ 1) (ξ 0)) yes hc1))) (fk3 [_,_,_] [_] (φ (ζ (ξ 0) (κ 1)) (ξ 1)) 1 1 (ϑ (ξ 1) (ζ (ξ 2) (ν 0))) 1 (ϑ (ξ 2) (κ 1)) 1 (ϑ (ν 0) (ξ 0)) yes this h (tn (a := cd r) (fk1 [_] [] (φ (κ 0) (ξ 0)) 1 1 (φ (κ 1) (ξ 0)) yes hc1)))
      exact fk3 [_,_,_,_] [_] (φ (ζ (ξ 0) (ν 0)) (ζ (ξ 1) (κ 1))) 1 1 (ϑ (ξ 2) (ζ (ξ 0) (ν 0))) 1 (φ (ξ 2) (ξ 3)) 1 (θ (ξ 3) (ζ (ξ 1) (κ 1))) yes e b c
    have ca := cd_pos (x := (rd r (-p) d).1) (by exact fun hq => fn2 [_] [] 1 (ψ (κ 0) (ξ 0)) 1 (θ (ξ 0) (κ 0)) yes g2 hq)
    have pj := pow_ge_one j
    have pp := pow_pos10 (120 - p).toNat
    have aj : (rd r (-p) d).1 * 1 ≤ (rd r (-p) d).1 * 10 ^ j := Int.mul_le_mul_of_nonneg_left pj (by exact fk1 [_] [] (φ (κ 0) (ξ 0)) 1 1 (ψ (κ 0) (ξ 0)) yes g2)
    have ub : (10 : Int) ^ (cd r).toNat ≤ 10 ^ 70 := pow10_mono (by exact fk3 [_,_] [_] (φn (ν 0) (κ 70)) 1 1 (φ (ξ 0) (κ 60)) 1 (φ (ξ 1) (ζ (ξ 0) (κ 1))) 1 (θ (ν 0) (ξ 1)) yes hp1 hc2 (tn (a := cd r) (fk1 [_] [] (φ (κ 0) (ξ 0)) 1 1 (φ (κ 1) (ξ 0)) yes hc1)))
    have uu : unitI r d ≤ 10 ^ (p + 1 - d).toNat := pow10_mono (by lia)
    have up : (10 : Int) ^ (p + 1 - d).toNat * 10 ^ (120 - p).toNat = 10 ^ (121 - d).toNat := by
      rw [← pow_toNat_add (by exact fk2 [_,_] [] (φ (κ 0) (δ (ζ (ξ 0) (κ 1)) (ξ 1))) 1 1 (φ (κ 12) (ξ 0)) 1 (φ (ξ 1) (κ 7)) yes hp hd1) (by exact fk1 [_] [] (φ (κ 0) (δ (κ 120) (ξ 0))) 1 1 (φ (ξ 0) (κ 60)) yes hp1)]; congr 2; exact Int.le_antisymm (fk0 [_,_] [] (φ (ζ (δ (ζ (ξ 0) (κ 1)) (ξ 1)) (δ (κ 120) (ξ 0))) (δ (κ 121) (ξ 1))) 1  yes ) (fk0 [_,_] [] (φ (δ (κ 121) (ξ 0)) (ζ (δ (ζ (ξ 1) (κ 1)) (ξ 0)) (δ (κ 120) (ξ 1)))) 1  yes )
    have q1 : (rd r (-p) d).1 * 10 ^ ((rd r (-p) d).2 + 120).toNat = ((rd r (-p) d).1 * 10 ^ j) * 10 ^ (120 - p).toNat := by rw [e1, Int.mul_assoc]
    refine ⟨(rd r (-p) d).1, (rd r (-p) d).2, hs, hn, by exact fk1 [_] [] (φ (κ 0) (ξ 0)) 1 1 (ψ (κ 0) (ξ 0)) yes g2, by exact fk3 [_,_,_,_] [] (φ (ξ 0) (ξ 1)) 1 1 (φ (ξ 2) (ξ 3)) 1 (φ (ω (ξ 0) 1) (ξ 2)) 1 (φ (ξ 3) (ξ 1)) yes g5 aj ub, by exact fk3 [_,_] [_] (φ (η (κ 60)) (ξ 0)) 1 1 (φ (ξ 1) (κ 60)) 1 (ϑ (ξ 0) (ζ (η (ξ 1)) (ν 0))) 1 (φn (κ 0) (ν 0)) yes hp1 g1 (Nat.zero_le _), by exact fk4 [_,_,_,_] [_] (φ (ξ 0) (κ 1)) 1 1 (φ (ξ 1) (ζ (ξ 2) (κ 1))) 1 (θ (ξ 0) (ζ (η (ξ 2)) (ν 0))) 1 (φ (ζ (ξ 3) (ν 0)) (ζ (ξ 1) (κ 1))) 1 (φ (κ 1) (ξ 3)) yes hc2 g1 jb ca, ?_, ?_, ?_, fun hb => ?_⟩
    · rw [q1]
      have : ((rd r (-p) d).1 * 10 ^ j) * 10 ^ (120 - p).toNat ≤ 10 ^ (p + 1).toNat * 10 ^ (120 - p).toNat :=
        Int.mul_le_mul_of_nonneg_right (Int.le_trans g5 (pow10_mono (by exact fk3 [_,_] [_,_] (φn (ν 0) (ν 1)) 1 1 (φ (ξ 0) (ζ (ξ 1) (κ 1))) 1 (θ (ν 0) (ξ 0)) 1 (ϑ (ν 1) (ζ (ξ 1) (κ 1))) yes hc2 (tn (a := cd r) (fk1 [_] [] (φ (κ 0) (ξ 0)) 1 1 (φ (κ 1) (ξ 0)) yes hc1)) (tn (a := p + 1) (fk1 [_] [] (φ (κ 0) (ζ (ξ 0) (κ 1))) 1 1 (φ (κ 12) (ξ 0)) yes hp))))) (by exact fk1 [_] [] (φ (κ 0) (ξ 0)) 1 1 (ψ (κ 0) (ξ 0)) yes pp)
      rw [← pow_toNat_add (by exact fk1 [_] [] (φ (κ 0) (ζ (ξ 0) (κ 1))) 1 1 (φ (κ 12) (ξ 0)) yes hp) (by exact fk1 [_] [] (φ (κ 0) (δ (κ 120) (ξ 0))) 1 1 (φ (ξ 0) (κ 60)) yes hp1)] at this
      have e : (p + 1 + (120 - p)).toNat = 121 := by exact Nat.le_antisymm (fk1 [_] [_] (φn (ν 0) (κ 121)) 1 1 (θ (ν 0) (ζ (ζ (ξ 0) (κ 1)) (δ (κ 120) (ξ 0)))) yes (tn (a := p + 1 + (120 - p)) (fk0 [_] [] (φ (κ 0) (ζ (ζ (ξ 0) (κ 1)) (δ (κ 120) (ξ 0)))) 1  yes ))) (fk1 [_] [_] (φn (κ 121) (ν 0)) 1 1 (ϑ (ν 0) (ζ (ζ (ξ 0) (κ 1)) (δ (κ 120) (ξ 0)))) yes (tn (a := p + 1 + (120 - p)) (fk0 [_] [] (φ (κ 0) (ζ (ζ (ξ 0) (κ 1)) (δ (κ 120) (ξ 0)))) 1  yes )))
      rw [e] at this; exact this
    · rw [q1, ← up, ← Int.sub_mul, ← Int.mul_assoc]
      exact Int.mul_le_mul_of_nonneg_right (by exact fk2 [_,_,_,_] [] (φ (π 2 (δ (ξ 0) (ξ 1))) (ξ 2)) 1 1 (φ (π 2 (δ (ξ 0) (ξ 1))) (ξ 3)) 1 (φ (ξ 3) (ξ 2)) yes g3 uu) (by exact fk1 [_] [] (φ (κ 0) (ξ 0)) 1 1 (ψ (κ 0) (ξ 0)) yes pp)
    · rw [q1, ← up, ← Int.sub_mul, ← Int.mul_assoc]
      exact Int.mul_le_mul_of_nonneg_right (by exact fk2 [_,_,_,_] [] (φ (π 2 (δ (ξ 0) (ξ 1))) (ξ 2)) 1 1 (φ (π 2 (δ (ξ 0) (ξ 1))) (ξ 3)) 1 (φ (ξ 3) (ξ 2)) yes g4 uu) (by exact fk1 [_] [] (φ (κ 0) (ξ 0)) 1 1 (ψ (κ 0) (ξ 0)) yes pp)
    · rw [q1]
      have c3 := le_cd hb
      have : 10 ^ p.toNat * 10 ^ (120 - p).toNat ≤ ((rd r (-p) d).1 * 10 ^ j) * 10 ^ (120 - p).toNat :=
        Int.mul_le_mul_of_nonneg_right (Int.le_trans (pow10_mono (by exact fk2 [_] [_,_] (φn (ν 0) (ν 1)) 1 1 (φ (ζ (ν 0) (κ 1)) (ξ 0)) 1 (ϑ (ν 1) (δ (ξ 0) (κ 1))) yes c3 (tn (a := cd r - 1) (fk3 [_,_] [_] (φ (κ 0) (δ (ξ 0) (κ 1))) 1 1 (φ (κ 12) (ξ 1)) 1 (φ (ζ (ν 0) (κ 1)) (ξ 0)) 1 (ϑ (ν 0) (ξ 1)) yes hp c3 (tn (a := p) (fk1 [_] [] (φ (κ 0) (ξ 0)) 1 1 (φ (κ 12) (ξ 0)) yes hp)))))) g6) (by exact fk1 [_] [] (φ (κ 0) (ξ 0)) 1 1 (ψ (κ 0) (ξ 0)) yes pp)
      rw [← pow_toNat_add (by exact fk1 [_] [] (φ (κ 0) (ξ 0)) 1 1 (φ (κ 12) (ξ 0)) yes hp) (by exact fk1 [_] [] (φ (κ 0) (δ (κ 120) (ξ 0))) 1 1 (φ (ξ 0) (κ 60)) yes hp1)] at this
      have e : (p + (120 - p)).toNat = 120 := by exact Nat.le_antisymm (fk1 [_] [_] (φn (ν 0) (κ 120)) 1 1 (θ (ν 0) (ζ (ξ 0) (δ (κ 120) (ξ 0)))) yes (tn (a := p + (120 - p)) (fk0 [_] [] (φ (κ 0) (ζ (ξ 0) (δ (κ 120) (ξ 0)))) 1  yes ))) (fk1 [_] [_] (φn (κ 120) (ν 0)) 1 1 (ϑ (ν 0) (ζ (ξ 0) (δ (κ 120) (ξ 0)))) yes (tn (a := p + (120 - p)) (fk0 [_] [] (φ (κ 0) (ζ (ξ 0) (δ (κ 120) (ξ 0)))) 1  yes )))
      rw [e] at this; exact this
  · have e : r = 0 := by exact Int.le_antisymm (fk1 [_] [] (φ (ξ 0) (κ 0)) 1 1 (φ (ξ 0) (κ 0)) yes hx) (fk1 [_] [] (φ (κ 0) (ξ 0)) 1 1 (φ (κ 0) (ξ 0)) yes h0)
    subst e
    have hz : rr 0 (-p) d 99 = some (0, 0) := rr_n1 (by unfold rd; rw [if_neg (by have : cd 0 = 0 := rfl; exact fk2 [_,_] [] (Ψ (κ 0) (δ (ξ 0) (ξ 1))) 1 1 (φ (κ 2) (ξ 1)) 1 (θ (ξ 0) (κ 0)) yes hd this)]; rfl)
    have pp := pow_pos10 (121 - d).toNat
    refine ⟨0, 0, hz, by simpa using hz, by omega, by decide +kernel, by exact fk0 [] [] (φ (η (κ 60)) (κ 0)) 1  yes , by exact fk0 [] [] (φ (κ 0) (κ 1)) 1  yes , by simp, by simp; exact fk1 [_] [] (φ (κ 0) (ξ 0)) 1 1 (ψ (κ 0) (ξ 0)) yes pp, by simp; exact fk1 [_] [] (φ (κ 0) (ξ 0)) 1 1 (ψ (κ 0) (ξ 0)) yes pp, fun hb => ?_⟩
    have := pow_pos10 p.toNat
    exact (fn2 [_] [] 1 (φ (ξ 0) (κ 0)) 1 (ψ (κ 0) (ξ 0)) yes hb this).elim
end Mine
end
section
open Mine.FLx (ξ ν κ ζ δ η π ω)
open Mine.FCx (φ ψ θ ϑ Φ Ψ φn ψn θn ϑn Φn Ψn)
namespace Mine
theorem ht_scaled {p : Int} (h0 : 12 ≤ p) (h1 : p ≤ 59) : htV p * 10 ^ (120 - p).toNat - 31415926535897932384626433832795028841971 * 10 ^ 80 ≤ 10 ^ 110 ∧ 31415926535897932384626433832795028841971 * 10 ^ 80 - htV p * 10 ^ (120 - p).toNat ≤ 10 ^ 110 := by
  obtain ⟨a, b⟩ := ht_near h0 h1
  have hz := pow_pos10 (80 - p).toNat
  have e1 : (10 : Int) ^ (120 - p).toNat = 10 ^ 40 * 10 ^ (80 - p).toNat := by rw [← pow_addI]; congr 1; exact Nat.le_antisymm (fk2 [_] [_,_] (φn (ν 0) (ζ (κ 40) (ν 1))) 1 1 (θ (ν 0) (δ (κ 120) (ξ 0))) 1 (ϑ (ν 1) (δ (κ 80) (ξ 0))) yes (tn (a := 120 - p) (fk1 [_] [] (φ (κ 0) (δ (κ 120) (ξ 0))) 1 1 (φ (ξ 0) (κ 59)) yes h1)) (tn (a := 80 - p) (fk1 [_] [] (φ (κ 0) (δ (κ 80) (ξ 0))) 1 1 (φ (ξ 0) (κ 59)) yes h1))) (fk2 [_] [_,_] (φn (ζ (κ 40) (ν 0)) (ν 1)) 1 1 (ϑ (ν 1) (δ (κ 120) (ξ 0))) 1 (θ (ν 0) (δ (κ 80) (ξ 0))) yes (tn (a := 120 - p) (fk1 [_] [] (φ (κ 0) (δ (κ 120) (ξ 0))) 1 1 (φ (ξ 0) (κ 59)) yes h1)) (tn (a := 80 - p) (fk1 [_] [] (φ (κ 0) (δ (κ 80) (ξ 0))) 1 1 (φ (ξ 0) (κ 59)) yes h1)))
  have e2 : (10 : Int) ^ 80 = 10 ^ p.toNat * 10 ^ (80 - p).toNat := by rw [← pow_addI]; congr 1; exact Nat.le_antisymm (fk2 [_] [_,_] (φn (κ 80) (ζ (ν 0) (ν 1))) 1 1 (ϑ (ν 0) (ξ 0)) 1 (ϑ (ν 1) (δ (κ 80) (ξ 0))) yes (tn (a := p) (fk1 [_] [] (φ (κ 0) (ξ 0)) 1 1 (φ (κ 12) (ξ 0)) yes h0)) (tn (a := 80 - p) (fk1 [_] [] (φ (κ 0) (δ (κ 80) (ξ 0))) 1 1 (φ (ξ 0) (κ 59)) yes h1))) (fk2 [_] [_,_] (φn (ζ (ν 0) (ν 1)) (κ 80)) 1 1 (θ (ν 0) (ξ 0)) 1 (θ (ν 1) (δ (κ 80) (ξ 0))) yes (tn (a := p) (fk1 [_] [] (φ (κ 0) (ξ 0)) 1 1 (φ (κ 12) (ξ 0)) yes h0)) (tn (a := 80 - p) (fk1 [_] [] (φ (κ 0) (δ (κ 80) (ξ 0))) 1 1 (φ (ξ 0) (κ 59)) yes h1)))
  have e3 : (10 : Int) ^ 110 = 10 ^ (p.toNat + 30) * 10 ^ (80 - p).toNat := by rw [← pow_addI]; congr 1; exact Nat.le_antisymm (fk2 [_] [_,_] (φn (κ 110) (ζ (ζ (ν 0) (κ 30)) (ν 1))) 1 1 (ϑ (ν 0) (ξ 0)) 1 (ϑ (ν 1) (δ (κ 80) (ξ 0))) yes (tn (a := p) (fk1 [_] [] (φ (κ 0) (ξ 0)) 1 1 (φ (κ 12) (ξ 0)) yes h0)) (tn (a := 80 - p) (fk1 [_] [] (φ (κ 0) (δ (κ 80) (ξ 0))) 1 1 (φ (ξ 0) (κ 59)) yes h1))) (fk2 [_] [_,_] (φn (ζ (ζ (ν 0) (κ 30)) (ν 1)) (κ 110)) 1 1 (θ (ν 0) (ξ 0)) 1 (θ (ν 1) (δ (κ 80) (ξ 0))) yes (tn (a := p) (fk1 [_] [] (φ (κ 0) (ξ 0)) 1 1 (φ (κ 12) (ξ 0)) yes h0)) (tn (a := 80 - p) (fk1 [_] [] (φ (κ 0) (δ (κ 80) (ξ 0))) 1 1 (φ (ξ 0) (κ 59)) yes h1)))
  rw [e1, e2, e3, ← Int.mul_assoc, ← Int.mul_assoc, ← Int.sub_mul, ← Int.sub_mul]
  exact ⟨Int.mul_le_mul_of_nonneg_right a (by exact fk1 [_] [] (φ (κ 0) (ξ 0)) 1 1 (ψ (κ 0) (ξ 0)) yes hz), Int.mul_le_mul_of_nonneg_right b (by exact fk1 [_] [] (φ (κ 0) (ξ 0)) 1 1 (ψ (κ 0) (ξ 0)) yes hz)⟩
theorem ht_lo {p : Int} (h0 : 12 ≤ p) (h1 : p ≤ 59) : 3 * 10 ^ p.toNat ≤ htV p := by
  obtain ⟨a, b⟩ := ht_near h0 h1
  have e : (10 : Int) ^ (p.toNat + 30) = 10 ^ 30 * 10 ^ p.toNat := by rw [← pow_addI]; congr 1; exact Nat.le_antisymm (fk0 [] [_] (φn (ζ (ν 0) (κ 30)) (ζ (κ 30) (ν 0))) 1  yes ) (fk0 [] [_] (φn (ζ (κ 30) (ν 0)) (ζ (ν 0) (κ 30))) 1  yes )
  rw [e] at b
  have hp := pow_pos10 p.toNat
  generalize (10 : Int) ^ p.toNat = P at *
  have : 3 * P * 10 ^ 40 ≤ htV p * 10 ^ 40 := by
    have c1 : (10 : Int) ^ 40 = 10000000000000000000000000000000000000000 := by decide +kernel
    have c2 : (10 : Int) ^ 30 = 1000000000000000000000000000000 := by decide +kernel
    rw [c1] at *; rw [c2] at *; lia
  exact Int.le_of_mul_le_mul_right this (pow_pos10 40)
theorem ra_half {a b p : Int} (h0 : 12 ≤ p) (h1 : p ≤ 59) (ha : 0 < a) (hb : 0 < b) : 0 ≤ raV a b p ∧ 2 * raV a b p ≤ htV p := by
  have hl := ht_lo h0 h1
  have hP := pow_pos10 p.toNat
  unfold raV
  split
  · rename_i h
    have o := arcOk_div (p := p) (by exact fk1 [_] [] (φ (ξ 0) (κ 100)) 1 1 (φ (ξ 0) (κ 59)) yes h1) (by exact fk1 [_] [] (φ (κ 0) (ξ 0)) 1 1 (ψ (κ 0) (ξ 0)) yes ha) hb h
    have c := arc_bounds o
    have := o.hi
    exact ⟨fk1 [_] [] (φ (κ 0) (ξ 0)) 1 1 (φ (κ 0) (ξ 0)) yes c.1, fk4 [_,_,_,_] [] (φ (π 2 (ξ 0)) (ξ 1)) 1 1 (φ (π 3 (ξ 2)) (ξ 1)) 1 (φ (κ 0) (ξ 0)) 3 (φ (ξ 0) (ξ 3)) 3 (φ (ξ 3) (ξ 2)) yes hl c.1 c.2 this⟩
  · rename_i h
    have o := arcOk_div (p := p) (by exact fk1 [_] [] (φ (ξ 0) (κ 100)) 1 1 (φ (ξ 0) (κ 59)) yes h1) (by exact fk1 [_] [] (φ (κ 0) (ξ 0)) 1 1 (ψ (κ 0) (ξ 0)) yes hb) (by omega : 0 < a) (by exact fk1 [_,_] [] (φ (ξ 0) (ξ 1)) 1 1 (Φ (ξ 1) (ξ 0)) yes h : b ≤ a)
    have c := arc_bounds o
    have := o.hi
    have e : (htV p).fdiv 2 = htV p / 2 := fdivP (by exact fk0 [] [] (ψ (κ 0) (κ 2)) 1  yes )
    rw [e]; omega
theorem angle_of {y v x u d p1 p2 r1 r2 : Int} (hd : 2 ≤ d) (hd1 : d ≤ 7) (hy : 0 < y ∧ y < 100) (hx : 0 < x ∧ x < 100) (hv : -20 ≤ v ∧ v ≤ 20) (hu : -20 ≤ u ∧ u ≤ 20)
    {a b : Int} (e1 : at2V y v x u d 99 = some (a, b)) (e2 : at2V (-y) v x u d 99 = some (-a, b)) (ha : 0 ≤ a) (ha1 : a ≤ 10 ^ 70) (hb : -60 ≤ b) (hb1 : b ≤ 1)
    (e3 : at2V y v (-x) u d 99 = rr r2 (-p2) d 99) (e4 : at2V (-y) v (-x) u d 99 = rr (-r2) (-p2) d 99)
    (hp : 12 ≤ p2) (hp1 : p2 ≤ 59) (hr : 10 ^ p2.toNat ≤ r2) (hr1 : r2 < 10 ^ (p2 + 1).toNat)
    (err1 : 2 * (r2 * 10 ^ (120 - p2).toNat + a * 10 ^ (b + 120).toNat - 31415926535897932384626433832795028841971 * 10 ^ 80) ≤ 3 * 10 ^ (121 - d).toNat)
    (err2 : 2 * (31415926535897932384626433832795028841971 * 10 ^ 80 - r2 * 10 ^ (120 - p2).toNat - a * 10 ^ (b + 120).toNat) ≤ 3 * 10 ^ (121 - d).toNat)
    (n2 : d + 2 < u + cd x - v - cd y → NearOk a b (anF y x) (v - u - 60) d ∧ nearB a b (anF y x) (v - u - 60) d 2 = true) :
    ∃ a b a2 b2, AngleOk y v x u d a b a2 b2 := by
  obtain ⟨a2, b2, f1, f2, g1, g2, g3, g4, g5, g6, g7, g8⟩ := ang_err (d := d) (by have := pow_pos10 p2.toNat; exact fk2 [_,_] [] (φ (κ 0) (ξ 0)) 1 1 (φ (ξ 1) (ξ 0)) 1 (ψ (κ 0) (ξ 1)) yes hr this) hr1 hp (by exact fk1 [_] [] (φ (ξ 0) (κ 60)) 1 1 (φ (ξ 0) (κ 59)) yes hp1) hd hd1
  have pb : (10 : Int) ^ (5 - b).toNat ≤ 10 ^ 65 := pow10_mono (by exact fk2 [_] [_] (φn (ν 0) (κ 65)) 1 1 (φ (η (κ 60)) (ξ 0)) 1 (θ (ν 0) (δ (κ 5) (ξ 0))) yes hb (tn (a := 5 - b) (fk1 [_] [] (φ (κ 0) (δ (κ 5) (ξ 0))) 1 1 (φ (ξ 0) (κ 1)) yes hb1)))
  have pb0 := pow_pos10 (5 - b).toNat
  have eR : anR a b = halfI * 10 ^ (5 - b).toNat - a * 10 ^ 45 := by
    unfold anR; have : -40 - (b - 45) = 5 - b := by exact Int.le_antisymm (fk0 [_] [] (φ (δ (η (κ 40)) (δ (ξ 0) (κ 45))) (δ (κ 5) (ξ 0))) 1  yes ) (fk0 [_] [] (φ (δ (κ 5) (ξ 0)) (δ (η (κ 40)) (δ (ξ 0) (κ 45)))) 1  yes )
    rw [this]; rfl
  have eS : anR a b * 10 ^ (b - 45 + 120).toNat = 31415926535897932384626433832795028841971 * 10 ^ 80 - a * 10 ^ (b + 120).toNat := by
    rw [eR, Int.sub_mul, Int.mul_assoc, Int.mul_assoc, ← pow_addI, ← pow_addI]
    have h1 : (5 - b).toNat + (b - 45 + 120).toNat = 80 := by exact Nat.le_antisymm (fk2 [_] [_,_] (φn (ζ (ν 0) (ν 1)) (κ 80)) 1 1 (θ (ν 0) (δ (κ 5) (ξ 0))) 1 (θ (ν 1) (ζ (δ (ξ 0) (κ 45)) (κ 120))) yes (tn (a := 5 - b) (fk1 [_] [] (φ (κ 0) (δ (κ 5) (ξ 0))) 1 1 (φ (ξ 0) (κ 1)) yes hb1)) (tn (a := b - 45 + 120) (fk1 [_] [] (φ (κ 0) (ζ (δ (ξ 0) (κ 45)) (κ 120))) 1 1 (φ (η (κ 60)) (ξ 0)) yes hb))) (fk2 [_] [_,_] (φn (κ 80) (ζ (ν 0) (ν 1))) 1 1 (ϑ (ν 0) (δ (κ 5) (ξ 0))) 1 (ϑ (ν 1) (ζ (δ (ξ 0) (κ 45)) (κ 120))) yes (tn (a := 5 - b) (fk1 [_] [] (φ (κ 0) (δ (κ 5) (ξ 0))) 1 1 (φ (ξ 0) (κ 1)) yes hb1)) (tn (a := b - 45 + 120) (fk1 [_] [] (φ (κ 0) (ζ (δ (ξ 0) (κ 45)) (κ 120))) 1 1 (φ (η (κ 60)) (ξ 0)) yes hb)))
    have h2 : 45 + (b - 45 + 120).toNat = (b + 120).toNat := by exact Nat.le_antisymm (fk2 [_] [_,_] (φn (ζ (κ 45) (ν 0)) (ν 1)) 1 1 (θ (ν 0) (ζ (δ (ξ 0) (κ 45)) (κ 120))) 1 (ϑ (ν 1) (ζ (ξ 0) (κ 120))) yes (tn (a := b - 45 + 120) (fk1 [_] [] (φ (κ 0) (ζ (δ (ξ 0) (κ 45)) (κ 120))) 1 1 (φ (η (κ 60)) (ξ 0)) yes hb)) (tn (a := b + 120) (fk1 [_] [] (φ (κ 0) (ζ (ξ 0) (κ 120))) 1 1 (φ (η (κ 60)) (ξ 0)) yes hb))) (fk2 [_] [_,_] (φn (ν 0) (ζ (κ 45) (ν 1))) 1 1 (ϑ (ν 1) (ζ (δ (ξ 0) (κ 45)) (κ 120))) 1 (θ (ν 0) (ζ (ξ 0) (κ 120))) yes (tn (a := b - 45 + 120) (fk1 [_] [] (φ (κ 0) (ζ (δ (ξ 0) (κ 45)) (κ 120))) 1 1 (φ (η (κ 60)) (ξ 0)) yes hb)) (tn (a := b + 120) (fk1 [_] [] (φ (κ 0) (ζ (ξ 0) (κ 120))) 1 1 (φ (η (κ 60)) (ξ 0)) yes hb)))
    rw [h1, h2]; rfl
  have hm1 : halfI * 10 ^ (5 - b).toNat ≤ 10 ^ 41 * 10 ^ 65 := mul_le_mul2 (by decide +kernel) (by decide +kernel) (by exact fk1 [_] [] (φ (κ 0) (ξ 0)) 1 1 (ψ (κ 0) (ξ 0)) yes pb0) pb
  have hm2 : a * 10 ^ 45 ≤ 10 ^ 70 * 10 ^ 45 := Int.mul_le_mul_of_nonneg_right ha1 (by decide +kernel)
  have hm3 : 0 ≤ halfI * 10 ^ (5 - b).toNat := Int.mul_nonneg (by decide +kernel) (by exact fk1 [_] [] (φ (κ 0) (ξ 0)) 1 1 (ψ (κ 0) (ξ 0)) yes pb0)
  have hm4 : 0 ≤ a * 10 ^ 45 := Int.mul_nonneg ha (by decide +kernel)
  have k1 : (10 : Int) ^ 41 * 10 ^ 65 < 10 ^ 300 := by decide +kernel
  have k2 : (10 : Int) ^ 70 * 10 ^ 45 < 10 ^ 300 := by decide +kernel
  have k3 : (10 : Int) ^ 70 < 10 ^ 300 := by decide +kernel
  refine ⟨a, b, a2, b2, at2Ok hd hd1 (by exact ⟨fk1 [_] [] (ψ (η (κ 100000)) (ξ 0)) 1 1 (ψ (κ 0) (ξ 0)) yes hy.1, fk1 [_] [] (ψ (ξ 0) (κ 100000)) 1 1 (ψ (ξ 0) (κ 100)) yes hy.2⟩) (by exact ⟨fk1 [_] [] (ψ (η (κ 100000)) (ξ 0)) 1 1 (ψ (κ 0) (ξ 0)) yes hx.1, fk1 [_] [] (ψ (ξ 0) (κ 100000)) 1 1 (ψ (ξ 0) (κ 100)) yes hx.2⟩) (by exact ⟨fk1 [_] [] (φ (η (κ 30)) (ξ 0)) 1 1 (φ (η (κ 20)) (ξ 0)) yes hv.1, fk1 [_] [] (φ (ξ 0) (κ 30)) 1 1 (φ (ξ 0) (κ 20)) yes hv.2⟩) (by exact ⟨fk1 [_] [] (φ (η (κ 30)) (ξ 0)) 1 1 (φ (η (κ 20)) (ξ 0)) yes hu.1, fk1 [_] [] (φ (ξ 0) (κ 30)) 1 1 (φ (ξ 0) (κ 20)) yes hu.2⟩), at2Ok hd hd1 (by exact ⟨fk1 [_] [] (ψ (η (κ 100000)) (η (ξ 0))) 1 1 (ψ (ξ 0) (κ 100)) yes hy.2, fk1 [_] [] (ψ (η (ξ 0)) (κ 100000)) 1 1 (ψ (κ 0) (ξ 0)) yes hy.1⟩) (by exact ⟨fk1 [_] [] (ψ (η (κ 100000)) (ξ 0)) 1 1 (ψ (κ 0) (ξ 0)) yes hx.1, fk1 [_] [] (ψ (ξ 0) (κ 100000)) 1 1 (ψ (ξ 0) (κ 100)) yes hx.2⟩) (by exact ⟨fk1 [_] [] (φ (η (κ 30)) (ξ 0)) 1 1 (φ (η (κ 20)) (ξ 0)) yes hv.1, fk1 [_] [] (φ (ξ 0) (κ 30)) 1 1 (φ (ξ 0) (κ 20)) yes hv.2⟩) (by exact ⟨fk1 [_] [] (φ (η (κ 30)) (ξ 0)) 1 1 (φ (η (κ 20)) (ξ 0)) yes hu.1, fk1 [_] [] (φ (ξ 0) (κ 30)) 1 1 (φ (ξ 0) (κ 20)) yes hu.2⟩), at2Ok hd hd1 (by exact ⟨fk1 [_] [] (ψ (η (κ 100000)) (ξ 0)) 1 1 (ψ (κ 0) (ξ 0)) yes hy.1, fk1 [_] [] (ψ (ξ 0) (κ 100000)) 1 1 (ψ (ξ 0) (κ 100)) yes hy.2⟩) (by exact ⟨fk1 [_] [] (ψ (η (κ 100000)) (η (ξ 0))) 1 1 (ψ (ξ 0) (κ 100)) yes hx.2, fk1 [_] [] (ψ (η (ξ 0)) (κ 100000)) 1 1 (ψ (κ 0) (ξ 0)) yes hx.1⟩) (by exact ⟨fk1 [_] [] (φ (η (κ 30)) (ξ 0)) 1 1 (φ (η (κ 20)) (ξ 0)) yes hv.1, fk1 [_] [] (φ (ξ 0) (κ 30)) 1 1 (φ (ξ 0) (κ 20)) yes hv.2⟩) (by exact ⟨fk1 [_] [] (φ (η (κ 30)) (ξ 0)) 1 1 (φ (η (κ 20)) (ξ 0)) yes hu.1, fk1 [_] [] (φ (ξ 0) (κ 30)) 1 1 (φ (ξ 0) (κ 20)) yes hu.2⟩), at2Ok hd hd1 (by exact ⟨fk1 [_] [] (ψ (η (κ 100000)) (η (ξ 0))) 1 1 (ψ (ξ 0) (κ 100)) yes hy.2, fk1 [_] [] (ψ (η (ξ 0)) (κ 100000)) 1 1 (ψ (κ 0) (ξ 0)) yes hy.1⟩) (by exact ⟨fk1 [_] [] (ψ (η (κ 100000)) (η (ξ 0))) 1 1 (ψ (ξ 0) (κ 100)) yes hx.2, fk1 [_] [] (ψ (η (ξ 0)) (κ 100000)) 1 1 (ψ (κ 0) (ξ 0)) yes hx.1⟩) (by exact ⟨fk1 [_] [] (φ (η (κ 30)) (ξ 0)) 1 1 (φ (η (κ 20)) (ξ 0)) yes hv.1, fk1 [_] [] (φ (ξ 0) (κ 30)) 1 1 (φ (ξ 0) (κ 20)) yes hv.2⟩) (by exact ⟨fk1 [_] [] (φ (η (κ 30)) (ξ 0)) 1 1 (φ (η (κ 20)) (ξ 0)) yes hu.1, fk1 [_] [] (φ (ξ 0) (κ 30)) 1 1 (φ (ξ 0) (κ 20)) yes hu.2⟩),
    e1, e2, e3.trans f1, e4.trans f2, by exact fk1 [_] [] (φ (κ 0) (δ (η (κ 40)) (δ (ξ 0) (κ 45)))) 1 1 (φ (ξ 0) (κ 1)) yes hb1, by exact fk1 [_] [] (φ (δ (η (κ 40)) (δ (ξ 0) (κ 45))) (κ 1000)) 1 1 (φ (η (κ 60)) (ξ 0)) yes hb, sm_of_le (k := 70) (by decide) (by have := pow_pos10 70; exact fk2 [_,_] [] (φ (η (ξ 0)) (ξ 1)) 1 2 (φ (κ 0) (ξ 1)) 1 (φ (ξ 1) (ξ 0)) yes ha ha1) ha1, sm_small (by omega), sm_small (by omega), by exact fun hq => fn2 [_] [] 1 (ψ (κ 0) (ξ 0)) 1 (θ (ξ 0) (κ 0)) yes hx.1 hq, ?_, n2⟩
  refine near_of (c := 1) hd hd1 (by decide) (by exact ⟨fk1 [_] [] (φ (η (κ 105)) (ξ 0)) 1 1 (φ (η (κ 60)) (ξ 0)) yes g3, fk1 [_] [] (φ (ξ 0) (κ 10)) 1 1 (φ (ξ 0) (κ 1)) yes g4⟩) (by exact ⟨fk1 [_] [] (φ (η (κ 105)) (δ (ξ 0) (κ 45))) 1 1 (φ (η (κ 60)) (ξ 0)) yes hb, fk1 [_] [] (φ (δ (ξ 0) (κ 45)) (κ 10)) 1 1 (φ (ξ 0) (κ 1)) yes hb1⟩) (by omega) (by decide) (by exact ⟨fk4 [_,_,_,_] [] (ψ (η (ξ 0)) (ξ 1)) 1 1 (φ (κ 0) (ξ 1)) 1 (φ (ξ 2) (ξ 3)) 1 (φ (κ 0) (ξ 2)) 1 (ψ (ξ 3) (ξ 0)) yes g1 hm1 hm3 k1, fk2 [_,_,_] [] (ψ (ξ 0) (ξ 1)) 1 1 (φ (ξ 0) (ξ 2)) 1 (ψ (ξ 2) (ξ 1)) yes g2 k3⟩) (by rw [eR]; exact ⟨fk3 [_,_,_,_] [] (ψ (η (ξ 0)) (δ (ξ 1) (ξ 2))) 1 1 (φ (ξ 2) (ξ 3)) 1 (φ (κ 0) (ξ 1)) 1 (ψ (ξ 3) (ξ 0)) yes hm2 hm3 k2, fk3 [_,_,_,_] [] (ψ (δ (ξ 0) (ξ 1)) (ξ 2)) 1 1 (φ (ξ 0) (ξ 3)) 1 (φ (κ 0) (ξ 1)) 1 (ψ (ξ 3) (ξ 2)) yes hm1 hm4 k1⟩) (g8 hr) ?_ ?_
  · rw [eS]
    have : (1 + 120 - d).toNat = (121 - d).toNat := by lia
    rw [this]; exact fk2 [_,_,_,_,_] [] (φ (δ (ξ 0) (δ (π 31415926535897932384626433832795028841971 (ξ 1)) (ξ 2))) (π 2 (ξ 3))) 2 1 (φ (π 2 (δ (ζ (ξ 4) (ξ 2)) (π 31415926535897932384626433832795028841971 (ξ 1)))) (π 3 (ξ 3))) 1 (φ (π 2 (δ (ξ 0) (ξ 4))) (ξ 3)) yes err1 g6
  · rw [eS]
    have : (1 + 120 - d).toNat = (121 - d).toNat := by lia
    rw [this]; exact fk2 [_,_,_,_,_] [] (φ (δ (δ (π 31415926535897932384626433832795028841971 (ξ 0)) (ξ 1)) (ξ 2)) (π 2 (ξ 3))) 2 1 (φ (π 2 (δ (δ (π 31415926535897932384626433832795028841971 (ξ 0)) (ξ 4)) (ξ 1))) (π 3 (ξ 3))) 1 (φ (π 2 (δ (ξ 4) (ξ 2))) (ξ 3)) yes err2 g7
theorem atP_ny (y v x u d : Int) : atP (-y) v x u d = atP y v x u d := by unfold atP; rw [cd_neg]
theorem atP_nx (y v x u d : Int) : atP y v (-x) u d = atP y v x u d := by unfold atP; rw [cd_neg]
theorem atA_ny (y v x u d : Int) : atA (-y) v x u d = atA y v x u d := by unfold atA; rw [absI_neg, atP_ny]
theorem atA_nx (y v x u d : Int) : atA y v (-x) u d = atA y v x u d := by unfold atA; rw [absI_neg, atP_nx]
theorem angle_G {y v x u d : Int} (hd : 2 ≤ d) (hd1 : d ≤ 7) (hy : 0 < y ∧ y < 100) (hx : 0 < x ∧ x < 100) (hv : -20 ≤ v ∧ v ≤ 20) (hu : -20 ≤ u ∧ u ≤ 20)
    (h1 : ¬ d + 2 < cd y + v - (cd x + u)) (h2 : ¬ d + 2 < cd x + u - (cd y + v)) : ∃ a b a2 b2, AngleOk y v x u d a b a2 b2 := by
  have hp : 12 ≤ atP y v x u d ∧ atP y v x u d ≤ 59 := by unfold atP; split <;> lia
  have ha0 : 0 < absI y * 10 ^ (v - lowV v u).toNat := Int.mul_pos (by unfold absI; split <;> lia) (pow_pos10 _)
  have hb0 : 0 < absI x * 10 ^ (u - lowV v u).toNat := Int.mul_pos (by unfold absI; split <;> lia) (pow_pos10 _)
  have hr : 0 ≤ atA y v x u d ∧ 2 * atA y v x u d ≤ htV (atP y v x u d) := ra_half hp.1 hp.2 ha0 hb0
  have hl := ht_lo hp.1 hp.2
  have hc := ht_crude (p := atP y v x u d) (by exact fk1 [_] [] (φ (κ 0) (ξ 0)) 1 1 (φ (κ 12) (ξ 0)) yes hp.1) (by exact fk1 [_] [] (φ (ξ 0) (κ 100)) 1 1 (φ (ξ 0) (κ 59)) yes hp.2)
  have hs := ht_scaled hp.1 hp.2
  have pp := pow_pos10 (atP y v x u d).toNat
  have pe : (10 : Int) ^ (atP y v x u d + 1).toNat = 10 ^ (atP y v x u d).toNat * 10 := by
    have : (atP y v x u d + 1).toNat = (atP y v x u d).toNat + 1 := by exact Nat.le_antisymm (fk2 [_] [_,_] (φn (ν 0) (ζ (ν 1) (κ 1))) 1 1 (θ (ν 0) (ζ (ξ 0) (κ 1))) 1 (ϑ (ν 1) (ξ 0)) yes (tn (a := atP y v x u d + 1) (fk1 [_] [] (φ (κ 0) (ζ (ξ 0) (κ 1))) 1 1 (φ (κ 12) (ξ 0)) yes hp.1)) (tn (a := atP y v x u d) (fk1 [_] [] (φ (κ 0) (ξ 0)) 1 1 (φ (κ 12) (ξ 0)) yes hp.1))) (fk2 [_] [_,_] (φn (ζ (ν 0) (κ 1)) (ν 1)) 1 1 (ϑ (ν 1) (ζ (ξ 0) (κ 1))) 1 (θ (ν 0) (ξ 0)) yes (tn (a := atP y v x u d + 1) (fk1 [_] [] (φ (κ 0) (ζ (ξ 0) (κ 1))) 1 1 (φ (κ 12) (ξ 0)) yes hp.1)) (tn (a := atP y v x u d) (fk1 [_] [] (φ (κ 0) (ξ 0)) 1 1 (φ (κ 12) (ξ 0)) yes hp.1)))
    rw [this, Int.pow_succ]
  obtain ⟨a, b, f1, f2, g1, g2, g3, g4, g5, g6, g7, g8⟩ := ang_err (p := atP y v x u d) (d := d) hr.1 (by exact fk4 [_,_,_,_] [] (ψ (ξ 0) (ξ 1)) 2 1 (φ (π 2 (ξ 0)) (ξ 2)) 1 (φ (ξ 2) (π 4 (ξ 3))) 16 (ψ (κ 0) (ξ 3)) 2 (ϑ (ξ 1) (ω (ξ 3) 10)) yes hr.2 hc.2 pp pe) hp.1 (by exact fk1 [_] [] (φ (ξ 0) (κ 60)) 1 1 (φ (ξ 0) (κ 59)) yes hp.2) hd hd1
  have big : (10 : Int) ^ 110 ≤ 10 ^ (121 - d).toNat := pow10_mono (by exact fk2 [_] [_] (φn (κ 110) (ν 0)) 1 1 (φ (ξ 0) (κ 7)) 1 (ϑ (ν 0) (δ (κ 121) (ξ 0))) yes hd1 (tn (a := 121 - d) (fk1 [_] [] (φ (κ 0) (δ (κ 121) (ξ 0))) 1 1 (φ (ξ 0) (κ 7)) yes hd1)))
  refine angle_of (p1 := 0) (r1 := 0) (p2 := atP y v x u d) (r2 := htV (atP y v x u d) - atA y v x u d) hd hd1 hy hx hv hu (a := a) (b := b) ?_ ?_ g1 g2 g3 g4 ?_ ?_ hp.1 hp.2 (by exact fk3 [_,_,_] [] (φ (ξ 0) (δ (ξ 1) (ξ 2))) 2 1 (φ (π 2 (ξ 2)) (ξ 1)) 1 (φ (π 3 (ξ 0)) (ξ 1)) 1 (ψ (κ 0) (ξ 0)) yes hr.2 hl pp) (by exact fk4 [_,_,_,_] [] (ψ (δ (ξ 0) (ξ 1)) (ξ 2)) 1 1 (φ (κ 0) (ξ 1)) 1 (φ (ξ 0) (π 4 (ξ 3))) 6 (ψ (κ 0) (ξ 3)) 1 (ϑ (ξ 2) (ω (ξ 3) 10)) yes hr.1 hc.2 pp pe) ?_ ?_ (fun h => by lia)
  · refine at_g (by exact fun hq => fn2 [_] [] 1 (ψ (κ 0) (ξ 0)) 1 (θ (ξ 0) (κ 0)) yes hy.1 hq) (by exact fun hq => fn2 [_] [] 1 (ψ (κ 0) (ξ 0)) 1 (θ (ξ 0) (κ 0)) yes hx.1 hq) h1 h2 ?_
    unfold sgn atB; rw [if_neg (by exact fk1 [_] [] (Ψ (ξ 0) (κ 0)) 1 1 (ψ (κ 0) (ξ 0)) yes hy.1), if_neg (by exact fk1 [_] [] (Ψ (ξ 0) (κ 0)) 1 1 (ψ (κ 0) (ξ 0)) yes hx.1)]; exact f1
  · refine at_g (by exact fun hq => fn2 [_] [] 1 (ψ (κ 0) (ξ 0)) 1 (ϑ (η (ξ 0)) (κ 0)) yes hy.1 hq) (by exact fun hq => fn2 [_] [] 1 (ψ (κ 0) (ξ 0)) 1 (θ (ξ 0) (κ 0)) yes hx.1 hq) (by rw [cd_neg]; exact h1) (by rw [cd_neg]; exact h2) ?_
    rw [atP_ny]
    unfold sgn atB; rw [if_pos (by exact fk1 [_] [] (ψ (η (ξ 0)) (κ 0)) 1 1 (ψ (κ 0) (ξ 0)) yes hy.1), if_neg (by exact fk1 [_] [] (Ψ (ξ 0) (κ 0)) 1 1 (ψ (κ 0) (ξ 0)) yes hx.1), atA_ny]; exact f2
  · refine at_g (by exact fun hq => fn2 [_] [] 1 (ψ (κ 0) (ξ 0)) 1 (θ (ξ 0) (κ 0)) yes hy.1 hq) (by exact fun hq => fn2 [_] [] 1 (ψ (κ 0) (ξ 0)) 1 (ϑ (η (ξ 0)) (κ 0)) yes hx.1 hq) (by rw [cd_neg]; exact h1) (by rw [cd_neg]; exact h2) ?_
    rw [atP_nx]
    unfold sgn atB; rw [if_neg (by exact fk1 [_] [] (Ψ (ξ 0) (κ 0)) 1 1 (ψ (κ 0) (ξ 0)) yes hy.1), if_pos (by exact fk1 [_] [] (ψ (η (ξ 0)) (κ 0)) 1 1 (ψ (κ 0) (ξ 0)) yes hx.1), atP_nx, atA_nx]
  · refine at_g (by exact fun hq => fn2 [_] [] 1 (ψ (κ 0) (ξ 0)) 1 (ϑ (η (ξ 0)) (κ 0)) yes hy.1 hq) (by exact fun hq => fn2 [_] [] 1 (ψ (κ 0) (ξ 0)) 1 (ϑ (η (ξ 0)) (κ 0)) yes hx.1 hq) (by rw [cd_neg, cd_neg]; exact h1) (by rw [cd_neg, cd_neg]; exact h2) ?_
    rw [atP_nx, atP_ny]
    unfold sgn atB; rw [if_pos (by exact fk1 [_] [] (ψ (η (ξ 0)) (κ 0)) 1 1 (ψ (κ 0) (ξ 0)) yes hy.1), if_pos (by exact fk1 [_] [] (ψ (η (ξ 0)) (κ 0)) 1 1 (ψ (κ 0) (ξ 0)) yes hx.1), atP_nx, atP_ny, atA_nx, atA_ny]
  · rw [Int.sub_mul]; exact fk3 [_,_,_,_,_,_] [] (φ (π 2 (δ (ζ (δ (ξ 0) (ξ 1)) (ξ 2)) (π 31415926535897932384626433832795028841971 (ξ 3)))) (π 3 (ξ 4))) 1 2 (φ (δ (ξ 0) (π 31415926535897932384626433832795028841971 (ξ 3))) (ξ 5)) 1 (φ (π 2 (δ (ξ 2) (ξ 1))) (ξ 4)) 2 (φ (ξ 5) (ξ 4)) yes hs.1 g6 big
  · rw [Int.sub_mul]; exact fk3 [_,_,_,_,_,_] [] (φ (π 2 (δ (δ (π 31415926535897932384626433832795028841971 (ξ 0)) (δ (ξ 1) (ξ 2))) (ξ 3))) (π 3 (ξ 4))) 1 2 (φ (δ (π 31415926535897932384626433832795028841971 (ξ 0)) (ξ 1)) (ξ 5)) 1 (φ (π 2 (δ (ξ 2) (ξ 3))) (ξ 4)) 2 (φ (ξ 5) (ξ 4)) yes hs.2 g7 big
theorem angle_S {y v x u d : Int} (hd : 2 ≤ d) (hd1 : d ≤ 7) (hy : 0 < y ∧ y < 100) (hx : 0 < x ∧ x < 100) (hv : -20 ≤ v ∧ v ≤ 20) (hu : -20 ≤ u ∧ u ≤ 20)
    (h1 : d + 2 < cd y + v - (cd x + u)) : ∃ a b a2 b2, AngleOk y v x u d a b a2 b2 := by
  have hl := ht_lo (p := d + 10) (by exact fk1 [_] [] (φ (κ 12) (ζ (ξ 0) (κ 10))) 1 1 (φ (κ 2) (ξ 0)) yes hd) (by exact fk1 [_] [] (φ (ζ (ξ 0) (κ 10)) (κ 59)) 1 1 (φ (ξ 0) (κ 7)) yes hd1)
  have hc := ht_crude (p := d + 10) (by exact fk1 [_] [] (φ (κ 0) (ζ (ξ 0) (κ 10))) 1 1 (φ (κ 2) (ξ 0)) yes hd) (by exact fk1 [_] [] (φ (ζ (ξ 0) (κ 10)) (κ 100)) 1 1 (φ (ξ 0) (κ 7)) yes hd1)
  have hs := ht_scaled (p := d + 10) (by exact fk1 [_] [] (φ (κ 12) (ζ (ξ 0) (κ 10))) 1 1 (φ (κ 2) (ξ 0)) yes hd) (by exact fk1 [_] [] (φ (ζ (ξ 0) (κ 10)) (κ 59)) 1 1 (φ (ξ 0) (κ 7)) yes hd1)
  have pp := pow_pos10 (d + 10).toNat
  have pe : (10 : Int) ^ (d + 10 + 1).toNat = 10 ^ (d + 10).toNat * 10 := by
    have : (d + 10 + 1).toNat = (d + 10).toNat + 1 := by exact Nat.le_antisymm (fk2 [_] [_,_] (φn (ν 0) (ζ (ν 1) (κ 1))) 1 1 (θ (ν 0) (ζ (ζ (ξ 0) (κ 10)) (κ 1))) 1 (ϑ (ν 1) (ζ (ξ 0) (κ 10))) yes (tn (a := d + 10 + 1) (fk1 [_] [] (φ (κ 0) (ζ (ζ (ξ 0) (κ 10)) (κ 1))) 1 1 (φ (κ 2) (ξ 0)) yes hd)) (tn (a := d + 10) (fk1 [_] [] (φ (κ 0) (ζ (ξ 0) (κ 10))) 1 1 (φ (κ 2) (ξ 0)) yes hd))) (fk2 [_] [_,_] (φn (ζ (ν 0) (κ 1)) (ν 1)) 1 1 (ϑ (ν 1) (ζ (ζ (ξ 0) (κ 10)) (κ 1))) 1 (θ (ν 0) (ζ (ξ 0) (κ 10))) yes (tn (a := d + 10 + 1) (fk1 [_] [] (φ (κ 0) (ζ (ζ (ξ 0) (κ 10)) (κ 1))) 1 1 (φ (κ 2) (ξ 0)) yes hd)) (tn (a := d + 10) (fk1 [_] [] (φ (κ 0) (ζ (ξ 0) (κ 10))) 1 1 (φ (κ 2) (ξ 0)) yes hd)))
    rw [this, Int.pow_succ]
  have er : (1 * htV (d + 10)).fdiv 2 = htV (d + 10) / 2 := by rw [Int.one_mul]; exact fdivP (by exact fk0 [] [] (ψ (κ 0) (κ 2)) 1  yes )
  obtain ⟨a, b, f1, f2, g1, g2, g3, g4, g5, g6, g7, g8⟩ := ang_err (r := htV (d + 10) / 2) (p := d + 10) (d := d) (by lia) (by lia) (by exact fk1 [_] [] (φ (κ 12) (ζ (ξ 0) (κ 10))) 1 1 (φ (κ 2) (ξ 0)) yes hd) (by exact fk1 [_] [] (φ (ζ (ξ 0) (κ 10)) (κ 60)) 1 1 (φ (ξ 0) (κ 7)) yes hd1) hd hd1
  have big : (10 : Int) ^ 110 ≤ 10 ^ (121 - d).toNat := pow10_mono (by exact fk2 [_] [_] (φn (κ 110) (ν 0)) 1 1 (φ (ξ 0) (κ 7)) 1 (ϑ (ν 0) (δ (κ 121) (ξ 0))) yes hd1 (tn (a := 121 - d) (fk1 [_] [] (φ (κ 0) (δ (κ 121) (ξ 0))) 1 1 (φ (ξ 0) (κ 7)) yes hd1)))
  have big2 : (10 : Int) ^ (120 - (d + 10)).toNat ≤ 10 ^ 108 := pow10_mono (by exact fk2 [_] [_] (φn (ν 0) (κ 108)) 1 1 (φ (κ 2) (ξ 0)) 1 (θ (ν 0) (δ (κ 120) (ζ (ξ 0) (κ 10)))) yes hd (tn (a := 120 - (d + 10)) (fk1 [_] [] (φ (κ 0) (δ (κ 120) (ζ (ξ 0) (κ 10)))) 1 1 (φ (ξ 0) (κ 7)) yes hd1)))
  have big3 : (3 : Int) * 10 ^ 110 + 2 * 10 ^ 108 ≤ 2 * 10 ^ 111 := by decide +kernel
  have big4 : (10 : Int) ^ 111 ≤ 10 ^ (121 - d).toNat := pow10_mono (by exact fk2 [_] [_] (φn (κ 111) (ν 0)) 1 1 (φ (ξ 0) (κ 7)) 1 (ϑ (ν 0) (δ (κ 121) (ξ 0))) yes hd1 (tn (a := 121 - d) (fk1 [_] [] (φ (κ 0) (δ (κ 121) (ξ 0))) 1 1 (φ (ξ 0) (κ 7)) yes hd1)))
  have hz := pow_pos10 (120 - (d + 10)).toNat
  have m1 : 2 * (htV (d + 10) / 2) * 10 ^ (120 - (d + 10)).toNat ≤ htV (d + 10) * 10 ^ (120 - (d + 10)).toNat := Int.mul_le_mul_of_nonneg_right (by lia) (by exact fk1 [_] [] (φ (κ 0) (ξ 0)) 1 1 (ψ (κ 0) (ξ 0)) yes hz)
  have m2 : (htV (d + 10) - 1) * 10 ^ (120 - (d + 10)).toNat ≤ 2 * (htV (d + 10) / 2) * 10 ^ (120 - (d + 10)).toNat := Int.mul_le_mul_of_nonneg_right (by lia) (by exact fk1 [_] [] (φ (κ 0) (ξ 0)) 1 1 (ψ (κ 0) (ξ 0)) yes hz)
  rw [Int.mul_assoc] at m1 m2
  rw [Int.sub_mul] at m2
  have s1 : saV y 1 d 99 = some (a, b) := by unfold saV sgn; rw [er, if_neg (by exact fk1 [_] [] (Ψ (ξ 0) (κ 0)) 1 1 (ψ (κ 0) (ξ 0)) yes hy.1)]; exact f1
  have s2 : saV (-y) 1 d 99 = some (-a, b) := by unfold saV sgn; rw [er, if_pos (by exact fk1 [_] [] (ψ (η (ξ 0)) (κ 0)) 1 1 (ψ (κ 0) (ξ 0)) yes hy.1)]; exact f2
  refine angle_of (p1 := 0) (r1 := 0) (p2 := d + 10) (r2 := htV (d + 10) / 2) hd hd1 hy hx hv hu (a := a) (b := b) (at_st (by exact fun hq => fn2 [_] [] 1 (ψ (κ 0) (ξ 0)) 1 (θ (ξ 0) (κ 0)) yes hy.1 hq) h1 s1) (at_st (by exact fun hq => fn2 [_] [] 1 (ψ (κ 0) (ξ 0)) 1 (ϑ (η (ξ 0)) (κ 0)) yes hy.1 hq) (by rw [cd_neg]; exact h1) s2) g1 g2 g3 g4
    ((at_st (by exact fun hq => fn2 [_] [] 1 (ψ (κ 0) (ξ 0)) 1 (θ (ξ 0) (κ 0)) yes hy.1 hq) (by rw [cd_neg]; exact h1) s1).trans f1.symm) ((at_st (by exact fun hq => fn2 [_] [] 1 (ψ (κ 0) (ξ 0)) 1 (ϑ (η (ξ 0)) (κ 0)) yes hy.1 hq) (by rw [cd_neg, cd_neg]; exact h1) s2).trans f2.symm) (by exact fk1 [_] [] (φ (κ 12) (ζ (ξ 0) (κ 10))) 1 1 (φ (κ 2) (ξ 0)) yes hd) (by exact fk1 [_] [] (φ (ζ (ξ 0) (κ 10)) (κ 59)) 1 1 (φ (ξ 0) (κ 7)) yes hd1) (by lia) (by lia) ?_ ?_ (fun h => by lia)
  · exact fk4 [_,_,_,_,_,_] [] (φ (π 2 (δ (ζ (ξ 0) (ξ 1)) (π 31415926535897932384626433832795028841971 (ξ 2)))) (π 3 (ξ 3))) 1 2 (φ (δ (ξ 4) (π 31415926535897932384626433832795028841971 (ξ 2))) (ξ 5)) 1 (φ (π 2 (δ (ξ 1) (ξ 0))) (ξ 3)) 2 (φ (ξ 5) (ξ 3)) 2 (φ (π 2 (ξ 0)) (ξ 4)) yes hs.1 g6 big m1
  · exact fk7 [_,_,_,_,_,_,_,_,_] [] (φ (π 2 (δ (δ (π 31415926535897932384626433832795028841971 (ξ 0)) (ξ 1)) (ξ 2))) (π 3 (ξ 3))) 2 1 (φ (δ (ξ 4) (π 31415926535897932384626433832795028841971 (ξ 0))) (ξ 5)) 5 (φ (δ (π 31415926535897932384626433832795028841971 (ξ 0)) (ξ 4)) (ξ 5)) 2 (φ (π 2 (δ (ξ 1) (ξ 2))) (ξ 3)) 4 (φ (ξ 6) (ξ 7)) 2 (φ (ζ (π 3 (ξ 5)) (π 2 (ξ 7))) (π 2 (ξ 8))) 4 (φ (ξ 8) (ξ 3)) 4 (φ (δ (ξ 4) (π 1 (ξ 6))) (π 2 (ξ 1))) yes hs.1 hs.2 g7 big2 big3 big4 m2
end Mine
end
section
open Mine.FLx (ξ ν κ ζ δ η π ω)
open Mine.FCx (φ ψ θ ϑ Φ Ψ φn ψn θn ϑn Φn Ψn)
namespace Mine
theorem quM_neg1 (y x d : Int) : quM (-y) x d = quM y x d := by unfold quM quN quS; rw [absI_neg, cd_neg]
theorem quS_neg1 (y x d : Int) : quS (-y) x d = quS y x d := by unfold quS; rw [cd_neg]
theorem quV_pp {y x e d : Int} (hy : 0 < y) (hx : 0 < x) : quV y x e d = (quM y x d, e - quS y x d - 1) := by
  unfold quV
  have h1 : decide (y < 0) = false := decide_eq_false (by exact fk1 [_] [] (Ψ (ξ 0) (κ 0)) 1 1 (ψ (κ 0) (ξ 0)) yes hy)
  have h2 : decide (x < 0) = false := decide_eq_false (by exact fk1 [_] [] (Ψ (ξ 0) (κ 0)) 1 1 (ψ (κ 0) (ξ 0)) yes hx)
  rw [h1, h2]; rfl
theorem quV_np {y x e d : Int} (hy : 0 < y) (hx : 0 < x) : quV (-y) x e d = (-quM y x d, e - quS y x d - 1) := by
  unfold quV
  have h1 : decide (-y < 0) = true := decide_eq_true (by exact fk1 [_] [] (ψ (η (ξ 0)) (κ 0)) 1 1 (ψ (κ 0) (ξ 0)) yes hy)
  have h2 : decide (x < 0) = false := decide_eq_false (by exact fk1 [_] [] (Ψ (ξ 0) (κ 0)) 1 1 (ψ (κ 0) (ξ 0)) yes hx)
  rw [h1, h2, quM_neg1, quS_neg1]; rfl
theorem cd_small {x : Int} (h : 0 < x ∧ x < 100) : 1 ≤ cd x ∧ cd x ≤ 2 := by
  have a := cd_pos (x := x) (by exact fun hq => fn2 [_] [] 1 (ψ (κ 0) (ξ 0)) 1 (θ (ξ 0) (κ 0)) yes h.1 hq)
  have b := cd_le (x := x) (k := 2) (by exact fk1 [_] [] (φ (κ 0) (ξ 0)) 1 1 (ψ (κ 0) (ξ 0)) yes h.1) (by lia)
  exact ⟨fk1 [_] [] (φ (κ 1) (ξ 0)) 1 1 (φ (κ 1) (ξ 0)) yes a, fk1 [_] [] (φ (ξ 0) (κ 2)) 1 1 (φ (ξ 0) (κ 2)) yes b⟩
theorem quM_spec {y x d : Int} (hd : 2 ≤ d) (hd1 : d ≤ 7) (hy : 0 < y ∧ y < 100) (hx : 0 < x ∧ x < 100) :
    quS y x d = d + 2 + cd x - cd y ∧ 10 ^ (d + 2).toNat ≤ quM y x d ∧ quM y x d < 10 ^ (d + 4).toNat ∧
    x * quM y x d ≤ 10 * (y * 10 ^ (quS y x d).toNat) + x ∧ 10 * (y * 10 ^ (quS y x d).toNat) ≤ x * quM y x d + 10 * x := by
  have cy := cd_small hy
  have cx := cd_small hx
  have es : quS y x d = d + 2 + cd x - cd y := by unfold quS; rw [if_neg (by exact fk3 [_,_,_] [] (Ψ (δ (ζ (ζ (ξ 0) (κ 2)) (ξ 1)) (ξ 2)) (κ 0)) 1 1 (φ (κ 2) (ξ 0)) 1 (φ (ξ 2) (κ 2)) 1 (φ (κ 1) (ξ 1)) yes hd cy.2 cx.1)]
  have eN : quN y x d = y * 10 ^ (quS y x d).toNat := by unfold quN; rw [absI_of_nn (by exact fk1 [_] [] (φ (κ 0) (ξ 0)) 1 1 (ψ (κ 0) (ξ 0)) yes hy.1)]
  have ly := pow_dg_leI (x := y) (by exact fk1 [_] [] (ψ (κ 0) (ξ 0)) 1 1 (ψ (κ 0) (ξ 0)) yes hy.1)
  have uy := lt_pow_cdI (x := y) (by exact fk1 [_] [] (φ (κ 0) (ξ 0)) 1 1 (ψ (κ 0) (ξ 0)) yes hy.1)
  have lx := pow_dg_leI (x := x) (by exact fk1 [_] [] (ψ (κ 0) (ξ 0)) 1 1 (ψ (κ 0) (ξ 0)) yes hx.1)
  have ux := lt_pow_cdI (x := x) (by exact fk1 [_] [] (φ (κ 0) (ξ 0)) 1 1 (ψ (κ 0) (ξ 0)) yes hx.1)
  have ps := pow_pos10 (quS y x d).toNat
  have l1 : (10 : Int) ^ (d + 1).toNat * x ≤ y * 10 ^ (quS y x d).toNat := by
    have a : (10 : Int) ^ (d + 1).toNat * x ≤ 10 ^ (d + 1).toNat * 10 ^ (cd x).toNat := Int.mul_le_mul_of_nonneg_left (by exact fk1 [_,_] [] (φ (ξ 0) (ξ 1)) 1 1 (ψ (ξ 0) (ξ 1)) yes ux) (Int.le_of_lt (pow_pos10 _))
    have b : (10 : Int) ^ (cd y - 1).toNat * 10 ^ (quS y x d).toNat ≤ y * 10 ^ (quS y x d).toNat := Int.mul_le_mul_of_nonneg_right ly (by exact fk1 [_] [] (φ (κ 0) (ξ 0)) 1 1 (ψ (κ 0) (ξ 0)) yes ps)
    rw [← pow_toNat_add (by lia) (by lia)] at a b
    have c : (cd y - 1 + quS y x d).toNat = (d + 1 + cd x).toNat := by exact Nat.le_antisymm (fk3 [_,_,_,_] [_,_] (φn (ν 0) (ν 1)) 1 1 (θ (ξ 0) (δ (ζ (ζ (ξ 1) (κ 2)) (ξ 2)) (ξ 3))) 1 (θ (ν 0) (ζ (δ (ξ 3) (κ 1)) (ξ 0))) 1 (ϑ (ν 1) (ζ (ζ (ξ 1) (κ 1)) (ξ 2))) yes es (tn (a := cd y - 1 + quS y x d) (fk3 [_,_,_,_] [] (φ (κ 0) (ζ (δ (ξ 0) (κ 1)) (ξ 1))) 1 1 (φ (κ 2) (ξ 2)) 1 (φ (κ 1) (ξ 3)) 1 (ϑ (ξ 1) (δ (ζ (ζ (ξ 2) (κ 2)) (ξ 3)) (ξ 0))) yes hd cx.1 es)) (tn (a := d + 1 + cd x) (fk3 [_,_,_,_] [_] (φ (κ 0) (ζ (ζ (ξ 0) (κ 1)) (ξ 1))) 1 1 (θ (ξ 2) (δ (ζ (ζ (ξ 0) (κ 2)) (ξ 1)) (ξ 3))) 1 (φn (κ 0) (ν 0)) 1 (θ (ν 0) (ζ (δ (ξ 3) (κ 1)) (ξ 2))) yes es (Nat.zero_le _) (tn (a := cd y - 1 + quS y x d) (fk3 [_,_,_,_] [] (φ (κ 0) (ζ (δ (ξ 0) (κ 1)) (ξ 1))) 1 1 (φ (κ 2) (ξ 2)) 1 (φ (κ 1) (ξ 3)) 1 (ϑ (ξ 1) (δ (ζ (ζ (ξ 2) (κ 2)) (ξ 3)) (ξ 0))) yes hd cx.1 es))))) (fk3 [_,_,_,_] [_,_] (φn (ν 0) (ν 1)) 1 1 (ϑ (ξ 0) (δ (ζ (ζ (ξ 1) (κ 2)) (ξ 2)) (ξ 3))) 1 (ϑ (ν 1) (ζ (δ (ξ 3) (κ 1)) (ξ 0))) 1 (θ (ν 0) (ζ (ζ (ξ 1) (κ 1)) (ξ 2))) yes es (tn (a := cd y - 1 + quS y x d) (fk3 [_,_,_,_] [] (φ (κ 0) (ζ (δ (ξ 0) (κ 1)) (ξ 1))) 1 1 (φ (κ 2) (ξ 2)) 1 (φ (κ 1) (ξ 3)) 1 (ϑ (ξ 1) (δ (ζ (ζ (ξ 2) (κ 2)) (ξ 3)) (ξ 0))) yes hd cx.1 es)) (tn (a := d + 1 + cd x) (fk3 [_,_,_,_] [_] (φ (κ 0) (ζ (ζ (ξ 0) (κ 1)) (ξ 1))) 1 1 (θ (ξ 2) (δ (ζ (ζ (ξ 0) (κ 2)) (ξ 1)) (ξ 3))) 1 (φn (κ 0) (ν 0)) 1 (θ (ν 0) (ζ (δ (ξ 3) (κ 1)) (ξ 2))) yes es (Nat.zero_le _) (tn (a := cd y - 1 + quS y x d) (fk3 [_,_,_,_] [] (φ (κ 0) (ζ (δ (ξ 0) (κ 1)) (ξ 1))) 1 1 (φ (κ 2) (ξ 2)) 1 (φ (κ 1) (ξ 3)) 1 (ϑ (ξ 1) (δ (ζ (ζ (ξ 2) (κ 2)) (ξ 3)) (ξ 0))) yes hd cx.1 es)))))
    rw [c] at b; exact fk2 [_,_,_] [] (φ (ξ 0) (ξ 1)) 1 1 (φ (ξ 0) (ξ 2)) 1 (φ (ξ 2) (ξ 1)) yes a b
  have u1 : y * 10 ^ (quS y x d).toNat < (10 : Int) ^ (d + 3).toNat * x := by
    have a : (10 : Int) ^ (d + 3).toNat * 10 ^ (cd x - 1).toNat ≤ 10 ^ (d + 3).toNat * x := Int.mul_le_mul_of_nonneg_left (by omega) (Int.le_of_lt (pow_pos10 _))
    have b : y * 10 ^ (quS y x d).toNat < (10 : Int) ^ (cd y).toNat * 10 ^ (quS y x d).toNat := Int.mul_lt_mul_of_pos_right uy ps
    rw [← pow_toNat_add (by lia) (by lia)] at a b
    have c : (cd y + quS y x d).toNat = (d + 3 + (cd x - 1)).toNat := by exact Nat.le_antisymm (fk3 [_,_,_,_] [_,_] (φn (ν 0) (ν 1)) 1 1 (θ (ξ 0) (δ (ζ (ζ (ξ 1) (κ 2)) (ξ 2)) (ξ 3))) 1 (θ (ν 0) (ζ (ξ 3) (ξ 0))) 1 (ϑ (ν 1) (ζ (ζ (ξ 1) (κ 3)) (δ (ξ 2) (κ 1)))) yes es (tn (a := cd y + quS y x d) (fk3 [_,_,_,_] [] (φ (κ 0) (ζ (ξ 0) (ξ 1))) 1 1 (φ (κ 2) (ξ 2)) 1 (φ (κ 1) (ξ 3)) 1 (ϑ (ξ 1) (δ (ζ (ζ (ξ 2) (κ 2)) (ξ 3)) (ξ 0))) yes hd cx.1 es)) (tn (a := d + 3 + (cd x - 1)) (fk3 [_,_,_,_] [_] (φ (κ 0) (ζ (ζ (ξ 0) (κ 3)) (δ (ξ 1) (κ 1)))) 1 1 (θ (ξ 2) (δ (ζ (ζ (ξ 0) (κ 2)) (ξ 1)) (ξ 3))) 1 (φn (κ 0) (ν 0)) 1 (θ (ν 0) (ζ (ξ 3) (ξ 2))) yes es (Nat.zero_le _) (tn (a := cd y + quS y x d) (fk3 [_,_,_,_] [] (φ (κ 0) (ζ (ξ 0) (ξ 1))) 1 1 (φ (κ 2) (ξ 2)) 1 (φ (κ 1) (ξ 3)) 1 (ϑ (ξ 1) (δ (ζ (ζ (ξ 2) (κ 2)) (ξ 3)) (ξ 0))) yes hd cx.1 es))))) (fk3 [_,_,_,_] [_,_] (φn (ν 0) (ν 1)) 1 1 (ϑ (ξ 0) (δ (ζ (ζ (ξ 1) (κ 2)) (ξ 2)) (ξ 3))) 1 (ϑ (ν 1) (ζ (ξ 3) (ξ 0))) 1 (θ (ν 0) (ζ (ζ (ξ 1) (κ 3)) (δ (ξ 2) (κ 1)))) yes es (tn (a := cd y + quS y x d) (fk3 [_,_,_,_] [] (φ (κ 0) (ζ (ξ 0) (ξ 1))) 1 1 (φ (κ 2) (ξ 2)) 1 (φ (κ 1) (ξ 3)) 1 (ϑ (ξ 1) (δ (ζ (ζ (ξ 2) (κ 2)) (ξ 3)) (ξ 0))) yes hd cx.1 es)) (tn (a := d + 3 + (cd x - 1)) (fk3 [_,_,_,_] [_] (φ (κ 0) (ζ (ζ (ξ 0) (κ 3)) (δ (ξ 1) (κ 1)))) 1 1 (θ (ξ 2) (δ (ζ (ζ (ξ 0) (κ 2)) (ξ 1)) (ξ 3))) 1 (φn (κ 0) (ν 0)) 1 (θ (ν 0) (ζ (ξ 3) (ξ 2))) yes es (Nat.zero_le _) (tn (a := cd y + quS y x d) (fk3 [_,_,_,_] [] (φ (κ 0) (ζ (ξ 0) (ξ 1))) 1 1 (φ (κ 2) (ξ 2)) 1 (φ (κ 1) (ξ 3)) 1 (ϑ (ξ 1) (δ (ζ (ζ (ξ 2) (κ 2)) (ξ 3)) (ξ 0))) yes hd cx.1 es)))))
    rw [c] at b; exact fk2 [_,_,_] [] (ψ (ξ 0) (ξ 1)) 1 1 (φ (ξ 2) (ξ 1)) 1 (ψ (ξ 0) (ξ 2)) yes a b
  refine ⟨es, ?_⟩
  unfold quM
  rw [eN, absI_of_nn (by exact fk1 [_] [] (φ (κ 0) (ξ 0)) 1 1 (ψ (κ 0) (ξ 0)) yes hx.1 : 0 ≤ x), fdivP hx.1, fmodP hx.1]
  generalize y * 10 ^ (quS y x d).toNat = N at *
  have m1 := Int.mul_ediv_add_emod N x
  have m2 := Int.emod_nonneg N (by exact fun hq => fn2 [_] [] 1 (ψ (κ 0) (ξ 0)) 1 (θ (ξ 0) (κ 0)) yes hx.1 hq : x ≠ 0)
  have m3 := Int.emod_lt_of_pos N hx.1
  have k1 : (10 : Int) ^ (d + 1).toNat ≤ N / x := by rw [Int.le_ediv_iff_mul_le hx.1]; exact l1
  have k2 : N / x < (10 : Int) ^ (d + 3).toNat := by rw [Int.ediv_lt_iff_lt_mul hx.1]; exact u1
  have e2 : (10 : Int) ^ (d + 2).toNat = 10 ^ (d + 1).toNat * 10 := by
    have : (d + 2).toNat = (d + 1).toNat + 1 := by exact Nat.le_antisymm (fk2 [_] [_,_] (φn (ν 0) (ζ (ν 1) (κ 1))) 1 1 (θ (ν 0) (ζ (ξ 0) (κ 2))) 1 (ϑ (ν 1) (ζ (ξ 0) (κ 1))) yes (tn (a := d + 2) (fk1 [_] [] (φ (κ 0) (ζ (ξ 0) (κ 2))) 1 1 (φ (κ 2) (ξ 0)) yes hd)) (tn (a := d + 1) (fk1 [_] [] (φ (κ 0) (ζ (ξ 0) (κ 1))) 1 1 (φ (κ 2) (ξ 0)) yes hd))) (fk2 [_] [_,_] (φn (ζ (ν 0) (κ 1)) (ν 1)) 1 1 (ϑ (ν 1) (ζ (ξ 0) (κ 2))) 1 (θ (ν 0) (ζ (ξ 0) (κ 1))) yes (tn (a := d + 2) (fk1 [_] [] (φ (κ 0) (ζ (ξ 0) (κ 2))) 1 1 (φ (κ 2) (ξ 0)) yes hd)) (tn (a := d + 1) (fk1 [_] [] (φ (κ 0) (ζ (ξ 0) (κ 1))) 1 1 (φ (κ 2) (ξ 0)) yes hd)))
    rw [this, Int.pow_succ]
  have e4 : (10 : Int) ^ (d + 4).toNat = 10 ^ (d + 3).toNat * 10 := by
    have : (d + 4).toNat = (d + 3).toNat + 1 := by exact Nat.le_antisymm (fk2 [_] [_,_] (φn (ν 0) (ζ (ν 1) (κ 1))) 1 1 (θ (ν 0) (ζ (ξ 0) (κ 4))) 1 (ϑ (ν 1) (ζ (ξ 0) (κ 3))) yes (tn (a := d + 4) (fk1 [_] [] (φ (κ 0) (ζ (ξ 0) (κ 4))) 1 1 (φ (κ 2) (ξ 0)) yes hd)) (tn (a := d + 3) (fk1 [_] [] (φ (κ 0) (ζ (ξ 0) (κ 3))) 1 1 (φ (κ 2) (ξ 0)) yes hd))) (fk2 [_] [_,_] (φn (ζ (ν 0) (κ 1)) (ν 1)) 1 1 (ϑ (ν 1) (ζ (ξ 0) (κ 4))) 1 (θ (ν 0) (ζ (ξ 0) (κ 3))) yes (tn (a := d + 4) (fk1 [_] [] (φ (κ 0) (ζ (ξ 0) (κ 4))) 1 1 (φ (κ 2) (ξ 0)) yes hd)) (tn (a := d + 3) (fk1 [_] [] (φ (κ 0) (ζ (ξ 0) (κ 3))) 1 1 (φ (κ 2) (ξ 0)) yes hd)))
    rw [this, Int.pow_succ]
  rw [e2, e4]
  generalize N / x = q at *
  generalize N % x = r at *
  have ex : x * (10 * q + (if r ≠ 0 then 1 else 0)) = 10 * (x * q) + (if r ≠ 0 then x else 0) := by
    split <;> grind
  rw [ex]
  split <;> lia
theorem angle_F {y v x u d : Int} (hd : 2 ≤ d) (hd1 : d ≤ 7) (hy : 0 < y ∧ y < 100) (hx : 0 < x ∧ x < 100) (hv : -20 ≤ v ∧ v ≤ 20) (hu : -20 ≤ u ∧ u ≤ 20)
    (h1 : ¬ d + 2 < cd y + v - (cd x + u)) (h2 : d + 2 < cd x + u - (cd y + v)) : ∃ a b a2 b2, AngleOk y v x u d a b a2 b2 := by
  have cy := cd_small hy
  have cx := cd_small hx
  obtain ⟨es, m1, m2, m3, m4⟩ := quM_spec hd hd1 hy hx
  have pm := pow_pos10 (d + 2).toNat
  have cM1 := le_cd m1
  have cM2 := cd_le (by exact fk2 [_,_] [] (φ (κ 0) (ξ 0)) 1 1 (φ (ξ 1) (ξ 0)) 1 (ψ (κ 0) (ξ 1)) yes m1 pm) m2
  generalize hM : quM y x d = M at *
  generalize hE : v - u - quS y x d - 1 = E at *
  have hs := rr_some (x := M) (y := E) (d := d) (top := 99) (by exact fk2 [_,_] [] (ψ (κ 0) (ξ 0)) 1 1 (ψ (κ 0) (ξ 1)) 1 (φ (ξ 1) (ξ 0)) yes pm m1) (by exact fk1 [_] [] (φ (κ 1) (ξ 0)) 1 1 (φ (κ 2) (ξ 0)) yes hd) (by exact fk8 [_,_,_,_,_,_,_,_] [_] (φ (η (κ 99)) (δ (ζ (ξ 0) (ξ 1)) (κ 1))) 1 1 (φ (η (κ 20)) (ξ 2)) 1 (φ (ξ 3) (κ 20)) 1 (φ (κ 1) (ξ 4)) 1 (φ (ξ 5) (κ 2)) 1 (θ (ξ 6) (δ (ζ (ζ (ξ 7) (κ 2)) (ξ 5)) (ξ 4))) 1 (φ (ζ (ν 0) (κ 1)) (ξ 1)) 1 (θ (δ (δ (δ (ξ 2) (ξ 3)) (ξ 6)) (κ 1)) (ξ 0)) 1 (φ (ζ (ξ 7) (κ 2)) (ν 0)) yes hv.1 hu.2 cy.1 cx.2 es cM1 hE (Int.self_le_toNat _)) (by exact fk6 [_,_,_,_,_,_,_,_] [_] (φ (ζ (ξ 0) (ξ 1)) (κ 99)) 1 1 (φ (κ 2) (ξ 2)) 1 (ψ (ζ (ξ 2) (κ 2)) (δ (ζ (ξ 3) (ξ 4)) (ζ (ξ 5) (ξ 6)))) 1 (ϑ (ξ 7) (δ (ζ (ζ (ξ 2) (κ 2)) (ξ 3)) (ξ 5))) 1 (φ (ξ 1) (ν 0)) 1 (ϑ (δ (δ (δ (ξ 6) (ξ 4)) (ξ 7)) (κ 1)) (ξ 0)) 1 (θ (ν 0) (ζ (ξ 2) (κ 4))) yes hd h2 es cM2 hE (tn (a := d + 4) (fk1 [_] [] (φ (κ 0) (ζ (ξ 0) (κ 4))) 1 1 (φ (κ 2) (ξ 0)) yes hd)))
  have hn := rr_neg' (by exact fk2 [_,_] [] (ψ (κ 0) (ξ 0)) 1 1 (ψ (κ 0) (ξ 1)) 1 (φ (ξ 1) (ξ 0)) yes pm m1) hs
  have f1 : rdvV y v x u d 99 = some (rd M E d) := by unfold rdvV; rw [quV_pp hy.1 hx.1, hM]; dsimp only; rw [hE]; exact hs
  have f2 : rdvV (-y) v x u d 99 = some (-(rd M E d).1, (rd M E d).2) := by unfold rdvV; rw [quV_np hy.1 hx.1, hM]; dsimp only; rw [hE]; exact hn
  obtain ⟨j, g1, g2, g3, g4, g5, g6, _, _⟩ := rd_spec (x := M) (y := E) (d := d) (by exact fk2 [_,_] [] (ψ (κ 0) (ξ 0)) 1 1 (ψ (κ 0) (ξ 1)) 1 (φ (ξ 1) (ξ 0)) yes pm m1) (by exact fk1 [_] [] (φ (κ 1) (ξ 0)) 1 1 (φ (κ 2) (ξ 0)) yes hd)
  generalize ha : (rd M E d).1 = a at *
  generalize hb : (rd M E d).2 = b at *
  have f1' : rdvV y v x u d 99 = some (a, b) := by rw [f1, ← ha, ← hb]
  have jb : cd a + j ≤ cd M + 1 := by
    have e := cd_mul_pow (x := a) j (by exact fun hq => fn2 [_] [] 1 (ψ (κ 0) (ξ 0)) 1 (θ (ξ 0) (κ 0)) yes g2 hq)
    have bb := cd_monoI (by have := pow_pos10 (cd M - 1).toNat; exact fk2 [_,_] [] (φ (κ 0) (ξ 0)) 1 1 (φ (ξ 1) (ξ 0)) 1 (ψ (κ 0) (ξ 1)) yes g6 this) g5
    have c : cd ((10 : Int) ^ (cd M).toNat) = cd M + 1 := by
      have := cd_mul_pow (x := 1) (cd M).toNat (by decide)
      rw [Int.one_mul] at this
      have h : cd 1 = 1 := rfl
      exact Int.le_antisymm (fk3 [_,_,_] [_] (φ (ξ 0) (ζ (ξ 1) (κ 1))) 1 1 (θ (ξ 0) (ζ (ξ 2) (ν 0))) 1 (θ (ξ 2) (κ 1)) 1 (θ (ν 0) (ξ 1)) yes this h (tn (a := cd M) (fk3 [_,_] [_] (φ (κ 0) (ξ 0)) 1 1 (φ (κ 2) (ξ 1)) 1 (φ (ζ (ν 0) (κ 1)) (ξ 0)) 1 (ϑ (ν 0) (ζ (ξ 1) (κ 2))) yes hd cM1 (tn (a := d + 2) (fk1 [_] [] (φ (κ 0) (ζ (ξ 0) (κ 2))) 1 1 (φ (κ 2) (ξ 0)) yes hd))))) (fk3 [_,_,_] [_] (φ (ζ (ξ 0) (κ 1)) (ξ 1)) 1 1 (ϑ (ξ 1) (ζ (ξ 2) (ν 0))) 1 (ϑ (ξ 2) (κ 1)) 1 (ϑ (ν 0) (ξ 0)) yes this h (tn (a := cd M) (fk3 [_,_] [_] (φ (κ 0) (ξ 0)) 1 1 (φ (κ 2) (ξ 1)) 1 (φ (ζ (ν 0) (κ 1)) (ξ 0)) 1 (ϑ (ν 0) (ζ (ξ 1) (κ 2))) yes hd cM1 (tn (a := d + 2) (fk1 [_] [] (φ (κ 0) (ζ (ξ 0) (κ 2))) 1 1 (φ (κ 2) (ξ 0)) yes hd)))))
    exact fk3 [_,_,_,_] [_] (φ (ζ (ξ 0) (ν 0)) (ζ (ξ 1) (κ 1))) 1 1 (ϑ (ξ 2) (ζ (ξ 0) (ν 0))) 1 (φ (ξ 2) (ξ 3)) 1 (θ (ξ 3) (ζ (ξ 1) (κ 1))) yes e bb c
  have ca := cd_pos (x := a) (by exact fun hq => fn2 [_] [] 1 (ψ (κ 0) (ξ 0)) 1 (θ (ξ 0) (κ 0)) yes g2 hq)
  have pj := pow_ge_one j
  have aj : a * 1 ≤ a * 10 ^ j := Int.mul_le_mul_of_nonneg_left pj (by exact fk1 [_] [] (φ (κ 0) (ξ 0)) 1 1 (ψ (κ 0) (ξ 0)) yes g2)
  have ub : (10 : Int) ^ (cd M).toNat ≤ 10 ^ 70 := pow10_mono (by exact fk4 [_,_] [_,_] (φn (ν 0) (κ 70)) 1 1 (φ (ξ 0) (κ 7)) 1 (φ (ξ 1) (ν 1)) 1 (θ (ν 1) (ζ (ξ 0) (κ 4))) 1 (θ (ν 0) (ξ 1)) yes hd1 cM2 (tn (a := d + 4) (fk1 [_] [] (φ (κ 0) (ζ (ξ 0) (κ 4))) 1 1 (φ (κ 2) (ξ 0)) yes hd)) (tn (a := cd M) (fk3 [_,_] [_] (φ (κ 0) (ξ 0)) 1 1 (φ (ζ (ξ 1) (ν 0)) (ζ (ξ 0) (κ 1))) 1 (φ (κ 1) (ξ 1)) 1 (φn (κ 0) (ν 0)) yes jb ca (Nat.zero_le _))))
  have pE := pow_pos10 (E + 120).toNat
  have eb : (10 : Int) ^ (b + 120).toNat = 10 ^ j * 10 ^ (E + 120).toNat := by
    rw [← pow_addI]; congr 1; exact Nat.le_antisymm (fk3 [_,_] [_,_,_] (φn (ν 0) (ζ (ν 1) (ν 2))) 1 1 (θ (ξ 0) (ζ (ξ 1) (ν 1))) 1 (θ (ν 0) (ζ (ξ 0) (κ 120))) 1 (ϑ (ν 2) (ζ (ξ 1) (κ 120))) yes g1 (tn (a := b + 120) (fk9 [_,_,_,_,_,_,_,_] [_] (φ (κ 0) (ζ (ξ 0) (κ 120))) 1 1 (φ (ξ 1) (κ 7)) 1 (φ (η (κ 20)) (ξ 2)) 1 (φ (ξ 3) (κ 20)) 1 (φ (κ 1) (ξ 4)) 1 (φ (ξ 5) (κ 2)) 1 (θ (ξ 6) (δ (ζ (ζ (ξ 1) (κ 2)) (ξ 5)) (ξ 4))) 1 (θ (δ (δ (δ (ξ 2) (ξ 3)) (ξ 6)) (κ 1)) (ξ 7)) 1 (ϑ (ξ 0) (ζ (ξ 7) (ν 0))) 1 (φn (κ 0) (ν 0)) yes hd1 hv.1 hu.2 cy.1 cx.2 es hE g1 (Nat.zero_le _))) (tn (a := E + 120) (fk7 [_,_,_,_,_,_,_] [] (φ (κ 0) (ζ (ξ 0) (κ 120))) 1 1 (φ (ξ 1) (κ 7)) 1 (φ (η (κ 20)) (ξ 2)) 1 (φ (ξ 3) (κ 20)) 1 (φ (κ 1) (ξ 4)) 1 (φ (ξ 5) (κ 2)) 1 (θ (ξ 6) (δ (ζ (ζ (ξ 1) (κ 2)) (ξ 5)) (ξ 4))) 1 (θ (δ (δ (δ (ξ 2) (ξ 3)) (ξ 6)) (κ 1)) (ξ 0)) yes hd1 hv.1 hu.2 cy.1 cx.2 es hE))) (fk3 [_,_] [_,_,_] (φn (ζ (ν 0) (ν 1)) (ν 2)) 1 1 (ϑ (ξ 0) (ζ (ξ 1) (ν 0))) 1 (ϑ (ν 2) (ζ (ξ 0) (κ 120))) 1 (θ (ν 1) (ζ (ξ 1) (κ 120))) yes g1 (tn (a := b + 120) (fk9 [_,_,_,_,_,_,_,_] [_] (φ (κ 0) (ζ (ξ 0) (κ 120))) 1 1 (φ (ξ 1) (κ 7)) 1 (φ (η (κ 20)) (ξ 2)) 1 (φ (ξ 3) (κ 20)) 1 (φ (κ 1) (ξ 4)) 1 (φ (ξ 5) (κ 2)) 1 (θ (ξ 6) (δ (ζ (ζ (ξ 1) (κ 2)) (ξ 5)) (ξ 4))) 1 (θ (δ (δ (δ (ξ 2) (ξ 3)) (ξ 6)) (κ 1)) (ξ 7)) 1 (ϑ (ξ 0) (ζ (ξ 7) (ν 0))) 1 (φn (κ 0) (ν 0)) yes hd1 hv.1 hu.2 cy.1 cx.2 es hE g1 (Nat.zero_le _))) (tn (a := E + 120) (fk7 [_,_,_,_,_,_,_] [] (φ (κ 0) (ζ (ξ 0) (κ 120))) 1 1 (φ (ξ 1) (κ 7)) 1 (φ (η (κ 20)) (ξ 2)) 1 (φ (ξ 3) (κ 20)) 1 (φ (κ 1) (ξ 4)) 1 (φ (ξ 5) (κ 2)) 1 (θ (ξ 6) (δ (ζ (ζ (ξ 1) (κ 2)) (ξ 5)) (ξ 4))) 1 (θ (δ (δ (δ (ξ 2) (ξ 3)) (ξ 6)) (κ 1)) (ξ 0)) yes hd1 hv.1 hu.2 cy.1 cx.2 es hE)))
  have q1 : a * 10 ^ (b + 120).toNat = (a * 10 ^ j) * 10 ^ (E + 120).toNat := by rw [eb, Int.mul_assoc]
  have small : a * 10 ^ (b + 120).toNat ≤ 10 ^ (119 - d).toNat := by
    rw [q1]
    have : (a * 10 ^ j) * 10 ^ (E + 120).toNat ≤ 10 ^ (cd M).toNat * 10 ^ (E + 120).toNat := Int.mul_le_mul_of_nonneg_right g5 (by exact fk1 [_] [] (φ (κ 0) (ξ 0)) 1 1 (ψ (κ 0) (ξ 0)) yes pE)
    rw [← pow_toNat_add (by exact fk2 [_] [_] (φ (κ 0) (ξ 0)) 1 1 (φ (ζ (ν 0) (κ 1)) (ξ 0)) 1 (φn (κ 0) (ν 0)) yes cM1 (Nat.zero_le _)) (by exact fk7 [_,_,_,_,_,_,_] [] (φ (κ 0) (ζ (ξ 0) (κ 120))) 1 1 (φ (ξ 1) (κ 7)) 1 (φ (η (κ 20)) (ξ 2)) 1 (φ (ξ 3) (κ 20)) 1 (φ (κ 1) (ξ 4)) 1 (φ (ξ 5) (κ 2)) 1 (θ (ξ 6) (δ (ζ (ζ (ξ 1) (κ 2)) (ξ 5)) (ξ 4))) 1 (θ (δ (δ (δ (ξ 2) (ξ 3)) (ξ 6)) (κ 1)) (ξ 0)) yes hd1 hv.1 hu.2 cy.1 cx.2 es hE)] at this
    exact Int.le_trans this (pow10_mono (by exact fk7 [_,_,_,_,_,_,_,_] [_,_,_] (φn (ν 0) (ν 1)) 1 1 (ψ (ζ (ξ 0) (κ 2)) (δ (ζ (ξ 1) (ξ 2)) (ζ (ξ 3) (ξ 4)))) 1 (ϑ (ξ 5) (δ (ζ (ζ (ξ 0) (κ 2)) (ξ 1)) (ξ 3))) 1 (φ (ξ 6) (ν 2)) 1 (ϑ (δ (δ (δ (ξ 4) (ξ 2)) (ξ 5)) (κ 1)) (ξ 7)) 1 (θ (ν 2) (ζ (ξ 0) (κ 4))) 1 (θ (ν 0) (ζ (ξ 6) (ζ (ξ 7) (κ 120)))) 1 (ϑ (ν 1) (δ (κ 119) (ξ 0))) yes h2 es cM2 hE (tn (a := d + 4) (fk1 [_] [] (φ (κ 0) (ζ (ξ 0) (κ 4))) 1 1 (φ (κ 2) (ξ 0)) yes hd)) (tn (a := cd M + (E + 120)) (fk8 [_,_,_,_,_,_,_,_] [_] (φ (κ 0) (ζ (ξ 0) (ζ (ξ 1) (κ 120)))) 1 1 (φ (η (κ 20)) (ξ 2)) 1 (φ (ξ 3) (κ 20)) 1 (φ (κ 1) (ξ 4)) 1 (φ (ξ 5) (κ 2)) 1 (θ (ξ 6) (δ (ζ (ζ (ξ 7) (κ 2)) (ξ 5)) (ξ 4))) 1 (φ (ζ (ν 0) (κ 1)) (ξ 0)) 1 (θ (δ (δ (δ (ξ 2) (ξ 3)) (ξ 6)) (κ 1)) (ξ 1)) 1 (ϑ (ν 0) (ζ (ξ 7) (κ 2))) yes hv.1 hu.2 cy.1 cx.2 es cM1 hE (tn (a := d + 2) (fk1 [_] [] (φ (κ 0) (ζ (ξ 0) (κ 2))) 1 1 (φ (κ 2) (ξ 0)) yes hd)))) (tn (a := 119 - d) (fk1 [_] [] (φ (κ 0) (δ (κ 119) (ξ 0))) 1 1 (φ (ξ 0) (κ 7)) yes hd1))))
  have nonneg : 0 ≤ a * 10 ^ (b + 120).toNat := Int.mul_nonneg (by exact fk1 [_] [] (φ (κ 0) (ξ 0)) 1 1 (ψ (κ 0) (ξ 0)) yes g2) (Int.le_of_lt (pow_pos10 _))
  have hl := ht_lo (p := d + 10) (by exact fk1 [_] [] (φ (κ 12) (ζ (ξ 0) (κ 10))) 1 1 (φ (κ 2) (ξ 0)) yes hd) (by exact fk1 [_] [] (φ (ζ (ξ 0) (κ 10)) (κ 59)) 1 1 (φ (ξ 0) (κ 7)) yes hd1)
  have hc := ht_crude (p := d + 10) (by exact fk1 [_] [] (φ (κ 0) (ζ (ξ 0) (κ 10))) 1 1 (φ (κ 2) (ξ 0)) yes hd) (by exact fk1 [_] [] (φ (ζ (ξ 0) (κ 10)) (κ 100)) 1 1 (φ (ξ 0) (κ 7)) yes hd1)
  have hsc := ht_scaled (p := d + 10) (by exact fk1 [_] [] (φ (κ 12) (ζ (ξ 0) (κ 10))) 1 1 (φ (κ 2) (ξ 0)) yes hd) (by exact fk1 [_] [] (φ (ζ (ξ 0) (κ 10)) (κ 59)) 1 1 (φ (ξ 0) (κ 7)) yes hd1)
  have pp := pow_pos10 (d + 10).toNat
  have pe : (10 : Int) ^ (d + 10 + 1).toNat = 10 ^ (d + 10).toNat * 10 := by
    have : (d + 10 + 1).toNat = (d + 10).toNat + 1 := by exact Nat.le_antisymm (fk2 [_] [_,_] (φn (ν 0) (ζ (ν 1) (κ 1))) 1 1 (θ (ν 0) (ζ (ζ (ξ 0) (κ 10)) (κ 1))) 1 (ϑ (ν 1) (ζ (ξ 0) (κ 10))) yes (tn (a := d + 10 + 1) (fk1 [_] [] (φ (κ 0) (ζ (ζ (ξ 0) (κ 10)) (κ 1))) 1 1 (φ (κ 2) (ξ 0)) yes hd)) (tn (a := d + 10) (fk1 [_] [] (φ (κ 0) (ζ (ξ 0) (κ 10))) 1 1 (φ (κ 2) (ξ 0)) yes hd))) (fk2 [_] [_,_] (φn (ζ (ν 0) (κ 1)) (ν 1)) 1 1 (ϑ (ν 1) (ζ (ζ (ξ 0) (κ 10)) (κ 1))) 1 (θ (ν 0) (ζ (ξ 0) (κ 10))) yes (tn (a := d + 10 + 1) (fk1 [_] [] (φ (κ 0) (ζ (ζ (ξ 0) (κ 10)) (κ 1))) 1 1 (φ (κ 2) (ξ 0)) yes hd)) (tn (a := d + 10) (fk1 [_] [] (φ (κ 0) (ζ (ξ 0) (κ 10))) 1 1 (φ (κ 2) (ξ 0)) yes hd)))
    rw [this, Int.pow_succ]
  have er : (2 * htV (d + 10)).fdiv 2 = htV (d + 10) := by rw [fdivP (by exact fk0 [] [] (ψ (κ 0) (κ 2)) 1  yes )]; lia
  have big4 : (10 : Int) ^ 111 ≤ 10 ^ (121 - d).toNat := pow10_mono (by exact fk2 [_] [_] (φn (κ 111) (ν 0)) 1 1 (φ (ξ 0) (κ 7)) 1 (ϑ (ν 0) (δ (κ 121) (ξ 0))) yes hd1 (tn (a := 121 - d) (fk1 [_] [] (φ (κ 0) (δ (κ 121) (ξ 0))) 1 1 (φ (ξ 0) (κ 7)) yes hd1)))
  have big5 : (10 : Int) ^ (119 - d).toNat ≤ 10 ^ (121 - d).toNat := pow10_mono (by exact fk2 [_] [_,_] (φn (ν 0) (ν 1)) 1 1 (θ (ν 0) (δ (κ 119) (ξ 0))) 1 (ϑ (ν 1) (δ (κ 121) (ξ 0))) yes (tn (a := 119 - d) (fk1 [_] [] (φ (κ 0) (δ (κ 119) (ξ 0))) 1 1 (φ (ξ 0) (κ 7)) yes hd1)) (tn (a := 121 - d) (fk1 [_] [] (φ (κ 0) (δ (κ 121) (ξ 0))) 1 1 (φ (ξ 0) (κ 7)) yes hd1)))
  have big6 : (10 : Int) ^ 110 + 10 ^ 110 ≤ 10 ^ 111 := by decide +kernel
  have s1 : saV y 2 d 99 = rr (htV (d + 10)) (-(d + 10)) d 99 := by unfold saV sgn; rw [er, if_neg (by exact fk1 [_] [] (Ψ (ξ 0) (κ 0)) 1 1 (ψ (κ 0) (ξ 0)) yes hy.1)]
  have s2 : saV (-y) 2 d 99 = rr (-htV (d + 10)) (-(d + 10)) d 99 := by unfold saV sgn; rw [er, if_pos (by exact fk1 [_] [] (ψ (η (ξ 0)) (κ 0)) 1 1 (ψ (κ 0) (ξ 0)) yes hy.1)]
  refine angle_of (p1 := 0) (r1 := 0) (p2 := d + 10) (r2 := htV (d + 10)) hd hd1 hy hx hv hu (a := a) (b := b) (at_fp (by exact fun hq => fn2 [_] [] 1 (ψ (κ 0) (ξ 0)) 1 (θ (ξ 0) (κ 0)) yes hy.1 hq) (by exact fun hq => fn2 [_] [] 1 (ψ (κ 0) (ξ 0)) 1 (θ (ξ 0) (κ 0)) yes hx.1 hq) h1 h2 hx.1 f1') (at_fp (by exact fun hq => fn2 [_] [] 1 (ψ (κ 0) (ξ 0)) 1 (ϑ (η (ξ 0)) (κ 0)) yes hy.1 hq) (by exact fun hq => fn2 [_] [] 1 (ψ (κ 0) (ξ 0)) 1 (θ (ξ 0) (κ 0)) yes hx.1 hq) (by rw [cd_neg]; exact h1) (by rw [cd_neg]; exact h2) hx.1 f2) (by exact fk1 [_] [] (φ (κ 0) (ξ 0)) 1 1 (ψ (κ 0) (ξ 0)) yes g2) (by exact fk3 [_,_,_,_] [] (φ (ξ 0) (ξ 1)) 1 1 (φ (ξ 2) (ξ 3)) 1 (φ (ω (ξ 0) 1) (ξ 2)) 1 (φ (ξ 3) (ξ 1)) yes g5 aj ub) (by exact fk9 [_,_,_,_,_,_,_,_] [_] (φ (η (κ 60)) (ξ 0)) 1 1 (φ (ξ 1) (κ 7)) 1 (φ (η (κ 20)) (ξ 2)) 1 (φ (ξ 3) (κ 20)) 1 (φ (κ 1) (ξ 4)) 1 (φ (ξ 5) (κ 2)) 1 (θ (ξ 6) (δ (ζ (ζ (ξ 1) (κ 2)) (ξ 5)) (ξ 4))) 1 (θ (δ (δ (δ (ξ 2) (ξ 3)) (ξ 6)) (κ 1)) (ξ 7)) 1 (ϑ (ξ 0) (ζ (ξ 7) (ν 0))) 1 (φn (κ 0) (ν 0)) yes hd1 hv.1 hu.2 cy.1 cx.2 es hE g1 (Nat.zero_le _)) (by exact fk9 [_,_,_,_,_,_,_,_,_,_] [_,_] (φ (ξ 0) (κ 1)) 1 1 (φ (κ 2) (ξ 1)) 1 (ψ (ζ (ξ 1) (κ 2)) (δ (ζ (ξ 2) (ξ 3)) (ζ (ξ 4) (ξ 5)))) 1 (ϑ (ξ 6) (δ (ζ (ζ (ξ 1) (κ 2)) (ξ 2)) (ξ 4))) 1 (φ (ξ 7) (ν 0)) 1 (ϑ (δ (δ (δ (ξ 5) (ξ 3)) (ξ 6)) (κ 1)) (ξ 8)) 1 (θ (ξ 0) (ζ (ξ 8) (ν 1))) 1 (φ (ζ (ξ 9) (ν 1)) (ζ (ξ 7) (κ 1))) 1 (φ (κ 1) (ξ 9)) 1 (θ (ν 0) (ζ (ξ 1) (κ 4))) yes hd h2 es cM2 hE g1 jb ca (tn (a := d + 4) (fk1 [_] [] (φ (κ 0) (ζ (ξ 0) (κ 4))) 1 1 (φ (κ 2) (ξ 0)) yes hd)))
    (at_fn (by exact fun hq => fn2 [_] [] 1 (ψ (κ 0) (ξ 0)) 1 (θ (ξ 0) (κ 0)) yes hy.1 hq) (by exact fun hq => fn2 [_] [] 1 (ψ (κ 0) (ξ 0)) 1 (ϑ (η (ξ 0)) (κ 0)) yes hx.1 hq) (by rw [cd_neg]; exact h1) (by rw [cd_neg]; exact h2) (by exact fk1 [_] [] (Ψ (κ 0) (η (ξ 0))) 1 1 (ψ (κ 0) (ξ 0)) yes hx.1) s1) (at_fn (by exact fun hq => fn2 [_] [] 1 (ψ (κ 0) (ξ 0)) 1 (ϑ (η (ξ 0)) (κ 0)) yes hy.1 hq) (by exact fun hq => fn2 [_] [] 1 (ψ (κ 0) (ξ 0)) 1 (ϑ (η (ξ 0)) (κ 0)) yes hx.1 hq) (by rw [cd_neg, cd_neg]; exact h1) (by rw [cd_neg, cd_neg]; exact h2) (by exact fk1 [_] [] (Ψ (κ 0) (η (ξ 0))) 1 1 (ψ (κ 0) (ξ 0)) yes hx.1) s2) (by exact fk1 [_] [] (φ (κ 12) (ζ (ξ 0) (κ 10))) 1 1 (φ (κ 2) (ξ 0)) yes hd) (by exact fk1 [_] [] (φ (ζ (ξ 0) (κ 10)) (κ 59)) 1 1 (φ (ξ 0) (κ 7)) yes hd1) (by exact fk2 [_,_] [] (φ (ξ 0) (ξ 1)) 1 1 (φ (π 3 (ξ 0)) (ξ 1)) 2 (ψ (κ 0) (ξ 0)) yes hl pp) (by exact fk3 [_,_,_] [] (ψ (ξ 0) (ξ 1)) 1 1 (φ (ξ 0) (π 4 (ξ 2))) 6 (ψ (κ 0) (ξ 2)) 1 (ϑ (ξ 1) (ω (ξ 2) 10)) yes hc.2 pp pe) (by exact fk5 [_,_,_,_,_,_,_] [] (φ (π 2 (δ (ζ (ξ 0) (ξ 1)) (π 31415926535897932384626433832795028841971 (ξ 2)))) (π 3 (ξ 3))) 1 2 (φ (ξ 1) (ξ 4)) 2 (φ (δ (ξ 0) (π 31415926535897932384626433832795028841971 (ξ 2))) (ξ 5)) 1 (φ (ξ 6) (ξ 3)) 2 (φ (ξ 4) (ξ 3)) 1 (φ (ζ (ξ 5) (ξ 5)) (ξ 6)) yes small hsc.1 big4 big5 big6) (by exact fk6 [_,_,_,_,_,_,_] [] (φ (π 2 (δ (δ (π 31415926535897932384626433832795028841971 (ξ 0)) (ξ 1)) (ξ 2))) (π 3 (ξ 3))) 1 2 (φ (ξ 2) (ξ 4)) 4 (φ (κ 0) (ξ 2)) 2 (φ (δ (π 31415926535897932384626433832795028841971 (ξ 0)) (ξ 1)) (ξ 5)) 1 (φ (ξ 6) (ξ 3)) 2 (φ (ξ 4) (ξ 3)) 1 (φ (ζ (ξ 5) (ξ 5)) (ξ 6)) yes small nonneg hsc.2 big4 big5 big6) (fun _ => ?_)
  have eZ : anF y x = y * 10 ^ 60 / x := by unfold anF; rw [fdivP hx.1]; rfl
  have z1 := Int.mul_ediv_add_emod (y * 10 ^ 60) x
  have z2 := Int.emod_nonneg (y * 10 ^ 60) (by exact fun hq => fn2 [_] [] 1 (ψ (κ 0) (ξ 0)) 1 (θ (ξ 0) (κ 0)) yes hx.1 hq : x ≠ 0)
  have z3 := Int.emod_lt_of_pos (y * 10 ^ 60) hx.1
  have pz := pow_pos10 60
  have zn : 0 ≤ anF y x := by rw [eZ]; exact Int.ediv_nonneg (Int.mul_nonneg (by exact fk1 [_] [] (φ (κ 0) (ξ 0)) 1 1 (ψ (κ 0) (ξ 0)) yes hy.1) (by exact fk1 [_] [] (φ (κ 0) (ξ 0)) 1 1 (ψ (κ 0) (ξ 0)) yes pz)) (by exact fk1 [_] [] (φ (κ 0) (ξ 0)) 1 1 (ψ (κ 0) (ξ 0)) yes hx.1)
  have zu : anF y x ≤ y * 10 ^ 60 := by
    rw [eZ]
    exact Int.ediv_le_self _ (Int.mul_nonneg (by exact fk1 [_] [] (φ (κ 0) (ξ 0)) 1 1 (ψ (κ 0) (ξ 0)) yes hy.1) (by exact fk1 [_] [] (φ (κ 0) (ξ 0)) 1 1 (ψ (κ 0) (ξ 0)) yes pz))
  have zu2 : y * 10 ^ 60 ≤ 100 * 10 ^ 60 := Int.mul_le_mul_of_nonneg_right (by exact fk1 [_] [] (φ (ξ 0) (κ 100)) 1 1 (ψ (ξ 0) (κ 100)) yes hy.2) (by exact fk1 [_] [] (φ (κ 0) (ξ 0)) 1 1 (ψ (κ 0) (ξ 0)) yes pz)
  have k1 : (100 : Int) * 10 ^ 60 < 10 ^ 300 := by decide +kernel
  have k3 : (10 : Int) ^ 70 < 10 ^ 300 := by decide +kernel
  rw [← eZ] at z1
  have pf := pow_pos10 (v - u + 60).toNat
  have ef : (v - u - 60 + 120).toNat = (v - u + 60).toNat := by lia
  have eW1 : (10 * (y * 10 ^ (quS y x d).toNat)) * 10 ^ (E + 120).toNat = y * 10 ^ (v - u + 120).toNat := by
    have : (10 : Int) ^ (v - u + 120).toNat = 10 * 10 ^ (quS y x d).toNat * 10 ^ (E + 120).toNat := by
      have e1 : (10 : Int) * 10 ^ (quS y x d).toNat = 10 ^ ((quS y x d).toNat + 1) := by rw [Int.pow_succ]; exact Int.le_antisymm (fk0 [_] [] (φ (π 10 (ξ 0)) (ω (ξ 0) 10)) 1  yes ) (fk0 [_] [] (φ (ω (ξ 0) 10) (π 10 (ξ 0))) 1  yes )
      rw [e1, ← pow_addI]; congr 1; exact Nat.le_antisymm (fk4 [_,_,_,_] [_,_,_] (φn (ν 0) (ζ (ζ (ν 1) (κ 1)) (ν 2))) 1 1 (θ (δ (δ (δ (ξ 0) (ξ 1)) (ξ 2)) (κ 1)) (ξ 3)) 1 (θ (ν 0) (ζ (δ (ξ 0) (ξ 1)) (κ 120))) 1 (ϑ (ν 1) (ξ 2)) 1 (ϑ (ν 2) (ζ (ξ 3) (κ 120))) yes hE (tn (a := v - u + 120) (fk2 [_,_] [] (φ (κ 0) (ζ (δ (ξ 0) (ξ 1)) (κ 120))) 1 1 (φ (η (κ 20)) (ξ 0)) 1 (φ (ξ 1) (κ 20)) yes hv.1 hu.2)) (tn (a := quS y x d) (fk4 [_,_,_,_] [] (φ (κ 0) (ξ 0)) 1 1 (φ (κ 2) (ξ 1)) 1 (φ (ξ 2) (κ 2)) 1 (φ (κ 1) (ξ 3)) 1 (ϑ (ξ 0) (δ (ζ (ζ (ξ 1) (κ 2)) (ξ 3)) (ξ 2))) yes hd cy.2 cx.1 es)) (tn (a := E + 120) (fk7 [_,_,_,_,_,_,_] [] (φ (κ 0) (ζ (ξ 0) (κ 120))) 1 1 (φ (ξ 1) (κ 7)) 1 (φ (η (κ 20)) (ξ 2)) 1 (φ (ξ 3) (κ 20)) 1 (φ (κ 1) (ξ 4)) 1 (φ (ξ 5) (κ 2)) 1 (θ (ξ 6) (δ (ζ (ζ (ξ 1) (κ 2)) (ξ 5)) (ξ 4))) 1 (θ (δ (δ (δ (ξ 2) (ξ 3)) (ξ 6)) (κ 1)) (ξ 0)) yes hd1 hv.1 hu.2 cy.1 cx.2 es hE))) (fk4 [_,_,_,_] [_,_,_] (φn (ζ (ζ (ν 0) (κ 1)) (ν 1)) (ν 2)) 1 1 (ϑ (δ (δ (δ (ξ 0) (ξ 1)) (ξ 2)) (κ 1)) (ξ 3)) 1 (ϑ (ν 2) (ζ (δ (ξ 0) (ξ 1)) (κ 120))) 1 (θ (ν 0) (ξ 2)) 1 (θ (ν 1) (ζ (ξ 3) (κ 120))) yes hE (tn (a := v - u + 120) (fk2 [_,_] [] (φ (κ 0) (ζ (δ (ξ 0) (ξ 1)) (κ 120))) 1 1 (φ (η (κ 20)) (ξ 0)) 1 (φ (ξ 1) (κ 20)) yes hv.1 hu.2)) (tn (a := quS y x d) (fk4 [_,_,_,_] [] (φ (κ 0) (ξ 0)) 1 1 (φ (κ 2) (ξ 1)) 1 (φ (ξ 2) (κ 2)) 1 (φ (κ 1) (ξ 3)) 1 (ϑ (ξ 0) (δ (ζ (ζ (ξ 1) (κ 2)) (ξ 3)) (ξ 2))) yes hd cy.2 cx.1 es)) (tn (a := E + 120) (fk7 [_,_,_,_,_,_,_] [] (φ (κ 0) (ζ (ξ 0) (κ 120))) 1 1 (φ (ξ 1) (κ 7)) 1 (φ (η (κ 20)) (ξ 2)) 1 (φ (ξ 3) (κ 20)) 1 (φ (κ 1) (ξ 4)) 1 (φ (ξ 5) (κ 2)) 1 (θ (ξ 6) (δ (ζ (ζ (ξ 1) (κ 2)) (ξ 5)) (ξ 4))) 1 (θ (δ (δ (δ (ξ 2) (ξ 3)) (ξ 6)) (κ 1)) (ξ 0)) yes hd1 hv.1 hu.2 cy.1 cx.2 es hE)))
    rw [this]; grind
  have eW2 : (y * 10 ^ 60) * 10 ^ (v - u + 60).toNat = y * 10 ^ (v - u + 120).toNat := by
    rw [Int.mul_assoc, ← pow_addI]; congr 2; exact Nat.le_antisymm (fk2 [_,_] [_,_] (φn (ζ (κ 60) (ν 0)) (ν 1)) 1 1 (θ (ν 0) (ζ (δ (ξ 0) (ξ 1)) (κ 60))) 1 (ϑ (ν 1) (ζ (δ (ξ 0) (ξ 1)) (κ 120))) yes (tn (a := v - u + 60) (fk2 [_,_] [] (φ (κ 0) (ζ (δ (ξ 0) (ξ 1)) (κ 60))) 1 1 (φ (η (κ 20)) (ξ 0)) 1 (φ (ξ 1) (κ 20)) yes hv.1 hu.2)) (tn (a := v - u + 120) (fk2 [_,_] [_] (φ (κ 0) (ζ (δ (ξ 0) (ξ 1)) (κ 120))) 1 1 (φn (κ 0) (ν 0)) 1 (θ (ν 0) (ζ (δ (ξ 0) (ξ 1)) (κ 60))) yes (Nat.zero_le _) (tn (a := v - u + 60) (fk2 [_,_] [] (φ (κ 0) (ζ (δ (ξ 0) (ξ 1)) (κ 60))) 1 1 (φ (η (κ 20)) (ξ 0)) 1 (φ (ξ 1) (κ 20)) yes hv.1 hu.2))))) (fk2 [_,_] [_,_] (φn (ν 0) (ζ (κ 60) (ν 1))) 1 1 (ϑ (ν 1) (ζ (δ (ξ 0) (ξ 1)) (κ 60))) 1 (θ (ν 0) (ζ (δ (ξ 0) (ξ 1)) (κ 120))) yes (tn (a := v - u + 60) (fk2 [_,_] [] (φ (κ 0) (ζ (δ (ξ 0) (ξ 1)) (κ 60))) 1 1 (φ (η (κ 20)) (ξ 0)) 1 (φ (ξ 1) (κ 20)) yes hv.1 hu.2)) (tn (a := v - u + 120) (fk2 [_,_] [_] (φ (κ 0) (ζ (δ (ξ 0) (ξ 1)) (κ 120))) 1 1 (φn (κ 0) (ν 0)) 1 (θ (ν 0) (ζ (δ (ξ 0) (ξ 1)) (κ 60))) yes (Nat.zero_le _) (tn (a := v - u + 60) (fk2 [_,_] [] (φ (κ 0) (ζ (δ (ξ 0) (ξ 1)) (κ 60))) 1 1 (φ (η (κ 20)) (ξ 0)) 1 (φ (ξ 1) (κ 20)) yes hv.1 hu.2)))))
  have fe : (10 : Int) ^ (v - u + 60).toNat ≤ 10 ^ (E + 120).toNat := pow10_mono (by exact fk7 [_,_,_,_,_,_,_] [_,_] (φn (ν 0) (ν 1)) 1 1 (φ (ξ 0) (κ 7)) 1 (φ (κ 1) (ξ 1)) 1 (φ (ξ 2) (κ 2)) 1 (θ (ξ 3) (δ (ζ (ζ (ξ 0) (κ 2)) (ξ 2)) (ξ 1))) 1 (θ (δ (δ (δ (ξ 4) (ξ 5)) (ξ 3)) (κ 1)) (ξ 6)) 1 (θ (ν 0) (ζ (δ (ξ 4) (ξ 5)) (κ 60))) 1 (ϑ (ν 1) (ζ (ξ 6) (κ 120))) yes hd1 cy.1 cx.2 es hE (tn (a := v - u + 60) (fk2 [_,_] [] (φ (κ 0) (ζ (δ (ξ 0) (ξ 1)) (κ 60))) 1 1 (φ (η (κ 20)) (ξ 0)) 1 (φ (ξ 1) (κ 20)) yes hv.1 hu.2)) (tn (a := E + 120) (fk7 [_,_,_,_,_,_,_] [_] (φ (κ 0) (ζ (ξ 0) (κ 120))) 1 1 (φ (ξ 1) (κ 7)) 1 (φ (κ 1) (ξ 2)) 1 (φ (ξ 3) (κ 2)) 1 (θ (ξ 4) (δ (ζ (ζ (ξ 1) (κ 2)) (ξ 3)) (ξ 2))) 1 (θ (δ (δ (δ (ξ 5) (ξ 6)) (ξ 4)) (κ 1)) (ξ 0)) 1 (φn (κ 0) (ν 0)) 1 (θ (ν 0) (ζ (δ (ξ 5) (ξ 6)) (κ 60))) yes hd1 cy.1 cx.2 es hE (Nat.zero_le _) (tn (a := v - u + 60) (fk2 [_,_] [] (φ (κ 0) (ζ (δ (ξ 0) (ξ 1)) (κ 60))) 1 1 (φ (η (κ 20)) (ξ 0)) 1 (φ (ξ 1) (κ 20)) yes hv.1 hu.2)))))
  have i1 : (x * M) * 10 ^ (E + 120).toNat ≤ (10 * (y * 10 ^ (quS y x d).toNat) + x) * 10 ^ (E + 120).toNat := Int.mul_le_mul_of_nonneg_right m3 (by exact fk1 [_] [] (φ (κ 0) (ξ 0)) 1 1 (ψ (κ 0) (ξ 0)) yes pE)
  have i2 : (10 * (y * 10 ^ (quS y x d).toNat)) * 10 ^ (E + 120).toNat ≤ (x * M + 10 * x) * 10 ^ (E + 120).toNat := Int.mul_le_mul_of_nonneg_right m4 (by exact fk1 [_] [] (φ (κ 0) (ξ 0)) 1 1 (ψ (κ 0) (ξ 0)) yes pE)
  have i3 : (x * anF y x) * 10 ^ (v - u + 60).toNat ≤ (y * 10 ^ 60) * 10 ^ (v - u + 60).toNat := Int.mul_le_mul_of_nonneg_right (by exact fk2 [_,_,_] [] (φ (ξ 0) (ξ 1)) 1 1 (θ (ζ (ξ 0) (ξ 2)) (ξ 1)) 1 (φ (κ 0) (ξ 2)) yes z1 z2) (by exact fk1 [_] [] (φ (κ 0) (ξ 0)) 1 1 (ψ (κ 0) (ξ 0)) yes pf)
  have i4 : (y * 10 ^ 60) * 10 ^ (v - u + 60).toNat ≤ (x * anF y x + x) * 10 ^ (v - u + 60).toNat := Int.mul_le_mul_of_nonneg_right (by exact fk2 [_,_,_,_] [] (φ (ξ 0) (ζ (ξ 1) (ξ 2))) 1 1 (ϑ (ζ (ξ 1) (ξ 3)) (ξ 0)) 1 (ψ (ξ 3) (ξ 2)) yes z1 z3) (by exact fk1 [_] [] (φ (κ 0) (ξ 0)) 1 1 (ψ (κ 0) (ξ 0)) yes pf)
  rw [Int.add_mul, eW1] at i1
  rw [Int.add_mul, eW1] at i2
  rw [eW2] at i3
  rw [Int.add_mul, eW2] at i4
  have U0 : (10 : Int) ^ (E + cd M + 120 - d).toNat = unitI M d * 10 ^ (E + 120).toNat := by
    unfold unitI; rw [← pow_addI]; congr 1; exact Nat.le_antisymm (fk3 [_,_,_] [_,_,_] (φn (ν 0) (ζ (ν 1) (ν 2))) 1 1 (θ (ν 0) (δ (ζ (ζ (ξ 0) (ξ 1)) (κ 120)) (ξ 2))) 1 (ϑ (ν 1) (δ (ξ 1) (ξ 2))) 1 (ϑ (ν 2) (ζ (ξ 0) (κ 120))) yes (tn (a := E + cd M + 120 - d) (fk9 [_,_,_,_,_,_,_,_] [_] (φ (κ 0) (δ (ζ (ζ (ξ 0) (ξ 1)) (κ 120)) (ξ 2))) 1 1 (φ (ξ 2) (κ 7)) 1 (φ (η (κ 20)) (ξ 3)) 1 (φ (ξ 4) (κ 20)) 1 (φ (κ 1) (ξ 5)) 1 (φ (ξ 6) (κ 2)) 1 (θ (ξ 7) (δ (ζ (ζ (ξ 2) (κ 2)) (ξ 6)) (ξ 5))) 1 (φ (ζ (ν 0) (κ 1)) (ξ 1)) 1 (θ (δ (δ (δ (ξ 3) (ξ 4)) (ξ 7)) (κ 1)) (ξ 0)) 1 (ϑ (ν 0) (ζ (ξ 2) (κ 2))) yes hd1 hv.1 hu.2 cy.1 cx.2 es cM1 hE (tn (a := d + 2) (fk1 [_] [] (φ (κ 0) (ζ (ξ 0) (κ 2))) 1 1 (φ (κ 2) (ξ 0)) yes hd)))) (tn (a := cd M - d) (fk2 [_,_] [_] (φ (κ 0) (δ (ξ 0) (ξ 1))) 1 1 (φ (ζ (ν 0) (κ 1)) (ξ 0)) 1 (ϑ (ν 0) (ζ (ξ 1) (κ 2))) yes cM1 (tn (a := d + 2) (fk1 [_] [] (φ (κ 0) (ζ (ξ 0) (κ 2))) 1 1 (φ (κ 2) (ξ 0)) yes hd)))) (tn (a := E + 120) (fk7 [_,_,_,_,_,_,_] [] (φ (κ 0) (ζ (ξ 0) (κ 120))) 1 1 (φ (ξ 1) (κ 7)) 1 (φ (η (κ 20)) (ξ 2)) 1 (φ (ξ 3) (κ 20)) 1 (φ (κ 1) (ξ 4)) 1 (φ (ξ 5) (κ 2)) 1 (θ (ξ 6) (δ (ζ (ζ (ξ 1) (κ 2)) (ξ 5)) (ξ 4))) 1 (θ (δ (δ (δ (ξ 2) (ξ 3)) (ξ 6)) (κ 1)) (ξ 0)) yes hd1 hv.1 hu.2 cy.1 cx.2 es hE))) (fk3 [_,_,_] [_,_,_] (φn (ζ (ν 0) (ν 1)) (ν 2)) 1 1 (ϑ (ν 2) (δ (ζ (ζ (ξ 0) (ξ 1)) (κ 120)) (ξ 2))) 1 (θ (ν 0) (δ (ξ 1) (ξ 2))) 1 (θ (ν 1) (ζ (ξ 0) (κ 120))) yes (tn (a := E + cd M + 120 - d) (fk9 [_,_,_,_,_,_,_,_] [_] (φ (κ 0) (δ (ζ (ζ (ξ 0) (ξ 1)) (κ 120)) (ξ 2))) 1 1 (φ (ξ 2) (κ 7)) 1 (φ (η (κ 20)) (ξ 3)) 1 (φ (ξ 4) (κ 20)) 1 (φ (κ 1) (ξ 5)) 1 (φ (ξ 6) (κ 2)) 1 (θ (ξ 7) (δ (ζ (ζ (ξ 2) (κ 2)) (ξ 6)) (ξ 5))) 1 (φ (ζ (ν 0) (κ 1)) (ξ 1)) 1 (θ (δ (δ (δ (ξ 3) (ξ 4)) (ξ 7)) (κ 1)) (ξ 0)) 1 (ϑ (ν 0) (ζ (ξ 2) (κ 2))) yes hd1 hv.1 hu.2 cy.1 cx.2 es cM1 hE (tn (a := d + 2) (fk1 [_] [] (φ (κ 0) (ζ (ξ 0) (κ 2))) 1 1 (φ (κ 2) (ξ 0)) yes hd)))) (tn (a := cd M - d) (fk2 [_,_] [_] (φ (κ 0) (δ (ξ 0) (ξ 1))) 1 1 (φ (ζ (ν 0) (κ 1)) (ξ 0)) 1 (ϑ (ν 0) (ζ (ξ 1) (κ 2))) yes cM1 (tn (a := d + 2) (fk1 [_] [] (φ (κ 0) (ζ (ξ 0) (κ 2))) 1 1 (φ (κ 2) (ξ 0)) yes hd)))) (tn (a := E + 120) (fk7 [_,_,_,_,_,_,_] [] (φ (κ 0) (ζ (ξ 0) (κ 120))) 1 1 (φ (ξ 1) (κ 7)) 1 (φ (η (κ 20)) (ξ 2)) 1 (φ (ξ 3) (κ 20)) 1 (φ (κ 1) (ξ 4)) 1 (φ (ξ 5) (κ 2)) 1 (θ (ξ 6) (δ (ζ (ζ (ξ 1) (κ 2)) (ξ 5)) (ξ 4))) 1 (θ (δ (δ (δ (ξ 2) (ξ 3)) (ξ 6)) (κ 1)) (ξ 0)) yes hd1 hv.1 hu.2 cy.1 cx.2 es hE)))
  have U1 : 1000 * (10 : Int) ^ (E + 120).toNat ≤ 10 ^ (E + cd M + 120 - d).toNat := by
    have : (1000 : Int) * 10 ^ (E + 120).toNat = 10 ^ (3 + (E + 120).toNat) := by rw [pow_addI]; rfl
    rw [this]; exact pow10_mono (by exact fk4 [_,_,_] [_,_,_] (φn (ζ (κ 3) (ν 0)) (ν 1)) 1 1 (φ (ζ (ν 2) (κ 1)) (ξ 0)) 1 (ϑ (ν 2) (ζ (ξ 1) (κ 2))) 1 (θ (ν 0) (ζ (ξ 2) (κ 120))) 1 (ϑ (ν 1) (δ (ζ (ζ (ξ 2) (ξ 0)) (κ 120)) (ξ 1))) yes cM1 (tn (a := d + 2) (fk1 [_] [] (φ (κ 0) (ζ (ξ 0) (κ 2))) 1 1 (φ (κ 2) (ξ 0)) yes hd)) (tn (a := E + 120) (fk7 [_,_,_,_,_,_,_] [] (φ (κ 0) (ζ (ξ 0) (κ 120))) 1 1 (φ (ξ 1) (κ 7)) 1 (φ (η (κ 20)) (ξ 2)) 1 (φ (ξ 3) (κ 20)) 1 (φ (κ 1) (ξ 4)) 1 (φ (ξ 5) (κ 2)) 1 (θ (ξ 6) (δ (ζ (ζ (ξ 1) (κ 2)) (ξ 5)) (ξ 4))) 1 (θ (δ (δ (δ (ξ 2) (ξ 3)) (ξ 6)) (κ 1)) (ξ 0)) yes hd1 hv.1 hu.2 cy.1 cx.2 es hE)) (tn (a := E + cd M + 120 - d) (fk4 [_,_,_] [_,_] (φ (κ 0) (δ (ζ (ζ (ξ 0) (ξ 1)) (κ 120)) (ξ 2))) 1 1 (φ (ζ (ν 0) (κ 1)) (ξ 1)) 1 (ϑ (ν 0) (ζ (ξ 2) (κ 2))) 1 (φn (κ 0) (ν 1)) 1 (θ (ν 1) (ζ (ξ 0) (κ 120))) yes cM1 (tn (a := d + 2) (fk1 [_] [] (φ (κ 0) (ζ (ξ 0) (κ 2))) 1 1 (φ (κ 2) (ξ 0)) yes hd)) (Nat.zero_le _) (tn (a := E + 120) (fk7 [_,_,_,_,_,_,_] [] (φ (κ 0) (ζ (ξ 0) (κ 120))) 1 1 (φ (ξ 1) (κ 7)) 1 (φ (η (κ 20)) (ξ 2)) 1 (φ (ξ 3) (κ 20)) 1 (φ (κ 1) (ξ 4)) 1 (φ (ξ 5) (κ 2)) 1 (θ (ξ 6) (δ (ζ (ζ (ξ 1) (κ 2)) (ξ 5)) (ξ 4))) 1 (θ (δ (δ (δ (ξ 2) (ξ 3)) (ξ 6)) (κ 1)) (ξ 0)) yes hd1 hv.1 hu.2 cy.1 cx.2 es hE)))))
  have d1 : M * 10 ^ (E + 120).toNat - anF y x * 10 ^ (v - u + 60).toNat ≤ 2 * 10 ^ (E + 120).toNat := by
    have : x * (M * 10 ^ (E + 120).toNat - anF y x * 10 ^ (v - u + 60).toNat) ≤ x * (2 * 10 ^ (E + 120).toNat) := by
      have := Int.mul_le_mul_of_nonneg_left fe (by exact fk1 [_] [] (φ (κ 0) (ξ 0)) 1 1 (ψ (κ 0) (ξ 0)) yes hx.1 : 0 ≤ x)
      grind
    exact Int.le_of_mul_le_mul_left this hx.1
  have d2 : anF y x * 10 ^ (v - u + 60).toNat - M * 10 ^ (E + 120).toNat ≤ 10 * 10 ^ (E + 120).toNat := by
    have : x * (anF y x * 10 ^ (v - u + 60).toNat - M * 10 ^ (E + 120).toNat) ≤ x * (10 * 10 ^ (E + 120).toNat) := by grind
    exact Int.le_of_mul_le_mul_left this hx.1
  have d3 : 2 * (a * 10 ^ j - M) * 10 ^ (E + 120).toNat ≤ unitI M d * 10 ^ (E + 120).toNat := Int.mul_le_mul_of_nonneg_right g3 (by exact fk1 [_] [] (φ (κ 0) (ξ 0)) 1 1 (ψ (κ 0) (ξ 0)) yes pE)
  have d4 : 2 * (M - a * 10 ^ j) * 10 ^ (E + 120).toNat ≤ unitI M d * 10 ^ (E + 120).toNat := Int.mul_le_mul_of_nonneg_right g4 (by exact fk1 [_] [] (φ (κ 0) (ξ 0)) 1 1 (ψ (κ 0) (ξ 0)) yes pE)
  rw [← U0, Int.mul_assoc, Int.sub_mul, ← q1] at d3
  rw [← U0, Int.mul_assoc, Int.sub_mul, ← q1] at d4
  refine near_of (c := E + cd M) hd hd1 (by decide) (by exact ⟨fk9 [_,_,_,_,_,_,_,_] [_] (φ (η (κ 105)) (ξ 0)) 1 1 (φ (ξ 1) (κ 7)) 1 (φ (η (κ 20)) (ξ 2)) 1 (φ (ξ 3) (κ 20)) 1 (φ (κ 1) (ξ 4)) 1 (φ (ξ 5) (κ 2)) 1 (θ (ξ 6) (δ (ζ (ζ (ξ 1) (κ 2)) (ξ 5)) (ξ 4))) 1 (θ (δ (δ (δ (ξ 2) (ξ 3)) (ξ 6)) (κ 1)) (ξ 7)) 1 (ϑ (ξ 0) (ζ (ξ 7) (ν 0))) 1 (φn (κ 0) (ν 0)) yes hd1 hv.1 hu.2 cy.1 cx.2 es hE g1 (Nat.zero_le _), fk9 [_,_,_,_,_,_,_,_,_,_] [_,_] (φ (ξ 0) (κ 10)) 1 1 (φ (κ 2) (ξ 1)) 1 (ψ (ζ (ξ 1) (κ 2)) (δ (ζ (ξ 2) (ξ 3)) (ζ (ξ 4) (ξ 5)))) 1 (ϑ (ξ 6) (δ (ζ (ζ (ξ 1) (κ 2)) (ξ 2)) (ξ 4))) 1 (φ (ξ 7) (ν 0)) 1 (ϑ (δ (δ (δ (ξ 5) (ξ 3)) (ξ 6)) (κ 1)) (ξ 8)) 1 (θ (ξ 0) (ζ (ξ 8) (ν 1))) 1 (φ (ζ (ξ 9) (ν 1)) (ζ (ξ 7) (κ 1))) 1 (φ (κ 1) (ξ 9)) 1 (θ (ν 0) (ζ (ξ 1) (κ 4))) yes hd h2 es cM2 hE g1 jb ca (tn (a := d + 4) (fk1 [_] [] (φ (κ 0) (ζ (ξ 0) (κ 4))) 1 1 (φ (κ 2) (ξ 0)) yes hd))⟩) (by exact ⟨fk2 [_,_] [] (φ (η (κ 105)) (δ (δ (ξ 0) (ξ 1)) (κ 60))) 1 1 (φ (η (κ 20)) (ξ 0)) 1 (φ (ξ 1) (κ 20)) yes hv.1 hu.2, fk2 [_,_] [] (φ (δ (δ (ξ 0) (ξ 1)) (κ 60)) (κ 10)) 1 1 (φ (ξ 0) (κ 20)) 1 (φ (η (κ 20)) (ξ 1)) yes hv.2 hu.1⟩) (by exact fk3 [_,_,_,_] [_] (φ (ξ 0) (ζ (ξ 1) (ξ 2))) 1 1 (θ (ξ 0) (ζ (ξ 1) (ν 0))) 1 (φ (ζ (ξ 3) (ν 0)) (ζ (ξ 2) (κ 1))) 1 (φ (κ 1) (ξ 3)) yes g1 jb ca) (by exact fk6 [_,_,_,_,_,_,_,_] [_] (φ (ζ (ξ 0) (ξ 1)) (κ 10)) 1 1 (φ (κ 2) (ξ 2)) 1 (ψ (ζ (ξ 2) (κ 2)) (δ (ζ (ξ 3) (ξ 4)) (ζ (ξ 5) (ξ 6)))) 1 (ϑ (ξ 7) (δ (ζ (ζ (ξ 2) (κ 2)) (ξ 3)) (ξ 5))) 1 (φ (ξ 1) (ν 0)) 1 (ϑ (δ (δ (δ (ξ 6) (ξ 4)) (ξ 7)) (κ 1)) (ξ 0)) 1 (θ (ν 0) (ζ (ξ 2) (κ 4))) yes hd h2 es cM2 hE (tn (a := d + 4) (fk1 [_] [] (φ (κ 0) (ζ (ξ 0) (κ 4))) 1 1 (φ (κ 2) (ξ 0)) yes hd))) (by exact ⟨fk5 [_,_,_,_,_] [] (ψ (η (ξ 0)) (ξ 1)) 1 2 (ψ (κ 0) (ξ 1)) 1 (φ (ξ 2) (ξ 3)) 1 (φ (ω (ξ 1) 1) (ξ 2)) 1 (φ (ξ 3) (ξ 4)) 1 (ψ (ξ 4) (ξ 0)) yes g2 g5 aj ub k3, fk4 [_,_,_,_,_] [] (ψ (ξ 0) (ξ 1)) 1 1 (φ (ξ 2) (ξ 3)) 1 (φ (ω (ξ 0) 1) (ξ 2)) 1 (φ (ξ 3) (ξ 4)) 1 (ψ (ξ 4) (ξ 1)) yes g5 aj ub k3⟩) (by exact ⟨fk6 [_,_,_,_,_,_] [] (ψ (η (ξ 0)) (ξ 1)) 1 1 (ψ (κ 0) (ξ 2)) 1 (φ (ξ 3) (ξ 4)) 1 (φ (ω (ξ 2) 1) (ξ 3)) 1 (φ (ξ 4) (ξ 5)) 1 (φ (κ 0) (ξ 1)) 1 (ψ (ξ 5) (ξ 0)) yes g2 g5 aj ub zn k3, fk3 [_,_,_,_] [] (ψ (ξ 0) (ξ 1)) 1 1 (φ (ξ 0) (ξ 2)) 1 (φ (ξ 2) (π 100 (ξ 3))) 1 (ψ (π 100 (ξ 3)) (ξ 1)) yes zu zu2 k1⟩) ?_ ?_ ?_
  · rw [q1]
    have : 10 ^ (cd M - 1).toNat * 10 ^ (E + 120).toNat ≤ (a * 10 ^ j) * 10 ^ (E + 120).toNat := Int.mul_le_mul_of_nonneg_right g6 (by exact fk1 [_] [] (φ (κ 0) (ξ 0)) 1 1 (ψ (κ 0) (ξ 0)) yes pE)
    rw [← pow_toNat_add (by exact fk2 [_] [_] (φ (κ 0) (δ (ξ 0) (κ 1))) 1 1 (φ (ζ (ν 0) (κ 1)) (ξ 0)) 1 (φn (κ 0) (ν 0)) yes cM1 (Nat.zero_le _)) (by exact fk7 [_,_,_,_,_,_,_] [] (φ (κ 0) (ζ (ξ 0) (κ 120))) 1 1 (φ (ξ 1) (κ 7)) 1 (φ (η (κ 20)) (ξ 2)) 1 (φ (ξ 3) (κ 20)) 1 (φ (κ 1) (ξ 4)) 1 (φ (ξ 5) (κ 2)) 1 (θ (ξ 6) (δ (ζ (ζ (ξ 1) (κ 2)) (ξ 5)) (ξ 4))) 1 (θ (δ (δ (δ (ξ 2) (ξ 3)) (ξ 6)) (κ 1)) (ξ 0)) yes hd1 hv.1 hu.2 cy.1 cx.2 es hE)] at this
    have e : (cd M - 1 + (E + 120)).toNat = (E + cd M + 119).toNat := by lia
    rw [e] at this; exact this
  · rw [ef]; exact fk4 [_,_,_,_,_] [] (φ (δ (ξ 0) (ξ 1)) (π 2 (ξ 2))) 2 2996 (ψ (κ 0) (ξ 3)) 3 (φ (π 1000 (ξ 3)) (ξ 2)) 2 (φ (δ (ξ 4) (ξ 1)) (π 2 (ξ 3))) 1 (φ (π 2 (δ (ξ 0) (ξ 4))) (ξ 2)) yes pE U1 d1 d3
  · rw [ef]; exact fk4 [_,_,_,_,_] [] (φ (δ (ξ 0) (ξ 1)) (π 2 (ξ 2))) 2 2980 (ψ (κ 0) (ξ 3)) 3 (φ (π 1000 (ξ 3)) (ξ 2)) 2 (φ (δ (ξ 0) (ξ 4)) (π 10 (ξ 3))) 1 (φ (π 2 (δ (ξ 4) (ξ 1))) (ξ 2)) yes pE U1 d2 d4
theorem angleOk {y v x u d : Int} (hd : 2 ≤ d) (hd1 : d ≤ 7) (hy : 0 < y ∧ y < 100) (hx : 0 < x ∧ x < 100) (hv : -20 ≤ v ∧ v ≤ 20) (hu : -20 ≤ u ∧ u ≤ 20) : ∃ a b a2 b2, AngleOk y v x u d a b a2 b2 := by
  by_cases h1 : d + 2 < cd y + v - (cd x + u)
  · exact angle_S hd hd1 hy hx hv hu h1
  · by_cases h2 : d + 2 < cd x + u - (cd y + v)
    · exact angle_F hd hd1 hy hx hv hu h1 h2
    · exact angle_G hd hd1 hy hx hv hu h1 h2
end Mine
end
section
open Mine.FLx (ξ ν κ ζ δ η π ω)
open Mine.FCx (φ ψ θ ϑ Φ Ψ φn ψn θn ϑn Φn Ψn)
namespace Mine
/-! the exponential's series -/
theorem fl_bounds {z q c T : Int} (hq : 0 < q) (h1 : 1000 * z ≤ c * T * q) (h2 : -(c * T * q) ≤ 1000 * z) : 1000 * z.fdiv q ≤ c * T ∧ -(c * T) - 1000 < 1000 * z.fdiv q := by
  rw [fdivP hq]
  have a := div_lo (a := z) hq
  have b := div_hi (a := z) hq
  constructor
  · have : 1000 * (z / q) * q ≤ c * T * q := by grind
    exact Int.le_of_mul_le_mul_right this hq
  · have : (-(c * T) - 1000) * q < 1000 * (z / q) * q := by grind
    exact Int.lt_of_mul_lt_mul_right this (by exact fk1 [_] [] (φ (κ 0) (ξ 0)) 1 1 (ψ (κ 0) (ξ 0)) yes hq)
theorem ex_term {one n t k c : Int} (h1 : 0 < one) (hn1 : 1000 * n ≤ 1152 * one) (hn2 : -(1152 * one) ≤ 1000 * n) (hk : 1 ≤ k) (hc : 1152 ≤ c * k) (hc0 : 0 ≤ c) :
    1000 * (t * n).fdiv (one * k) ≤ c * absI t ∧ -(c * absI t) - 1000 < 1000 * (t * n).fdiv (one * k) := by
  have hq : 0 < one * k := Int.mul_pos h1 (by exact fk1 [_] [] (ψ (κ 0) (ξ 0)) 1 1 (φ (κ 1) (ξ 0)) yes hk)
  have ha := absI_nn t
  have b1 : 1000 * absI n ≤ c * k * one := by
    have := Int.mul_le_mul_of_nonneg_right hc (Int.le_of_lt h1)
    rcases abs_cases n with ⟨e, _⟩ | ⟨e, _⟩ <;> rw [e] <;> lia
  have b2 : absI t * (1000 * absI n) ≤ absI t * (c * k * one) := Int.mul_le_mul_of_nonneg_left b1 ha
  have b3 : absI (t * n) = absI t * absI n := by
    rcases abs_cases t with ⟨e, h⟩ | ⟨e, h⟩ <;> rcases abs_cases n with ⟨f, g⟩ | ⟨f, g⟩ <;> rw [e, f]
    · exact absI_of_nn (Int.mul_nonneg h g)
    · have := Int.mul_nonneg h (by exact fk1 [_] [] (φ (κ 0) (η (ξ 0))) 1 1 (ψ (ξ 0) (κ 0)) yes g : 0 ≤ -n)
      have e3 : t * -n = -(t * n) := by grind
      rw [e3] at this ⊢
      rcases abs_cases (t * n) with ⟨e2, _⟩ | ⟨e2, _⟩ <;> lia
    · have := Int.mul_nonneg (by exact fk1 [_] [] (φ (κ 0) (η (ξ 0))) 1 1 (ψ (ξ 0) (κ 0)) yes h : 0 ≤ -t) g
      have e3 : -t * n = -(t * n) := by grind
      rw [e3] at this ⊢
      rcases abs_cases (t * n) with ⟨e2, _⟩ | ⟨e2, _⟩ <;> lia
    · have := Int.mul_nonneg (by exact fk1 [_] [] (φ (κ 0) (η (ξ 0))) 1 1 (ψ (ξ 0) (κ 0)) yes h : 0 ≤ -t) (by exact fk1 [_] [] (φ (κ 0) (η (ξ 0))) 1 1 (ψ (ξ 0) (κ 0)) yes g : 0 ≤ -n)
      have e3 : -t * -n = t * n := by grind
      rw [e3] at this ⊢
      exact absI_of_nn this
  have b4 : 1000 * absI (t * n) ≤ c * absI t * (one * k) := by rw [b3]; grind
  refine fl_bounds hq ?_ ?_
  · rcases abs_cases (t * n) with ⟨e2, _⟩ | ⟨e2, _⟩ <;> lia
  · rcases abs_cases (t * n) with ⟨e2, _⟩ | ⟨e2, _⟩ <;> lia
theorem exF_tail {one n : Int} (h1 : 0 < one) (hn1 : 1000 * n ≤ 1152 * one) (hn2 : -(1152 * one) ≤ 1000 * n) : ∀ (f : Nat) (total t k R : Int), 3 ≤ k → exF one n f total t k = some R →
    R - total ≤ absI t + 2 * f ∧ total - R ≤ absI t + 2 * f
  | 0, total, t, k, R, hk, h => by simp [exF] at h
  | f + 1, total, t, k, R, hk, h => by
    rw [exF] at h
    have ha := absI_nn t
    split at h
    · cases h; constructor <;> exact fk2 [_,_] [_] (φ (δ (ξ 0) (ξ 0)) (ζ (ξ 1) (π 2 (ζ (ν 0) (κ 1))))) 1 1 (φ (κ 0) (ξ 1)) 2 (φn (κ 0) (ν 0)) yes ha (Nat.zero_le _)
    · split at h
      · cases h
      · obtain ⟨a, b⟩ := exF_tail h1 hn1 hn2 f _ _ _ _ (by exact fk1 [_] [] (φ (κ 3) (ζ (ξ 0) (κ 1))) 1 1 (φ (κ 3) (ξ 0)) yes hk) h
        obtain ⟨c, d⟩ := ex_term (t := t) (c := 384) h1 hn1 hn2 (by exact fk1 [_] [] (φ (κ 1) (ξ 0)) 1 1 (φ (κ 3) (ξ 0)) yes hk : 1 ≤ k) (by exact fk1 [_] [] (φ (κ 1152) (π 384 (ξ 0))) 1 384 (φ (κ 3) (ξ 0)) yes hk) (by decide)
        generalize (t * n).fdiv (one * k) = t' at *
        have := abs_cases t'
        push_cast
        lia
theorem fdiv_nonneg' {z q : Int} (hq : 0 < q) (h : 0 ≤ z) : 0 ≤ z.fdiv q := fdiv_nn h hq
theorem fdiv_nonpos' {z q : Int} (hq : 0 < q) (h : z ≤ 0) : z.fdiv q ≤ 0 := by
  rw [fdivP hq]
  have a := div_lo (a := z) hq
  rcases Int.lt_or_le 0 (z / q) with k | k
  · have := Int.mul_pos k hq; exact (fn3 [_,_] [] 1 (φ (ξ 0) (κ 0)) 1 (φ (ξ 1) (ξ 0)) 1 (ψ (κ 0) (ξ 1)) yes h a this).elim
  · exact k
theorem exF_ends {one n : Int} (h1 : 0 < one) (hn1 : 1000 * n ≤ 1152 * one) (hn2 : -(1152 * one) ≤ 1000 * n) : ∀ (L f : Nat) (total t k : Int), 3 ≤ k → 0 ≤ t → t < 2 ^ L → t ≤ 4 * one → 2 * L + 1 ≤ f → (exF one n f total t k).isSome = true
  | 0, f, total, t, k, hk, h0, hL, h4, hf => by
    obtain ⟨f, rfl⟩ : ∃ g, f = g + 1 := ⟨f - 1, by lia⟩
    have : t = 0 := by lia
    rw [exF, if_pos this]; rfl
  | L + 1, f, total, t, k, hk, h0, hL, h4, hf => by
    obtain ⟨f, rfl⟩ : ∃ g, f = g + 1 := ⟨f - 1, by lia⟩
    by_cases ht : t = 0
    · rw [exF, if_pos ht]; rfl
    · rw [exF, if_neg ht, if_neg (by rw [absI_of_nn h0]; exact fk1 [_,_] [] (Ψ (π 4 (ξ 0)) (ξ 1)) 1 1 (φ (ξ 1) (π 4 (ξ 0))) yes h4)]
      obtain ⟨c, d⟩ := ex_term (t := t) (c := 384) h1 hn1 hn2 (by exact fk1 [_] [] (φ (κ 1) (ξ 0)) 1 1 (φ (κ 3) (ξ 0)) yes hk : 1 ≤ k) (by exact fk1 [_] [] (φ (κ 1152) (π 384 (ξ 0))) 1 384 (φ (κ 3) (ξ 0)) yes hk) (by decide)
      rw [absI_of_nn h0] at c d
      rw [Int.pow_succ] at hL
      have hq : 0 < one * k := Int.mul_pos h1 (by exact fk1 [_] [] (ψ (κ 0) (ξ 0)) 1 1 (φ (κ 3) (ξ 0)) yes hk)
      rcases Int.lt_or_le n 0 with hn | hn
      · have s1 : (t * n).fdiv (one * k) ≤ 0 := fdiv_nonpos' hq (by have := Int.mul_nonneg h0 (by exact fk1 [_] [] (φ (κ 0) (η (ξ 0))) 1 1 (ψ (ξ 0) (κ 0)) yes hn : 0 ≤ -n); rw [Int.mul_neg] at this; exact fk1 [_] [] (φ (ξ 0) (κ 0)) 1 1 (φ (κ 0) (η (ξ 0))) yes this)
        generalize (t * n).fdiv (one * k) = t' at *
        obtain ⟨f, rfl⟩ : ∃ g, f = g + 1 := ⟨f - 1, by lia⟩
        by_cases ht' : t' = 0
        · rw [exF, if_pos ht']; rfl
        · have e' : absI t' = -t' := by unfold absI; rw [if_pos (by lia)]
          rw [exF, if_neg ht', if_neg (by rw [e']; exact fk3 [_,_,_] [] (Ψ (π 4 (ξ 0)) (η (ξ 1))) 1000 2464 (ψ (κ 0) (ξ 0)) 384 (φ (ξ 2) (π 4 (ξ 0))) 1 (ψ (δ (η (π 384 (ξ 2))) (κ 1000)) (π 1000 (ξ 1))) yes h1 h4 d)]
          obtain ⟨c', d'⟩ := ex_term (t := t') (c := 288) h1 hn1 hn2 (by exact fk1 [_] [] (φ (κ 1) (ζ (ξ 0) (κ 1))) 1 1 (φ (κ 3) (ξ 0)) yes hk : 1 ≤ k + 1) (by exact fk1 [_] [] (φ (κ 1152) (π 288 (ζ (ξ 0) (κ 1)))) 1 288 (φ (κ 3) (ξ 0)) yes hk) (by decide)
          rw [e'] at c' d'
          have s2 : 0 ≤ (t' * n).fdiv (one * (k + 1)) := fdiv_nonneg' (Int.mul_pos h1 (by exact fk1 [_] [] (ψ (κ 0) (ζ (ξ 0) (κ 1))) 1 1 (φ (κ 3) (ξ 0)) yes hk)) (by have := Int.mul_nonneg (by exact fk1 [_] [] (φ (κ 0) (η (ξ 0))) 1 1 (φ (ξ 0) (κ 0)) yes s1 : 0 ≤ -t') (by exact fk1 [_] [] (φ (κ 0) (η (ξ 0))) 1 1 (ψ (ξ 0) (κ 0)) yes hn : 0 ≤ -n); grind)
          generalize (t' * n).fdiv (one * (k + 1)) = t'' at *
          exact exF_ends h1 hn1 hn2 L f _ _ _ (by exact fk1 [_] [] (φ (κ 3) (ζ (ζ (ξ 0) (κ 1)) (κ 1))) 1 1 (φ (κ 3) (ξ 0)) yes hk) s2 (by exact fk4 [_,_,_,_] [] (ψ (ξ 0) (ξ 1)) 125000 48676 (φ (κ 0) (ξ 2)) 62500 (ψ (ξ 2) (ω (ξ 1) 2)) 36 (ψ (δ (η (π 384 (ξ 2))) (κ 1000)) (π 1000 (ξ 3))) 125 (φ (π 1000 (ξ 0)) (π 288 (η (ξ 3)))) yes h0 hL d c') (by exact fk4 [_,_,_,_] [] (φ (ξ 0) (π 4 (ξ 1))) 125000 444704 (ψ (κ 0) (ξ 1)) 13824 (φ (ξ 2) (π 4 (ξ 1))) 36 (ψ (δ (η (π 384 (ξ 2))) (κ 1000)) (π 1000 (ξ 3))) 125 (φ (π 1000 (ξ 0)) (π 288 (η (ξ 3)))) yes h1 h4 d c') (by exact fk1 [] [_,_] (φn (ζ (π 2 (ν 0)) (κ 1)) (ν 1)) 1 1 (φn (ζ (π 2 (ζ (ν 0) (κ 1))) (κ 1)) (ζ (ζ (ν 1) (κ 1)) (κ 1))) yes hf)
      · have s1 : 0 ≤ (t * n).fdiv (one * k) := fdiv_nonneg' hq (Int.mul_nonneg h0 hn)
        generalize (t * n).fdiv (one * k) = t' at *
        exact exF_ends h1 hn1 hn2 L f _ _ _ (by exact fk1 [_] [] (φ (κ 3) (ζ (ξ 0) (κ 1))) 1 1 (φ (κ 3) (ξ 0)) yes hk) s1 (by exact fk3 [_,_,_] [] (ψ (ξ 0) (ξ 1)) 1000 116 (φ (κ 0) (ξ 2)) 500 (ψ (ξ 2) (ω (ξ 1) 2)) 1 (φ (π 1000 (ξ 0)) (π 384 (ξ 2))) yes h0 hL c) (by exact fk3 [_,_,_] [] (φ (ξ 0) (π 4 (ξ 1))) 1000 2464 (ψ (κ 0) (ξ 1)) 384 (φ (ξ 2) (π 4 (ξ 1))) 1 (φ (π 1000 (ξ 0)) (π 384 (ξ 2))) yes h1 h4 c) (by exact fk1 [] [_,_] (φn (ζ (π 2 (ν 0)) (κ 1)) (ν 1)) 1 1 (φn (ζ (π 2 (ζ (ν 0) (κ 1))) (κ 1)) (ζ (ν 1) (κ 1))) yes hf)
theorem exF_up {one n : Int} (h1 : 0 < one) (hn : 0 ≤ n) : ∀ (f : Nat) (total t k R : Int), 1 ≤ k → 0 ≤ t → exF one n f total t k = some R → total ≤ R
  | 0, total, t, k, R, hk, h0, h => by simp [exF] at h
  | f + 1, total, t, k, R, hk, h0, h => by
    rw [exF] at h
    split at h
    · cases h; exact fk0 [_] [] (φ (ξ 0) (ξ 0)) 1  yes 
    · split at h
      · cases h
      · have s1 : 0 ≤ (t * n).fdiv (one * k) := fdiv_nonneg' (Int.mul_pos h1 (by exact fk1 [_] [] (ψ (κ 0) (ξ 0)) 1 1 (φ (κ 1) (ξ 0)) yes hk)) (Int.mul_nonneg h0 hn)
        have := exF_up h1 hn f _ _ _ _ (by exact fk1 [_] [] (φ (κ 1) (ζ (ξ 0) (κ 1))) 1 1 (φ (κ 1) (ξ 0)) yes hk) s1 h
        exact fk2 [_,_,_] [] (φ (ξ 0) (ξ 1)) 1 1 (φ (κ 0) (ξ 2)) 1 (φ (ζ (ξ 0) (ξ 2)) (ξ 1)) yes s1 this
theorem exF_dn {one n : Int} (h1 : 0 < one) (hn0 : n < 0) (hn2 : -(1152 * one) ≤ 1000 * n) : ∀ (f : Nat) (total t k R : Int), 2 ≤ k → 0 ≤ t → exF one n f total t k = some R → total + (t * n).fdiv (one * k) ≤ R
  | 0, total, t, k, R, hk, h0, h => by simp [exF] at h
  | 1, total, t, k, R, hk, h0, h => by
    rw [exF] at h
    have hq : 0 < one * k := Int.mul_pos h1 (by exact fk1 [_] [] (ψ (κ 0) (ξ 0)) 1 1 (φ (κ 2) (ξ 0)) yes hk)
    split at h
    · cases h
      have := fdiv_nonpos' hq (by have := Int.mul_nonneg h0 (by exact fk1 [_] [] (φ (κ 0) (η (ξ 0))) 1 1 (ψ (ξ 0) (κ 0)) yes hn0 : 0 ≤ -n); rw [Int.mul_neg] at this; exact fk1 [_] [] (φ (ξ 0) (κ 0)) 1 1 (φ (κ 0) (η (ξ 0))) yes this : t * n ≤ 0)
      exact fk1 [_,_] [] (φ (ζ (ξ 0) (ξ 1)) (ξ 0)) 1 1 (φ (ξ 1) (κ 0)) yes this
    · split at h
      · cases h
      · simp [exF] at h
  | f + 2, total, t, k, R, hk, h0, h => by
    rw [exF] at h
    have hq : 0 < one * k := Int.mul_pos h1 (by exact fk1 [_] [] (ψ (κ 0) (ξ 0)) 1 1 (φ (κ 2) (ξ 0)) yes hk)
    have s1 := fdiv_nonpos' hq (by have := Int.mul_nonneg h0 (by exact fk1 [_] [] (φ (κ 0) (η (ξ 0))) 1 1 (ψ (ξ 0) (κ 0)) yes hn0 : 0 ≤ -n); rw [Int.mul_neg] at this; exact fk1 [_] [] (φ (ξ 0) (κ 0)) 1 1 (φ (κ 0) (η (ξ 0))) yes this : t * n ≤ 0)
    split at h
    · cases h; exact fk1 [_,_] [] (φ (ζ (ξ 0) (ξ 1)) (ξ 0)) 1 1 (φ (ξ 1) (κ 0)) yes s1
    · split at h
      · cases h
      · rw [exF] at h
        generalize (t * n).fdiv (one * k) = t' at *
        split at h
        · cases h; exact fk0 [_,_] [] (φ (ζ (ξ 0) (ξ 1)) (ζ (ξ 0) (ξ 1))) 1  yes 
        · split at h
          · cases h
          · have q2 : 0 < one * (k + 1) := Int.mul_pos h1 (by exact fk1 [_] [] (ψ (κ 0) (ζ (ξ 0) (κ 1))) 1 1 (φ (κ 2) (ξ 0)) yes hk)
            have s2 : 0 ≤ (t' * n).fdiv (one * (k + 1)) := fdiv_nonneg' q2 (by have := Int.mul_nonneg (by exact fk1 [_] [] (φ (κ 0) (η (ξ 0))) 1 1 (φ (ξ 0) (κ 0)) yes s1 : 0 ≤ -t') (by exact fk1 [_] [] (φ (κ 0) (η (ξ 0))) 1 1 (ψ (ξ 0) (κ 0)) yes hn0 : 0 ≤ -n); grind)
            have ih := exF_dn h1 hn0 hn2 f _ _ _ _ (by exact fk1 [_] [] (φ (κ 2) (ζ (ζ (ξ 0) (κ 1)) (κ 1))) 1 1 (φ (κ 2) (ξ 0)) yes hk) s2 h
            generalize (t' * n).fdiv (one * (k + 1)) = t'' at *
            have s3 : -t'' ≤ (t'' * n).fdiv (one * (k + 1 + 1)) := by
              obtain ⟨c', d'⟩ := ex_term (t := t'') (c := 288) h1 (by exact fk2 [_,_] [] (φ (π 1000 (ξ 0)) (π 1152 (ξ 1))) 1 1152 (ψ (κ 0) (ξ 1)) 1000 (ψ (ξ 0) (κ 0)) yes h1 hn0) hn2 (by exact fk1 [_] [] (φ (κ 1) (ζ (ζ (ξ 0) (κ 1)) (κ 1))) 1 1 (φ (κ 2) (ξ 0)) yes hk : 1 ≤ k + 1 + 1) (by exact fk1 [_] [] (φ (κ 1152) (π 288 (ζ (ζ (ξ 0) (κ 1)) (κ 1)))) 1 288 (φ (κ 2) (ξ 0)) yes hk) (by decide)
              rw [absI_of_nn s2] at d'
              exact fk2 [_,_] [] (φ (η (ξ 0)) (ξ 1)) 1000 712 (φ (κ 0) (ξ 0)) 1 (ψ (δ (η (π 288 (ξ 0))) (κ 1000)) (π 1000 (ξ 1))) yes s2 d'
            exact fk2 [_,_,_,_,_] [] (φ (ζ (ξ 0) (ξ 1)) (ξ 2)) 1 1 (φ (ζ (ζ (ζ (ξ 0) (ξ 1)) (ξ 3)) (ξ 4)) (ξ 2)) 1 (φ (η (ξ 3)) (ξ 4)) yes ih s3
end Mine
end
section
open Mine.FLx (ξ ν κ ζ δ η π ω)
open Mine.FCx (φ ψ θ ϑ Φ Ψ φn ψn θn ϑn Φn Ψn)
namespace Mine
theorem expBounds {one n : Int} (h1 : 10 ^ 14 ≤ one) (h2 : one ≤ 10 ^ 45) (hn1 : 1000 * n ≤ 1152 * one) (hn2 : -(1152 * one) ≤ 1000 * n) :
    ∃ R, exF one n 500 one one 1 = some R ∧ 23 * one ≤ 100 * R ∧ R ≤ 4 * one ∧ (0 ≤ n → one + n + (n * n).fdiv (one * 2) ≤ R) := by
  have c14 : (10 : Int) ^ 14 = 100000000000000 := by decide +kernel
  rw [c14] at h1
  have h0 : 0 < one := by exact fk1 [_] [] (ψ (κ 0) (ξ 0)) 1 1 (φ (κ 100000000000000) (ξ 0)) yes h1
  have e1 : (one * n).fdiv (one * 1) = n := by
    rw [Int.mul_one, fdivP h0, Int.mul_ediv_cancel_left _ (by exact fun hq => fn2 [_] [] 1 (φ (κ 100000000000000) (ξ 0)) 1 (θ (ξ 0) (κ 0)) yes h1 hq)]
  have s1 : exF one n 500 one one 1 = exF one n 499 (one + n) n 2 := by
    show exF one n (499 + 1) one one 1 = _
    rw [exF, if_neg (by exact fun hq => fn2 [_] [] 1 (φ (κ 100000000000000) (ξ 0)) 1 (θ (ξ 0) (κ 0)) yes h1 hq), if_neg (by rw [absI_of_nn (by exact fk1 [_] [] (φ (κ 0) (ξ 0)) 1 1 (φ (κ 100000000000000) (ξ 0)) yes h1)]; exact fk1 [_] [] (Ψ (π 4 (ξ 0)) (ξ 0)) 1 3 (φ (κ 100000000000000) (ξ 0)) yes h1), e1]; rfl
  have hq : 0 < one * 2 := by exact fk1 [_] [] (ψ (κ 0) (ω (ξ 0) 2)) 1 2 (φ (κ 100000000000000) (ξ 0)) yes h1
  have nn := sq_nn n
  have t0 : 0 ≤ (n * n).fdiv (one * 2) := fdiv_nonneg' hq nn
  obtain ⟨u1, u2⟩ := ex_term (t := n) (k := 2) (c := 576) h0 hn1 hn2 (by exact fk0 [] [] (φ (κ 1) (κ 2)) 1  yes ) (by decide) (by decide)
  have ha : 1000 * absI n ≤ 1152 * one := by rcases abs_cases n with ⟨e, _⟩ | ⟨e, _⟩ <;> rw [e] <;> lia
  have tb : 1000000 * (n * n).fdiv (one * 2) ≤ 663552 * one := by exact fk2 [_,_,_] [] (φ (π 1000000 (ξ 0)) (π 663552 (ξ 1))) 1 1000 (φ (π 1000 (ξ 0)) (π 576 (ξ 2))) 576 (φ (π 1000 (ξ 2)) (π 1152 (ξ 1))) yes u1 ha
  by_cases hz : n = 0
  · subst hz
    have s2 : exF one 0 499 (one + 0) 0 2 = some (one + 0) := by
      show exF one 0 (498 + 1) _ _ _ = _
      rw [exF, if_pos rfl]
    rw [s1, s2]
    have e0 : (0 * 0 : Int).fdiv (one * 2) = 0 := by simp
    rw [e0]
    exact ⟨_, rfl, by exact fk1 [_] [] (φ (π 23 (ξ 0)) (π 100 (ζ (ξ 0) (κ 0)))) 1 77 (φ (κ 100000000000000) (ξ 0)) yes h1, by exact fk1 [_] [] (φ (ζ (ξ 0) (κ 0)) (π 4 (ξ 0))) 1 3 (φ (κ 100000000000000) (ξ 0)) yes h1, fun _ => by exact fk0 [_] [] (φ (ζ (ζ (ξ 0) (κ 0)) (κ 0)) (ζ (ξ 0) (κ 0))) 1  yes ⟩
  · have s2 : exF one n 499 (one + n) n 2 = exF one n 498 (one + n + (n * n).fdiv (one * 2)) ((n * n).fdiv (one * 2)) 3 := by
      show exF one n (498 + 1) _ _ _ = _
      rw [exF, if_neg hz, if_neg (by exact fk2 [_,_] [] (Ψ (π 4 (ξ 0)) (ξ 1)) 1000 2848 (φ (κ 100000000000000) (ξ 0)) 1 (φ (π 1000 (ξ 1)) (π 1152 (ξ 0))) yes h1 ha)]; rfl
    have big : (10 : Int) ^ 45 < 2 ^ 150 := by decide +kernel
    have hs := exF_ends h0 hn1 hn2 150 498 (one + n + (n * n).fdiv (one * 2)) ((n * n).fdiv (one * 2)) 3 (by decide) t0 (by exact fk4 [_,_,_,_] [] (ψ (ξ 0) (ξ 1)) 1000000 336448 (φ (κ 100000000000000) (ξ 2)) 1000000 (φ (ξ 2) (ξ 3)) 1 (φ (π 1000000 (ξ 0)) (π 663552 (ξ 2))) 1000000 (ψ (ξ 3) (ξ 1)) yes h1 h2 tb big) (by exact fk2 [_,_] [] (φ (ξ 0) (π 4 (ξ 1))) 1000000 3336448 (φ (κ 100000000000000) (ξ 1)) 1 (φ (π 1000000 (ξ 0)) (π 663552 (ξ 1))) yes h1 tb) (by decide)
    cases hR : exF one n 498 (one + n + (n * n).fdiv (one * 2)) ((n * n).fdiv (one * 2)) 3 with
    | none => rw [hR] at hs; cases hs
    | some R =>
      obtain ⟨b1, b2⟩ := exF_tail h0 hn1 hn2 _ _ _ _ _ (by decide) hR
      rw [absI_of_nn t0] at b1 b2
      refine ⟨R, by rw [s1, s2, hR], ?_, by exact fk4 [_,_,_,_] [] (φ (ξ 0) (π 4 (ξ 1))) 500000 260448 (φ (κ 100000000000000) (ξ 1)) 500 (φ (π 1000 (ξ 2)) (π 1152 (ξ 1))) 1 (φ (π 1000000 (ξ 3)) (π 663552 (ξ 1))) 500000 (φ (δ (ξ 0) (ζ (ζ (ξ 1) (ξ 2)) (ξ 3))) (ζ (ξ 3) (π 2 (κ 498)))) yes h1 hn1 tb b1, fun hnn => exF_up h0 hnn _ _ _ _ _ (by decide) t0 hR⟩
      rcases Int.lt_or_le n 0 with hn | hn
      · have c1 := exF_dn h0 hn hn2 _ _ _ _ _ (by decide) t0 hR
        obtain ⟨v1, v2⟩ := ex_term (t := (n * n).fdiv (one * 2)) (k := 3) (c := 384) h0 hn1 hn2 (by exact fk0 [] [] (φ (κ 1) (κ 3)) 1  yes ) (by decide) (by decide)
        rw [absI_of_nn t0] at v2
        have w := div_hi (a := n * n) hq
        rw [← fdivP hq] at w
        generalize ((n * n).fdiv (one * 2) * n).fdiv (one * 3) = t3 at *
        generalize (n * n).fdiv (one * 2) = t2 at *
        have p1 : 0 ≤ (1176 * one + 1000 * n) * (2070 * one + 1000 * n) := Int.mul_nonneg (by exact fk2 [_,_] [] (φ (κ 0) (ζ (π 1176 (ξ 0)) (π 1000 (ξ 1)))) 1 24 (φ (κ 100000000000000) (ξ 0)) 1 (φ (η (π 1152 (ξ 0))) (π 1000 (ξ 1))) yes h1 hn2) (by exact fk2 [_,_] [] (φ (κ 0) (ζ (π 2070 (ξ 0)) (π 1000 (ξ 1)))) 1 918 (φ (κ 100000000000000) (ξ 0)) 1 (φ (η (π 1152 (ξ 0))) (π 1000 (ξ 1))) yes h1 hn2)
        have p2 : 0 ≤ one * (1000 * R - (1000 * one + 1000 * n + 616 * t2 - 1000)) := Int.mul_nonneg (by exact fk1 [_] [] (φ (κ 0) (ξ 0)) 1 1 (φ (κ 100000000000000) (ξ 0)) yes h1) (by exact fk2 [_,_,_,_,_] [] (φ (κ 0) (δ (π 1000 (ξ 0)) (δ (ζ (ζ (π 1000 (ξ 1)) (π 1000 (ξ 2))) (π 616 (ξ 3))) (κ 1000)))) 1 1000 (φ (ζ (ζ (ζ (ξ 1) (ξ 2)) (ξ 3)) (ξ 4)) (ξ 0)) 1 (ψ (δ (η (π 384 (ξ 3))) (κ 1000)) (π 1000 (ξ 4))) yes c1 v2)
        have p3 : 0 ≤ one * (1152 * one + 1000 * n) := Int.mul_nonneg (by exact fk1 [_] [] (φ (κ 0) (ξ 0)) 1 1 (φ (κ 100000000000000) (ξ 0)) yes h1) (by exact fk1 [_,_] [] (φ (κ 0) (ζ (π 1152 (ξ 0)) (π 1000 (ξ 1)))) 1 1 (φ (η (π 1152 (ξ 0))) (π 1000 (ξ 1))) yes hn2)
        have p4 : one * 1000 ≤ one * one := Int.mul_le_mul_of_nonneg_left (by exact fk1 [_] [] (φ (κ 1000) (ξ 0)) 1 1 (φ (κ 100000000000000) (ξ 0)) yes h1) (by exact fk1 [_] [] (φ (κ 0) (ξ 0)) 1 1 (φ (κ 100000000000000) (ξ 0)) yes h1)
        have p5 : one * (46 * one) ≤ one * (200 * R) := by grind
        have := Int.le_of_mul_le_mul_left p5 h0
        exact fk1 [_,_] [] (φ (π 23 (ξ 0)) (π 100 (ξ 1))) 2 1 (φ (π 46 (ξ 0)) (π 200 (ξ 1))) yes this
      · have := exF_up h0 hn _ _ _ _ _ (by decide) t0 hR
        exact fk4 [_,_,_,_] [] (φ (π 23 (ξ 0)) (π 100 (ξ 1))) 1 77 (φ (κ 100000000000000) (ξ 0)) 100 (φ (κ 0) (ξ 2)) 100 (φ (κ 0) (ξ 3)) 100 (φ (ζ (ζ (ξ 0) (ξ 3)) (ξ 2)) (ξ 1)) yes h1 t0 hn this
noncomputable def ltB (p : Nat) : Bool := decide (2302585 * 10 ^ p ≤ 1000000 * ltV p ∧ 1000000 * ltV p ≤ 2302586 * 10 ^ p)
theorem lt_all : ∀ p : Nat, p < 46 → 12 ≤ p → ltB p = true := by decide +kernel
theorem lt_bounds {p : Int} (h0 : 12 ≤ p) (h1 : p ≤ 45) : 2302585 * 10 ^ p.toNat ≤ 1000000 * ltV p ∧ 1000000 * ltV p ≤ 2302586 * 10 ^ p.toNat := by
  have := lt_all p.toNat (by exact fk2 [_] [_] (ψn (ν 0) (κ 46)) 1 1 (φ (ξ 0) (κ 45)) 1 (θ (ν 0) (ξ 0)) yes h1 (tn (a := p) (fk1 [_] [] (φ (κ 0) (ξ 0)) 1 1 (φ (κ 12) (ξ 0)) yes h0))) (by exact fk2 [_] [_] (φn (κ 12) (ν 0)) 1 1 (φ (κ 12) (ξ 0)) 1 (ϑ (ν 0) (ξ 0)) yes h0 (tn (a := p) (fk1 [_] [] (φ (κ 0) (ξ 0)) 1 1 (φ (κ 12) (ξ 0)) yes h0)))
  unfold ltB at this
  have e : ((p.toNat : Nat) : Int) = p := by exact Int.le_antisymm (fk1 [_] [_] (φ (ν 0) (ξ 0)) 1 1 (θ (ν 0) (ξ 0)) yes (tn (a := p) (fk1 [_] [] (φ (κ 0) (ξ 0)) 1 1 (φ (κ 12) (ξ 0)) yes h0))) (fk1 [_] [_] (φ (ξ 0) (ν 0)) 1 1 (ϑ (ν 0) (ξ 0)) yes (tn (a := p) (fk1 [_] [] (φ (κ 0) (ξ 0)) 1 1 (φ (κ 12) (ξ 0)) yes h0)))
  rw [e] at this
  exact of_decide_eq_true this
structure ExpFacts (a e d : Int) : Prop where
  p14 : 14 ≤ epP a e d
  p28 : epP a e d ≤ 28
  ok : EpOk a e d
  kl : epK a e d * (2 * epT a e d) ≤ 2 * epN a e d + epT a e d
  ku : 2 * epN a e d + epT a e d < (epK a e d + 1) * (2 * epT a e d)
  t1 : 2302585 * 10 ^ (epP a e d).toNat ≤ 1000000 * epT a e d
  t2 : 1000000 * epT a e d ≤ 2302586 * 10 ^ (epP a e d).toNat
  k435 : epK a e d ≤ 435
  gl : 23 * 10 ^ (epP a e d).toNat * 10 ^ (epK a e d).toNat ≤ 100 * epG a e d
  gu : epG a e d ≤ 10 ^ ((epP a e d).toNat + 436)
  d0 : 0 ≤ epD a e d
  d1 : epD a e d * epG a e d ≤ 10 ^ (epP a e d).toNat * 10 ^ (epP a e d).toNat
  d5 : epD a e d ≤ 5 * 10 ^ (epP a e d).toNat
  z : epK a e d = 0 → 10 ^ (epP a e d).toNat + epN a e d + (epN a e d * epN a e d).fdiv (10 ^ (epP a e d).toNat * 2) ≤ epG a e d
  w1 : thW a e d ≤ 10 ^ (epP a e d).toNat
  w0 : -(10 ^ (epP a e d).toNat) ≤ thW a e d
theorem expFacts {a e d : Int} (ha : 0 ≤ a) (ha1 : a < 10000) (he : -13 ≤ e) (he1 : e ≤ 0) (hd : 2 ≤ d) (hd1 : d ≤ 7) (hl : cd a + e ≤ 3) : ExpFacts a e d := by
  have ca := cd_le (x := a) (k := 4) ha (by lia)
  have ca0 := cd_nonneg a
  have hp : 14 ≤ epP a e d ∧ epP a e d ≤ 28 := by unfold epP pfV; split <;> split <;> lia
  have eT : epT a e d = ltV (epP a e d) := rfl
  have eN : epN a e d = a * 10 ^ (e + epP a e d).toNat := rfl
  have eK : epK a e d = (2 * epN a e d + epT a e d).fdiv (2 * epT a e d) := rfl
  have eR : epR a e d = epN a e d - epK a e d * epT a e d := rfl
  have eF : epF a e d = (exF (10 ^ (epP a e d).toNat) (epR a e d) 500 (10 ^ (epP a e d).toNat) (10 ^ (epP a e d).toNat) 1).getD 0 := rfl
  have eG : epG a e d = epF a e d * 10 ^ (epK a e d).toNat := rfl
  have eD : epD a e d = (10 ^ (2 * epP a e d).toNat : Int).fdiv (epG a e d) := rfl
  have eW : thW a e d = ((epG a e d - epD a e d) * 10 ^ (epP a e d).toNat).fdiv (epG a e d + epD a e d) := rfl
  have e2 : (10 : Int) ^ (2 * epP a e d).toNat = 10 ^ (epP a e d).toNat * 10 ^ (epP a e d).toNat := by rw [← pow_addI]; congr 1; exact Nat.le_antisymm (fk2 [_] [_,_] (φn (ν 0) (ζ (ν 1) (ν 1))) 1 1 (θ (ν 0) (π 2 (ξ 0))) 2 (ϑ (ν 1) (ξ 0)) yes (tn (a := 2 * epP a e d) (fk1 [_] [] (φ (κ 0) (π 2 (ξ 0))) 1 2 (φ (κ 14) (ξ 0)) yes hp.1)) (tn (a := epP a e d) (fk1 [_] [] (φ (κ 0) (ξ 0)) 1 1 (φ (κ 14) (ξ 0)) yes hp.1))) (fk2 [_] [_,_] (φn (ζ (ν 0) (ν 0)) (ν 1)) 1 1 (ϑ (ν 1) (π 2 (ξ 0))) 2 (θ (ν 0) (ξ 0)) yes (tn (a := 2 * epP a e d) (fk1 [_] [] (φ (κ 0) (π 2 (ξ 0))) 1 2 (φ (κ 14) (ξ 0)) yes hp.1)) (tn (a := epP a e d) (fk1 [_] [] (φ (κ 0) (ξ 0)) 1 1 (φ (κ 14) (ξ 0)) yes hp.1)))
  rw [e2] at eD
  have tb := lt_bounds (p := epP a e d) (by exact fk1 [_] [] (φ (κ 12) (ξ 0)) 1 1 (φ (κ 14) (ξ 0)) yes hp.1) (by exact fk1 [_] [] (φ (ξ 0) (κ 45)) 1 1 (φ (ξ 0) (κ 28)) yes hp.2)
  rw [← eT] at tb
  have N0 : 0 ≤ epN a e d := by rw [eN]; exact Int.mul_nonneg ha (Int.le_of_lt (pow_pos10 _))
  have N1 : epN a e d ≤ 1000 * 10 ^ (epP a e d).toNat := by
    rw [eN]
    have q1 : a * 10 ^ (e + epP a e d).toNat ≤ 10 ^ (cd a).toNat * 10 ^ (e + epP a e d).toNat := Int.mul_le_mul_of_nonneg_right (Int.le_of_lt (lt_pow_cdI ha)) (Int.le_of_lt (pow_pos10 _))
    have q2 : (10 : Int) ^ (cd a).toNat * 10 ^ (e + epP a e d).toNat ≤ 10 ^ 3 * 10 ^ (epP a e d).toNat := by
      rw [← pow_addI, ← pow_addI]; exact pow10_mono (by exact fk4 [_,_,_] [_,_,_] (φn (ζ (ν 0) (ν 1)) (ζ (κ 3) (ν 2))) 1 1 (φ (ζ (ξ 0) (ξ 1)) (κ 3)) 1 (θ (ν 0) (ξ 0)) 1 (θ (ν 1) (ζ (ξ 1) (ξ 2))) 1 (ϑ (ν 2) (ξ 2)) yes hl (tn (a := cd a) (fk1 [_] [] (φ (κ 0) (ξ 0)) 1 1 (φ (κ 0) (ξ 0)) yes ca0)) (tn (a := e + epP a e d) (fk2 [_,_] [] (φ (κ 0) (ζ (ξ 0) (ξ 1))) 1 1 (φ (η (κ 13)) (ξ 0)) 1 (φ (κ 14) (ξ 1)) yes he hp.1)) (tn (a := epP a e d) (fk1 [_] [] (φ (κ 0) (ξ 0)) 1 1 (φ (κ 14) (ξ 0)) yes hp.1)))
    have q3 : (10 : Int) ^ 3 = 1000 := by decide
    rw [q3] at q2; exact fk2 [_,_,_] [] (φ (ξ 0) (π 1000 (ξ 1))) 1 1 (φ (ξ 0) (ξ 2)) 1 (φ (ξ 2) (π 1000 (ξ 1))) yes q1 q2
  have e14 : (10 : Int) ^ 14 ≤ 10 ^ (epP a e d).toNat := pow10_mono (by exact fk2 [_] [_] (φn (κ 14) (ν 0)) 1 1 (φ (κ 14) (ξ 0)) 1 (ϑ (ν 0) (ξ 0)) yes hp.1 (tn (a := epP a e d) (fk1 [_] [] (φ (κ 0) (ξ 0)) 1 1 (φ (κ 14) (ξ 0)) yes hp.1)))
  have e28 : (10 : Int) ^ (epP a e d).toNat ≤ 10 ^ 28 := pow10_mono (by exact fk2 [_] [_] (φn (ν 0) (κ 28)) 1 1 (φ (ξ 0) (κ 28)) 1 (θ (ν 0) (ξ 0)) yes hp.2 (tn (a := epP a e d) (fk1 [_] [] (φ (κ 0) (ξ 0)) 1 1 (φ (κ 14) (ξ 0)) yes hp.1)))
  have c28 : (10 : Int) ^ 28 ≤ 10 ^ 45 := by decide +kernel
  have c14 : (10 : Int) ^ 14 = 100000000000000 := by decide +kernel
  have es1 : 0 ≤ e + epP a e d := by exact fk2 [_,_] [] (φ (κ 0) (ζ (ξ 0) (ξ 1))) 1 1 (φ (η (κ 13)) (ξ 0)) 1 (φ (κ 14) (ξ 1)) yes he hp.1
  have e436 : (10 : Int) ^ ((epP a e d).toNat + 436) = 10 ^ (epP a e d).toNat * 10 ^ 436 := pow_addI _ _
  have a4 : a ≤ 10 ^ 4 := by lia
  generalize hP : epP a e d = P at *
  generalize hT : epT a e d = T at *
  generalize hN : epN a e d = N at *
  generalize hK : epK a e d = K at *
  generalize hone : (10 : Int) ^ P.toNat = one at *
  have h0 : 0 < one := by exact fk2 [_,_] [] (ψ (κ 0) (ξ 0)) 1 1 (ϑ (ξ 1) (κ 100000000000000)) 1 (φ (ξ 1) (ξ 0)) yes c14 e14
  have T0 : 0 < T := by exact fk3 [_,_,_] [] (ψ (κ 0) (ξ 0)) 1000000 2302585 (ϑ (ξ 1) (κ 100000000000000)) 2302585 (φ (ξ 1) (ξ 2)) 1 (φ (π 2302585 (ξ 2)) (π 1000000 (ξ 0))) yes c14 e14 tb.1
  have kl : K * (2 * T) ≤ 2 * N + T := by rw [eK, fdivP (by exact fk1 [_] [] (ψ (κ 0) (π 2 (ξ 0))) 1 2 (ψ (κ 0) (ξ 0)) yes T0)]; exact div_lo (by exact fk1 [_] [] (ψ (κ 0) (π 2 (ξ 0))) 1 2 (ψ (κ 0) (ξ 0)) yes T0)
  have ku : 2 * N + T < (K + 1) * (2 * T) := by rw [eK, fdivP (by exact fk1 [_] [] (ψ (κ 0) (π 2 (ξ 0))) 1 2 (ψ (κ 0) (ξ 0)) yes T0)]; exact div_hi (by exact fk1 [_] [] (ψ (κ 0) (π 2 (ξ 0))) 1 2 (ψ (κ 0) (ξ 0)) yes T0)
  have K0 : 0 ≤ K := by rw [eK]; exact fdiv_nn (by exact fk2 [_,_] [] (φ (κ 0) (ζ (π 2 (ξ 0)) (ξ 1))) 1 2 (φ (κ 0) (ξ 0)) 1 (ψ (κ 0) (ξ 1)) yes N0 T0) (by exact fk1 [_] [] (ψ (κ 0) (π 2 (ξ 0))) 1 2 (ψ (κ 0) (ξ 0)) yes T0)
  have K1 : K ≤ 435 := by
    rcases Int.lt_or_le 435 K with h | h
    · have := Int.mul_le_mul_of_nonneg_right (by exact fk1 [_] [] (φ (κ 436) (ξ 0)) 1 1 (ψ (κ 435) (ξ 0)) yes h : 436 ≤ K) (by exact fk1 [_] [] (φ (κ 0) (π 2 (ξ 0))) 1 2 (ψ (κ 0) (ξ 0)) yes T0 : 0 ≤ 2 * T)
      exact (fn5 [_,_,_,_] [] 400 (φ (π 2302585 (ξ 0)) (π 1000000 (ξ 1))) 921034 (φ (ξ 2) (π 1000 (ξ 0))) 1110307 (ψ (κ 0) (ξ 1)) 460517 (φ (ξ 3) (ζ (π 2 (ξ 2)) (ξ 1))) 460517 (φ (π 436 (π 2 (ξ 1))) (ξ 3)) yes tb.1 N1 T0 kl this).elim
    · exact h
  have r1 : -T ≤ 2 * epR a e d ∧ 2 * epR a e d < T := by rw [eR]; constructor <;> grind
  obtain ⟨F, f1, f2, f3, f4⟩ := expBounds (one := one) (n := epR a e d) (by omega) (by exact fk2 [_,_,_] [] (φ (ξ 0) (ξ 1)) 1 1 (φ (ξ 2) (ξ 1)) 1 (φ (ξ 0) (ξ 2)) yes c28 e28) (by exact fk3 [_,_,_] [] (φ (π 1000 (ξ 0)) (π 1152 (ξ 1))) 2000 1414 (φ (π 2302585 (ξ 1)) (π 1000000 (ξ 2))) 1415 (φ (π 1000000 (ξ 2)) (π 2302586 (ξ 1))) 1000000 (ψ (π 2 (ξ 0)) (ξ 2)) yes tb.1 tb.2 r1.2) (by exact fk3 [_,_,_] [] (φ (η (π 1152 (ξ 0))) (π 1000 (ξ 1))) 2000 1414 (φ (π 2302585 (ξ 0)) (π 1000000 (ξ 2))) 1415 (φ (π 1000000 (ξ 2)) (π 2302586 (ξ 0))) 1000000 (φ (η (ξ 2)) (π 2 (ξ 1))) yes tb.1 tb.2 r1.1)
  rw [f1] at eF
  have eF' : epF a e d = F := eF
  rw [eF'] at eG
  have pK := pow_ge_one K.toNat
  have pK1 : (10 : Int) ^ K.toNat ≤ 10 ^ 435 := pow10_mono (by exact fk2 [_] [_] (φn (ν 0) (κ 435)) 1 1 (φ (ξ 0) (κ 435)) 1 (θ (ν 0) (ξ 0)) yes K1 (tn (a := K) (fk1 [_] [] (φ (κ 0) (ξ 0)) 1 1 (φ (κ 0) (ξ 0)) yes K0)))
  have gl : 23 * one * 10 ^ K.toNat ≤ 100 * epG a e d := by
    rw [eG]
    have := Int.mul_le_mul_of_nonneg_right f2 (by exact fk1 [_] [] (φ (κ 0) (ξ 0)) 1 1 (φ (κ 1) (ξ 0)) yes pK : 0 ≤ (10 : Int) ^ K.toNat)
    grind
  have gl1 : 23 * one ≤ 100 * epG a e d := by
    have := Int.mul_le_mul_of_nonneg_left pK (by exact fk2 [_,_] [] (φ (κ 0) (π 23 (ξ 0))) 1 23 (ϑ (ξ 1) (κ 100000000000000)) 23 (φ (ξ 1) (ξ 0)) yes c14 e14 : 0 ≤ 23 * one)
    exact fk2 [_,_,_] [] (φ (π 23 (ξ 0)) (π 100 (ξ 1))) 1 1 (φ (ξ 2) (π 100 (ξ 1))) 1 (φ (ω (π 23 (ξ 0)) 1) (ξ 2)) yes gl this
  have gu : epG a e d ≤ 10 ^ (P.toNat + 436) := by
    rw [eG, e436]
    have q1 := mul_le_mul2 (by exact fk2 [_,_] [] (φ (κ 0) (ξ 0)) 377 4 (φ (π 23 (ξ 1)) (π 100 (ξ 0))) 23 (φ (ξ 0) (π 4 (ξ 1))) yes f2 f3 : 0 ≤ F) f3 (by exact fk1 [_] [] (φ (κ 0) (ξ 0)) 1 1 (φ (κ 1) (ξ 0)) yes pK : 0 ≤ (10 : Int) ^ K.toNat) pK1
    have q2 : (4 : Int) * 10 ^ 435 ≤ 10 ^ 436 := by decide +kernel
    have q3 := Int.mul_le_mul_of_nonneg_left q2 (by exact fk2 [_,_] [] (φ (κ 0) (ξ 0)) 1 1 (ϑ (ξ 1) (κ 100000000000000)) 1 (φ (ξ 1) (ξ 0)) yes c14 e14 : 0 ≤ one)
    grind
  have G0 : 0 < epG a e d := by exact fk3 [_,_,_] [] (ψ (κ 0) (ξ 0)) 100 23 (ϑ (ξ 1) (κ 100000000000000)) 23 (φ (ξ 1) (ξ 2)) 1 (φ (π 23 (ξ 2)) (π 100 (ξ 0))) yes c14 e14 gl1
  have d0 : 0 ≤ epD a e d := by rw [eD]; exact fdiv_nn (Int.mul_nonneg (by exact fk2 [_,_] [] (φ (κ 0) (ξ 0)) 1 1 (ϑ (ξ 1) (κ 100000000000000)) 1 (φ (ξ 1) (ξ 0)) yes c14 e14) (by exact fk2 [_,_] [] (φ (κ 0) (ξ 0)) 1 1 (ϑ (ξ 1) (κ 100000000000000)) 1 (φ (ξ 1) (ξ 0)) yes c14 e14)) G0
  have d1 : epD a e d * epG a e d ≤ one * one := by rw [eD, fdivP G0]; exact div_lo G0
  have d5 : epD a e d ≤ 5 * one := by
    have q1 := Int.mul_le_mul_of_nonneg_left gl1 d0
    have q2 : one * (23 * epD a e d) ≤ one * (100 * one) := by grind
    have := Int.le_of_mul_le_mul_left q2 h0
    exact fk2 [_,_] [] (φ (ξ 0) (π 5 (ξ 1))) 20 3 (φ (κ 0) (ξ 0)) 1 (φ (π 23 (ξ 0)) (π 100 (ξ 1))) yes d0 this
  have w1 : thW a e d ≤ one := by
    rw [eW, fdivP (by exact fk2 [_,_] [] (ψ (κ 0) (ζ (ξ 0) (ξ 1))) 1 1 (ψ (κ 0) (ξ 0)) 1 (φ (κ 0) (ξ 1)) yes G0 d0)]
    have q1 := div_lo (a := (epG a e d - epD a e d) * one) (by exact fk2 [_,_] [] (ψ (κ 0) (ζ (ξ 0) (ξ 1))) 1 1 (ψ (κ 0) (ξ 0)) 1 (φ (κ 0) (ξ 1)) yes G0 d0 : 0 < epG a e d + epD a e d)
    have q2 : (epG a e d - epD a e d) * one ≤ (epG a e d + epD a e d) * one := Int.mul_le_mul_of_nonneg_right (by exact fk1 [_,_] [] (φ (δ (ξ 0) (ξ 1)) (ζ (ξ 0) (ξ 1))) 1 2 (φ (κ 0) (ξ 1)) yes d0) (by exact fk2 [_,_] [] (φ (κ 0) (ξ 0)) 1 1 (ϑ (ξ 1) (κ 100000000000000)) 1 (φ (ξ 1) (ξ 0)) yes c14 e14)
    have q3 : (epG a e d - epD a e d) * one / (epG a e d + epD a e d) * (epG a e d + epD a e d) ≤ one * (epG a e d + epD a e d) := by rw [Int.mul_comm one]; exact fk2 [_,_,_] [] (φ (ξ 0) (ξ 1)) 1 1 (φ (ξ 0) (ξ 2)) 1 (φ (ξ 2) (ξ 1)) yes q1 q2
    exact Int.le_of_mul_le_mul_right q3 (by exact fk2 [_,_] [] (ψ (κ 0) (ζ (ξ 0) (ξ 1))) 1 1 (ψ (κ 0) (ξ 0)) 1 (φ (κ 0) (ξ 1)) yes G0 d0)
  have w0 : -one ≤ thW a e d := by
    rw [eW, fdivP (by exact fk2 [_,_] [] (ψ (κ 0) (ζ (ξ 0) (ξ 1))) 1 1 (ψ (κ 0) (ξ 0)) 1 (φ (κ 0) (ξ 1)) yes G0 d0), Int.le_ediv_iff_mul_le (by exact fk2 [_,_] [] (ψ (κ 0) (ζ (ξ 0) (ξ 1))) 1 1 (ψ (κ 0) (ξ 0)) 1 (φ (κ 0) (ξ 1)) yes G0 d0)]
    have q2 : -((epG a e d + epD a e d) * one) ≤ (epG a e d - epD a e d) * one := by
      have := Int.mul_nonneg (by exact fk1 [_] [] (φ (κ 0) (ξ 0)) 1 1 (ψ (κ 0) (ξ 0)) yes G0 : 0 ≤ epG a e d) (by exact fk2 [_,_] [] (φ (κ 0) (ξ 0)) 1 1 (ϑ (ξ 1) (κ 100000000000000)) 1 (φ (ξ 1) (ξ 0)) yes c14 e14 : 0 ≤ one)
      grind
    grind
  have sone : (10 : Int) ^ (P.toNat + 436) ≤ 10 ^ 464 := pow10_mono (by exact fk2 [_] [_] (φn (ζ (ν 0) (κ 436)) (κ 464)) 1 1 (φ (ξ 0) (κ 28)) 1 (θ (ν 0) (ξ 0)) yes hp.2 (tn (a := P) (fk1 [_] [] (φ (κ 0) (ξ 0)) 1 1 (φ (κ 14) (ξ 0)) yes hp.1)))
  have big1 : (10 : Int) ^ 464 + 5 * 10 ^ 28 ≤ 10 ^ 465 := by decide +kernel
  have big2 : (5 : Int) * 10 ^ 465 < 10 ^ 466 := by decide +kernel
  have big3 : (2302586 : Int) * 10 ^ 28 ≤ 10 ^ 40 := by decide +kernel
  have big4 : (10 : Int) ^ 28 < 10 ^ 40 := by decide +kernel
  have big5 : (0 : Int) < 10 ^ 464 := by decide +kernel
  refine ⟨by rw [hP]; exact hp.1, by rw [hP]; exact hp.2, ⟨sm_of_le (k := 4) (by decide) (by have := pow_pos10 4; exact fk2 [_,_] [] (φ (η (ξ 0)) (ξ 1)) 1 2 (φ (κ 0) (ξ 1)) 1 (φ (ξ 1) (ξ 0)) yes ha a4) a4, by rw [hP]; exact es1, by rw [hP]; exact fk2 [_,_] [] (φ (ζ (ξ 0) (ξ 1)) (κ 1000)) 1 1 (φ (ξ 0) (κ 0)) 1 (φ (ξ 1) (κ 28)) yes he1 hp.2, by rw [hP]; exact fk1 [_] [] (φ (κ 0) (ξ 0)) 1 1 (φ (κ 14) (ξ 0)) yes hp.1, by rw [hP]; exact fk1 [_] [] (φ (ξ 0) (κ 100)) 1 1 (φ (ξ 0) (κ 28)) yes hp.2, by rw [hT]; exact fun hq => fn2 [_] [] 1 (ψ (κ 0) (ξ 0)) 1 (θ (ξ 0) (κ 0)) yes T0 hq, ?_, ?_, by rw [hK]; exact K0, by rw [hK]; exact fk1 [_] [] (φ (ξ 0) (κ 1000)) 1 1 (φ (ξ 0) (κ 435)) yes K1, ?_, ?_, ?_, by exact fun hq => fn2 [_] [] 1 (ψ (κ 0) (ξ 0)) 1 (θ (ξ 0) (κ 0)) yes G0 hq, ?_, ?_, ?_, by exact fun hq => fn3 [_,_] [] 1 (ψ (κ 0) (ξ 0)) 1 (φ (κ 0) (ξ 1)) 1 (θ (ζ (ξ 0) (ξ 1)) (κ 0)) yes G0 d0 hq, ?_, ?_, ?_⟩,
    by rw [hK, hT, hN]; exact kl, by rw [hK, hT, hN]; exact ku, by rw [hP, hT, hone]; exact tb.1, by rw [hP, hT, hone]; exact tb.2, by rw [hK]; exact K1, by rw [hP, hK, hone]; exact gl, by rw [hP]; exact gu, d0, by rw [hP, hone]; exact d1, by rw [hP, hone]; exact d5, ?_, by rw [hP, hone]; exact w1, by rw [hP, hone]; exact w0⟩
  · rw [hT]; exact sm_of_le (k := 40) (by decide) (by exact fk5 [_,_,_,_,_] [] (φ (η (ξ 0)) (π 2 (ξ 1))) 500000 1151295302585 (ϑ (ξ 2) (κ 100000000000000)) 1151295302585 (φ (ξ 2) (ξ 3)) 1151293000000 (φ (ξ 3) (ξ 4)) 1 (φ (π 2302585 (ξ 3)) (π 1000000 (ξ 1))) 500000 (φ (π 2302586 (ξ 4)) (ξ 0)) yes c14 e14 e28 tb.1 big3) (by exact fk5 [_,_,_,_,_] [] (φ (π 2 (ξ 0)) (ξ 1)) 500000 1151290697414 (ϑ (ξ 2) (κ 100000000000000)) 1151290697414 (φ (ξ 2) (ξ 3)) 1151293000000 (φ (ξ 3) (ξ 4)) 1 (φ (π 1000000 (ξ 0)) (π 2302586 (ξ 3))) 500000 (φ (π 2302586 (ξ 4)) (ξ 1)) yes c14 e14 e28 tb.2 big3)
  · rw [hT]; exact sm_of_le (k := 40) (by decide) (by exact fk5 [_,_,_,_,_] [] (φ (η (ξ 0)) (ξ 1)) 1000000 2302588302585 (ϑ (ξ 2) (κ 100000000000000)) 2302588302585 (φ (ξ 2) (ξ 3)) 2302586000000 (φ (ξ 3) (ξ 4)) 1 (φ (π 2302585 (ξ 3)) (π 1000000 (ξ 1))) 1000000 (φ (π 2302586 (ξ 4)) (ξ 0)) yes c14 e14 e28 tb.1 big3) (by exact fk5 [_,_,_,_,_] [] (φ (ξ 0) (ξ 1)) 1000000 2302583697414 (ϑ (ξ 2) (κ 100000000000000)) 2302583697414 (φ (ξ 2) (ξ 3)) 2302586000000 (φ (ξ 3) (ξ 4)) 1 (φ (π 1000000 (ξ 0)) (π 2302586 (ξ 3))) 1000000 (φ (π 2302586 (ξ 4)) (ξ 1)) yes c14 e14 e28 tb.2 big3)
  · exact sm_of_le (k := 40) (by decide) (by exact fk6 [_,_,_,_,_,_] [] (φ (η (ξ 0)) (ξ 1)) 2000000 4605169697414 (ϑ (ξ 2) (κ 100000000000000)) 4605169697414 (φ (ξ 2) (ξ 3)) 4605172000000 (φ (ξ 3) (ξ 4)) 1 (φ (π 1000000 (ξ 5)) (π 2302586 (ξ 3))) 1000000 (φ (η (ξ 5)) (π 2 (ξ 1))) 2000000 (φ (π 2302586 (ξ 4)) (ξ 0)) yes c14 e14 e28 tb.2 r1.1 big3) (by exact fk6 [_,_,_,_,_,_] [] (φ (ξ 0) (ξ 1)) 2000000 4605169697414 (ϑ (ξ 2) (κ 100000000000000)) 4605169697414 (φ (ξ 2) (ξ 3)) 4605172000000 (φ (ξ 3) (ξ 4)) 1 (φ (π 1000000 (ξ 5)) (π 2302586 (ξ 3))) 1000000 (ψ (π 2 (ξ 0)) (ξ 5)) 2000000 (φ (π 2302586 (ξ 4)) (ξ 1)) yes c14 e14 e28 tb.2 r1.2 big3)
  · rw [hP, hone, f1, eF']
  · rw [eF']; exact sm_of_le (k := 40) (by decide) (by exact fk5 [_,_,_,_,_] [] (φ (η (ξ 0)) (ξ 1)) 100 230258623 (ϑ (ξ 2) (κ 100000000000000)) 230258623 (φ (ξ 2) (ξ 3)) 230258600 (φ (ξ 3) (ξ 4)) 1 (φ (π 23 (ξ 3)) (π 100 (ξ 1))) 100 (φ (π 2302586 (ξ 4)) (ξ 0)) yes c14 e14 e28 f2 big3) (by exact fk5 [_,_,_,_,_] [] (φ (ξ 0) (ξ 1)) 1 2302582 (ϑ (ξ 2) (κ 100000000000000)) 2302582 (φ (ξ 2) (ξ 3)) 2302586 (φ (ξ 3) (ξ 4)) 1 (φ (ξ 0) (π 4 (ξ 3))) 1 (φ (π 2302586 (ξ 4)) (ξ 1)) yes c14 e14 e28 f3 big3)
  · exact sm_of_le (k := 464) (by decide) (by exact fk2 [_,_] [] (φ (η (ξ 0)) (ξ 1)) 1 1 (ψ (κ 0) (ξ 1)) 1 (ψ (κ 0) (ξ 0)) yes G0 big5) (by exact fk2 [_,_,_] [] (φ (ξ 0) (ξ 1)) 1 1 (φ (ξ 0) (ξ 2)) 1 (φ (ξ 2) (ξ 1)) yes gu sone)
  · exact sm_of_le (k := 465) (by decide) (by exact fk5 [_,_,_,_,_,_] [] (φ (η (ξ 0)) (δ (ξ 1) (ξ 2))) 1 5 (φ (ξ 3) (ξ 4)) 1 (ψ (κ 0) (ξ 1)) 1 (φ (ξ 2) (π 5 (ξ 3))) 1 (φ (ζ (ξ 5) (π 5 (ξ 4))) (ξ 0)) 1 (ψ (κ 0) (ξ 5)) yes e28 G0 d5 big1 big5) (by exact fk7 [_,_,_,_,_,_,_,_] [] (φ (δ (ξ 0) (ξ 1)) (ξ 2)) 1 5 (ϑ (ξ 3) (κ 100000000000000)) 5 (φ (ξ 3) (ξ 4)) 5 (φ (ξ 4) (ξ 5)) 1 (φ (ξ 0) (ξ 6)) 1 (φ (κ 0) (ξ 1)) 1 (φ (ξ 6) (ξ 7)) 1 (φ (ζ (ξ 7) (π 5 (ξ 5))) (ξ 2)) yes c14 e14 e28 gu d0 sone big1)
  · exact sm_of_le (k := 465) (by decide) (by exact fk7 [_,_,_,_,_,_,_] [] (φ (η (ξ 0)) (ζ (ξ 1) (ξ 2))) 100 523 (ϑ (ξ 3) (κ 100000000000000)) 523 (φ (ξ 3) (ξ 4)) 500 (φ (ξ 4) (ξ 5)) 1 (φ (π 23 (ξ 4)) (π 100 (ξ 1))) 100 (φ (κ 0) (ξ 2)) 100 (φ (ζ (ξ 6) (π 5 (ξ 5))) (ξ 0)) 100 (ψ (κ 0) (ξ 6)) yes c14 e14 e28 gl1 d0 big1 big5) (by exact fk5 [_,_,_,_,_,_,_] [] (φ (ζ (ξ 0) (ξ 1)) (ξ 2)) 1 5 (φ (ξ 3) (ξ 4)) 1 (φ (ξ 0) (ξ 5)) 1 (φ (ξ 1) (π 5 (ξ 3))) 1 (φ (ξ 5) (ξ 6)) 1 (φ (ζ (ξ 6) (π 5 (ξ 4))) (ξ 2)) yes e28 gu d5 sone big1)
  · exact Int.le_trans (cd_abs_le (k := 466) (by exact fk6 [_,_,_,_,_,_,_] [] (ψ (η (ξ 0)) (ω (δ (ξ 1) (ξ 2)) 5)) 1 25 (φ (ξ 3) (ξ 4)) 5 (ψ (κ 0) (ξ 1)) 5 (φ (ξ 2) (π 5 (ξ 3))) 5 (φ (ζ (ξ 5) (π 5 (ξ 4))) (ξ 6)) 1 (ψ (π 5 (ξ 6)) (ξ 0)) 5 (ψ (κ 0) (ξ 5)) yes e28 G0 d5 big1 big2 big5) (by exact fk8 [_,_,_,_,_,_,_,_,_] [] (ψ (ω (δ (ξ 0) (ξ 1)) 5) (ξ 2)) 1 25 (ϑ (ξ 3) (κ 100000000000000)) 25 (φ (ξ 3) (ξ 4)) 25 (φ (ξ 4) (ξ 5)) 5 (φ (ξ 0) (ξ 6)) 5 (φ (κ 0) (ξ 1)) 5 (φ (ξ 6) (ξ 7)) 5 (φ (ζ (ξ 7) (π 5 (ξ 5))) (ξ 8)) 1 (ψ (π 5 (ξ 8)) (ξ 2)) yes c14 e14 e28 gu d0 sone big1 big2)) (by decide)
  · exact Int.le_trans (cd_abs_le (k := 466) (by exact fk8 [_,_,_,_,_,_,_,_] [] (ψ (η (ξ 0)) (ω (ζ (ξ 1) (ξ 2)) 5)) 20 523 (ϑ (ξ 3) (κ 100000000000000)) 523 (φ (ξ 3) (ξ 4)) 500 (φ (ξ 4) (ξ 5)) 1 (φ (π 23 (ξ 4)) (π 100 (ξ 1))) 100 (φ (κ 0) (ξ 2)) 100 (φ (ζ (ξ 6) (π 5 (ξ 5))) (ξ 7)) 20 (ψ (π 5 (ξ 7)) (ξ 0)) 100 (ψ (κ 0) (ξ 6)) yes c14 e14 e28 gl1 d0 big1 big2 big5) (by exact fk6 [_,_,_,_,_,_,_,_] [] (ψ (ω (ζ (ξ 0) (ξ 1)) 5) (ξ 2)) 1 25 (φ (ξ 3) (ξ 4)) 5 (φ (ξ 0) (ξ 5)) 5 (φ (ξ 1) (π 5 (ξ 3))) 5 (φ (ξ 5) (ξ 6)) 5 (φ (ζ (ξ 6) (π 5 (ξ 4))) (ξ 7)) 1 (ψ (π 5 (ξ 7)) (ξ 2)) yes e28 gu d5 sone big1 big2)) (by decide)
  · exact Int.le_trans (cd_abs_le (k := 40) (by exact fk3 [_,_,_,_] [] (ψ (η (ξ 0)) (ξ 1)) 1 1 (φ (ξ 2) (ξ 3)) 1 (φ (η (ξ 2)) (ξ 1)) 1 (ψ (ξ 3) (ξ 0)) yes e28 w0 big4) (by exact fk3 [_,_,_,_] [] (ψ (ξ 0) (ξ 1)) 1 1 (φ (ξ 2) (ξ 3)) 1 (φ (ξ 0) (ξ 2)) 1 (ψ (ξ 3) (ξ 1)) yes e28 w1 big4)) (by decide)
  · intro hk0
    have hk0' : K = 0 := by lia
    have eRN : epR a e d = N := by rw [eR, hk0']; exact Int.le_antisymm (fk0 [_,_] [] (φ (δ (ξ 0) (π 0 (ξ 1))) (ξ 0)) 1  yes ) (fk0 [_,_] [] (φ (ξ 0) (δ (ξ 0) (π 0 (ξ 1)))) 1  yes )
    rw [hP, hN, hone, eG, hk0']
    rw [eRN] at f4
    have := f4 N0
    have e1 : (10 : Int) ^ (0 : Int).toNat = 1 := rfl
    rw [e1]; exact fk1 [_,_,_,_] [] (φ (ζ (ζ (ξ 0) (ξ 1)) (ξ 2)) (ω (ξ 3) 1)) 1 1 (φ (ζ (ζ (ξ 0) (ξ 1)) (ξ 2)) (ξ 3)) yes this
end Mine
end
section
open Mine.FLx (ξ ν κ ζ δ η π ω)
open Mine.FCx (φ ψ θ ϑ Φ Ψ φn ψn θn ϑn Φn Ψn)
namespace Mine
theorem strip_mod : ∀ (n : Nat) (m e : Int), m.natAbs ≤ n → m ≠ 0 → (strip m e).1 % 10 ≠ 0 := by
  intro n
  induction n with
  | zero => intro m e h h0; lia
  | succ n ih =>
    intro m e h h0
    by_cases h2 : m % 10 = 0
    · rw [strip_step h0 h2]; exact ih (m / 10) (e + 1) (by lia) (by lia)
    · rw [strip_stop h2]; exact h2
theorem rd_mod {x y d : Int} (hx : 0 < x) (hd : 1 ≤ d) : (rd x y d).1 % 10 ≠ 0 := by
  obtain ⟨j, _, h2, _⟩ := rd_spec (y := y) hx hd
  by_cases h : 0 < cd x - d
  · have e : rd x y d = strip (rdP (10 ^ (cd x - d).toNat) (absI x)) (y + (cd x - d)) := by unfold rd; rw [if_pos h, if_pos hx]
    rw [e] at h2 ⊢
    refine strip_mod _ _ _ (Nat.le_refl _) (fun z => ?_)
    rw [z] at h2
    exact absurd h2 (by rw [strip_zero]; decide)
  · have e : rd x y d = strip x y := by unfold rd; rw [if_neg h]
    rw [e]; exact strip_mod _ _ _ (Nat.le_refl _) (by exact fun hq => fn2 [_] [] 1 (ψ (κ 0) (ξ 0)) 1 (θ (ξ 0) (κ 0)) yes hx hq)
theorem rr_sgn {c V e d top : Int} (hV : 0 < V) (hd : 1 ≤ d) (h0 : -top ≤ (rd V e d).2 + cd (rd V e d).1 - 1) :
    ((rd V e d).2 + cd (rd V e d).1 - 1 ≤ top → rr (sgn c V) e d top = some (sgn c (rd V e d).1, (rd V e d).2)) ∧
    (top < (rd V e d).2 + cd (rd V e d).1 - 1 → rr (sgn c V) e d top = none) := by
  obtain ⟨j, _, h3, _⟩ := rd_spec (y := e) hV hd
  have key : ∀ z : Int, (z = V ∨ z = -V) → (rd z e d).2 = (rd V e d).2 ∧ cd (rd z e d).1 = cd (rd V e d).1 ∧ (rd z e d).1 ≠ 0 := by
    intro z hz
    rcases hz with rfl | rfl
    · exact ⟨rfl, rfl, by exact fun hq => fn2 [_] [] 1 (ψ (κ 0) (ξ 0)) 1 (θ (ξ 0) (κ 0)) yes h3 hq⟩
    · rw [rd_neg' hV]; exact ⟨rfl, cd_neg _, by dsimp only; exact fun hq => fn2 [_] [] 1 (ψ (κ 0) (ξ 0)) 1 (ϑ (η (ξ 0)) (κ 0)) yes h3 hq⟩
  have hs : sgn c V = V ∨ sgn c V = -V := by unfold sgn; split <;> simp
  obtain ⟨k1, k2, k3⟩ := key _ hs
  have e1 : rd (sgn c V) e d = (sgn c (rd V e d).1, (rd V e d).2) := by
    unfold sgn; split
    · rw [rd_neg' hV]
    · rfl
  constructor
  · intro h
    unfold rr
    rw [if_neg (by rw [k1, k2]; lia), if_neg (by rw [k1, k2]; exact fk1 [_,_,_] [] (Ψ (ξ 0) (δ (ζ (ξ 1) (ξ 2)) (κ 1))) 1 1 (φ (δ (ζ (ξ 1) (ξ 2)) (κ 1)) (ξ 0)) yes h), e1]
  · intro h
    unfold rr
    rw [if_neg (by rw [k1, k2]; lia), if_pos (by rw [k1, k2]; omega)]
theorem rd_lead_near {V e d : Int} {m : Nat} (hd : 1 ≤ d) (hd1 : d ≤ 7) (hm : 13 ≤ m) (h : 10 ^ m - 10 ≤ V) : e + m ≤ (rd V e d).2 + cd (rd V e d).1 - 1 := by
  have e1 : (10 : Int) ^ m = 10 ^ (m - 1) * 10 := by rw [← Int.pow_succ]; congr 1; lia
  have p1 : (10 : Int) ^ 12 ≤ 10 ^ (m - 1) := pow10_mono (by lia)
  have c12 : (10 : Int) ^ 12 = 1000000000000 := by decide +kernel
  have hV : 0 < V := by exact fk4 [_,_,_,_] [] (ψ (κ 0) (ξ 0)) 1 1 (φ (δ (ξ 1) (κ 10)) (ξ 0)) 1 (ϑ (ξ 1) (ω (ξ 2) 10)) 10 (φ (ξ 3) (ξ 2)) 10 (ϑ (ξ 3) (κ 1000000000000)) yes h e1 p1 c12
  by_cases h1 : 10 ^ m ≤ V
  · have := (rd_lead (y := e) hV hd).1
    have := le_cd h1
    lia
  · obtain ⟨j, g1, g2, g3, g4, g5, g6, ⟨q, g7⟩, g8⟩ := rd_spec (y := e) hV hd
    have cV : cd V = m := by
      have := cd_eqI (x := V) (k := m - 1) (by exact fk3 [_,_,_] [] (φ (ξ 0) (ξ 1)) 10 1 (φ (δ (ξ 2) (κ 10)) (ξ 1)) 1 (ϑ (ξ 2) (ω (ξ 0) 10)) 9 (ψ (κ 0) (ξ 1)) yes h e1 hV) (by rw [show m - 1 + 1 = m by lia]; exact fk1 [_,_] [] (ψ (ξ 0) (ξ 1)) 1 1 (Φ (ξ 1) (ξ 0)) yes h1)
      lia
    have hu : unitI V d = 10 ^ (m - d.toNat) := by unfold unitI; congr 1; lia
    have hu6 : (10 : Int) ^ 6 ≤ 10 ^ (m - d.toNat) := pow10_mono (by lia)
    have c6 : (10 : Int) ^ 6 = 1000000 := by decide
    have e2 : (10 : Int) ^ m = 10 ^ d.toNat * 10 ^ (m - d.toNat) := by rw [← pow_addI]; congr 1; lia
    have hq : 10 ^ d.toNat ≤ q := by
      rw [g7, hu] at g4
      generalize (10 : Int) ^ (m - d.toNat) = U at *
      rw [e2] at h
      generalize (10 : Int) ^ d.toNat = D at *
      have : (D - 1) * U < q * U := by grind
      have := Int.lt_of_mul_lt_mul_right this (by exact fk2 [_,_] [] (φ (κ 0) (ξ 0)) 1 1 (ϑ (ξ 1) (κ 1000000)) 1 (φ (ξ 1) (ξ 0)) yes c6 hu6)
      exact fk1 [_,_] [] (φ (ξ 0) (ξ 1)) 1 1 (ψ (δ (ξ 0) (κ 1)) (ξ 1)) yes this
    have : (10 : Int) ^ m ≤ (rd V e d).1 * 10 ^ j := by
      rw [g7, hu, e2]
      exact Int.mul_le_mul_of_nonneg_right hq (by exact fk2 [_,_] [] (φ (κ 0) (ξ 0)) 1 1 (φ (ξ 1) (ξ 0)) 1 (ϑ (ξ 1) (κ 1000000)) yes hu6 c6)
    have h5 := le_cd this
    have h6 := cd_mul_pow (x := (rd V e d).1) j (by exact fun hq => fn2 [_] [] 1 (ψ (κ 0) (ξ 0)) 1 (θ (ξ 0) (κ 0)) yes g2 hq)
    exact fk3 [_,_,_,_] [_,_] (φ (ζ (ξ 0) (ν 0)) (δ (ζ (ξ 1) (ξ 2)) (κ 1))) 1 1 (ϑ (ξ 1) (ζ (ξ 0) (ν 1))) 1 (φ (ζ (ν 0) (κ 1)) (ξ 3)) 1 (θ (ξ 3) (ζ (ξ 2) (ν 1))) yes g1 h5 h6
theorem tanhPart {W p d top : Int} (hW : 0 ≤ W) (hW1 : W ≤ 10 ^ p.toNat) (hp : 12 ≤ p) (hp1 : p ≤ 60) (hd : 1 ≤ d) (hd1 : d ≤ 7) (ht : 2 ≤ top) :
    ∃ t1 t2, 0 ≤ t1 ∧ (∀ c, rr (sgn c W) (-p) d top = some (sgn c t1, t2)) ∧ -60 ≤ t2 ∧ t2 ≤ 0 ∧ t1 ≤ 10 ^ 60 ∧ t1 * 10 ^ 30 ≤ 10 ^ (30 - t2).toNat ∧
      (2 * (10 ^ p.toNat - W) ≤ 10 ^ (p - d).toNat → t1 = 1 ∧ t2 = 0) := by
  have pp := pow_pos10 p.toNat
  have pd : (10 : Int) ^ p.toNat = 10 ^ d.toNat * 10 ^ (p - d).toNat := by rw [← pow_addI]; congr 1; exact Nat.le_antisymm (fk3 [_,_] [_,_,_] (φn (ν 0) (ζ (ν 1) (ν 2))) 1 1 (θ (ν 0) (ξ 0)) 1 (ϑ (ν 1) (ξ 1)) 1 (ϑ (ν 2) (δ (ξ 0) (ξ 1))) yes (tn (a := p) (fk1 [_] [] (φ (κ 0) (ξ 0)) 1 1 (φ (κ 12) (ξ 0)) yes hp)) (tn (a := d) (fk1 [_] [] (φ (κ 0) (ξ 0)) 1 1 (φ (κ 1) (ξ 0)) yes hd)) (tn (a := p - d) (fk2 [_,_] [] (φ (κ 0) (δ (ξ 0) (ξ 1))) 1 1 (φ (κ 12) (ξ 0)) 1 (φ (ξ 1) (κ 7)) yes hp hd1))) (fk3 [_,_] [_,_,_] (φn (ζ (ν 0) (ν 1)) (ν 2)) 1 1 (ϑ (ν 2) (ξ 0)) 1 (θ (ν 0) (ξ 1)) 1 (θ (ν 1) (δ (ξ 0) (ξ 1))) yes (tn (a := p) (fk1 [_] [] (φ (κ 0) (ξ 0)) 1 1 (φ (κ 12) (ξ 0)) yes hp)) (tn (a := d) (fk1 [_] [] (φ (κ 0) (ξ 0)) 1 1 (φ (κ 1) (ξ 0)) yes hd)) (tn (a := p - d) (fk2 [_,_] [] (φ (κ 0) (δ (ξ 0) (ξ 1))) 1 1 (φ (κ 12) (ξ 0)) 1 (φ (ξ 1) (κ 7)) yes hp hd1)))
  have pu := pow_pos10 (p - d).toNat
  have pd1 : (10 : Int) ^ 1 ≤ 10 ^ d.toNat := pow10_mono (by exact fk2 [_] [_] (φn (κ 1) (ν 0)) 1 1 (φ (κ 1) (ξ 0)) 1 (ϑ (ν 0) (ξ 0)) yes hd (tn (a := d) (fk1 [_] [] (φ (κ 0) (ξ 0)) 1 1 (φ (κ 1) (ξ 0)) yes hd)))
  have zero : ∀ c, 0 ≤ (0 : Int) → (rr (sgn c 0) (-p) d top = some (sgn c 0, 0)) := by
    intro c _
    have e : sgn c 0 = 0 := by unfold sgn; split <;> rfl
    rw [e]
    exact rr_n1 (by unfold rd; rw [if_neg (by have : cd 0 = 0 := rfl; exact fk2 [_,_] [] (Ψ (κ 0) (δ (ξ 0) (ξ 1))) 1 1 (φ (κ 1) (ξ 1)) 1 (θ (ξ 0) (κ 0)) yes hd this)]; rfl)
  rcases Int.lt_or_le 0 W with h | h
  · obtain ⟨j, g1, g2, g3, g4, g5, g6, ⟨q, g7⟩, g8⟩ := rd_spec (y := -p) (d := d) h hd
    have gm := rd_mod (y := -p) h hd
    have top1 : (rd W (-p) d).1 * 10 ^ j ≤ 10 ^ p.toNat := by
      by_cases hc : cd W ≤ p
      · exact Int.le_trans g5 (pow10_mono (by lia))
      · have cW := cd_le (x := W) (k := p.toNat + 1) hW (by rw [Int.pow_succ]; exact fk2 [_,_] [] (ψ (ξ 0) (ω (ξ 1) 10)) 1 10 (φ (ξ 0) (ξ 1)) 9 (ψ (κ 0) (ξ 0)) yes hW1 h)
        have hu : unitI W d = 10 ^ (p - d).toNat * 10 := by
          unfold unitI
          rw [← Int.pow_succ]; congr 1; exact Nat.le_antisymm (fk4 [_,_,_] [_,_,_] (φn (ν 0) (ζ (ν 1) (κ 1))) 1 1 (φ (ξ 0) (ζ (ν 2) (κ 1))) 1 (θ (ν 2) (ξ 1)) 1 (θ (ν 0) (δ (ξ 0) (ξ 2))) 1 (ϑ (ν 1) (δ (ξ 1) (ξ 2))) yes cW (tn (a := p) (fk1 [_] [] (φ (κ 0) (ξ 0)) 1 1 (φ (κ 12) (ξ 0)) yes hp)) (tn (a := cd W - d) (fk3 [_,_,_] [] (φ (κ 0) (δ (ξ 0) (ξ 1))) 1 1 (φ (κ 12) (ξ 2)) 1 (φ (ξ 1) (κ 7)) 1 (Φ (ξ 0) (ξ 2)) yes hp hd1 hc)) (tn (a := p - d) (fk2 [_,_] [] (φ (κ 0) (δ (ξ 0) (ξ 1))) 1 1 (φ (κ 12) (ξ 0)) 1 (φ (ξ 1) (κ 7)) yes hp hd1))) (fk3 [_,_,_] [_,_] (φn (ζ (ν 0) (κ 1)) (ν 1)) 1 1 (Φ (ξ 0) (ξ 1)) 1 (ϑ (ν 1) (δ (ξ 0) (ξ 2))) 1 (θ (ν 0) (δ (ξ 1) (ξ 2))) yes hc (tn (a := cd W - d) (fk3 [_,_,_] [] (φ (κ 0) (δ (ξ 0) (ξ 1))) 1 1 (φ (κ 12) (ξ 2)) 1 (φ (ξ 1) (κ 7)) 1 (Φ (ξ 0) (ξ 2)) yes hp hd1 hc)) (tn (a := p - d) (fk2 [_,_] [] (φ (κ 0) (δ (ξ 0) (ξ 1))) 1 1 (φ (κ 12) (ξ 0)) 1 (φ (ξ 1) (κ 7)) yes hp hd1)))
        have lo : 10 ^ p.toNat ≤ W := by
          have := pow_dg_leI h
          have e : (cd W - 1).toNat = p.toNat := by exact Nat.le_antisymm (fk2 [_] [_,_] (φn (ν 0) (ν 1)) 1 1 (φ (ξ 0) (ζ (ν 1) (κ 1))) 1 (θ (ν 0) (δ (ξ 0) (κ 1))) yes cW (tn (a := cd W - 1) (fk2 [_,_] [] (φ (κ 0) (δ (ξ 0) (κ 1))) 1 1 (φ (κ 12) (ξ 1)) 1 (Φ (ξ 0) (ξ 1)) yes hp hc))) (fk3 [_,_] [_,_] (φn (ν 0) (ν 1)) 1 1 (Φ (ξ 0) (ξ 1)) 1 (θ (ν 0) (ξ 1)) 1 (ϑ (ν 1) (δ (ξ 0) (κ 1))) yes hc (tn (a := p) (fk1 [_] [] (φ (κ 0) (ξ 0)) 1 1 (φ (κ 12) (ξ 0)) yes hp)) (tn (a := cd W - 1) (fk2 [_,_] [] (φ (κ 0) (δ (ξ 0) (κ 1))) 1 1 (φ (κ 12) (ξ 1)) 1 (Φ (ξ 0) (ξ 1)) yes hp hc)))
          rw [e] at this; exact this
        have pd' : (10 : Int) ^ p.toNat = 10 ^ (d - 1).toNat * (10 ^ (p - d).toNat * 10) := by
          rw [← Int.pow_succ, ← pow_addI]; congr 1; exact Nat.le_antisymm (fk3 [_,_] [_,_,_] (φn (ν 0) (ζ (ν 1) (ζ (ν 2) (κ 1)))) 1 1 (θ (ν 0) (ξ 0)) 1 (ϑ (ν 1) (δ (ξ 1) (κ 1))) 1 (ϑ (ν 2) (δ (ξ 0) (ξ 1))) yes (tn (a := p) (fk1 [_] [] (φ (κ 0) (ξ 0)) 1 1 (φ (κ 12) (ξ 0)) yes hp)) (tn (a := d - 1) (fk1 [_] [] (φ (κ 0) (δ (ξ 0) (κ 1))) 1 1 (φ (κ 1) (ξ 0)) yes hd)) (tn (a := p - d) (fk2 [_,_] [] (φ (κ 0) (δ (ξ 0) (ξ 1))) 1 1 (φ (κ 12) (ξ 0)) 1 (φ (ξ 1) (κ 7)) yes hp hd1))) (fk3 [_,_] [_,_,_] (φn (ζ (ν 0) (ζ (ν 1) (κ 1))) (ν 2)) 1 1 (ϑ (ν 2) (ξ 0)) 1 (θ (ν 0) (δ (ξ 1) (κ 1))) 1 (θ (ν 1) (δ (ξ 0) (ξ 1))) yes (tn (a := p) (fk1 [_] [] (φ (κ 0) (ξ 0)) 1 1 (φ (κ 12) (ξ 0)) yes hp)) (tn (a := d - 1) (fk1 [_] [] (φ (κ 0) (δ (ξ 0) (κ 1))) 1 1 (φ (κ 1) (ξ 0)) yes hd)) (tn (a := p - d) (fk2 [_,_] [] (φ (κ 0) (δ (ξ 0) (ξ 1))) 1 1 (φ (κ 12) (ξ 0)) 1 (φ (ξ 1) (κ 7)) yes hp hd1)))
        rw [g7, hu] at g3
        rw [g7, hu, pd']
        have e : W = 10 ^ (d - 1).toNat * (10 ^ (p - d).toNat * 10) := by exact Int.le_antisymm (fk2 [_,_,_] [] (φ (ξ 0) (ξ 1)) 1 1 (φ (ξ 0) (ξ 2)) 1 (θ (ξ 2) (ξ 1)) yes hW1 pd') (fk2 [_,_,_] [] (φ (ξ 0) (ξ 1)) 1 1 (φ (ξ 2) (ξ 1)) 1 (ϑ (ξ 2) (ξ 0)) yes lo pd')
        have hU : 0 < (10 : Int) ^ (p - d).toNat * 10 := by exact fk1 [_] [] (ψ (κ 0) (ω (ξ 0) 10)) 1 10 (ψ (κ 0) (ξ 0)) yes pu
        generalize (10 : Int) ^ (p - d).toNat * 10 = U at *
        generalize (10 : Int) ^ (d - 1).toNat = D at *
        have : q * U < (D + 1) * U := by grind
        have := Int.lt_of_mul_lt_mul_right this (by exact fk1 [_] [] (φ (κ 0) (ξ 0)) 1 1 (ψ (κ 0) (ξ 0)) yes hU)
        exact Int.mul_le_mul_of_nonneg_right (by exact fk1 [_,_] [] (φ (ξ 0) (ξ 1)) 1 1 (ψ (ξ 0) (ζ (ξ 1) (κ 1))) yes this) (by exact fk1 [_] [] (φ (κ 0) (ξ 0)) 1 1 (ψ (κ 0) (ξ 0)) yes hU)
    have ca := cd_pos (x := (rd W (-p) d).1) (by exact fun hq => fn2 [_] [] 1 (ψ (κ 0) (ξ 0)) 1 (θ (ξ 0) (κ 0)) yes g2 hq)
    have cj := cd_mul_pow (x := (rd W (-p) d).1) j (by exact fun hq => fn2 [_] [] 1 (ψ (κ 0) (ξ 0)) 1 (θ (ξ 0) (κ 0)) yes g2 hq)
    have cp : cd ((10 : Int) ^ p.toNat) = p + 1 := by
      have := cd_mul_pow (x := 1) p.toNat (by decide)
      rw [Int.one_mul] at this
      have h : cd 1 = 1 := rfl
      exact Int.le_antisymm (fk3 [_,_,_] [_] (φ (ξ 0) (ζ (ξ 1) (κ 1))) 1 1 (θ (ξ 0) (ζ (ξ 2) (ν 0))) 1 (θ (ξ 2) (κ 1)) 1 (θ (ν 0) (ξ 1)) yes this h (tn (a := p) (fk1 [_] [] (φ (κ 0) (ξ 0)) 1 1 (φ (κ 12) (ξ 0)) yes hp))) (fk3 [_,_,_] [_] (φ (ζ (ξ 0) (κ 1)) (ξ 1)) 1 1 (ϑ (ξ 1) (ζ (ξ 2) (ν 0))) 1 (ϑ (ξ 2) (κ 1)) 1 (ϑ (ν 0) (ξ 0)) yes this h (tn (a := p) (fk1 [_] [] (φ (κ 0) (ξ 0)) 1 1 (φ (κ 12) (ξ 0)) yes hp)))
    have cm := cd_monoI (by have := pow_pos10 (cd W - 1).toNat; exact fk2 [_,_] [] (φ (κ 0) (ξ 0)) 1 1 (φ (ξ 1) (ξ 0)) 1 (ψ (κ 0) (ξ 1)) yes g6 this) top1
    have jp : (j : Int) ≤ p := by exact fk4 [_,_,_,_] [_] (φ (ν 0) (ξ 0)) 1 1 (φ (κ 1) (ξ 1)) 1 (ϑ (ξ 2) (ζ (ξ 1) (ν 0))) 1 (θ (ξ 3) (ζ (ξ 0) (κ 1))) 1 (φ (ξ 2) (ξ 3)) yes ca cj cp cm
    have aj : (rd W (-p) d).1 * 1 ≤ (rd W (-p) d).1 * 10 ^ j := Int.mul_le_mul_of_nonneg_left (pow_ge_one j) (by exact fk1 [_] [] (φ (κ 0) (ξ 0)) 1 1 (ψ (κ 0) (ξ 0)) yes g2)
    have p60 : (10 : Int) ^ p.toNat ≤ 10 ^ 60 := pow10_mono (by exact fk2 [_] [_] (φn (ν 0) (κ 60)) 1 1 (φ (ξ 0) (κ 60)) 1 (θ (ν 0) (ξ 0)) yes hp1 (tn (a := p) (fk1 [_] [] (φ (κ 0) (ξ 0)) 1 1 (φ (κ 12) (ξ 0)) yes hp)))
    have great : 2 * (10 ^ p.toNat - W) ≤ 10 ^ (p - d).toNat → (rd W (-p) d).1 = 1 ∧ (rd W (-p) d).2 = 0 := by
      intro hg
      have lo : 10 ^ p.toNat ≤ (rd W (-p) d).1 * 10 ^ j := by
        by_cases hc : cd W ≤ p
        · have pd2 : (10 : Int) ^ p.toNat = 10 ^ (p.toNat - 1) * 10 := by rw [← Int.pow_succ]; congr 1; lia
          have hc2 : p ≤ cd W := by
            have : (10 : Int) ^ (p - d).toNat ≤ 10 ^ (p.toNat - 1) := pow10_mono (by lia)
            have := le_cd (x := W) (k := p.toNat - 1) (by exact fk4 [_,_,_,_] [] (φ (ξ 0) (ξ 1)) 19 17 (ψ (κ 0) (ξ 1)) 1 (φ (π 2 (δ (ξ 2) (ξ 1))) (ξ 3)) 2 (ϑ (ξ 2) (ω (ξ 0) 10)) 1 (φ (ξ 3) (ξ 0)) yes h hg pd2 this)
            omega
          have hu : unitI W d = 10 ^ (p - d).toNat := by unfold unitI; congr 1; exact Nat.le_antisymm (fk3 [_,_,_] [_,_] (φn (ν 0) (ν 1)) 1 1 (φ (ξ 0) (ξ 1)) 1 (θ (ν 0) (δ (ξ 0) (ξ 2))) 1 (ϑ (ν 1) (δ (ξ 1) (ξ 2))) yes hc (tn (a := cd W - d) (fk3 [_,_,_] [] (φ (κ 0) (δ (ξ 0) (ξ 1))) 1 1 (φ (κ 12) (ξ 2)) 1 (φ (ξ 1) (κ 7)) 1 (φ (ξ 2) (ξ 0)) yes hp hd1 hc2)) (tn (a := p - d) (fk3 [_,_,_] [_] (φ (κ 0) (δ (ξ 0) (ξ 1))) 1 1 (φ (ξ 2) (ξ 0)) 1 (φn (κ 0) (ν 0)) 1 (θ (ν 0) (δ (ξ 2) (ξ 1))) yes hc (Nat.zero_le _) (tn (a := cd W - d) (fk3 [_,_,_] [] (φ (κ 0) (δ (ξ 0) (ξ 1))) 1 1 (φ (κ 12) (ξ 2)) 1 (φ (ξ 1) (κ 7)) 1 (φ (ξ 2) (ξ 0)) yes hp hd1 hc2))))) (fk3 [_,_,_] [_,_] (φn (ν 0) (ν 1)) 1 1 (φ (ξ 0) (ξ 1)) 1 (ϑ (ν 1) (δ (ξ 1) (ξ 2))) 1 (θ (ν 0) (δ (ξ 0) (ξ 2))) yes hc2 (tn (a := cd W - d) (fk3 [_,_,_] [] (φ (κ 0) (δ (ξ 0) (ξ 1))) 1 1 (φ (κ 12) (ξ 2)) 1 (φ (ξ 1) (κ 7)) 1 (φ (ξ 2) (ξ 0)) yes hp hd1 hc2)) (tn (a := p - d) (fk3 [_,_,_] [_] (φ (κ 0) (δ (ξ 0) (ξ 1))) 1 1 (φ (ξ 2) (ξ 0)) 1 (φn (κ 0) (ν 0)) 1 (θ (ν 0) (δ (ξ 2) (ξ 1))) yes hc (Nat.zero_le _) (tn (a := cd W - d) (fk3 [_,_,_] [] (φ (κ 0) (δ (ξ 0) (ξ 1))) 1 1 (φ (κ 12) (ξ 2)) 1 (φ (ξ 1) (κ 7)) 1 (φ (ξ 2) (ξ 0)) yes hp hd1 hc2)))))
          rw [g7, hu] at g4
          rw [g7, hu, pd]
          rw [pd] at hg
          generalize (10 : Int) ^ (p - d).toNat = U at *
          by_cases hq : 10 ^ d.toNat ≤ q
          · exact Int.mul_le_mul_of_nonneg_right hq (by exact fk1 [_] [] (φ (κ 0) (ξ 0)) 1 1 (ψ (κ 0) (ξ 0)) yes pu)
          · -- a tie: the kept figures are all nines, so they are raised
            exfalso
            have hDq : q = 10 ^ d.toNat - 1 := by
              generalize (10 : Int) ^ d.toNat = D at *
              have : (D - 2) * U < q * U := by grind
              have := Int.lt_of_mul_lt_mul_right this (by exact fk1 [_] [] (φ (κ 0) (ξ 0)) 1 1 (ψ (κ 0) (ξ 0)) yes pu)
              exact Int.le_antisymm (fk1 [_,_] [] (φ (ξ 0) (δ (ξ 1) (κ 1))) 1 1 (Φ (ξ 1) (ξ 0)) yes hq) (fk1 [_,_] [] (φ (δ (ξ 0) (κ 1)) (ξ 1)) 1 1 (ψ (δ (ξ 0) (κ 2)) (ξ 1)) yes this)
            have hD : 0 < cd W - d := by exact fk3 [_,_,_] [] (ψ (κ 0) (δ (ξ 0) (ξ 1))) 1 1 (φ (κ 12) (ξ 2)) 1 (φ (ξ 1) (κ 7)) 1 (φ (ξ 2) (ξ 0)) yes hp hd1 hc2
            have hWe : 2 * W = (2 * 10 ^ d.toNat - 1) * U := by
              generalize (10 : Int) ^ d.toNat = D at *
              subst hDq
              grind
            have er : rd W (-p) d = strip (rdP (10 ^ (cd W - d).toNat) W) (-p + (cd W - d)) := by
              unfold rd; rw [if_pos hD, if_pos h, absI_of_nn (by omega)]
            have hU2 : (10 : Int) ^ (cd W - d).toNat = U := hu
            have hUe : U = 2 * (U / 2) := by
              have : U % 10 = 0 := by
                rw [← hu]; unfold unitI
                have : (cd W - d).toNat = (cd W - d).toNat - 1 + 1 := by lia
                rw [this, Int.pow_succ]; lia
              lia
            have hDe : (10 : Int) ^ d.toNat % 10 = 0 := by
              have : d.toNat = d.toNat - 1 + 1 := by lia
              rw [this, Int.pow_succ]; lia
            have hW3 : W = (10 ^ d.toNat - 1) * U + U / 2 := by
              generalize (10 : Int) ^ d.toNat = D at *
              grind
            have hdiv : W / U = 10 ^ d.toNat - 1 ∧ W % U = U / 2 := by
              have hU0 : 0 < U := by omega
              have e1 := Int.mul_ediv_add_emod W U
              have e2 := Int.emod_nonneg W (by exact fun hq => fn2 [_] [] 1 (ψ (κ 0) (ξ 0)) 1 (θ (ξ 0) (κ 0)) yes pu hq : U ≠ 0)
              have e3 := Int.emod_lt_of_pos W hU0
              generalize (10 : Int) ^ d.toNat = D at *
              generalize W / U = Q at *
              generalize W % U = r at *
              have l1 : (D - 2) * U < Q * U := by grind
              have l2 : Q * U < D * U := by grind
              have l1' := Int.lt_of_mul_lt_mul_right l1 (by exact fk1 [_] [] (φ (κ 0) (ξ 0)) 1 1 (ψ (κ 0) (ξ 0)) yes pu)
              have l2' := Int.lt_of_mul_lt_mul_right l2 (by exact fk1 [_] [] (φ (κ 0) (ξ 0)) 1 1 (ψ (κ 0) (ξ 0)) yes pu)
              have : Q = D - 1 := by exact Int.le_antisymm (fk1 [_,_] [] (φ (ξ 0) (δ (ξ 1) (κ 1))) 1 1 (ψ (ξ 0) (ξ 1)) yes l2') (fk1 [_,_] [] (φ (δ (ξ 0) (κ 1)) (ξ 1)) 1 1 (ψ (δ (ξ 0) (κ 2)) (ξ 1)) yes l1')
              subst this
              exact ⟨rfl, by grind⟩
            have hrd : rdP U W = 10 ^ d.toNat := by
              unfold rdP
              have hU0 : 0 < U := by omega
              rw [fdivP hU0, fmodP hU0, hdiv.1, hdiv.2, if_pos (.inr ⟨by exact Int.le_antisymm (fk1 [_,_] [] (φ (π 2 (ξ 0)) (ξ 1)) 1 1 (ϑ (ξ 1) (π 2 (ξ 0))) yes hUe) (fk1 [_,_] [] (φ (ξ 0) (π 2 (ξ 1))) 1 1 (θ (ξ 0) (π 2 (ξ 1))) yes hUe), by rw [fmodP (by decide)]; lia⟩)]
              exact Int.le_antisymm (fk0 [_] [] (φ (ζ (δ (ξ 0) (κ 1)) (κ 1)) (ξ 0)) 1  yes ) (fk0 [_] [] (φ (ξ 0) (ζ (δ (ξ 0) (κ 1)) (κ 1))) 1  yes )
            rw [hU2, hrd] at er
            obtain ⟨k, k1, k2, k3⟩ := strip_spec _ ((10 : Int) ^ d.toNat) (-p + (cd W - d)) (Nat.le_refl _) (by lia)
            rw [← er] at k1 k2
            have : (rd W (-p) d).1 * 10 ^ j = 10 ^ d.toNat * U := by
              have ej : (j : Int) = k + (cd W - d) := by exact Int.le_antisymm (fk2 [_,_,_,_] [_,_] (φ (ν 0) (ζ (ν 1) (δ (ξ 0) (ξ 1)))) 1 1 (ϑ (ξ 2) (ζ (η (ξ 3)) (ν 0))) 1 (θ (ξ 2) (ζ (ζ (η (ξ 3)) (δ (ξ 0) (ξ 1))) (ν 1))) yes g1 k1) (fk2 [_,_,_,_] [_,_] (φ (ζ (ν 0) (δ (ξ 0) (ξ 1))) (ν 1)) 1 1 (θ (ξ 2) (ζ (η (ξ 3)) (ν 1))) 1 (ϑ (ξ 2) (ζ (ζ (η (ξ 3)) (δ (ξ 0) (ξ 1))) (ν 0))) yes g1 k1)
              have : j = k + (cd W - d).toNat := by exact Nat.le_antisymm (fk3 [_,_,_,_] [_,_,_] (φn (ν 0) (ζ (ν 1) (ν 2))) 1 1 (ϑ (ξ 0) (ζ (η (ξ 1)) (ν 0))) 1 (θ (ξ 0) (ζ (ζ (η (ξ 1)) (δ (ξ 2) (ξ 3))) (ν 1))) 1 (ϑ (ν 2) (δ (ξ 2) (ξ 3))) yes g1 k1 (tn (a := cd W - d) (fk1 [_,_] [] (φ (κ 0) (δ (ξ 0) (ξ 1))) 1 1 (ψ (κ 0) (δ (ξ 0) (ξ 1))) yes hD))) (fk3 [_,_,_,_] [_,_,_] (φn (ζ (ν 0) (ν 1)) (ν 2)) 1 1 (θ (ξ 0) (ζ (η (ξ 1)) (ν 2))) 1 (ϑ (ξ 0) (ζ (ζ (η (ξ 1)) (δ (ξ 2) (ξ 3))) (ν 0))) 1 (θ (ν 1) (δ (ξ 2) (ξ 3))) yes g1 k1 (tn (a := cd W - d) (fk1 [_,_] [] (φ (κ 0) (δ (ξ 0) (ξ 1))) 1 1 (ψ (κ 0) (δ (ξ 0) (ξ 1))) yes hD)))
              rw [this, pow_addI, ← Int.mul_assoc, ← k2, hU2]
            rw [g7, hu] at this
            have := Int.eq_of_mul_eq_mul_right (by exact fun hq => fn2 [_] [] 1 (ψ (κ 0) (ξ 0)) 1 (θ (ξ 0) (κ 0)) yes pu hq : U ≠ 0) this
            exact fn2 [_,_] [] 1 (θ (ξ 0) (δ (ξ 1) (κ 1))) 1 (ϑ (ξ 0) (ξ 1)) yes hDq this
        · exact Int.le_trans (pow10_mono (by exact fk3 [_,_] [_,_] (φn (ν 0) (ν 1)) 1 1 (Φ (ξ 0) (ξ 1)) 1 (θ (ν 0) (ξ 1)) 1 (ϑ (ν 1) (δ (ξ 0) (κ 1))) yes hc (tn (a := p) (fk1 [_] [] (φ (κ 0) (ξ 0)) 1 1 (φ (κ 12) (ξ 0)) yes hp)) (tn (a := cd W - 1) (fk2 [_,_] [] (φ (κ 0) (δ (ξ 0) (κ 1))) 1 1 (φ (κ 12) (ξ 1)) 1 (Φ (ξ 0) (ξ 1)) yes hp hc)))) g6
      have heq : (rd W (-p) d).1 * 10 ^ j = 10 ^ p.toNat := by exact Int.le_antisymm (fk1 [_,_] [] (φ (ξ 0) (ξ 1)) 1 1 (φ (ξ 0) (ξ 1)) yes top1) (fk1 [_,_] [] (φ (ξ 0) (ξ 1)) 1 1 (φ (ξ 0) (ξ 1)) yes lo)
      have hj : j = p.toNat := by
        rcases Nat.lt_or_ge j p.toNat with hlt | hge
        · exfalso
          have e : (10 : Int) ^ p.toNat = 10 ^ (p.toNat - 1 - j) * 10 * 10 ^ j := by
            rw [← Int.pow_succ, ← pow_addI]; congr 1; lia
          rw [e] at heq
          have := Int.eq_of_mul_eq_mul_right (by have := pow_pos10 j; exact fun hq => fn2 [_] [] 1 (ψ (κ 0) (ξ 0)) 1 (θ (ξ 0) (κ 0)) yes this hq) heq
          lia
        · exact Nat.le_antisymm (fk2 [_] [_,_] (φn (ν 0) (ν 1)) 1 1 (φ (ν 0) (ξ 0)) 1 (ϑ (ν 1) (ξ 0)) yes jp (tn (a := p) (fk1 [_] [] (φ (κ 0) (ξ 0)) 1 1 (φ (κ 12) (ξ 0)) yes hp))) (fk1 [] [_,_] (φn (ν 0) (ν 1)) 1 1 (φn (ν 0) (ν 1)) yes hge)
      subst hj
      have : (rd W (-p) d).1 * 10 ^ p.toNat = 1 * 10 ^ p.toNat := by exact Int.le_antisymm (fk1 [_,_] [] (φ (ξ 0) (π 1 (ξ 1))) 1 1 (θ (ξ 0) (ξ 1)) yes heq) (fk1 [_,_] [] (φ (π 1 (ξ 0)) (ξ 1)) 1 1 (ϑ (ξ 1) (ξ 0)) yes heq)
      have := Int.eq_of_mul_eq_mul_right (by exact fun hq => fn3 [_,_] [] 1 (φ (ξ 0) (ξ 1)) 1 (ψ (κ 0) (ξ 0)) 1 (θ (ξ 1) (κ 0)) yes hW1 h hq) this
      exact ⟨this, by exact Int.le_antisymm (fk2 [_,_] [_] (φ (ξ 0) (κ 0)) 1 1 (θ (ξ 0) (ζ (η (ξ 1)) (ν 0))) 1 (θ (ν 0) (ξ 1)) yes g1 (tn (a := p) (fk1 [_] [] (φ (κ 0) (ξ 0)) 1 1 (φ (κ 12) (ξ 0)) yes hp))) (fk2 [_,_] [_] (φ (κ 0) (ξ 0)) 1 1 (ϑ (ξ 0) (ζ (η (ξ 1)) (ν 0))) 1 (ϑ (ν 0) (ξ 1)) yes g1 (tn (a := p) (fk1 [_] [] (φ (κ 0) (ξ 0)) 1 1 (φ (κ 12) (ξ 0)) yes hp)))⟩
    by_cases hL : -top ≤ (rd W (-p) d).2 + cd (rd W (-p) d).1 - 1
    · refine ⟨(rd W (-p) d).1, (rd W (-p) d).2, by exact fk1 [_] [] (φ (κ 0) (ξ 0)) 1 1 (ψ (κ 0) (ξ 0)) yes g2, fun c => (rr_sgn h hd hL).1 (by exact fk5 [_,_,_,_,_,_] [_] (φ (δ (ζ (ξ 0) (ξ 1)) (κ 1)) (ξ 2)) 1 1 (φ (κ 2) (ξ 2)) 1 (θ (ξ 0) (ζ (η (ξ 3)) (ν 0))) 1 (ϑ (ξ 4) (ζ (ξ 1) (ν 0))) 1 (θ (ξ 5) (ζ (ξ 3) (κ 1))) 1 (φ (ξ 4) (ξ 5)) yes ht g1 cj cp cm), by exact fk3 [_,_] [_] (φ (η (κ 60)) (ξ 0)) 1 1 (φ (ξ 1) (κ 60)) 1 (ϑ (ξ 0) (ζ (η (ξ 1)) (ν 0))) 1 (φn (κ 0) (ν 0)) yes hp1 g1 (Nat.zero_le _), by exact fk2 [_,_] [_] (φ (ξ 0) (κ 0)) 1 1 (θ (ξ 0) (ζ (η (ξ 1)) (ν 0))) 1 (φ (ν 0) (ξ 1)) yes g1 jp, by exact fk3 [_,_,_,_] [] (φ (ξ 0) (ξ 1)) 1 1 (φ (ξ 2) (ξ 3)) 1 (φ (ω (ξ 0) 1) (ξ 2)) 1 (φ (ξ 3) (ξ 1)) yes top1 aj p60, ?_, great⟩
      have e : (10 : Int) ^ (30 - (rd W (-p) d).2).toNat * 10 ^ j = 10 ^ p.toNat * 10 ^ 30 := by
        rw [← pow_addI, ← pow_addI]; congr 1; exact Nat.le_antisymm (fk3 [_,_] [_,_,_] (φn (ζ (ν 0) (ν 1)) (ζ (ν 2) (κ 30))) 1 1 (ϑ (ξ 0) (ζ (η (ξ 1)) (ν 1))) 1 (θ (ν 0) (δ (κ 30) (ξ 0))) 1 (ϑ (ν 2) (ξ 1)) yes g1 (tn (a := 30 - (rd W (-p) d).snd) (fk2 [_,_] [_] (φ (κ 0) (δ (κ 30) (ξ 0))) 1 1 (θ (ξ 0) (ζ (η (ξ 1)) (ν 0))) 1 (φ (ν 0) (ξ 1)) yes g1 jp)) (tn (a := p) (fk1 [_] [] (φ (κ 0) (ξ 0)) 1 1 (φ (κ 12) (ξ 0)) yes hp))) (fk3 [_,_] [_,_,_] (φn (ζ (ν 0) (κ 30)) (ζ (ν 1) (ν 2))) 1 1 (θ (ξ 0) (ζ (η (ξ 1)) (ν 2))) 1 (ϑ (ν 1) (δ (κ 30) (ξ 0))) 1 (θ (ν 0) (ξ 1)) yes g1 (tn (a := 30 - (rd W (-p) d).snd) (fk2 [_,_] [_] (φ (κ 0) (δ (κ 30) (ξ 0))) 1 1 (θ (ξ 0) (ζ (η (ξ 1)) (ν 0))) 1 (φ (ν 0) (ξ 1)) yes g1 jp)) (tn (a := p) (fk1 [_] [] (φ (κ 0) (ξ 0)) 1 1 (φ (κ 12) (ξ 0)) yes hp)))
      have h3 : ((rd W (-p) d).1 * 10 ^ 30) * 10 ^ j ≤ 10 ^ (30 - (rd W (-p) d).2).toNat * 10 ^ j := by
        rw [e]
        have := Int.mul_le_mul_of_nonneg_right top1 (Int.le_of_lt (pow_pos10 30))
        grind
      exact Int.le_of_mul_le_mul_right h3 (pow_pos10 j)
    · refine ⟨0, 0, by exact fk0 [] [] (φ (κ 0) (κ 0)) 1  yes , fun c => ?_, by exact fk0 [] [] (φ (η (κ 60)) (κ 0)) 1  yes , by exact fk0 [] [] (φ (κ 0) (κ 0)) 1  yes , by exact fk2 [_,_] [] (φ (κ 0) (ξ 0)) 1 1 (ψ (κ 0) (ξ 1)) 1 (φ (ξ 1) (ξ 0)) yes pp p60, by decide +kernel, fun hg => ?_⟩
      · have e0 : sgn c 0 = 0 := by unfold sgn; split <;> rfl
        rw [e0]
        have hs : sgn c W = W ∨ sgn c W = -W := by unfold sgn; split <;> simp
        refine rr_n2 ?_
        rcases hs with e | e <;> rw [e]
        · exact fk1 [_,_,_] [] (ψ (δ (ζ (ξ 0) (ξ 1)) (κ 1)) (η (ξ 2))) 1 1 (Φ (η (ξ 2)) (δ (ζ (ξ 0) (ξ 1)) (κ 1))) yes hL
        · rw [rd_neg' h]; dsimp only; rw [cd_neg]; exact fk1 [_,_,_] [] (ψ (δ (ζ (ξ 0) (ξ 1)) (κ 1)) (η (ξ 2))) 1 1 (Φ (η (ξ 2)) (δ (ζ (ξ 0) (ξ 1)) (κ 1))) yes hL
      · exfalso
        obtain ⟨e1, e2⟩ := great hg
        rw [e1, e2] at hL
        have h : cd 1 = 1 := rfl
        exact fn3 [_,_] [] 1 (φ (κ 2) (ξ 0)) 1 (Φ (η (ξ 0)) (δ (ζ (κ 0) (ξ 1)) (κ 1))) 1 (ϑ (ξ 1) (κ 1)) yes ht hL h
  · have e : W = 0 := by exact Int.le_antisymm (fk1 [_] [] (φ (ξ 0) (κ 0)) 1 1 (φ (ξ 0) (κ 0)) yes h) (fk1 [_] [] (φ (κ 0) (ξ 0)) 1 1 (φ (κ 0) (ξ 0)) yes hW)
    subst e
    refine ⟨0, 0, by omega, fun c => zero c (by omega), by exact fk0 [] [] (φ (η (κ 60)) (κ 0)) 1  yes , by omega, by lia, by decide +kernel, fun hg => ?_⟩
    exfalso
    rw [pd] at hg
    have := Int.mul_le_mul_of_nonneg_right pd1 (by exact fk1 [_] [] (φ (κ 0) (ξ 0)) 1 1 (ψ (κ 0) (ξ 0)) yes pu : 0 ≤ (10 : Int) ^ (p - d).toNat)
    lia
end Mine
end
section
open Mine.FLx (ξ ν κ ζ δ η π ω)
open Mine.FCx (φ ψ θ ϑ Φ Ψ φn ψn θn ϑn Φn Ψn)
namespace Mine
structure Halves (a e d : Int) : Prop where
  diff : 10 ^ ((epP a e d).toNat - 1) - 10 ≤ (epG a e d - epD a e d) * 5
  sum : 10 ^ ((epP a e d).toNat) ≤ (epG a e d + epD a e d) * 5
  w0 : 0 ≤ thW a e d
  big : 12 ≤ epK a e d → 10 ^ ((epP a e d).toNat + 11) ≤ (epG a e d - epD a e d) * 5 ∧ 10 ^ ((epP a e d).toNat + 11) ≤ (epG a e d + epD a e d) * 5
theorem halves {a e d : Int} (f : ExpFacts a e d) (hN : 10 ^ ((epP a e d).toNat - 2) ≤ epN a e d) : Halves a e d := by
  have h14 := f.p14
  have gl := f.gl
  have d0 := f.d0
  have d1 := f.d1
  have d5 := f.d5
  have z := f.z
  have K0 := f.ok.k0
  have p2 : (10 : Int) ^ (epP a e d).toNat = 10 ^ ((epP a e d).toNat - 2) * 100 := by
    have : (100 : Int) = 10 ^ 2 := by decide
    rw [this, ← pow_addI]; congr 1; lia
  have p1 : (10 : Int) ^ ((epP a e d).toNat - 1) = 10 ^ ((epP a e d).toNat - 2) * 10 := by
    rw [← Int.pow_succ]; congr 1; lia
  have p11 : (10 : Int) ^ ((epP a e d).toNat + 11) = 10 ^ (epP a e d).toNat * 10 ^ 11 := pow_addI _ _
  have eW : thW a e d = ((epG a e d - epD a e d) * 10 ^ (epP a e d).toNat).fdiv (epG a e d + epD a e d) := rfl
  have pq := pow_pos10 ((epP a e d).toNat - 2)
  have e12 : (10 : Int) ^ 12 ≤ 10 ^ ((epP a e d).toNat - 2) := pow10_mono (by omega)
  have c12 : (10 : Int) ^ 12 = 1000000000000 := by decide +kernel
  have c11 : (10 : Int) ^ 11 = 100000000000 := by decide +kernel
  have pK := pow_ge_one (epK a e d).toNat
  have pK1 : 0 < epK a e d → (10 : Int) ^ 1 ≤ 10 ^ (epK a e d).toNat := fun h => pow10_mono (by exact fk2 [_] [_] (φn (κ 1) (ν 0)) 1 1 (ψ (κ 0) (ξ 0)) 1 (ϑ (ν 0) (ξ 0)) yes h (tn (a := epK a e d) (fk1 [_] [] (φ (κ 0) (ξ 0)) 1 1 (ψ (κ 0) (ξ 0)) yes h)))
  have pK12 : 12 ≤ epK a e d → (10 : Int) ^ 12 ≤ 10 ^ (epK a e d).toNat := fun h => pow10_mono (by exact fk2 [_] [_] (φn (κ 12) (ν 0)) 1 1 (φ (κ 12) (ξ 0)) 1 (ϑ (ν 0) (ξ 0)) yes h (tn (a := epK a e d) (fk1 [_] [] (φ (κ 0) (ξ 0)) 1 1 (φ (κ 0) (ξ 0)) yes K0)))
  have q : (10 : Int) ^ 1 = 10 := by decide
  rw [q] at pK1
  rw [c12] at pK12 e12
  suffices hh : (10 ^ ((epP a e d).toNat - 1) - 10 ≤ (epG a e d - epD a e d) * 5) ∧ (10 ^ ((epP a e d).toNat) ≤ (epG a e d + epD a e d) * 5) ∧ 0 ≤ thW a e d ∧
      (12 ≤ epK a e d → 10 ^ ((epP a e d).toNat + 11) ≤ (epG a e d - epD a e d) * 5 ∧ 10 ^ ((epP a e d).toNat + 11) ≤ (epG a e d + epD a e d) * 5) from ⟨hh.1, hh.2.1, hh.2.2.1, hh.2.2.2⟩
  rw [p1, p11, eW, c11]
  generalize (10 : Int) ^ (epK a e d).toNat = Z at *
  generalize hone : (10 : Int) ^ (epP a e d).toNat = one at *
  generalize (10 : Int) ^ ((epP a e d).toNat - 2) = C at *
  generalize epG a e d = G at *
  generalize epD a e d = D at *
  generalize epN a e d = N at *
  generalize epK a e d = K at *
  have h0 : 0 < one := by exact fk2 [_,_] [] (ψ (κ 0) (ξ 0)) 1 100 (φ (κ 1000000000000) (ξ 1)) 1 (ϑ (ξ 0) (ω (ξ 1) 100)) yes e12 p2
  have gl1 : 23 * one ≤ 100 * G := by
    have := Int.mul_le_mul_of_nonneg_left pK (by exact fk2 [_,_] [] (φ (κ 0) (π 23 (ξ 0))) 1 2300 (φ (κ 1000000000000) (ξ 1)) 23 (ϑ (ξ 0) (ω (ξ 1) 100)) yes e12 p2 : 0 ≤ 23 * one)
    exact fk2 [_,_,_] [] (φ (π 23 (ξ 0)) (π 100 (ξ 1))) 1 1 (φ (ξ 2) (π 100 (ξ 1))) 1 (φ (ω (π 23 (ξ 0)) 1) (ξ 2)) yes gl this
  have dz : C * 10 - 10 ≤ (G - D) * 5 ∧ 0 ≤ G - D := by
    rcases Int.lt_or_le 0 K with hk | hk
    · have g2 : 23 * one * 10 ≤ 100 * G := by
        have := Int.mul_le_mul_of_nonneg_left (pK1 hk) (by exact fk2 [_,_] [] (φ (κ 0) (π 23 (ξ 0))) 1 2300 (φ (κ 1000000000000) (ξ 1)) 23 (ϑ (ξ 0) (ω (ξ 1) 100)) yes e12 p2 : 0 ≤ 23 * one)
        exact fk2 [_,_,_] [] (φ (ω (π 23 (ξ 0)) 10) (π 100 (ξ 1))) 1 1 (φ (ξ 2) (π 100 (ξ 1))) 1 (φ (ω (π 23 (ξ 0)) 10) (ξ 2)) yes gl this
      have q1 := Int.mul_le_mul_of_nonneg_left g2 d0
      have q2 : one * (230 * D) ≤ one * (100 * one) := by grind
      have := Int.le_of_mul_le_mul_left q2 h0
      exact ⟨fk4 [_,_,_,_] [] (φ (δ (ω (ξ 0) 10) (κ 10)) (ω (δ (ξ 1) (ξ 2)) 5)) 460 424400 (φ (κ 1000000000000) (ξ 0)) 4290 (ϑ (ξ 3) (ω (ξ 0) 100)) 23 (φ (ω (π 23 (ξ 3)) 10) (π 100 (ξ 1))) 10 (φ (π 230 (ξ 2)) (π 100 (ξ 3))) yes e12 p2 g2 this, fk4 [_,_,_,_] [] (φ (κ 0) (δ (ξ 0) (ξ 1))) 2300 429000 (φ (κ 1000000000000) (ξ 2)) 4290 (ϑ (ξ 3) (ω (ξ 2) 100)) 23 (φ (ω (π 23 (ξ 3)) 10) (π 100 (ξ 0))) 10 (φ (π 230 (ξ 1)) (π 100 (ξ 3))) yes e12 p2 g2 this⟩
    · have z1 := z (by exact Int.le_antisymm (fk1 [_] [] (φ (ξ 0) (κ 0)) 1 1 (φ (ξ 0) (κ 0)) yes hk) (fk1 [_] [] (φ (κ 0) (ξ 0)) 1 1 (φ (κ 0) (ξ 0)) yes K0))
      have hq : 0 < one * 2 := by exact fk2 [_,_] [] (ψ (κ 0) (ω (ξ 0) 2)) 1 200 (φ (κ 1000000000000) (ξ 1)) 2 (ϑ (ξ 0) (ω (ξ 1) 100)) yes e12 p2
      have w := div_hi (a := N * N) hq
      have t0 : 0 ≤ (N * N).fdiv (one * 2) := fdiv_nonneg' hq (sq_nn N)
      rw [← fdivP hq] at w
      generalize (N * N).fdiv (one * 2) = t2 at *
      have hD : D ≤ one - N + t2 + 2 := by
        rcases Int.lt_or_le (one - N + t2 + 2) D with h | h
        · exfalso
          have hY : 0 < one + N + t2 := by exact fk4 [_,_,_,_] [] (ψ (κ 0) (ζ (ζ (ξ 0) (ξ 1)) (ξ 2))) 1 101 (ψ (κ 0) (ξ 3)) 1 (ϑ (ξ 0) (ω (ξ 3) 100)) 1 (φ (ξ 3) (ξ 1)) 1 (φ (κ 0) (ξ 2)) yes pq p2 hN t0
          have xy : one * one < (one - N + t2 + 3) * (one + N + t2) := by
            have := sq_nn t2
            grind
          have a1 : (one - N + t2 + 3) * (one + N + t2) ≤ D * (one + N + t2) := Int.mul_le_mul_of_nonneg_right (by exact fk1 [_,_,_,_] [] (φ (ζ (ζ (δ (ξ 0) (ξ 1)) (ξ 2)) (κ 3)) (ξ 3)) 1 1 (ψ (ζ (ζ (δ (ξ 0) (ξ 1)) (ξ 2)) (κ 2)) (ξ 3)) yes h) (by exact fk4 [_,_,_,_] [] (φ (κ 0) (ζ (ζ (ξ 0) (ξ 1)) (ξ 2))) 1 101 (φ (κ 1000000000000) (ξ 3)) 1 (ϑ (ξ 0) (ω (ξ 3) 100)) 1 (φ (ξ 3) (ξ 1)) 1 (φ (κ 0) (ξ 2)) yes e12 p2 hN t0)
          have a2 : D * (one + N + t2) ≤ D * G := Int.mul_le_mul_of_nonneg_left z1 d0
          exact fn4 [_,_,_,_] [] 1 (φ (ξ 0) (ξ 1)) 1 (ψ (ξ 1) (ξ 2)) 1 (φ (ξ 2) (ξ 3)) 1 (φ (ξ 3) (ξ 0)) yes d1 xy a1 a2
        · exact h
      exact ⟨fk3 [_,_,_,_,_,_] [] (φ (δ (ω (ξ 0) 10) (κ 10)) (ω (δ (ξ 1) (ξ 2)) 5)) 1 10 (φ (ξ 0) (ξ 3)) 5 (φ (ζ (ζ (ξ 4) (ξ 3)) (ξ 5)) (ξ 1)) 5 (φ (ξ 2) (ζ (ζ (δ (ξ 4) (ξ 3)) (ξ 5)) (κ 2))) yes hN z1 hD, fk4 [_,_,_,_,_,_] [] (φ (κ 0) (δ (ξ 0) (ξ 1))) 1 2 (ψ (κ 0) (ξ 2)) 2 (φ (ξ 2) (ξ 3)) 1 (φ (ζ (ζ (ξ 4) (ξ 3)) (ξ 5)) (ξ 0)) 1 (φ (ξ 1) (ζ (ζ (δ (ξ 4) (ξ 3)) (ξ 5)) (κ 2))) yes pq hN z1 hD⟩
  refine ⟨dz.1, by exact fk4 [_,_,_,_] [] (φ (ξ 0) (ω (ζ (ξ 1) (ξ 2)) 5)) 20 300 (φ (κ 1000000000000) (ξ 3)) 3 (ϑ (ξ 0) (ω (ξ 3) 100)) 100 (φ (κ 0) (ξ 2)) 1 (φ (π 23 (ξ 0)) (π 100 (ξ 1))) yes e12 p2 d0 gl1, fdiv_nn (Int.mul_nonneg dz.2 (by exact fk2 [_,_] [] (φ (κ 0) (ξ 0)) 1 100 (φ (κ 1000000000000) (ξ 1)) 1 (ϑ (ξ 0) (ω (ξ 1) 100)) yes e12 p2)) (by exact fk4 [_,_,_,_] [] (ψ (κ 0) (ζ (ξ 0) (ξ 1))) 100 2300 (ψ (κ 0) (ξ 2)) 23 (ϑ (ξ 3) (ω (ξ 2) 100)) 100 (φ (κ 0) (ξ 1)) 1 (φ (π 23 (ξ 3)) (π 100 (ξ 0))) yes pq p2 d0 gl1), fun hk => ?_⟩
  have g2 := Int.mul_le_mul_of_nonneg_left (pK12 hk) (by exact fk2 [_,_] [] (φ (κ 0) (π 23 (ξ 0))) 1 2300 (φ (κ 1000000000000) (ξ 1)) 23 (ϑ (ξ 0) (ω (ξ 1) 100)) yes e12 p2 : 0 ≤ 23 * one)
  constructor <;> lia
theorem thGreat {a e d : Int} (f : ExpFacts a e d) (hd : 2 ≤ d) (hd1 : d ≤ 7) (hN : 2 * d * 10 ^ (epP a e d).toNat ≤ epN a e d) : 2 * (10 ^ (epP a e d).toNat - thW a e d) ≤ 10 ^ (epP a e d - d).toNat := by
  have h14 := f.p14
  have gl := f.gl
  have d0 := f.d0
  have d1 := f.d1
  have ku := f.ku
  have t2 := f.t2
  have t1 := f.t1
  have K0 := f.ok.k0
  have G0 : 0 < epG a e d := by
    have := Int.mul_pos (pow_pos10 (epP a e d).toNat) (pow_pos10 (epK a e d).toNat)
    have e : (23 : Int) * 10 ^ (epP a e d).toNat * 10 ^ (epK a e d).toNat = 23 * (10 ^ (epP a e d).toNat * 10 ^ (epK a e d).toNat) := by rw [Int.mul_assoc]
    exact fk3 [_,_,_] [] (ψ (κ 0) (ξ 0)) 100 1 (φ (ξ 1) (π 100 (ξ 0))) 23 (ψ (κ 0) (ξ 2)) 1 (ϑ (ξ 1) (π 23 (ξ 2))) yes gl this e
  have eW : thW a e d = ((epG a e d - epD a e d) * 10 ^ (epP a e d).toNat).fdiv (epG a e d + epD a e d) := rfl
  have pU : (10 : Int) ^ (epP a e d).toNat = 10 ^ (epP a e d - d).toNat * 10 ^ d.toNat := by rw [← pow_addI]; congr 1; exact Nat.le_antisymm (fk3 [_,_] [_,_,_] (φn (ν 0) (ζ (ν 1) (ν 2))) 1 1 (θ (ν 0) (ξ 0)) 1 (ϑ (ν 1) (δ (ξ 0) (ξ 1))) 1 (ϑ (ν 2) (ξ 1)) yes (tn (a := epP a e d) (fk1 [_] [] (φ (κ 0) (ξ 0)) 1 1 (φ (κ 14) (ξ 0)) yes h14)) (tn (a := epP a e d - d) (fk2 [_,_] [] (φ (κ 0) (δ (ξ 0) (ξ 1))) 1 1 (φ (ξ 1) (κ 7)) 1 (φ (κ 14) (ξ 0)) yes hd1 h14)) (tn (a := d) (fk1 [_] [] (φ (κ 0) (ξ 0)) 1 1 (φ (κ 2) (ξ 0)) yes hd))) (fk3 [_,_] [_,_,_] (φn (ζ (ν 0) (ν 1)) (ν 2)) 1 1 (ϑ (ν 2) (ξ 0)) 1 (θ (ν 0) (δ (ξ 0) (ξ 1))) 1 (θ (ν 1) (ξ 1)) yes (tn (a := epP a e d) (fk1 [_] [] (φ (κ 0) (ξ 0)) 1 1 (φ (κ 14) (ξ 0)) yes h14)) (tn (a := epP a e d - d) (fk2 [_,_] [] (φ (κ 0) (δ (ξ 0) (ξ 1))) 1 1 (φ (ξ 1) (κ 7)) 1 (φ (κ 14) (ξ 0)) yes hd1 h14)) (tn (a := d) (fk1 [_] [] (φ (κ 0) (ξ 0)) 1 1 (φ (κ 2) (ξ 0)) yes hd)))
  have pU7 : (10 : Int) ^ 7 ≤ 10 ^ (epP a e d - d).toNat := pow10_mono (by exact fk3 [_,_] [_] (φn (κ 7) (ν 0)) 1 1 (φ (ξ 0) (κ 7)) 1 (φ (κ 14) (ξ 1)) 1 (ϑ (ν 0) (δ (ξ 1) (ξ 0))) yes hd1 h14 (tn (a := epP a e d - d) (fk2 [_,_] [] (φ (κ 0) (δ (ξ 0) (ξ 1))) 1 1 (φ (ξ 1) (κ 7)) 1 (φ (κ 14) (ξ 0)) yes hd1 h14)))
  have c7 : (10 : Int) ^ 7 = 10000000 := by decide
  have p0 := pow_pos10 (epP a e d).toNat
  have T0 : 0 < epT a e d := by exact fk2 [_,_] [] (ψ (κ 0) (ξ 0)) 1000000 1 (φ (π 2302585 (ξ 1)) (π 1000000 (ξ 0))) 2302585 (ψ (κ 0) (ξ 1)) yes t1 p0
  have kd : d + 2 ≤ 2 * epK a e d := by
    generalize epT a e d = T at *
    generalize (10 : Int) ^ (epP a e d).toNat = one at *
    generalize epN a e d = N at *
    generalize epK a e d = K at *
    have key : ∀ c : Int, K ≤ c → 2 * N + T < (c + 1) * (2 * T) := fun c hc => by
      have := Int.mul_le_mul_of_nonneg_right (by exact fk1 [_,_] [] (φ (ζ (ξ 0) (κ 1)) (ζ (ξ 1) (κ 1))) 1 1 (φ (ξ 0) (ξ 1)) yes hc : K + 1 ≤ c + 1) (by exact fk1 [_] [] (φ (κ 0) (π 2 (ξ 0))) 1 2 (ψ (κ 0) (ξ 0)) yes T0 : 0 ≤ 2 * T)
      exact fk2 [_,_,_,_] [] (ψ (ζ (π 2 (ξ 0)) (ξ 1)) (ξ 2)) 1 1 (ψ (ζ (π 2 (ξ 0)) (ξ 1)) (ξ 3)) 1 (φ (ξ 3) (ξ 2)) yes ku this
    rcases Int.lt_or_le (2 * K) (d + 2) with h | h
    · exfalso
      have hdc : d = 2 ∨ d = 3 ∨ d = 4 ∨ d = 5 ∨ d = 6 ∨ d = 7 := by lia
      rcases hdc with rfl | rfl | rfl | rfl | rfl | rfl
      · have := key 1 (by exact fk1 [_] [] (φ (ξ 0) (κ 1)) 2 1 (ψ (π 2 (ξ 0)) (ζ (κ 2) (κ 2))) yes h); lia
      · have := key 2 (by exact fk1 [_] [] (φ (ξ 0) (κ 2)) 2 1 (ψ (π 2 (ξ 0)) (ζ (κ 3) (κ 2))) yes h); lia
      · have := key 2 (by exact fk1 [_] [] (φ (ξ 0) (κ 2)) 2 1 (ψ (π 2 (ξ 0)) (ζ (κ 4) (κ 2))) yes h); lia
      · have := key 3 (by exact fk1 [_] [] (φ (ξ 0) (κ 3)) 2 1 (ψ (π 2 (ξ 0)) (ζ (κ 5) (κ 2))) yes h); lia
      · have := key 3 (by exact fk1 [_] [] (φ (ξ 0) (κ 3)) 2 1 (ψ (π 2 (ξ 0)) (ζ (κ 6) (κ 2))) yes h); lia
      · have := key 4 (by exact fk1 [_] [] (φ (ξ 0) (κ 4)) 2 1 (ψ (π 2 (ξ 0)) (ζ (κ 7) (κ 2))) yes h); lia
    · exact h
  have zz : 100 * (10 : Int) ^ d.toNat ≤ 10 ^ (epK a e d).toNat * 10 ^ (epK a e d).toNat := by
    rw [← pow_addI]
    have : (100 : Int) * 10 ^ d.toNat = 10 ^ (2 + d.toNat) := by rw [pow_addI]; rfl
    rw [this]; exact pow10_mono (by exact fk3 [_,_] [_,_] (φn (ζ (κ 2) (ν 0)) (ζ (ν 1) (ν 1))) 1 1 (φ (ζ (ξ 0) (κ 2)) (π 2 (ξ 1))) 1 (θ (ν 0) (ξ 0)) 2 (ϑ (ν 1) (ξ 1)) yes kd (tn (a := d) (fk1 [_] [] (φ (κ 0) (ξ 0)) 1 1 (φ (κ 2) (ξ 0)) yes hd)) (tn (a := epK a e d) (fk1 [_] [] (φ (κ 0) (ξ 0)) 1 1 (φ (κ 0) (ξ 0)) yes K0)))
  have pY := pow_pos10 d.toNat
  have pZ := pow_pos10 (epK a e d).toNat
  rw [eW, fdivP (by exact fk2 [_,_] [] (ψ (κ 0) (ζ (ξ 0) (ξ 1))) 1 1 (φ (κ 0) (ξ 1)) 1 (ψ (κ 0) (ξ 0)) yes d0 G0)]
  have w := div_hi (a := (epG a e d - epD a e d) * 10 ^ (epP a e d).toNat) (by exact fk2 [_,_] [] (ψ (κ 0) (ζ (ξ 0) (ξ 1))) 1 1 (φ (κ 0) (ξ 1)) 1 (ψ (κ 0) (ξ 0)) yes d0 G0 : 0 < epG a e d + epD a e d)
  generalize (epG a e d - epD a e d) * 10 ^ (epP a e d).toNat / (epG a e d + epD a e d) = W at *
  generalize epG a e d = G at *
  generalize epD a e d = D at *
  generalize (10 : Int) ^ (epK a e d).toNat = Z at *
  generalize (10 : Int) ^ (epP a e d - d).toNat = U at *
  generalize (10 : Int) ^ (epP a e d).toNat = one at *
  generalize (10 : Int) ^ d.toNat = Y at *
  rcases Int.lt_or_le U (2 * (one - W)) with h | h
  · exfalso
    have s1 : (U + 1) * (G + D) ≤ 2 * (one - W) * (G + D) := Int.mul_le_mul_of_nonneg_right (by exact fk1 [_,_,_] [] (φ (ζ (ξ 0) (κ 1)) (π 2 (δ (ξ 1) (ξ 2)))) 1 1 (ψ (ξ 0) (π 2 (δ (ξ 1) (ξ 2)))) yes h) (by exact fk2 [_,_] [] (φ (κ 0) (ζ (ξ 0) (ξ 1))) 1 1 (ψ (κ 0) (ξ 0)) 1 (φ (κ 0) (ξ 1)) yes G0 d0)
    have s2 : (U - 1) * (G + D) < 4 * (D * one) := by grind
    have s3 : (U - 1) * G ≤ (U - 1) * (G + D) := Int.mul_le_mul_of_nonneg_left (by exact fk1 [_,_] [] (φ (ξ 0) (ζ (ξ 0) (ξ 1))) 1 1 (φ (κ 0) (ξ 1)) yes d0) (by exact fk2 [_,_] [] (φ (κ 0) (δ (ξ 0) (κ 1))) 1 1 (ϑ (ξ 1) (κ 10000000)) 1 (φ (ξ 1) (ξ 0)) yes c7 pU7)
    have s4 : (U - 1) * G * G ≤ 4 * (D * one) * G := Int.mul_le_mul_of_nonneg_right (by exact fk2 [_,_,_] [] (φ (ξ 0) (π 4 (ξ 1))) 1 1 (ψ (ξ 2) (π 4 (ξ 1))) 1 (φ (ξ 0) (ξ 2)) yes s2 s3) (by exact fk1 [_] [] (φ (κ 0) (ξ 0)) 1 1 (ψ (κ 0) (ξ 0)) yes G0)
    have s5 : one * (D * G) ≤ one * (one * one) := Int.mul_le_mul_of_nonneg_left d1 (by exact fk1 [_] [] (φ (κ 0) (ξ 0)) 1 1 (ψ (κ 0) (ξ 0)) yes p0)
    have g1 : (23 * one * Z) * (23 * one * Z) ≤ (100 * G) * (100 * G) := Int.mul_le_mul gl gl (by have := Int.mul_pos p0 pZ; rw [Int.mul_assoc]; exact fk1 [_] [] (φ (κ 0) (π 23 (ξ 0))) 1 23 (ψ (κ 0) (ξ 0)) yes this) (by exact fk1 [_] [] (φ (κ 0) (π 100 (ξ 0))) 1 100 (ψ (κ 0) (ξ 0)) yes G0)
    have g2 : (one * one) * (100 * Y) ≤ (one * one) * (Z * Z) := Int.mul_le_mul_of_nonneg_left zz (sq_nn one)
    have g3 : 529 * (one * one * Y) ≤ 100 * (G * G) := by grind
    have g4 : (U - 1) * (529 * (one * one * Y)) ≤ (U - 1) * (100 * (G * G)) := Int.mul_le_mul_of_nonneg_left g3 (by exact fk2 [_,_] [] (φ (κ 0) (δ (ξ 0) (κ 1))) 1 1 (ϑ (ξ 1) (κ 10000000)) 1 (φ (ξ 1) (ξ 0)) yes c7 pU7)
    have g5 : (one * one * Y) * (529 * (U - 1)) ≤ (one * one * Y) * (400 * U) := by
      have e : one * (one * one) = (one * one) * (U * Y) := by rw [← pU]; grind
      grind
    have hpos : 0 < one * one * Y := Int.mul_pos (Int.mul_pos p0 p0) pY
    have := Int.le_of_mul_le_mul_left g5 hpos
    exact fn3 [_,_] [] 129 (ϑ (ξ 0) (κ 10000000)) 129 (φ (ξ 0) (ξ 1)) 1 (φ (π 529 (δ (ξ 1) (κ 1))) (π 400 (ξ 1))) yes c7 pU7 this
  · exact h
end Mine
end
section
open Mine.FLx (ξ ν κ ζ δ η π ω)
open Mine.FCx (φ ψ θ ϑ Φ Ψ φn ψn θn ϑn Φn Ψn)
namespace Mine
theorem half_steps {c V e d top B : Int} (hV : 0 < V) (hd : 1 ≤ d) (ht : 2 ≤ top) (ht1 : top ≤ 1000) (hlo : -2 ≤ (rd V e d).2 + cd (rd V e d).1 - 1) (hhi : (rd V e d).2 + cd (rd V e d).1 - 1 ≤ 1900) :
    rr (sgn c V) e d (1000 * top + 1000) = some (sgn c (rd V e d).1, (rd V e d).2) ∧
    (top < (rd V e d).2 + cd (sgn c (rd V e d).1) - 1 → rr (sgn c V) e d top = none) ∧
    (¬ top < (rd V e d).2 + cd (sgn c (rd V e d).1) - 1 → rr (sgn c V) e d top = some (sgn c (rd V e d).1, (rd V e d).2)) := by
  rw [cd_sgn]
  refine ⟨(rr_sgn hV hd (by exact fk2 [_,_,_] [] (φ (η (ζ (π 1000 (ξ 0)) (κ 1000))) (δ (ζ (ξ 1) (ξ 2)) (κ 1))) 1 1000 (φ (κ 2) (ξ 0)) 1 (φ (η (κ 2)) (δ (ζ (ξ 1) (ξ 2)) (κ 1))) yes ht hlo)).1 (by exact fk2 [_,_,_] [] (φ (δ (ζ (ξ 0) (ξ 1)) (κ 1)) (ζ (π 1000 (ξ 2)) (κ 1000))) 1 1000 (φ (κ 2) (ξ 2)) 1 (φ (δ (ζ (ξ 0) (ξ 1)) (κ 1)) (κ 1900)) yes ht hhi), fun h => (rr_sgn hV hd (by exact fk2 [_,_,_] [] (φ (η (ξ 0)) (δ (ζ (ξ 1) (ξ 2)) (κ 1))) 1 2 (φ (κ 2) (ξ 0)) 1 (ψ (ξ 0) (δ (ζ (ξ 1) (ξ 2)) (κ 1))) yes ht h)).2 h, fun h => (rr_sgn hV hd (by exact fk2 [_,_,_] [] (φ (η (ξ 0)) (δ (ζ (ξ 1) (ξ 2)) (κ 1))) 1 1 (φ (κ 2) (ξ 0)) 1 (φ (η (κ 2)) (δ (ζ (ξ 1) (ξ 2)) (κ 1))) yes ht hlo)).1 (by exact fk1 [_,_,_] [] (φ (δ (ζ (ξ 0) (ξ 1)) (κ 1)) (ξ 2)) 1 1 (Ψ (ξ 2) (δ (ζ (ξ 0) (ξ 1)) (κ 1))) yes h)⟩
theorem stepsOk {x y d top : Int} (hx : -1000 < x ∧ x < 1000) (hx0 : x ≠ 0) (hy : -2 ≤ y ∧ y ≤ 0) (hd : 2 ≤ d) (hd1 : d ≤ 7) (ht : 2 ≤ top) (ht1 : top ≤ 1000) :
    ∃ s1 s2 c1 c2 t1 t2, StepsOk x y d top s1 s2 c1 c2 t1 t2 := by
  have ha : 0 < absI x ∧ absI x < 1000 := by rcases abs_cases x with ⟨e, _⟩ | ⟨e, _⟩ <;> rw [e] <;> lia
  have cx := cd_absI x
  have c1 := cd_pos (x := absI x) (by exact fun hq => fn2 [_] [] 1 (ψ (κ 0) (ξ 0)) 1 (θ (ξ 0) (κ 0)) yes ha.1 hq)
  have c3 := cd_le (x := absI x) (k := 3) (by exact fk1 [_] [] (φ (κ 0) (ξ 0)) 1 1 (ψ (κ 0) (ξ 0)) yes ha.1) (by lia)
  have f := expFacts (a := absI x) (e := y) (d := d) (by exact fk1 [_] [] (φ (κ 0) (ξ 0)) 1 1 (ψ (κ 0) (ξ 0)) yes ha.1) (by exact fk1 [_] [] (ψ (ξ 0) (κ 10000)) 1 1 (ψ (ξ 0) (κ 1000)) yes ha.2) (by exact fk1 [_] [] (φ (η (κ 13)) (ξ 0)) 1 1 (φ (η (κ 2)) (ξ 0)) yes hy.1) (by exact fk1 [_] [] (φ (ξ 0) (κ 0)) 1 1 (φ (ξ 0) (κ 0)) yes hy.2) hd hd1 (by exact fk2 [_,_] [] (φ (ζ (ξ 0) (ξ 1)) (κ 3)) 1 1 (φ (ξ 1) (κ 0)) 1 (φ (ξ 0) (κ 3)) yes hy.2 c3)
  have hp := f.p14
  have hp1 := f.p28
  have eN : epN (absI x) y d = absI x * 10 ^ (y + epP (absI x) y d).toNat := rfl
  have hNl : ∀ k : Int, 0 ≤ k → k ≤ cd (absI x) + y - 1 + epP (absI x) y d → (10 : Int) ^ k.toNat ≤ epN (absI x) y d := fun k hk hk1 => by
    rw [eN]
    have q1 : (10 : Int) ^ (cd (absI x) - 1).toNat * 10 ^ (y + epP (absI x) y d).toNat ≤ absI x * 10 ^ (y + epP (absI x) y d).toNat := Int.mul_le_mul_of_nonneg_right (pow_dg_leI ha.1) (Int.le_of_lt (pow_pos10 _))
    rw [← pow_addI] at q1
    exact Int.le_trans (pow10_mono (by exact fk4 [_,_,_,_] [_,_,_] (φn (ν 0) (ζ (ν 1) (ν 2))) 1 1 (φ (ξ 0) (ζ (δ (ζ (ξ 1) (ξ 2)) (κ 1)) (ξ 3))) 1 (θ (ν 0) (ξ 0)) 1 (ϑ (ν 1) (δ (ξ 1) (κ 1))) 1 (ϑ (ν 2) (ζ (ξ 2) (ξ 3))) yes hk1 (tn (a := k) (fk1 [_] [] (φ (κ 0) (ξ 0)) 1 1 (φ (κ 0) (ξ 0)) yes hk)) (tn (a := cd (absI x) - 1) (fk1 [_] [] (φ (κ 0) (δ (ξ 0) (κ 1))) 1 1 (φ (κ 1) (ξ 0)) yes c1)) (tn (a := y + epP (absI x) y d) (fk2 [_,_] [] (φ (κ 0) (ζ (ξ 0) (ξ 1))) 1 1 (φ (η (κ 2)) (ξ 0)) 1 (φ (κ 14) (ξ 1)) yes hy.1 hp)))) q1
  have hv := halves f (by
    have := hNl (epP (absI x) y d - 2) (by exact fk1 [_] [] (φ (κ 0) (δ (ξ 0) (κ 2))) 1 1 (φ (κ 14) (ξ 0)) yes hp) (by exact fk2 [_,_,_] [] (φ (δ (ξ 0) (κ 2)) (ζ (δ (ζ (ξ 1) (ξ 2)) (κ 1)) (ξ 0))) 1 1 (φ (η (κ 2)) (ξ 2)) 1 (φ (κ 1) (ξ 1)) yes hy.1 c1)
    have e : (epP (absI x) y d - 2).toNat = (epP (absI x) y d).toNat - 2 := by lia
    rw [e] at this; exact this)
  have e13 : (10 : Int) ^ 13 ≤ 10 ^ ((epP (absI x) y d).toNat - 1) := pow10_mono (by lia)
  have c13 : (10 : Int) ^ 13 = 10000000000000 := by decide +kernel
  have e14 := pow_pos10 (epP (absI x) y d).toNat
  have V1 : 0 < (epG (absI x) y d - epD (absI x) y d) * 5 := by have := hv.diff; exact fk3 [_,_,_,_] [] (ψ (κ 0) (ω (δ (ξ 0) (ξ 1)) 5)) 1 1 (φ (ξ 2) (ξ 3)) 1 (ϑ (ξ 2) (κ 10000000000000)) 1 (φ (δ (ξ 3) (κ 10)) (ω (δ (ξ 0) (ξ 1)) 5)) yes e13 c13 this
  have V2 : 0 < (epG (absI x) y d + epD (absI x) y d) * 5 := by have := hv.sum; exact fk2 [_,_,_] [] (ψ (κ 0) (ω (ζ (ξ 0) (ξ 1)) 5)) 1 1 (ψ (κ 0) (ξ 2)) 1 (φ (ξ 2) (ω (ζ (ξ 0) (ξ 1)) 5)) yes e14 this
  have cV1 := f.ok.c1
  have cV2 := f.ok.c2
  have L1 := rd_lead_near (V := (epG (absI x) y d - epD (absI x) y d) * 5) (e := -epP (absI x) y d - 1) (d := d) (m := (epP (absI x) y d).toNat - 1) (by exact fk1 [_] [] (φ (κ 1) (ξ 0)) 1 1 (φ (κ 2) (ξ 0)) yes hd) hd1 (by lia) hv.diff
  have L2 := rd_lead (x := (epG (absI x) y d + epD (absI x) y d) * 5) (y := -epP (absI x) y d - 1) (d := d) V2 (by exact fk1 [_] [] (φ (κ 1) (ξ 0)) 1 1 (φ (κ 2) (ξ 0)) yes hd)
  have U1 := rd_lead (x := (epG (absI x) y d - epD (absI x) y d) * 5) (y := -epP (absI x) y d - 1) (d := d) V1 (by exact fk1 [_] [] (φ (κ 1) (ξ 0)) 1 1 (φ (κ 2) (ξ 0)) yes hd)
  have l2 := le_cd hv.sum
  have tiny : tinyB x y d = false := decide_eq_false (by rw [← cx]; lia)
  have tinyn : tinyB (-x) y d = false := decide_eq_false (by rw [cd_neg, ← cx]; lia)
  have ctop : 1 ≤ cd top := cd_pos (by exact fun hq => fn2 [_] [] 1 (φ (κ 2) (ξ 0)) 1 (θ (ξ 0) (κ 0)) yes ht hq)
  have wide : greatB x y (1000 * top + 1000) = false := decide_eq_false (by
    have : (3 : Int) + 1 ≤ cd (1000 * top + 1000) := le_cd (k := 3) (by have e3 : (10 : Int) ^ 3 = 1000 := (by decide); exact fk2 [_,_] [] (φ (ξ 0) (ζ (π 1000 (ξ 1)) (κ 1000))) 1 1000 (φ (κ 2) (ξ 1)) 1 (θ (ξ 0) (κ 1000)) yes ht e3)
    rw [← cx]; exact fk3 [_,_,_] [] (Ψ (ζ (ξ 0) (κ 1)) (ζ (ξ 1) (ξ 2))) 1 1 (φ (ξ 2) (κ 0)) 1 (φ (ξ 1) (κ 3)) 1 (φ (ζ (κ 3) (κ 1)) (ξ 0)) yes hy.2 c3 this)
  have big : greatB x y top = true → top ≤ 9 ∧ 12 ≤ epK (absI x) y d := by
    intro h
    have h' : cd top + 1 < cd x + y := of_decide_eq_true h
    rw [← cx] at h'
    refine ⟨?_, ?_⟩
    · rcases Int.lt_or_le 9 top with k | k
      · have : (1 : Int) + 1 ≤ cd top := le_cd (k := 1) (by have e1 : (10 : Int) ^ 1 = 10 := (by decide); exact fk2 [_,_] [] (φ (ξ 0) (ξ 1)) 1 1 (ψ (κ 9) (ξ 1)) 1 (θ (ξ 0) (κ 10)) yes k e1)
        exact (fn4 [_,_,_] [] 1 (φ (ξ 0) (κ 0)) 1 (φ (ξ 1) (κ 3)) 1 (ψ (ζ (ξ 2) (κ 1)) (ζ (ξ 1) (ξ 0))) 1 (φ (ζ (κ 1) (κ 1)) (ξ 2)) yes hy.2 c3 h' this).elim
      · exact k
    · have N2 := hNl (epP (absI x) y d + 2) (by exact fk1 [_] [] (φ (κ 0) (ζ (ξ 0) (κ 2))) 1 1 (φ (κ 14) (ξ 0)) yes hp) (by exact fk2 [_,_,_,_] [] (φ (ζ (ξ 0) (κ 2)) (ζ (δ (ζ (ξ 1) (ξ 2)) (κ 1)) (ξ 0))) 1 1 (φ (κ 1) (ξ 3)) 1 (ψ (ζ (ξ 3) (κ 1)) (ζ (ξ 1) (ξ 2))) yes ctop h')
      have e : (10 : Int) ^ (epP (absI x) y d + 2).toNat = 10 ^ (epP (absI x) y d).toNat * 100 := by
        have q : (100 : Int) = 10 ^ 2 := by decide
        rw [q, ← pow_addI]; congr 1; exact Nat.le_antisymm (fk2 [_] [_,_] (φn (ν 0) (ζ (ν 1) (κ 2))) 1 1 (θ (ν 0) (ζ (ξ 0) (κ 2))) 1 (ϑ (ν 1) (ξ 0)) yes (tn (a := epP (absI x) y d + 2) (fk1 [_] [] (φ (κ 0) (ζ (ξ 0) (κ 2))) 1 1 (φ (κ 14) (ξ 0)) yes hp)) (tn (a := epP (absI x) y d) (fk1 [_] [] (φ (κ 0) (ξ 0)) 1 1 (φ (κ 14) (ξ 0)) yes hp))) (fk2 [_] [_,_] (φn (ζ (ν 0) (κ 2)) (ν 1)) 1 1 (ϑ (ν 1) (ζ (ξ 0) (κ 2))) 1 (θ (ν 0) (ξ 0)) yes (tn (a := epP (absI x) y d + 2) (fk1 [_] [] (φ (κ 0) (ζ (ξ 0) (κ 2))) 1 1 (φ (κ 14) (ξ 0)) yes hp)) (tn (a := epP (absI x) y d) (fk1 [_] [] (φ (κ 0) (ξ 0)) 1 1 (φ (κ 14) (ξ 0)) yes hp)))
      rw [e] at N2
      have ku := f.ku
      have t2 := f.t2
      have t1 := f.t1
      generalize epT (absI x) y d = T at *
      rcases Int.lt_or_le (epK (absI x) y d) 12 with k | k
      · have := Int.mul_le_mul_of_nonneg_right (by exact fk1 [_] [] (φ (ζ (ξ 0) (κ 1)) (κ 12)) 1 1 (ψ (ξ 0) (κ 12)) yes k : epK (absI x) y d + 1 ≤ 12) (by exact fk2 [_,_] [] (φ (κ 0) (π 2 (ξ 0))) 500000 2302585 (ψ (κ 0) (ξ 1)) 1 (φ (π 2302585 (ξ 1)) (π 1000000 (ξ 0))) yes e14 t1 : 0 ≤ 2 * T)
        exact (fn5 [_,_,_,_] [] 147040522 (ψ (κ 0) (ξ 0)) 2000000 (φ (ω (ξ 0) 100) (ξ 1)) 1000000 (ψ (ζ (π 2 (ξ 1)) (ξ 2)) (ξ 3)) 23 (φ (π 1000000 (ξ 2)) (π 2302586 (ξ 0))) 1000000 (φ (ξ 3) (π 12 (π 2 (ξ 2)))) yes e14 N2 ku t2 this).elim
      · exact k
  have far1 : greatB x y top = true → top < (rd ((epG (absI x) y d - epD (absI x) y d) * 5) (-epP (absI x) y d - 1) d).2 + cd (rd ((epG (absI x) y d - epD (absI x) y d) * 5) (-epP (absI x) y d - 1) d).1 - 1 := fun h => by
    obtain ⟨a, b⟩ := big h
    have := le_cd (hv.big b).1
    exact fk4 [_,_,_,_,_] [_] (ψ (ξ 0) (δ (ζ (ξ 1) (ξ 2)) (κ 1))) 1 1 (φ (δ (ζ (δ (η (ξ 3)) (κ 1)) (ξ 4)) (κ 1)) (δ (ζ (ξ 1) (ξ 2)) (κ 1))) 1 (φ (ξ 0) (κ 9)) 1 (φ (ζ (ζ (ν 0) (κ 11)) (κ 1)) (ξ 4)) 1 (ϑ (ν 0) (ξ 3)) yes U1.1 a this (tn (a := epP (absI x) y d) (fk1 [_] [] (φ (κ 0) (ξ 0)) 1 1 (φ (κ 14) (ξ 0)) yes hp))
  have far2 : greatB x y top = true → top < (rd ((epG (absI x) y d + epD (absI x) y d) * 5) (-epP (absI x) y d - 1) d).2 + cd (rd ((epG (absI x) y d + epD (absI x) y d) * 5) (-epP (absI x) y d - 1) d).1 - 1 := fun h => by
    obtain ⟨a, b⟩ := big h
    have := le_cd (hv.big b).2
    exact fk4 [_,_,_,_,_] [_] (ψ (ξ 0) (δ (ζ (ξ 1) (ξ 2)) (κ 1))) 1 1 (φ (δ (ζ (δ (η (ξ 3)) (κ 1)) (ξ 4)) (κ 1)) (δ (ζ (ξ 1) (ξ 2)) (κ 1))) 1 (φ (ξ 0) (κ 9)) 1 (φ (ζ (ζ (ν 0) (κ 11)) (κ 1)) (ξ 4)) 1 (ϑ (ν 0) (ξ 3)) yes L2.1 a this (tn (a := epP (absI x) y d) (fk1 [_] [] (φ (κ 0) (ξ 0)) 1 1 (φ (κ 14) (ξ 0)) yes hp))
  obtain ⟨a1, a2, a3⟩ := half_steps (c := x) (B := 0) (e := -epP (absI x) y d - 1) V1 (by exact fk1 [_] [] (φ (κ 1) (ξ 0)) 1 1 (φ (κ 2) (ξ 0)) yes hd : 1 ≤ d) ht ht1 (by lia) (by exact fk3 [_,_,_,_] [] (φ (δ (ζ (ξ 0) (ξ 1)) (κ 1)) (κ 1900)) 1 1 (φ (κ 14) (ξ 2)) 1 (φ (ξ 3) (κ 1900)) 1 (φ (δ (ζ (ξ 0) (ξ 1)) (κ 1)) (ζ (δ (η (ξ 2)) (κ 1)) (ξ 3))) yes hp cV1 U1.2)
  obtain ⟨b1, b2, b3⟩ := half_steps (c := 1) (B := 0) (e := -epP (absI x) y d - 1) V2 (by exact fk1 [_] [] (φ (κ 1) (ξ 0)) 1 1 (φ (κ 2) (ξ 0)) yes hd : 1 ≤ d) ht ht1 (by exact fk3 [_,_,_,_] [_] (φ (η (κ 2)) (δ (ζ (ξ 0) (ξ 1)) (κ 1))) 1 1 (φ (δ (ζ (δ (η (ξ 2)) (κ 1)) (ξ 3)) (κ 1)) (δ (ζ (ξ 0) (ξ 1)) (κ 1))) 1 (φ (ζ (ν 0) (κ 1)) (ξ 3)) 1 (ϑ (ν 0) (ξ 2)) yes L2.1 l2 (tn (a := epP (absI x) y d) (fk1 [_] [] (φ (κ 0) (ξ 0)) 1 1 (φ (κ 14) (ξ 0)) yes hp))) (by exact fk3 [_,_,_,_] [] (φ (δ (ζ (ξ 0) (ξ 1)) (κ 1)) (κ 1900)) 1 1 (φ (κ 14) (ξ 2)) 1 (φ (ξ 3) (κ 1900)) 1 (φ (δ (ζ (ξ 0) (ξ 1)) (κ 1)) (ζ (δ (η (ξ 2)) (κ 1)) (ξ 3))) yes hp cV2 L2.2)
  have s1 : ∀ z : Int, sgn 1 z = z := fun z => by unfold sgn; rw [if_neg (by decide)]
  rw [s1, s1] at b1 b2 b3
  have tail : ∃ t1 t2, 0 ≤ t1 ∧ thV x y d top = some (sgn x t1, t2) ∧ thV (-x) y d top = some (-(sgn x t1), t2) ∧ -60 ≤ t2 ∧ t2 ≤ 0 ∧ t1 ≤ 10 ^ 60 ∧ t1 * 10 ^ 30 ≤ 10 ^ (30 - t2).toNat ∧
      (2 * d * 1000 < absI x * 10 ^ (y + 3).toNat → t1 = 1 ∧ t2 = 0) := by
    have neg : ∀ z, sgn (-x) z = -(sgn x z) := fun z => by unfold sgn; split <;> split <;> lia
    by_cases hb : cd (3 * d) < cd x + y
    · refine ⟨1, 0, by exact fk0 [] [] (φ (κ 0) (κ 1)) 1  yes , ?_, ?_, by exact fk0 [] [] (φ (η (κ 60)) (κ 0)) 1  yes , by exact fk0 [] [] (φ (κ 0) (κ 0)) 1  yes , by decide +kernel, by decide +kernel, fun _ => ⟨rfl, rfl⟩⟩
      · unfold thV; rw [if_neg (by rw [tiny]; decide), if_pos hb]
      · unfold thV; rw [if_neg (by rw [tinyn]; decide), if_pos (by rw [cd_neg]; exact hb), neg]
    · obtain ⟨t1, t2, r1, r2, r3, r4, r5, r6, r7⟩ := tanhPart (W := thW (absI x) y d) (p := epP (absI x) y d) (d := d) (top := top) hv.w0 f.w1 (by exact fk1 [_] [] (φ (κ 12) (ξ 0)) 1 1 (φ (κ 14) (ξ 0)) yes hp) (by exact fk1 [_] [] (φ (ξ 0) (κ 60)) 1 1 (φ (ξ 0) (κ 28)) yes hp1) (by exact fk1 [_] [] (φ (κ 1) (ξ 0)) 1 1 (φ (κ 2) (ξ 0)) yes hd) hd1 ht
      refine ⟨t1, t2, r1, ?_, ?_, r3, r4, r5, r6, fun hg => r7 (thGreat f hd hd1 ?_)⟩
      · unfold thV; rw [if_neg (by rw [tiny]; decide), if_neg hb]; exact r2 x
      · unfold thV; rw [if_neg (by rw [tinyn]; decide), if_neg (by rw [cd_neg]; exact hb), absI_neg, r2 (-x), neg]
      · have e : epN (absI x) y d * 1000 = absI x * 10 ^ (y + 3).toNat * 10 ^ (epP (absI x) y d).toNat := by
          rw [eN]
          have q : (1000 : Int) = 10 ^ 3 := by decide
          rw [q, Int.mul_assoc, Int.mul_assoc, ← pow_addI, ← pow_addI]; congr 2; exact Nat.le_antisymm (fk3 [_,_] [_,_,_] (φn (ζ (ν 0) (κ 3)) (ζ (ν 1) (ν 2))) 1 1 (θ (ν 0) (ζ (ξ 0) (ξ 1))) 1 (ϑ (ν 1) (ζ (ξ 0) (κ 3))) 1 (ϑ (ν 2) (ξ 1)) yes (tn (a := y + epP (absI x) y d) (fk2 [_,_] [] (φ (κ 0) (ζ (ξ 0) (ξ 1))) 1 1 (φ (η (κ 2)) (ξ 0)) 1 (φ (κ 14) (ξ 1)) yes hy.1 hp)) (tn (a := y + 3) (fk1 [_] [] (φ (κ 0) (ζ (ξ 0) (κ 3))) 1 1 (φ (η (κ 2)) (ξ 0)) yes hy.1)) (tn (a := epP (absI x) y d) (fk1 [_] [] (φ (κ 0) (ξ 0)) 1 1 (φ (κ 14) (ξ 0)) yes hp))) (fk3 [_,_] [_,_,_] (φn (ζ (ν 0) (ν 1)) (ζ (ν 2) (κ 3))) 1 1 (ϑ (ν 2) (ζ (ξ 0) (ξ 1))) 1 (θ (ν 0) (ζ (ξ 0) (κ 3))) 1 (θ (ν 1) (ξ 1)) yes (tn (a := y + epP (absI x) y d) (fk2 [_,_] [] (φ (κ 0) (ζ (ξ 0) (ξ 1))) 1 1 (φ (η (κ 2)) (ξ 0)) 1 (φ (κ 14) (ξ 1)) yes hy.1 hp)) (tn (a := y + 3) (fk1 [_] [] (φ (κ 0) (ζ (ξ 0) (κ 3))) 1 1 (φ (η (κ 2)) (ξ 0)) yes hy.1)) (tn (a := epP (absI x) y d) (fk1 [_] [] (φ (κ 0) (ξ 0)) 1 1 (φ (κ 14) (ξ 0)) yes hp)))
        have := Int.mul_le_mul_of_nonneg_right (Int.le_of_lt hg) (Int.le_of_lt e14)
        have e2 : 2 * d * 1000 * 10 ^ (epP (absI x) y d).toNat = (2 * d * 10 ^ (epP (absI x) y d).toNat) * 1000 := by grind
        rw [e2, ← e] at this
        exact Int.le_of_mul_le_mul_right this (by decide)
  obtain ⟨t1, t2, r1, r2, r3, r4, r5, r6, r7, r8⟩ := tail
  have nw1 : ∀ z, greatB x y z = false → shV x y d z = rr (sgn x ((epG (absI x) y d - epD (absI x) y d) * 5)) (-epP (absI x) y d - 1) d z := fun z h => sh3 tiny h rfl
  have nw2 : ∀ z, greatB x y z = false → chV x y d z = rr ((epG (absI x) y d + epD (absI x) y d) * 5) (-epP (absI x) y d - 1) d z := fun z h => ch3 tiny h rfl
  have abs1 : absI (sgn x t1) = t1 := by
    unfold sgn; split
    · rw [absI_neg]; exact absI_of_nn r1
    · exact absI_of_nn r1
  refine ⟨_, _, _, _, sgn x t1, t2, by exact fk1 [_] [] (φ (κ 0) (ξ 0)) 1 1 (φ (κ 2) (ξ 0)) yes hd, by exact fk1 [_] [] (φ (κ 0) (ξ 0)) 1 1 (φ (κ 2) (ξ 0)) yes ht, ht1, by exact fk2 [_,_] [] (φ (ξ 0) (κ 1900)) 1 1 (ϑ (ξ 1) (ξ 0)) 1 (φ (ξ 1) (κ 3)) yes cx c3, by rw [cd_neg]; exact fk2 [_,_] [] (φ (ξ 0) (κ 1900)) 1 1 (ϑ (ξ 1) (ξ 0)) 1 (φ (ξ 1) (κ 3)) yes cx c3, f.ok, by rw [absI_neg]; exact f.ok, (nw1 _ wide).trans a1, fun h => ?_, fun h => ?_, (nw2 _ wide).trans b1, fun h => ?_, fun h => ?_, r2, r3, by exact fk1 [_] [] (φ (κ 0) (δ (κ 30) (ξ 0))) 1 1 (φ (ξ 0) (κ 0)) yes r5, by exact fk1 [_] [] (φ (δ (κ 30) (ξ 0)) (κ 1000)) 1 1 (φ (η (κ 60)) (ξ 0)) yes r4,
    sm_of_le (k := 60) (by decide) (by unfold sgn; have := pow_pos10 60; split <;> lia) (by unfold sgn; have := pow_pos10 60; split <;> lia), by rw [abs1]; exact r7, by exact fk1 [_] [] (φ (κ 0) (ζ (ξ 0) (κ 3))) 1 1 (φ (η (κ 2)) (ξ 0)) yes hy.1, by exact fk1 [_] [] (φ (ζ (ξ 0) (κ 3)) (κ 1000)) 1 1 (φ (ξ 0) (κ 0)) yes hy.2, sm_small (by lia), sm_small (by lia), fun h => ?_⟩
  · cases hg : greatB x y top with
    | true => exact sh2 tiny hg
    | false => exact (nw1 _ hg).trans (a2 h)
  · cases hg : greatB x y top with
    | true => exact absurd (by rw [cd_sgn]; exact far1 hg) h
    | false => exact (nw1 _ hg).trans (a3 h)
  · cases hg : greatB x y top with
    | true => exact ch2 tiny hg
    | false => exact (nw2 _ hg).trans (b2 h)
  · cases hg : greatB x y top with
    | true => exact absurd (far2 hg) h
    | false => exact (nw2 _ hg).trans (b3 h)
  · obtain ⟨q1, q2⟩ := r8 h
    subst q1 q2
    refine ⟨?_, rfl⟩
    unfold sgn
    split <;> split <;> lia
end Mine
end
section
open Mine.FLx (ξ ν κ ζ δ η π ω)
open Mine.FCx (φ ψ θ ϑ Φ Ψ φn ψn θn ϑn Φn Ψn)
namespace Mine
/-! the axes and the ones: by evaluation -/
noncomputable def smB (x : Int) : Bool := decide (x.natAbs < 10 ^ 2000)
noncomputable def arcB (x y d : Int) : Bool := smB x && smB (apN x y d) && smB (apO x y d) && decide (0 ≤ y + pfV x y d ∧ y + pfV x y d ≤ 1000 ∧ 0 ≤ pfV x y d ∧ pfV x y d ≤ 100 ∧ 0 ≤ 10 ^ (pfV x y d).toNat * 10 ^ (pfV x y d).toNat - apN x y d * apN x y d ∧
  cd (10 ^ (pfV x y d).toNat * 10 ^ (pfV x y d).toNat - apN x y d * apN x y d) ≤ 1900 ∧ ¬ (apN x y d = 0 ∧ apO x y d = 0) ∧ cd (asA x y d) ≤ 1900 ∧ cd (acA x y d) ≤ 1900)
theorem sm_of {x : Int} (h : smB x = true) : Sm x := by
  have h2 : x.natAbs < 10 ^ 2000 := of_decide_eq_true h
  exact h2
theorem arc_of {x y d : Int} (h : arcB x y d = true) : ArcCond x y d := by
  unfold arcB at h
  rw [Bool.and_eq_true, Bool.and_eq_true, Bool.and_eq_true] at h
  obtain ⟨⟨⟨h1, h2⟩, h3⟩, h4⟩ := h
  obtain ⟨a2, a3, a4, a5, a6, a7, b1, b2, b3⟩ := of_decide_eq_true h4
  exact ⟨sm_of h1, a2, a3, a4, a5, a6, a7, sm_of h2, sm_of h3, b1, b2, b3⟩
noncomputable def halfQ : Int := 31415926535897932384626433832795028841971
noncomputable def axB (d : Int) : Bool := decide (saV 0 2 d 99 = some (evV halfQ (-40) d) ∧ saV 0 1 d 99 = some (evV (halfQ * 5) (-41) d) ∧ saV (-1) 1 d 99 = some (-(evV (halfQ * 5) (-41) d).1, (evV (halfQ * 5) (-41) d).2)) && arcB 0 0 d
theorem ax_all : ∀ d : Nat, d < 8 → 2 ≤ d → axB d = true := by decide +kernel
noncomputable def oneB (z k d : Int) : Bool := arcB z (-k) d && arcB (-z) (-k) d &&
  decide (asV z (-k) d 99 = some (evV (halfQ * 5) (-41) d) ∧ asV (-z) (-k) d 99 = some (-(evV (halfQ * 5) (-41) d).1, (evV (halfQ * 5) (-41) d).2) ∧ acV z (-k) d 99 = some (0, 0) ∧ acV (-z) (-k) d 99 = some (evV halfQ (-40) d))
noncomputable def onesB (k d : Nat) : Bool := oneB (10 ^ k) k d
theorem ones_all : ∀ k : Nat, k < 4 → ∀ d : Nat, d < 8 → 2 ≤ d → onesB k d = true := by decide +kernel
noncomputable def beyC (k : Nat) : Bool := beyB (10 ^ k + 1) (-(k : Int)) && beyB (-(10 ^ k + 1)) (-(k : Int))
theorem bey_all : ∀ k : Nat, k < 4 → 0 < k → beyC k = true := by decide +kernel
theorem as_bey {x y d : Int} (hd : 2 ≤ d) (h : beyB x y = true) : asV x y d 99 = none ∧ acV x y d 99 = none := by
  have hb : ¬ tinyB x y d = true := by
    intro z
    have z' : x = 0 ∨ cd x + y < -d := of_decide_eq_true z
    unfold beyB at h
    rw [Bool.and_eq_true] at h
    have h1 := h.1
    rw [Bool.not_eq_true'] at h1
    have := of_decide_eq_false h1
    omega
  unfold asV acV
  rw [if_neg hb, if_pos h, if_pos h]
  exact ⟨rfl, rfl⟩
theorem dNat {d : Int} (hd : 2 ≤ d) (hd1 : d ≤ 7) : ∃ n : Nat, d = n ∧ 2 ≤ n ∧ n < 8 := ⟨d.toNat, by exact Int.le_antisymm (fk1 [_] [_] (φ (ξ 0) (ν 0)) 1 1 (ϑ (ν 0) (ξ 0)) yes (tn (a := d) (fk1 [_] [] (φ (κ 0) (ξ 0)) 1 1 (φ (κ 2) (ξ 0)) yes hd))) (fk1 [_] [_] (φ (ν 0) (ξ 0)) 1 1 (θ (ν 0) (ξ 0)) yes (tn (a := d) (fk1 [_] [] (φ (κ 0) (ξ 0)) 1 1 (φ (κ 2) (ξ 0)) yes hd))), by exact fk2 [_] [_] (φn (κ 2) (ν 0)) 1 1 (φ (κ 2) (ξ 0)) 1 (ϑ (ν 0) (ξ 0)) yes hd (tn (a := d) (fk1 [_] [] (φ (κ 0) (ξ 0)) 1 1 (φ (κ 2) (ξ 0)) yes hd)), by exact fk2 [_] [_] (ψn (ν 0) (κ 8)) 1 1 (φ (ξ 0) (κ 7)) 1 (θ (ν 0) (ξ 0)) yes hd1 (tn (a := d) (fk1 [_] [] (φ (κ 0) (ξ 0)) 1 1 (φ (κ 2) (ξ 0)) yes hd))⟩
theorem onesOk {k d : Int} (hk : 0 ≤ k) (hk1 : k ≤ 3) (hd : 2 ≤ d) (hd1 : d ≤ 7) : OnesOk k d := by
  obtain ⟨n, rfl, hn, hn1⟩ := dNat hd hd1
  obtain ⟨j, rfl⟩ : ∃ j : Nat, k = j := ⟨k.toNat, by exact Int.le_antisymm (fk1 [_] [_] (φ (ξ 0) (ν 0)) 1 1 (ϑ (ν 0) (ξ 0)) yes (tn (a := k) (fk1 [_] [] (φ (κ 0) (ξ 0)) 1 1 (φ (κ 0) (ξ 0)) yes hk))) (fk1 [_] [_] (φ (ν 0) (ξ 0)) 1 1 (θ (ν 0) (ξ 0)) yes (tn (a := k) (fk1 [_] [] (φ (κ 0) (ξ 0)) 1 1 (φ (κ 0) (ξ 0)) yes hk)))⟩
  have h := ones_all j (by exact fk1 [] [_] (ψn (ν 0) (κ 4)) 1 1 (φ (ν 0) (κ 3)) yes hk1) n hn1 hn
  unfold onesB oneB at h
  rw [Bool.and_eq_true, Bool.and_eq_true] at h
  obtain ⟨⟨h1, h2⟩, h3⟩ := h
  obtain ⟨a1, a2, a3, a4⟩ := of_decide_eq_true h3
  have ej : (10 : Int) ^ ((j : Int)).toNat = 10 ^ j := by congr 1
  have hb := bey_all j (by exact fk1 [] [_] (ψn (ν 0) (κ 4)) 1 1 (φ (ν 0) (κ 3)) yes hk1)
  have hb1 : 0 < (j : Int) → beyB (10 ^ j + 1) (-(j : Int)) = true := fun h => by
    have := hb (by exact fk1 [] [_] (ψn (κ 0) (ν 0)) 1 1 (ψ (κ 0) (ν 0)) yes h); unfold beyC at this; rw [Bool.and_eq_true] at this; exact this.1
  have hb2 : 0 < (j : Int) → beyB (-(10 ^ j + 1)) (-(j : Int)) = true := fun h => by
    have := hb (by exact fk1 [] [_] (ψn (κ 0) (ν 0)) 1 1 (ψ (κ 0) (ν 0)) yes h); unfold beyC at this; rw [Bool.and_eq_true] at this; exact this.2
  have cz : ∀ z : Int, -100000 < z → z < 100000 → cd z ≤ 1900 := fun z g1 g2 => Int.le_trans (cd_abs_le (k := 5) (by lia) (by lia)) (by decide)
  have pj : (10 : Int) ^ j ≤ 10 ^ 3 := pow10_mono (by exact fk1 [] [_] (φn (ν 0) (κ 3)) 1 1 (φ (ν 0) (κ 3)) yes hk1)
  have c3 : (10 : Int) ^ 3 = 1000 := by decide
  have p0 := pow_pos10 j
  have t2 : beyB 2 0 = true := by decide +kernel
  have t2n : beyB (-2) 0 = true := by decide +kernel
  rw [← ej] at *
  exact ⟨by exact fk1 [] [_] (φ (κ 0) (ν 0)) 1 1 (φ (κ 2) (ν 0)) yes hd, by omega, by omega, cz _ (by exact fk1 [_] [] (ψ (η (κ 100000)) (ξ 0)) 1 1 (ψ (κ 0) (ξ 0)) yes p0) (by exact fk2 [_,_] [] (ψ (ξ 0) (κ 100000)) 1 1 (φ (ξ 0) (ξ 1)) 1 (θ (ξ 1) (κ 1000)) yes pj c3), cz _ (by exact fk2 [_,_] [] (ψ (η (κ 100000)) (η (ξ 0))) 1 1 (φ (ξ 0) (ξ 1)) 1 (θ (ξ 1) (κ 1000)) yes pj c3) (by exact fk1 [_] [] (ψ (η (ξ 0)) (κ 100000)) 1 1 (ψ (κ 0) (ξ 0)) yes p0), fun _ => arc_of h1, fun _ => arc_of h2, a1, a2, a3, a4, cz _ (by exact fk1 [_] [] (ψ (η (κ 100000)) (ζ (ξ 0) (κ 1))) 1 1 (ψ (κ 0) (ξ 0)) yes p0) (by exact fk2 [_,_] [] (ψ (ζ (ξ 0) (κ 1)) (κ 100000)) 1 1 (φ (ξ 0) (ξ 1)) 1 (θ (ξ 1) (κ 1000)) yes pj c3), cz _ (by exact fk2 [_,_] [] (ψ (η (κ 100000)) (η (ζ (ξ 0) (κ 1)))) 1 1 (φ (ξ 0) (ξ 1)) 1 (θ (ξ 1) (κ 1000)) yes pj c3) (by exact fk1 [_] [] (ψ (η (ζ (ξ 0) (κ 1))) (κ 100000)) 1 1 (ψ (κ 0) (ξ 0)) yes p0),
    fun g e => absurd ((hb1 g).symm.trans e) (by decide), fun g e => absurd ((hb2 g).symm.trans e) (by decide), fun g => (as_bey hd (hb1 g)).1, fun g => (as_bey hd (hb2 g)).1, fun g => (as_bey hd (hb1 g)).2, fun g => (as_bey hd (hb2 g)).2,
    cz _ (by decide) (by decide), cz _ (by decide) (by decide), fun e => absurd (t2.symm.trans e) (by decide), fun e => absurd (t2n.symm.trans e) (by decide), (as_bey hd t2).1, (as_bey hd t2n).1, (as_bey hd t2).2, (as_bey hd t2n).2⟩
theorem axesOk {y v d : Int} (hd : 2 ≤ d) (hd1 : d ≤ 7) (hy : 0 < y ∧ y < 100) (hv : -20 ≤ v ∧ v ≤ 20) : AxesOk y v d := by
  have hax : axB d = true := by
    obtain ⟨n, rfl, hn, hn1⟩ := dNat hd hd1
    exact ax_all n hn1 hn
  unfold axB at hax
  rw [Bool.and_eq_true] at hax
  obtain ⟨a1, a2, a3⟩ := of_decide_eq_true hax.1
  have o : ∀ y v x u : Int, (-100000 < y ∧ y < 100000) → (-100000 < x ∧ x < 100000) → (-30 ≤ v ∧ v ≤ 30) → (-30 ≤ u ∧ u ≤ 30) → At2Ok y v x u d := fun y v x u h1 h2 h3 h4 => at2Ok hd hd1 h1 h2 h3 h4
  refine ⟨by exact fk1 [_] [] (φ (κ 0) (ξ 0)) 1 1 (φ (κ 2) (ξ 0)) yes hd, o _ _ _ _ (by exact ⟨fk0 [] [] (ψ (η (κ 100000)) (κ 0)) 1  yes , fk0 [] [] (ψ (κ 0) (κ 100000)) 1  yes ⟩) (by exact ⟨fk1 [_] [] (ψ (η (κ 100000)) (ξ 0)) 1 1 (ψ (κ 0) (ξ 0)) yes hy.1, fk1 [_] [] (ψ (ξ 0) (κ 100000)) 1 1 (ψ (ξ 0) (κ 100)) yes hy.2⟩) (by exact ⟨fk0 [] [] (φ (η (κ 30)) (κ 0)) 1  yes , fk0 [] [] (φ (κ 0) (κ 30)) 1  yes ⟩) (by exact ⟨fk1 [_] [] (φ (η (κ 30)) (ξ 0)) 1 1 (φ (η (κ 20)) (ξ 0)) yes hv.1, fk1 [_] [] (φ (ξ 0) (κ 30)) 1 1 (φ (ξ 0) (κ 20)) yes hv.2⟩), o _ _ _ _ (by exact ⟨fk0 [] [] (ψ (η (κ 100000)) (κ 0)) 1  yes , fk0 [] [] (ψ (κ 0) (κ 100000)) 1  yes ⟩) (by exact ⟨fk1 [_] [] (ψ (η (κ 100000)) (η (ξ 0))) 1 1 (ψ (ξ 0) (κ 100)) yes hy.2, fk1 [_] [] (ψ (η (ξ 0)) (κ 100000)) 1 1 (ψ (κ 0) (ξ 0)) yes hy.1⟩) (by exact ⟨fk0 [] [] (φ (η (κ 30)) (κ 0)) 1  yes , fk0 [] [] (φ (κ 0) (κ 30)) 1  yes ⟩) (by exact ⟨fk1 [_] [] (φ (η (κ 30)) (ξ 0)) 1 1 (φ (η (κ 20)) (ξ 0)) yes hv.1, fk1 [_] [] (φ (ξ 0) (κ 30)) 1 1 (φ (ξ 0) (κ 20)) yes hv.2⟩), o _ _ _ _ (by exact ⟨fk1 [_] [] (ψ (η (κ 100000)) (ξ 0)) 1 1 (ψ (κ 0) (ξ 0)) yes hy.1, fk1 [_] [] (ψ (ξ 0) (κ 100000)) 1 1 (ψ (ξ 0) (κ 100)) yes hy.2⟩) (by exact ⟨fk0 [] [] (ψ (η (κ 100000)) (κ 0)) 1  yes , fk0 [] [] (ψ (κ 0) (κ 100000)) 1  yes ⟩) (by exact ⟨fk1 [_] [] (φ (η (κ 30)) (ξ 0)) 1 1 (φ (η (κ 20)) (ξ 0)) yes hv.1, fk1 [_] [] (φ (ξ 0) (κ 30)) 1 1 (φ (ξ 0) (κ 20)) yes hv.2⟩) (by exact ⟨fk0 [] [] (φ (η (κ 30)) (κ 0)) 1  yes , fk0 [] [] (φ (κ 0) (κ 30)) 1  yes ⟩), o _ _ _ _ (by exact ⟨fk1 [_] [] (ψ (η (κ 100000)) (η (ξ 0))) 1 1 (ψ (ξ 0) (κ 100)) yes hy.2, fk1 [_] [] (ψ (η (ξ 0)) (κ 100000)) 1 1 (ψ (κ 0) (ξ 0)) yes hy.1⟩) (by exact ⟨fk0 [] [] (ψ (η (κ 100000)) (κ 0)) 1  yes , fk0 [] [] (ψ (κ 0) (κ 100000)) 1  yes ⟩) (by exact ⟨fk1 [_] [] (φ (η (κ 30)) (ξ 0)) 1 1 (φ (η (κ 20)) (ξ 0)) yes hv.1, fk1 [_] [] (φ (ξ 0) (κ 30)) 1 1 (φ (ξ 0) (κ 20)) yes hv.2⟩) (by exact ⟨fk0 [] [] (φ (η (κ 30)) (κ 0)) 1  yes , fk0 [] [] (φ (κ 0) (κ 30)) 1  yes ⟩), o _ _ _ _ (by exact ⟨fk0 [] [] (ψ (η (κ 100000)) (κ 0)) 1  yes , fk0 [] [] (ψ (κ 0) (κ 100000)) 1  yes ⟩) (by exact ⟨fk0 [] [] (ψ (η (κ 100000)) (κ 0)) 1  yes , fk0 [] [] (ψ (κ 0) (κ 100000)) 1  yes ⟩) (by exact ⟨fk0 [] [] (φ (η (κ 30)) (κ 0)) 1  yes , fk0 [] [] (φ (κ 0) (κ 30)) 1  yes ⟩) (by exact ⟨fk0 [] [] (φ (η (κ 30)) (κ 0)) 1  yes , fk0 [] [] (φ (κ 0) (κ 30)) 1  yes ⟩), at_0p rfl hy.1, at_0n rfl (by exact fun hq => fn2 [_] [] 1 (ψ (κ 0) (ξ 0)) 1 (ϑ (η (ξ 0)) (κ 0)) yes hy.1 hq) (by exact fk1 [_] [] (Ψ (κ 0) (η (ξ 0))) 1 1 (ψ (κ 0) (ξ 0)) yes hy.1) a1, at_x0 (by exact fun hq => fn2 [_] [] 1 (ψ (κ 0) (ξ 0)) 1 (θ (ξ 0) (κ 0)) yes hy.1 hq) rfl ?_, at_x0 (by exact fun hq => fn2 [_] [] 1 (ψ (κ 0) (ξ 0)) 1 (ϑ (η (ξ 0)) (κ 0)) yes hy.1 hq) rfl ?_, at_none rfl rfl⟩
  · have e : saV y 1 d 99 = saV 0 1 d 99 := by unfold saV sgn; rw [if_neg (by exact fk1 [_] [] (Ψ (ξ 0) (κ 0)) 1 1 (ψ (κ 0) (ξ 0)) yes hy.1), if_neg (by decide)]
    rw [e]; exact a2
  · have e : saV (-y) 1 d 99 = saV (-1) 1 d 99 := by unfold saV sgn; rw [if_pos (by exact fk1 [_] [] (ψ (η (ξ 0)) (κ 0)) 1 1 (ψ (κ 0) (ξ 0)) yes hy.1), if_pos (by decide)]
    rw [e]; exact a3
end Mine
end
section
open Mine.FLx (ξ ν κ ζ δ η π ω)
open Mine.FCx (φ ψ θ ϑ Φ Ψ φn ψn θn ϑn Φn Ψn)
namespace Mine
theorem near_sym {x y u v d k : Int} (h : NearOk u v x y d ∧ nearB u v x y d k = true) : NearOk x y u v d ∧ nearB x y u v d k = true := by
  obtain ⟨h, hb⟩ := h
  have e1 : nlow y v d = nlow v y d := by unfold nlow; split <;> split <;> lia
  have e2 : neA x y u v d = neB u v x y d := by unfold neA neB; rw [e1]
  have e3 : neB x y u v d = neA u v x y d := by unfold neA neB; rw [e1]
  have e4 : neC x y u v d = neC u v x y d := by unfold neC; rw [e2, e3]; split <;> split <;> lia
  have e5 : neT x y u v d k = neT u v x y d k := by
    have a : neT x y u v d k = k * 10 ^ (neC x y u v d).toNat := rfl
    have b : neT u v x y d k = k * 10 ^ (neC u v x y d).toNat := rfl
    rw [a, b, e4]
  refine ⟨⟨h.d0, h.su, h.sx, by rw [e1]; exact h.e2, by rw [e1]; exact h.e1, by rw [e4]; exact h.t0, by rw [e4]; exact h.t1⟩, ?_⟩
  unfold nearB at *
  rw [e2, e3, e5]
  have e6 : absI (neB u v x y d - neA u v x y d) = absI (neA u v x y d - neB u v x y d) := by
    have := absI_neg (neA u v x y d - neB u v x y d)
    have e : -(neA u v x y d - neB u v x y d) = neB u v x y d - neA u v x y d := by exact Int.le_antisymm (fk0 [_,_] [] (φ (η (δ (ξ 0) (ξ 1))) (δ (ξ 1) (ξ 0))) 1  yes ) (fk0 [_,_] [] (φ (δ (ξ 0) (ξ 1)) (η (δ (ξ 1) (ξ 0)))) 1  yes )
    rw [e] at this; exact this
  rw [e6]; exact hb
theorem evV_rd {m e d : Int} (hm : 0 < m) (hd : 1 ≤ d) : evV m e d = rd m e d := by
  have ha : absI m = m := absI_of_nn (by exact fk1 [_] [] (φ (κ 0) (ξ 0)) 1 1 (ψ (κ 0) (ξ 0)) yes hm)
  have key : ∀ w c : Int, 0 < w → stP w c = strip w c := fun w c hw => by unfold stP; rw [if_neg (by exact fun hq => fn2 [_] [] 1 (ψ (κ 0) (ξ 0)) 1 (θ (ξ 0) (κ 0)) yes hw hq)]
  have h2 := rd_spec (y := e) hm hd
  have hw : evS m e d = rd m e d := by
    unfold evS
    by_cases hD : 0 < cd m - d
    · have eD : dropV m d = cd m - d := by unfold dropV; rw [if_pos hD]
      have e1 : ev1 m d = rdP (10 ^ (cd m - d).toNat) m := by
        unfold ev1 rdP ev0 evr
        rw [eD, ha]
        split <;> rename_i h
        · rw [if_pos (h.imp id fun z => z.2)]
        · rw [if_neg (fun z => h (z.imp id fun q => ⟨hD, q⟩))]
      have er : rd m e d = strip (rdP (10 ^ (cd m - d).toNat) m) (e + (cd m - d)) := by unfold rd; rw [if_pos hD, if_pos hm, ha]
      have nn := ev1_nn m d
      rw [e1] at nn ⊢
      rw [eD, er]
      refine key _ _ ?_
      rcases Int.lt_or_le 0 (rdP (10 ^ (cd m - d).toNat) m) with q | q
      · exact q
      · exfalso
        have z : rdP (10 ^ (cd m - d).toNat) m = 0 := by exact Int.le_antisymm (fk1 [_] [] (φ (ξ 0) (κ 0)) 1 1 (φ (ξ 0) (κ 0)) yes q) (fk1 [_] [] (φ (κ 0) (ξ 0)) 1 1 (φ (κ 0) (ξ 0)) yes nn)
        obtain ⟨j, _, g2, _⟩ := h2
        rw [er, z, strip_zero] at g2
        exact absurd g2 (by decide)
    · have eD : dropV m d = 0 := by unfold dropV; rw [if_neg hD]
      have e1 : ev1 m d = m := by
        unfold ev1 ev0 evr
        rw [eD, ha]
        have q1 : (10 : Int) ^ (0 : Int).toNat = 1 := rfl
        rw [q1, fmodP (by decide), fdivP (by decide), if_neg (by lia)]; lia
      have er : rd m e d = strip m e := by unfold rd; rw [if_neg hD]
      rw [e1, eD, er, key m _ hm]
      congr 1; exact Int.le_antisymm (fk0 [_] [] (φ (ζ (ξ 0) (κ 0)) (ξ 0)) 1  yes ) (fk0 [_] [] (φ (ξ 0) (ζ (ξ 0) (κ 0))) 1  yes )
  obtain ⟨j, _, g2, _⟩ := h2
  unfold evV
  rw [hw, if_neg (by exact fun hq => fn2 [_] [] 1 (ψ (κ 0) (ξ 0)) 1 (θ (ξ 0) (κ 0)) yes g2 hq), if_pos hm]
theorem hv_low {p : Nat} {t T c q : Int} (h : ArcOk p t) (hT : t ≤ T) (hc : T * T ≤ 2 * 10 ^ p * c) (hc0 : 0 ≤ c) (hq : T * c ≤ 10 ^ p * q) (hq0 : 0 ≤ q) : t - q - 2 ≤ 2 * hv p t := by
  have b := pow_pos10 p
  have hl := h.lo
  obtain ⟨r1, r2, r3⟩ := isq_spec (arc_nn h)
  have rg := root_ge h
  have tt : t * t ≤ T * T := Int.mul_le_mul hT hT hl (by exact fk2 [_,_] [] (φ (κ 0) (ξ 0)) 1 1 (φ (ξ 1) (ξ 0)) 1 (φ (κ 0) (ξ 1)) yes hT hl)
  have ru : isq (10 ^ p * 10 ^ p + t * t) ≤ 10 ^ p + c := by
    generalize isq (10 ^ p * 10 ^ p + t * t) = r at *
    generalize (10 : Int) ^ p = one at *
    rcases Int.lt_or_le (one + c) r with k | k
    · exfalso
      have : (one + c + 1) * (one + c + 1) ≤ r * r := Int.mul_le_mul (by exact fk1 [_,_,_] [] (φ (ζ (ζ (ξ 0) (ξ 1)) (κ 1)) (ξ 2)) 1 1 (ψ (ζ (ξ 0) (ξ 1)) (ξ 2)) yes k) (by exact fk1 [_,_,_] [] (φ (ζ (ζ (ξ 0) (ξ 1)) (κ 1)) (ξ 2)) 1 1 (ψ (ζ (ξ 0) (ξ 1)) (ξ 2)) yes k) (by exact fk2 [_,_] [] (φ (κ 0) (ζ (ζ (ξ 0) (ξ 1)) (κ 1))) 1 1 (φ (κ 0) (ξ 1)) 1 (ψ (κ 0) (ξ 0)) yes hc0 b) (by omega)
      have := sq_nn c
      grind
    · exact k
  unfold hv
  rw [fdivP (by exact fk2 [_,_] [] (ψ (κ 0) (ζ (ξ 0) (ξ 1))) 1 2 (ψ (κ 0) (ξ 0)) 1 (φ (ξ 0) (ξ 1)) yes b rg)]
  have w := div_hi (a := t * 10 ^ p) (by exact fk2 [_,_] [] (ψ (κ 0) (ζ (ξ 0) (ξ 1))) 1 2 (ψ (κ 0) (ξ 0)) 1 (φ (ξ 0) (ξ 1)) yes b rg : 0 < 10 ^ p + isq (10 ^ p * 10 ^ p + t * t))
  have w0 := div_nn (a := t * 10 ^ p) (by exact fk2 [_,_] [] (ψ (κ 0) (ζ (ξ 0) (ξ 1))) 1 2 (ψ (κ 0) (ξ 0)) 1 (φ (ξ 0) (ξ 1)) yes b rg : 0 < 10 ^ p + isq (10 ^ p * 10 ^ p + t * t)) (Int.mul_nonneg hl (by exact fk1 [_] [] (φ (κ 0) (ξ 0)) 1 1 (ψ (κ 0) (ξ 0)) yes b))
  generalize isq (10 ^ p * 10 ^ p + t * t) = r at *
  generalize (10 : Int) ^ p = one at *
  generalize t * one / (one + r) = H at *
  rcases Int.lt_or_le (2 * H) (t - q - 2) with k | k
  · exfalso
    have a1 : (H + 1) * (one + r) ≤ (H + 1) * (2 * one + c) := Int.mul_le_mul_of_nonneg_left (by exact fk1 [_,_,_] [] (φ (ζ (ξ 0) (ξ 1)) (ζ (π 2 (ξ 0)) (ξ 2))) 1 1 (φ (ξ 1) (ζ (ξ 0) (ξ 2))) yes ru) (by exact fk1 [_] [] (φ (κ 0) (ζ (ξ 0) (κ 1))) 1 1 (φ (κ 0) (ξ 0)) yes w0)
    have a2 : (2 * (H + 1)) * (2 * one + c) ≤ (t - q) * (2 * one + c) := Int.mul_le_mul_of_nonneg_right (by exact fk1 [_,_,_] [] (φ (π 2 (ζ (ξ 0) (κ 1))) (δ (ξ 1) (ξ 2))) 1 1 (ψ (π 2 (ξ 0)) (δ (δ (ξ 1) (ξ 2)) (κ 2))) yes k) (by exact fk2 [_,_] [] (φ (κ 0) (ζ (π 2 (ξ 0)) (ξ 1))) 1 1 (φ (κ 0) (ξ 1)) 2 (ψ (κ 0) (ξ 0)) yes hc0 b)
    have a3 : t * c ≤ T * c := Int.mul_le_mul_of_nonneg_right hT hc0
    have a4 : 0 ≤ q * c := Int.mul_nonneg hq0 hc0
    have a5 : 0 ≤ q * one := Int.mul_nonneg hq0 (by exact fk1 [_] [] (φ (κ 0) (ξ 0)) 1 1 (ψ (κ 0) (ξ 0)) yes b)
    grind
  · exact k
theorem arc_tiny {t d : Int} (hd : 2 ≤ d) (hd1 : d ≤ 7) (ht : 0 ≤ t) (hT : t ≤ 10 ^ (2 * d + 11).toNat) : arcV t (3 * d + 12) ≤ t ∧ t - 10 ^ 10 ≤ arcV t (3 * d + 12) := by
  have eone : (10 : Int) ^ (3 * d + 12).toNat = 10 ^ (2 * d + 11).toNat * 10 ^ (d + 1).toNat := by rw [← pow_addI]; congr 1; exact Nat.le_antisymm (fk3 [_] [_,_,_] (φn (ν 0) (ζ (ν 1) (ν 2))) 1 1 (θ (ν 0) (ζ (π 3 (ξ 0)) (κ 12))) 1 (ϑ (ν 1) (ζ (π 2 (ξ 0)) (κ 11))) 1 (ϑ (ν 2) (ζ (ξ 0) (κ 1))) yes (tn (a := 3 * d + 12) (fk1 [_] [] (φ (κ 0) (ζ (π 3 (ξ 0)) (κ 12))) 1 3 (φ (κ 2) (ξ 0)) yes hd)) (tn (a := 2 * d + 11) (fk1 [_] [] (φ (κ 0) (ζ (π 2 (ξ 0)) (κ 11))) 1 2 (φ (κ 2) (ξ 0)) yes hd)) (tn (a := d + 1) (fk1 [_] [] (φ (κ 0) (ζ (ξ 0) (κ 1))) 1 1 (φ (κ 2) (ξ 0)) yes hd))) (fk3 [_] [_,_,_] (φn (ζ (ν 0) (ν 1)) (ν 2)) 1 1 (ϑ (ν 2) (ζ (π 3 (ξ 0)) (κ 12))) 1 (θ (ν 0) (ζ (π 2 (ξ 0)) (κ 11))) 1 (θ (ν 1) (ζ (ξ 0) (κ 1))) yes (tn (a := 3 * d + 12) (fk1 [_] [] (φ (κ 0) (ζ (π 3 (ξ 0)) (κ 12))) 1 3 (φ (κ 2) (ξ 0)) yes hd)) (tn (a := 2 * d + 11) (fk1 [_] [] (φ (κ 0) (ζ (π 2 (ξ 0)) (κ 11))) 1 2 (φ (κ 2) (ξ 0)) yes hd)) (tn (a := d + 1) (fk1 [_] [] (φ (κ 0) (ζ (ξ 0) (κ 1))) 1 1 (φ (κ 2) (ξ 0)) yes hd)))
  have pT := pow_pos10 (2 * d + 11).toNat
  have pd := pow_pos10 (d + 1).toNat
  have ok : ArcOk (3 * d + 12).toNat t := ⟨ht, Int.le_trans hT (pow10_mono (by exact fk3 [_] [_,_] (φn (ν 0) (ν 1)) 1 1 (φ (κ 2) (ξ 0)) 1 (θ (ν 0) (ζ (π 2 (ξ 0)) (κ 11))) 1 (ϑ (ν 1) (ζ (π 3 (ξ 0)) (κ 12))) yes hd (tn (a := 2 * d + 11) (fk1 [_] [] (φ (κ 0) (ζ (π 2 (ξ 0)) (κ 11))) 1 2 (φ (κ 2) (ξ 0)) yes hd)) (tn (a := 3 * d + 12) (fk1 [_] [] (φ (κ 0) (ζ (π 3 (ξ 0)) (κ 12))) 1 3 (φ (κ 2) (ξ 0)) yes hd)))), by exact fk2 [_] [_] (φn (ν 0) (κ 110)) 1 3 (φ (ξ 0) (κ 7)) 1 (θ (ν 0) (ζ (π 3 (ξ 0)) (κ 12))) yes hd1 (tn (a := 3 * d + 12) (fk1 [_] [] (φ (κ 0) (ζ (π 3 (ξ 0)) (κ 12))) 1 3 (φ (κ 2) (ξ 0)) yes hd))⟩
  have ec1 : (10 : Int) ^ (2 * d + 11).toNat = 10 ^ (d + 10).toNat * 10 ^ (d + 1).toNat := by rw [← pow_addI]; congr 1; exact Nat.le_antisymm (fk3 [_] [_,_,_] (φn (ν 0) (ζ (ν 1) (ν 2))) 1 1 (θ (ν 0) (ζ (π 2 (ξ 0)) (κ 11))) 1 (ϑ (ν 1) (ζ (ξ 0) (κ 10))) 1 (ϑ (ν 2) (ζ (ξ 0) (κ 1))) yes (tn (a := 2 * d + 11) (fk1 [_] [] (φ (κ 0) (ζ (π 2 (ξ 0)) (κ 11))) 1 2 (φ (κ 2) (ξ 0)) yes hd)) (tn (a := d + 10) (fk1 [_] [] (φ (κ 0) (ζ (ξ 0) (κ 10))) 1 1 (φ (κ 2) (ξ 0)) yes hd)) (tn (a := d + 1) (fk1 [_] [] (φ (κ 0) (ζ (ξ 0) (κ 1))) 1 1 (φ (κ 2) (ξ 0)) yes hd))) (fk3 [_] [_,_,_] (φn (ζ (ν 0) (ν 1)) (ν 2)) 1 1 (ϑ (ν 2) (ζ (π 2 (ξ 0)) (κ 11))) 1 (θ (ν 0) (ζ (ξ 0) (κ 10))) 1 (θ (ν 1) (ζ (ξ 0) (κ 1))) yes (tn (a := 2 * d + 11) (fk1 [_] [] (φ (κ 0) (ζ (π 2 (ξ 0)) (κ 11))) 1 2 (φ (κ 2) (ξ 0)) yes hd)) (tn (a := d + 10) (fk1 [_] [] (φ (κ 0) (ζ (ξ 0) (κ 10))) 1 1 (φ (κ 2) (ξ 0)) yes hd)) (tn (a := d + 1) (fk1 [_] [] (φ (κ 0) (ζ (ξ 0) (κ 1))) 1 1 (φ (κ 2) (ξ 0)) yes hd)))
  have ec2 : (10 : Int) ^ (d + 10).toNat = 10 ^ 9 * 10 ^ (d + 1).toNat := by rw [← pow_addI]; congr 1; exact Nat.le_antisymm (fk2 [_] [_,_] (φn (ν 0) (ζ (κ 9) (ν 1))) 1 1 (θ (ν 0) (ζ (ξ 0) (κ 10))) 1 (ϑ (ν 1) (ζ (ξ 0) (κ 1))) yes (tn (a := d + 10) (fk1 [_] [] (φ (κ 0) (ζ (ξ 0) (κ 10))) 1 1 (φ (κ 2) (ξ 0)) yes hd)) (tn (a := d + 1) (fk1 [_] [] (φ (κ 0) (ζ (ξ 0) (κ 1))) 1 1 (φ (κ 2) (ξ 0)) yes hd))) (fk2 [_] [_,_] (φn (ζ (κ 9) (ν 0)) (ν 1)) 1 1 (ϑ (ν 1) (ζ (ξ 0) (κ 10))) 1 (θ (ν 0) (ζ (ξ 0) (κ 1))) yes (tn (a := d + 10) (fk1 [_] [] (φ (κ 0) (ζ (ξ 0) (κ 10))) 1 1 (φ (κ 2) (ξ 0)) yes hd)) (tn (a := d + 1) (fk1 [_] [] (φ (κ 0) (ζ (ξ 0) (κ 1))) 1 1 (φ (κ 2) (ξ 0)) yes hd)))
  have c9 : (10 : Int) ^ 9 = 1000000000 := by decide
  have c10 : (10 : Int) ^ 10 = 10000000000 := by decide +kernel
  have hc : (10 : Int) ^ (2 * d + 11).toNat * 10 ^ (2 * d + 11).toNat ≤ 2 * 10 ^ (3 * d + 12).toNat * 10 ^ (d + 10).toNat := by
    have e : (10 : Int) ^ (2 * d + 11).toNat * 10 ^ (2 * d + 11).toNat = 10 ^ (3 * d + 12).toNat * 10 ^ (d + 10).toNat := by rw [← pow_addI, ← pow_addI]; congr 1; exact Nat.le_antisymm (fk3 [_] [_,_,_] (φn (ζ (ν 0) (ν 0)) (ζ (ν 1) (ν 2))) 1 2 (θ (ν 0) (ζ (π 2 (ξ 0)) (κ 11))) 1 (ϑ (ν 1) (ζ (π 3 (ξ 0)) (κ 12))) 1 (ϑ (ν 2) (ζ (ξ 0) (κ 10))) yes (tn (a := 2 * d + 11) (fk1 [_] [] (φ (κ 0) (ζ (π 2 (ξ 0)) (κ 11))) 1 2 (φ (κ 2) (ξ 0)) yes hd)) (tn (a := 3 * d + 12) (fk1 [_] [] (φ (κ 0) (ζ (π 3 (ξ 0)) (κ 12))) 1 3 (φ (κ 2) (ξ 0)) yes hd)) (tn (a := d + 10) (fk1 [_] [] (φ (κ 0) (ζ (ξ 0) (κ 10))) 1 1 (φ (κ 2) (ξ 0)) yes hd))) (fk3 [_] [_,_,_] (φn (ζ (ν 0) (ν 1)) (ζ (ν 2) (ν 2))) 1 2 (ϑ (ν 2) (ζ (π 2 (ξ 0)) (κ 11))) 1 (θ (ν 0) (ζ (π 3 (ξ 0)) (κ 12))) 1 (θ (ν 1) (ζ (ξ 0) (κ 10))) yes (tn (a := 2 * d + 11) (fk1 [_] [] (φ (κ 0) (ζ (π 2 (ξ 0)) (κ 11))) 1 2 (φ (κ 2) (ξ 0)) yes hd)) (tn (a := 3 * d + 12) (fk1 [_] [] (φ (κ 0) (ζ (π 3 (ξ 0)) (κ 12))) 1 3 (φ (κ 2) (ξ 0)) yes hd)) (tn (a := d + 10) (fk1 [_] [] (φ (κ 0) (ζ (ξ 0) (κ 10))) 1 1 (φ (κ 2) (ξ 0)) yes hd)))
    have := Int.mul_pos (pow_pos10 (3 * d + 12).toNat) (pow_pos10 (d + 10).toNat)
    rw [e, Int.mul_assoc]; exact fk1 [_] [] (φ (ξ 0) (π 2 (ξ 0))) 1 1 (ψ (κ 0) (ξ 0)) yes this
  have hq : (10 : Int) ^ (2 * d + 11).toNat * 10 ^ (d + 10).toNat ≤ 10 ^ (3 * d + 12).toNat * 10 ^ 9 := by
    have e : (10 : Int) ^ (2 * d + 11).toNat * 10 ^ (d + 10).toNat = 10 ^ (3 * d + 12).toNat * 10 ^ 9 := by rw [← pow_addI, ← pow_addI]; congr 1; exact Nat.le_antisymm (fk3 [_] [_,_,_] (φn (ζ (ν 0) (ν 1)) (ζ (ν 2) (κ 9))) 1 1 (θ (ν 0) (ζ (π 2 (ξ 0)) (κ 11))) 1 (θ (ν 1) (ζ (ξ 0) (κ 10))) 1 (ϑ (ν 2) (ζ (π 3 (ξ 0)) (κ 12))) yes (tn (a := 2 * d + 11) (fk1 [_] [] (φ (κ 0) (ζ (π 2 (ξ 0)) (κ 11))) 1 2 (φ (κ 2) (ξ 0)) yes hd)) (tn (a := d + 10) (fk1 [_] [] (φ (κ 0) (ζ (ξ 0) (κ 10))) 1 1 (φ (κ 2) (ξ 0)) yes hd)) (tn (a := 3 * d + 12) (fk1 [_] [] (φ (κ 0) (ζ (π 3 (ξ 0)) (κ 12))) 1 3 (φ (κ 2) (ξ 0)) yes hd))) (fk3 [_] [_,_,_] (φn (ζ (ν 0) (κ 9)) (ζ (ν 1) (ν 2))) 1 1 (ϑ (ν 1) (ζ (π 2 (ξ 0)) (κ 11))) 1 (ϑ (ν 2) (ζ (ξ 0) (κ 10))) 1 (θ (ν 0) (ζ (π 3 (ξ 0)) (κ 12))) yes (tn (a := 2 * d + 11) (fk1 [_] [] (φ (κ 0) (ζ (π 2 (ξ 0)) (κ 11))) 1 2 (φ (κ 2) (ξ 0)) yes hd)) (tn (a := d + 10) (fk1 [_] [] (φ (κ 0) (ζ (ξ 0) (κ 10))) 1 1 (φ (κ 2) (ξ 0)) yes hd)) (tn (a := 3 * d + 12) (fk1 [_] [] (φ (κ 0) (ζ (π 3 (ξ 0)) (κ 12))) 1 3 (φ (κ 2) (ξ 0)) yes hd)))
    rw [e]; exact Int.le_refl _
  have l1 := hv_low ok hT hc (Int.le_of_lt (pow_pos10 _)) hq (by decide)
  have h1 := hv_half ok
  have ok1 := hvOk' ok
  have l2 := hv_low ok1 (T := 10 ^ (2 * d + 11).toNat) (by exact fk3 [_,_,_] [] (φ (ξ 0) (ξ 1)) 1 1 (φ (ξ 2) (ξ 1)) 1 (φ (π 2 (ξ 0)) (ξ 2)) 1 (φ (κ 0) (ξ 0)) yes hT h1.1 h1.2) hc (Int.le_of_lt (pow_pos10 _)) hq (by decide)
  have h2 := hv_half ok1
  have run := arcV_run (places := 3 * d + 12) ok
  have sq := sqV_ok ok
  have lo := arF_low (pow_pos10 (3 * d + 12).toNat) sq.2 sq.1 199 _ _ (hv2_ok ok).lo run
  have up := arc_bounds (p := 3 * d + 12) ok
  refine ⟨up.2, ?_⟩
  rw [arcV_eq]
  have eR : arcR (3 * d + 12).toNat t = (arF (sqV (3 * d + 12).toNat t) (10 ^ (3 * d + 12).toNat) 200 (hv (3 * d + 12).toNat (hv (3 * d + 12).toNat t)) 0 1 1).getD 0 := rfl
  have eq2 : (hv (3 * d + 12).toNat (hv (3 * d + 12).toNat t) * hv (3 * d + 12).toNat (hv (3 * d + 12).toNat t)).fdiv (10 ^ (3 * d + 12).toNat) = sqV (3 * d + 12).toNat t := rfl
  rw [eq2, ← eR] at lo
  have s2 : ((hv (3 * d + 12).toNat (hv (3 * d + 12).toNat t) * sqV (3 * d + 12).toNat t).fdiv (10 ^ (3 * d + 12).toNat)).fdiv 3 ≤ 1000000000 := by
    have hone := pow_pos10 (3 * d + 12).toNat
    have sv : sqV (3 * d + 12).toNat t ≤ 10 ^ (d + 10).toNat := by
      rw [← eq2, fdivP hone]
      have a := div_lo (a := hv (3 * d + 12).toNat (hv (3 * d + 12).toNat t) * hv (3 * d + 12).toNat (hv (3 * d + 12).toNat t)) hone
      have b := mul_le_mul2 h2.2 (by exact fk4 [_,_,_,_] [] (φ (ξ 0) (ξ 1)) 1 1 (φ (ξ 2) (ξ 1)) 1 (φ (π 2 (ξ 3)) (ξ 2)) 2 (φ (π 2 (ξ 0)) (ξ 3)) 3 (φ (κ 0) (ξ 0)) yes hT h1.1 h2.1 h2.2 : hv (3 * d + 12).toNat (hv (3 * d + 12).toNat t) ≤ 10 ^ (2 * d + 11).toNat) h2.2 (by exact fk4 [_,_,_,_] [] (φ (ξ 0) (ξ 1)) 1 1 (φ (ξ 2) (ξ 1)) 1 (φ (π 2 (ξ 3)) (ξ 2)) 2 (φ (π 2 (ξ 0)) (ξ 3)) 3 (φ (κ 0) (ξ 0)) yes hT h1.1 h2.1 h2.2 : hv (3 * d + 12).toNat (hv (3 * d + 12).toNat t) ≤ 10 ^ (2 * d + 11).toNat)
      have e : (10 : Int) ^ (2 * d + 11).toNat * 10 ^ (2 * d + 11).toNat = 10 ^ (d + 10).toNat * 10 ^ (3 * d + 12).toNat := by rw [← pow_addI, ← pow_addI]; congr 1; exact Nat.le_antisymm (fk3 [_] [_,_,_] (φn (ζ (ν 0) (ν 0)) (ζ (ν 1) (ν 2))) 1 2 (θ (ν 0) (ζ (π 2 (ξ 0)) (κ 11))) 1 (ϑ (ν 1) (ζ (ξ 0) (κ 10))) 1 (ϑ (ν 2) (ζ (π 3 (ξ 0)) (κ 12))) yes (tn (a := 2 * d + 11) (fk1 [_] [] (φ (κ 0) (ζ (π 2 (ξ 0)) (κ 11))) 1 2 (φ (κ 2) (ξ 0)) yes hd)) (tn (a := d + 10) (fk1 [_] [] (φ (κ 0) (ζ (ξ 0) (κ 10))) 1 1 (φ (κ 2) (ξ 0)) yes hd)) (tn (a := 3 * d + 12) (fk1 [_] [] (φ (κ 0) (ζ (π 3 (ξ 0)) (κ 12))) 1 3 (φ (κ 2) (ξ 0)) yes hd))) (fk3 [_] [_,_,_] (φn (ζ (ν 0) (ν 1)) (ζ (ν 2) (ν 2))) 1 2 (ϑ (ν 2) (ζ (π 2 (ξ 0)) (κ 11))) 1 (θ (ν 0) (ζ (ξ 0) (κ 10))) 1 (θ (ν 1) (ζ (π 3 (ξ 0)) (κ 12))) yes (tn (a := 2 * d + 11) (fk1 [_] [] (φ (κ 0) (ζ (π 2 (ξ 0)) (κ 11))) 1 2 (φ (κ 2) (ξ 0)) yes hd)) (tn (a := d + 10) (fk1 [_] [] (φ (κ 0) (ζ (ξ 0) (κ 10))) 1 1 (φ (κ 2) (ξ 0)) yes hd)) (tn (a := 3 * d + 12) (fk1 [_] [] (φ (κ 0) (ζ (π 3 (ξ 0)) (κ 12))) 1 3 (φ (κ 2) (ξ 0)) yes hd)))
      rw [e] at b
      exact Int.le_of_mul_le_mul_right (Int.le_trans a b) hone
    have tv : (hv (3 * d + 12).toNat (hv (3 * d + 12).toNat t) * sqV (3 * d + 12).toNat t).fdiv (10 ^ (3 * d + 12).toNat) ≤ 10 ^ 9 := by
      rw [fdivP hone]
      have a := div_lo (a := hv (3 * d + 12).toNat (hv (3 * d + 12).toNat t) * sqV (3 * d + 12).toNat t) hone
      have b := mul_le_mul2 h2.2 (by exact fk4 [_,_,_,_] [] (φ (ξ 0) (ξ 1)) 1 1 (φ (ξ 2) (ξ 1)) 1 (φ (π 2 (ξ 3)) (ξ 2)) 2 (φ (π 2 (ξ 0)) (ξ 3)) 3 (φ (κ 0) (ξ 0)) yes hT h1.1 h2.1 h2.2 : hv (3 * d + 12).toNat (hv (3 * d + 12).toNat t) ≤ 10 ^ (2 * d + 11).toNat) sq.1 sv
      have b' := Int.le_trans b hq
      rw [Int.mul_comm ((10 : Int) ^ (3 * d + 12).toNat)] at b'
      exact Int.le_of_mul_le_mul_right (Int.le_trans a b') hone
    rw [fdivP (by decide)]
    lia
  rw [c9] at l1 l2
  exact fk5 [_,_,_,_,_,_] [] (φ (δ (ξ 0) (ξ 1)) (π 4 (ξ 2))) 1 1 (ϑ (ξ 1) (κ 10000000000)) 1 (φ (δ (δ (ξ 0) (κ 1000000000)) (κ 2)) (π 2 (ξ 3))) 2 (φ (δ (δ (ξ 3) (κ 1000000000)) (κ 2)) (π 2 (ξ 4))) 4 (φ (δ (ξ 4) (ξ 5)) (ξ 2)) 4 (φ (ξ 5) (κ 1000000000)) yes c10 l1 l2 lo s2
end Mine
end
section
open Mine.FLx (ξ ν κ ζ δ η π ω)
open Mine.FCx (φ ψ θ ϑ Φ Ψ φn ψn θn ϑn Φn Ψn)
namespace Mine
theorem arcCond_tiny {m d : Int} (hm : 0 < m ∧ m < 10000) (hd : 2 ≤ d) (hd1 : d ≤ 7) : ArcCond m (-d - cd m - 1) d := by
  have c1 := cd_pos (x := m) (by exact fun hq => fn2 [_] [] 1 (ψ (κ 0) (ξ 0)) 1 (θ (ξ 0) (κ 0)) yes hm.1 hq)
  have c4 := cd_le (x := m) (k := 4) (by exact fk1 [_] [] (φ (κ 0) (ξ 0)) 1 1 (ψ (κ 0) (ξ 0)) yes hm.1) (by lia)
  have hp : pfV m (-d - cd m - 1) d = (d + if cd m > d then cd m else d) + 10 := by
    unfold pfV
    have : ¬ (cd m + (-d - cd m - 1) > 0) := by exact fk1 [_,_] [] (Ψ (κ 0) (ζ (ξ 0) (δ (δ (η (ξ 1)) (ξ 0)) (κ 1)))) 1 1 (φ (κ 2) (ξ 1)) yes hd
    rw [if_neg this]; exact Int.le_antisymm (fk0 [_,_] [] (φ (ζ (ζ (ζ (ξ 0) (ξ 1)) (κ 10)) (κ 0)) (ζ (ζ (ξ 0) (ξ 1)) (κ 10))) 1  yes ) (fk0 [_,_] [] (φ (ζ (ζ (ξ 0) (ξ 1)) (κ 10)) (ζ (ζ (ζ (ξ 0) (ξ 1)) (κ 10)) (κ 0))) 1  yes )
  have hp1 : 14 ≤ pfV m (-d - cd m - 1) d ∧ pfV m (-d - cd m - 1) d ≤ 24 := by rw [hp]; split <;> lia
  have hs : 9 ≤ -d - cd m - 1 + pfV m (-d - cd m - 1) d := by rw [hp]; split <;> lia
  have eN : apN m (-d - cd m - 1) d = m * 10 ^ (-d - cd m - 1 + pfV m (-d - cd m - 1) d).toNat := absI_of_nn (Int.mul_nonneg (by exact fk1 [_] [] (φ (κ 0) (ξ 0)) 1 1 (ψ (κ 0) (ξ 0)) yes hm.1) (Int.le_of_lt (pow_pos10 _)))
  have N0 : 0 < apN m (-d - cd m - 1) d := by rw [eN]; exact Int.mul_pos hm.1 (pow_pos10 _)
  have N1 : apN m (-d - cd m - 1) d ≤ 10 ^ (pfV m (-d - cd m - 1) d).toNat := by
    rw [eN]
    have q1 : m * 10 ^ (-d - cd m - 1 + pfV m (-d - cd m - 1) d).toNat ≤ 10 ^ (cd m).toNat * 10 ^ (-d - cd m - 1 + pfV m (-d - cd m - 1) d).toNat := Int.mul_le_mul_of_nonneg_right (Int.le_of_lt (lt_pow_cdI (by exact fk1 [_] [] (φ (κ 0) (ξ 0)) 1 1 (ψ (κ 0) (ξ 0)) yes hm.1))) (Int.le_of_lt (pow_pos10 _))
    rw [← pow_addI] at q1
    exact Int.le_trans q1 (pow10_mono (by exact fk4 [_,_,_] [_,_,_] (φn (ζ (ν 0) (ν 1)) (ν 2)) 1 1 (φ (κ 2) (ξ 0)) 1 (θ (ν 0) (ξ 1)) 1 (θ (ν 1) (ζ (δ (δ (η (ξ 0)) (ξ 1)) (κ 1)) (ξ 2))) 1 (ϑ (ν 2) (ξ 2)) yes hd (tn (a := cd m) (fk1 [_] [] (φ (κ 0) (ξ 0)) 1 1 (φ (κ 1) (ξ 0)) yes c1)) (tn (a := -d - cd m - 1 + pfV m (-d - cd m - 1) d) (fk1 [_,_,_] [] (φ (κ 0) (ζ (δ (δ (η (ξ 0)) (ξ 1)) (κ 1)) (ξ 2))) 1 1 (φ (κ 9) (ζ (δ (δ (η (ξ 0)) (ξ 1)) (κ 1)) (ξ 2))) yes hs)) (tn (a := pfV m (-d - cd m - 1) d) (fk1 [_] [] (φ (κ 0) (ξ 0)) 1 1 (φ (κ 14) (ξ 0)) yes hp1.1))))
  generalize hP : pfV m (-d - cd m - 1) d = P at *
  have hone := pow_pos10 P.toNat
  have e24 : (10 : Int) ^ P.toNat ≤ 10 ^ 24 := pow10_mono (by exact fk2 [_] [_] (φn (ν 0) (κ 24)) 1 1 (φ (ξ 0) (κ 24)) 1 (θ (ν 0) (ξ 0)) yes hp1.2 (tn (a := P) (fk1 [_] [] (φ (κ 0) (ξ 0)) 1 1 (φ (κ 14) (ξ 0)) yes hp1.1)))
  have nn : 0 ≤ 10 ^ P.toNat * 10 ^ P.toNat - apN m (-d - cd m - 1) d * apN m (-d - cd m - 1) d := by
    have := Int.mul_le_mul N1 N1 (by exact fk1 [_] [] (φ (κ 0) (ξ 0)) 1 1 (ψ (κ 0) (ξ 0)) yes N0) (by exact fk1 [_] [] (φ (κ 0) (ξ 0)) 1 1 (ψ (κ 0) (ξ 0)) yes hone)
    exact fk1 [_,_] [] (φ (κ 0) (δ (ξ 0) (ξ 1))) 1 1 (φ (ξ 1) (ξ 0)) yes this
  have sq0 := sq_nn (apN m (-d - cd m - 1) d)
  have up : (10 : Int) ^ P.toNat * 10 ^ P.toNat ≤ 10 ^ 48 := by rw [← pow_addI]; exact pow10_mono (by exact fk2 [_] [_] (φn (ζ (ν 0) (ν 0)) (κ 48)) 1 2 (φ (ξ 0) (κ 24)) 2 (θ (ν 0) (ξ 0)) yes hp1.2 (tn (a := P) (fk1 [_] [] (φ (κ 0) (ξ 0)) 1 1 (φ (κ 14) (ξ 0)) yes hp1.1)))
  have b48 : (10 : Int) ^ 48 < 10 ^ 49 := by decide +kernel
  have eO : apO m (-d - cd m - 1) d = isq (10 ^ P.toNat * 10 ^ P.toNat - apN m (-d - cd m - 1) d * apN m (-d - cd m - 1) d) := by unfold apO; rw [hP]
  obtain ⟨o1, o2, o3⟩ := isq_spec nn
  rw [← eO] at o1 o2 o3
  have ou : apO m (-d - cd m - 1) d ≤ 10 ^ P.toNat := by
    rcases Int.lt_or_le (10 ^ P.toNat) (apO m (-d - cd m - 1) d) with h | h
    · have := Int.mul_le_mul (Int.le_of_lt h) (Int.le_of_lt h) (by exact fk1 [_] [] (φ (κ 0) (ξ 0)) 1 1 (ψ (κ 0) (ξ 0)) yes hone) (by omega)
      exfalso
      have h2 : (10 ^ P.toNat + 1) * (10 ^ P.toNat + 1) ≤ apO m (-d - cd m - 1) d * apO m (-d - cd m - 1) d := Int.mul_le_mul (by exact fk1 [_,_] [] (φ (ζ (ξ 0) (κ 1)) (ξ 1)) 1 1 (ψ (ξ 0) (ξ 1)) yes h) (by exact fk1 [_,_] [] (φ (ζ (ξ 0) (κ 1)) (ξ 1)) 1 1 (ψ (ξ 0) (ξ 1)) yes h) (by exact fk1 [_] [] (φ (κ 0) (ζ (ξ 0) (κ 1))) 1 1 (ψ (κ 0) (ξ 0)) yes hone) (by omega)
      grind
    · exact h
  have r1 := ra_bounds (a := apN m (-d - cd m - 1) d) (b := apO m (-d - cd m - 1) d) (p := P) (by exact fk1 [_] [] (φ (κ 0) (ξ 0)) 1 1 (φ (κ 14) (ξ 0)) yes hp1.1) (by exact fk1 [_] [] (φ (ξ 0) (κ 100)) 1 1 (φ (ξ 0) (κ 24)) yes hp1.2) (by exact fk1 [_] [] (φ (κ 0) (ξ 0)) 1 1 (ψ (κ 0) (ξ 0)) yes N0) o3
  have r2 := ra_bounds (a := apO m (-d - cd m - 1) d) (b := apN m (-d - cd m - 1) d) (p := P) (by exact fk1 [_] [] (φ (κ 0) (ξ 0)) 1 1 (φ (κ 14) (ξ 0)) yes hp1.1) (by exact fk1 [_] [] (φ (ξ 0) (κ 100)) 1 1 (φ (ξ 0) (κ 24)) yes hp1.2) o3 (by exact fk1 [_] [] (φ (κ 0) (ξ 0)) 1 1 (ψ (κ 0) (ξ 0)) yes N0)
  have ht := ht_crude (p := P) (by exact fk1 [_] [] (φ (κ 0) (ξ 0)) 1 1 (φ (κ 14) (ξ 0)) yes hp1.1) (by exact fk1 [_] [] (φ (ξ 0) (κ 100)) 1 1 (φ (ξ 0) (κ 24)) yes hp1.2)
  have b24 : (5 : Int) * 10 ^ 24 < 10 ^ 49 := by decide +kernel
  refine ⟨sm_small (by omega), by rw [hP]; exact fk3 [_,_,_] [] (φ (κ 0) (ζ (δ (δ (η (ξ 0)) (ξ 1)) (κ 1)) (ξ 2))) 1 1 (φ (ξ 0) (κ 7)) 1 (φ (ξ 1) (κ 4)) 1 (φ (κ 14) (ξ 2)) yes hd1 c4 hp1.1, by rw [hP]; exact fk3 [_,_,_] [] (φ (ζ (δ (δ (η (ξ 0)) (ξ 1)) (κ 1)) (ξ 2)) (κ 1000)) 1 1 (φ (κ 2) (ξ 0)) 1 (φ (κ 1) (ξ 1)) 1 (φ (ξ 2) (κ 24)) yes hd c1 hp1.2, by rw [hP]; exact fk1 [_] [] (φ (κ 0) (ξ 0)) 1 1 (φ (κ 14) (ξ 0)) yes hp1.1, by rw [hP]; exact fk1 [_] [] (φ (ξ 0) (κ 100)) 1 1 (φ (ξ 0) (κ 24)) yes hp1.2, by rw [hP]; exact nn, by rw [hP]; exact Int.le_trans (cd_abs_le (k := 49) (by exact fk4 [_,_,_,_] [] (ψ (η (ξ 0)) (δ (ξ 1) (ξ 2))) 1 2 (φ (κ 0) (δ (ξ 1) (ξ 2))) 1 (φ (κ 0) (ξ 2)) 1 (φ (ξ 1) (ξ 3)) 1 (ψ (ξ 3) (ξ 0)) yes nn sq0 up b48) (by exact fk3 [_,_,_,_] [] (ψ (δ (ξ 0) (ξ 1)) (ξ 2)) 1 1 (φ (κ 0) (ξ 1)) 1 (φ (ξ 0) (ξ 3)) 1 (ψ (ξ 3) (ξ 2)) yes sq0 up b48)) (by decide), sm_of_le (k := 49) (by decide) (by exact fk5 [_,_,_,_,_] [] (φ (η (ξ 0)) (ξ 1)) 1 1 (ψ (κ 0) (ξ 1)) 1 (φ (κ 0) (δ (ξ 2) (ξ 3))) 1 (φ (κ 0) (ξ 3)) 1 (φ (ξ 2) (ξ 4)) 1 (ψ (ξ 4) (ξ 0)) yes N0 nn sq0 up b48) (by exact fk4 [_,_,_,_] [] (φ (ξ 0) (ξ 1)) 1 1 (φ (ξ 0) (ξ 2)) 4 (ψ (κ 0) (ξ 2)) 5 (φ (ξ 2) (ξ 3)) 1 (ψ (π 5 (ξ 3)) (ξ 1)) yes N1 hone e24 b24), sm_of_le (k := 49) (by decide) (by exact fk5 [_,_,_,_,_] [] (φ (η (ξ 0)) (ξ 1)) 1 1 (φ (κ 0) (δ (ξ 2) (ξ 3))) 1 (φ (κ 0) (ξ 3)) 1 (φ (ξ 2) (ξ 4)) 1 (ψ (ξ 4) (ξ 0)) 1 (φ (κ 0) (ξ 1)) yes nn sq0 up b48 o3) (by exact fk4 [_,_,_,_] [] (φ (ξ 0) (ξ 1)) 1 4 (ψ (κ 0) (ξ 2)) 5 (φ (ξ 2) (ξ 3)) 1 (φ (ξ 0) (ξ 2)) 1 (ψ (π 5 (ξ 3)) (ξ 1)) yes hone e24 ou b24), fun z => by exact fn2 [_] [] 1 (ψ (κ 0) (ξ 0)) 1 (θ (ξ 0) (κ 0)) yes N0 z.1, ?_, ?_⟩
  · have e : asA m (-d - cd m - 1) d = raV (apN m (-d - cd m - 1) d) (apO m (-d - cd m - 1) d) P := by unfold asA; rw [hP]
    rw [e]; exact Int.le_trans (cd_abs_le (k := 49) (by exact fk4 [_,_,_,_] [] (ψ (η (ξ 0)) (ξ 1)) 1 4 (ψ (κ 0) (ξ 2)) 5 (φ (ξ 2) (ξ 3)) 1 (φ (η (ξ 2)) (ξ 1)) 1 (ψ (π 5 (ξ 3)) (ξ 0)) yes hone e24 r1.1 b24) (by exact fk4 [_,_,_,_] [] (ψ (ξ 0) (ξ 1)) 1 1 (ψ (κ 0) (ξ 2)) 5 (φ (ξ 2) (ξ 3)) 1 (φ (ξ 0) (π 4 (ξ 2))) 1 (ψ (π 5 (ξ 3)) (ξ 1)) yes hone e24 r1.2 b24)) (by decide)
  · have e : acA m (-d - cd m - 1) d = raV (apO m (-d - cd m - 1) d) (apN m (-d - cd m - 1) d) P := by unfold acA; rw [hP, if_neg (by exact fk1 [_] [] (Ψ (ξ 0) (κ 0)) 1 1 (ψ (κ 0) (ξ 0)) yes hm.1)]
    rw [e]; exact Int.le_trans (cd_abs_le (k := 49) (by exact fk4 [_,_,_,_] [] (ψ (η (ξ 0)) (ξ 1)) 1 4 (ψ (κ 0) (ξ 2)) 5 (φ (ξ 2) (ξ 3)) 1 (φ (η (ξ 2)) (ξ 1)) 1 (ψ (π 5 (ξ 3)) (ξ 0)) yes hone e24 r2.1 b24) (by exact fk4 [_,_,_,_] [] (ψ (ξ 0) (ξ 1)) 1 1 (ψ (κ 0) (ξ 2)) 5 (φ (ξ 2) (ξ 3)) 1 (φ (ξ 0) (π 4 (ξ 2))) 1 (ψ (π 5 (ξ 3)) (ξ 1)) yes hone e24 r2.2 b24)) (by decide)
theorem near_self {x y d : Int} (hd : 2 ≤ d) (hd1 : d ≤ 7) (hx : 0 < x) (hx1 : x < 10 ^ 200) (hy : -60 ≤ y ∧ y ≤ 5) : NearOk x y x y d ∧ nearB x y x y d 1 = true := by
  have p := pow_pos10 (y + 120).toNat
  have b : (10 : Int) ^ 200 < 10 ^ 300 := by decide +kernel
  have q := pow_pos10 (y + 120 - d).toNat
  refine near_of (c := y) hd hd1 (by decide) (by exact ⟨fk1 [_] [] (φ (η (κ 105)) (ξ 0)) 1 1 (φ (η (κ 60)) (ξ 0)) yes hy.1, fk1 [_] [] (φ (ξ 0) (κ 10)) 1 1 (φ (ξ 0) (κ 5)) yes hy.2⟩) (by exact ⟨fk1 [_] [] (φ (η (κ 105)) (ξ 0)) 1 1 (φ (η (κ 60)) (ξ 0)) yes hy.1, fk1 [_] [] (φ (ξ 0) (κ 10)) 1 1 (φ (ξ 0) (κ 5)) yes hy.2⟩) (by exact fk0 [_] [] (φ (ξ 0) (ξ 0)) 1  yes ) (by exact fk1 [_] [] (φ (ξ 0) (κ 10)) 1 1 (φ (ξ 0) (κ 5)) yes hy.2) (by exact ⟨fk3 [_,_,_] [] (ψ (η (ξ 0)) (ξ 1)) 1 2 (ψ (κ 0) (ξ 1)) 1 (ψ (ξ 1) (ξ 2)) 1 (ψ (ξ 2) (ξ 0)) yes hx hx1 b, fk2 [_,_,_] [] (ψ (ξ 0) (ξ 1)) 1 1 (ψ (ξ 0) (ξ 2)) 1 (ψ (ξ 2) (ξ 1)) yes hx1 b⟩) (by exact ⟨fk3 [_,_,_] [] (ψ (η (ξ 0)) (ξ 1)) 1 2 (ψ (κ 0) (ξ 1)) 1 (ψ (ξ 1) (ξ 2)) 1 (ψ (ξ 2) (ξ 0)) yes hx hx1 b, fk2 [_,_,_] [] (ψ (ξ 0) (ξ 1)) 1 1 (ψ (ξ 0) (ξ 2)) 1 (ψ (ξ 2) (ξ 1)) yes hx1 b⟩) ?_ ?_ ?_
  · have h1 : (10 : Int) ^ (y + 119).toNat ≤ 10 ^ (y + 120).toNat := pow10_mono (by exact fk2 [_] [_,_] (φn (ν 0) (ν 1)) 1 1 (θ (ν 0) (ζ (ξ 0) (κ 119))) 1 (ϑ (ν 1) (ζ (ξ 0) (κ 120))) yes (tn (a := y + 119) (fk1 [_] [] (φ (κ 0) (ζ (ξ 0) (κ 119))) 1 1 (φ (η (κ 60)) (ξ 0)) yes hy.1)) (tn (a := y + 120) (fk1 [_] [] (φ (κ 0) (ζ (ξ 0) (κ 120))) 1 1 (φ (η (κ 60)) (ξ 0)) yes hy.1)))
    have h2 : 1 * (10 : Int) ^ (y + 120).toNat ≤ x * 10 ^ (y + 120).toNat := Int.mul_le_mul_of_nonneg_right (by exact fk1 [_] [] (φ (κ 1) (ξ 0)) 1 1 (ψ (κ 0) (ξ 0)) yes hx) (by exact fk1 [_] [] (φ (κ 0) (ξ 0)) 1 1 (ψ (κ 0) (ξ 0)) yes p)
    exact fk2 [_,_,_] [] (φ (ξ 0) (ξ 1)) 1 1 (φ (ξ 0) (ξ 2)) 1 (φ (π 1 (ξ 2)) (ξ 1)) yes h1 h2
  · exact fk1 [_,_] [] (φ (δ (ξ 0) (ξ 0)) (π 1 (ξ 1))) 1 1 (ψ (κ 0) (ξ 1)) yes q
  · exact fk1 [_,_] [] (φ (δ (ξ 0) (ξ 0)) (π 1 (ξ 1))) 1 1 (ψ (κ 0) (ξ 1)) yes q
end Mine
end
section
open Mine.FLx (ξ ν κ ζ δ η π ω)
open Mine.FCx (φ ψ θ ϑ Φ Ψ φn ψn θn ϑn Φn Ψn)
namespace Mine
theorem rd_pow {x y d : Int} (hx : 0 < x) (hd : 1 ≤ d) : ∃ j : Nat, (rd x y d).2 = y + j ∧ (j : Int) ≤ cd x ∧ 0 < (rd x y d).1 ∧ (rd x y d).1 ≤ 10 ^ (cd x).toNat ∧ 
    2 * ((rd x y d).1 * 10 ^ j - x) ≤ unitI x d ∧ 2 * (x - (rd x y d).1 * 10 ^ j) ≤ unitI x d ∧ 10 ^ (cd x - 1).toNat ≤ (rd x y d).1 * 10 ^ j ∧ (∃ q, (rd x y d).1 * 10 ^ j = q * unitI x d) ∧ (cd x ≤ d → (rd x y d).1 * 10 ^ j = x) := by
  obtain ⟨j, g1, g2, g3, g4, g5, g6, g7, g8⟩ := rd_spec (y := y) hx hd
  have c0 := cd_pos (x := x) (by exact fun hq => fn2 [_] [] 1 (ψ (κ 0) (ξ 0)) 1 (θ (ξ 0) (κ 0)) yes hx hq)
  have ca := cd_pos (x := (rd x y d).1) (by exact fun hq => fn2 [_] [] 1 (ψ (κ 0) (ξ 0)) 1 (θ (ξ 0) (κ 0)) yes g2 hq)
  have cj := cd_mul_pow (x := (rd x y d).1) j (by exact fun hq => fn2 [_] [] 1 (ψ (κ 0) (ξ 0)) 1 (θ (ξ 0) (κ 0)) yes g2 hq)
  have cp : cd ((10 : Int) ^ (cd x).toNat) = cd x + 1 := by
    have := cd_mul_pow (x := 1) (cd x).toNat (by decide)
    rw [Int.one_mul] at this
    have h : cd 1 = 1 := rfl
    exact Int.le_antisymm (fk3 [_,_,_] [_] (φ (ξ 0) (ζ (ξ 1) (κ 1))) 1 1 (θ (ξ 0) (ζ (ξ 2) (ν 0))) 1 (θ (ξ 2) (κ 1)) 1 (θ (ν 0) (ξ 1)) yes this h (tn (a := cd x) (fk1 [_] [] (φ (κ 0) (ξ 0)) 1 1 (φ (κ 1) (ξ 0)) yes c0))) (fk3 [_,_,_] [_] (φ (ζ (ξ 0) (κ 1)) (ξ 1)) 1 1 (ϑ (ξ 1) (ζ (ξ 2) (ν 0))) 1 (ϑ (ξ 2) (κ 1)) 1 (ϑ (ν 0) (ξ 0)) yes this h (tn (a := cd x) (fk1 [_] [] (φ (κ 0) (ξ 0)) 1 1 (φ (κ 1) (ξ 0)) yes c0)))
  have cm := cd_monoI (by have := pow_pos10 (cd x - 1).toNat; exact fk2 [_,_] [] (φ (κ 0) (ξ 0)) 1 1 (φ (ξ 1) (ξ 0)) 1 (ψ (κ 0) (ξ 1)) yes g6 this) g5
  have aj : (rd x y d).1 * 1 ≤ (rd x y d).1 * 10 ^ j := Int.mul_le_mul_of_nonneg_left (pow_ge_one j) (by exact fk1 [_] [] (φ (κ 0) (ξ 0)) 1 1 (ψ (κ 0) (ξ 0)) yes g2)
  exact ⟨j, g1, by exact fk4 [_,_,_,_] [_] (φ (ν 0) (ξ 0)) 1 1 (φ (κ 1) (ξ 1)) 1 (ϑ (ξ 2) (ζ (ξ 1) (ν 0))) 1 (θ (ξ 3) (ζ (ξ 0) (κ 1))) 1 (φ (ξ 2) (ξ 3)) yes ca cj cp cm, g2, by exact fk2 [_,_,_] [] (φ (ξ 0) (ξ 1)) 1 1 (φ (ξ 2) (ξ 1)) 1 (φ (ω (ξ 0) 1) (ξ 2)) yes g5 aj, g3, g4, g6, g7, g8⟩
theorem tiny_round {m d : Int} (hm : 0 < m ∧ m < 10000) (hd : 2 ≤ d) (hd1 : d ≤ 7) :
    ∃ a2 b2, at2V m (-d - cd m - 1) 1 0 d 99 = some (a2, b2) ∧ NearOk a2 b2 (rd m (-d - cd m - 1) d).1 (rd m (-d - cd m - 1) d).2 d ∧ nearB a2 b2 (rd m (-d - cd m - 1) d).1 (rd m (-d - cd m - 1) d).2 d 1 = true := by
  have c1 := cd_pos (x := m) (by exact fun hq => fn2 [_] [] 1 (ψ (κ 0) (ξ 0)) 1 (θ (ξ 0) (κ 0)) yes hm.1 hq)
  have c4 := cd_le (x := m) (k := 4) (by exact fk1 [_] [] (φ (κ 0) (ξ 0)) 1 1 (ψ (κ 0) (ξ 0)) yes hm.1) (by lia)
  generalize he : -d - cd m - 1 = e at *
  have hc1 : cd 1 = 1 := rfl
  have hP : atP m e 1 0 d = 3 * d + 12 := by
    unfold atP
    rw [if_pos (by exact fk3 [_,_,_,_] [] (ψ (κ 0) (δ (ζ (ξ 0) (κ 0)) (ζ (ξ 1) (ξ 2)))) 1 1 (φ (κ 2) (ξ 3)) 1 (ϑ (δ (δ (η (ξ 3)) (ξ 1)) (κ 1)) (ξ 2)) 1 (ϑ (ξ 0) (κ 1)) yes hd he hc1)]; exact Int.le_antisymm (fk2 [_,_,_,_] [] (φ (ζ (ζ (π 2 (ξ 0)) (κ 10)) (δ (ζ (ξ 1) (κ 0)) (ζ (ξ 2) (ξ 3)))) (ζ (π 3 (ξ 0)) (κ 12))) 1 1 (θ (δ (δ (η (ξ 0)) (ξ 2)) (κ 1)) (ξ 3)) 1 (θ (ξ 1) (κ 1)) yes he hc1) (fk2 [_,_,_,_] [] (φ (ζ (π 3 (ξ 0)) (κ 12)) (ζ (ζ (π 2 (ξ 0)) (κ 10)) (δ (ζ (ξ 1) (κ 0)) (ζ (ξ 2) (ξ 3))))) 1 1 (ϑ (δ (δ (η (ξ 0)) (ξ 2)) (κ 1)) (ξ 3)) 1 (ϑ (ξ 1) (κ 1)) yes he hc1)
  have hlow : lowV e 0 = e := by unfold lowV; rw [if_neg (by exact fk3 [_,_,_] [] (Ψ (κ 0) (ξ 0)) 1 1 (φ (κ 2) (ξ 1)) 1 (φ (κ 1) (ξ 2)) 1 (ϑ (δ (δ (η (ξ 1)) (ξ 2)) (κ 1)) (ξ 0)) yes hd c1 he)]
  have hone : absI 1 = 1 := rfl
  have e0 : (10 : Int) ^ (e - e).toNat = 1 := by have : e - e = 0 := by exact Int.le_antisymm (fk0 [_] [] (φ (δ (ξ 0) (ξ 0)) (κ 0)) 1  yes ) (fk0 [_] [] (φ (κ 0) (δ (ξ 0) (ξ 0))) 1  yes )
                                                 rw [this]; rfl
  have hA : atA m e 1 0 d = arcV (m * 10 ^ (3 * d + 12 + e).toNat) (3 * d + 12) := by
    unfold atA
    rw [hP, hlow, hone, absI_of_nn (by exact fk1 [_] [] (φ (κ 0) (ξ 0)) 1 1 (ψ (κ 0) (ξ 0)) yes hm.1 : 0 ≤ m), e0, Int.mul_one, Int.one_mul]
    have hb : (10 : Int) ^ (0 - e).toNat = 10 ^ (-e).toNat := by congr 1; lia
    have hle : m ≤ 10 ^ (-e).toNat := Int.le_trans (Int.le_of_lt (lt_pow_cdI (by exact fk1 [_] [] (φ (κ 0) (ξ 0)) 1 1 (ψ (κ 0) (ξ 0)) yes hm.1))) (pow10_mono (by exact fk4 [_,_,_] [_,_] (φn (ν 0) (ν 1)) 1 1 (φ (κ 2) (ξ 0)) 1 (ϑ (δ (δ (η (ξ 0)) (ξ 1)) (κ 1)) (ξ 2)) 1 (θ (ν 0) (ξ 1)) 1 (ϑ (ν 1) (η (ξ 2))) yes hd he (tn (a := cd m) (fk1 [_] [] (φ (κ 0) (ξ 0)) 1 1 (φ (κ 1) (ξ 0)) yes c1)) (tn (a := -e) (fk3 [_,_,_] [] (φ (κ 0) (η (ξ 0))) 1 1 (φ (κ 2) (ξ 1)) 1 (φ (κ 1) (ξ 2)) 1 (ϑ (δ (δ (η (ξ 1)) (ξ 2)) (κ 1)) (ξ 0)) yes hd c1 he))))
    unfold raV
    rw [hb, if_pos hle]
    congr 1
    have : m * 10 ^ (3 * d + 12).toNat = (m * 10 ^ (3 * d + 12 + e).toNat) * 10 ^ (-e).toNat := by
      rw [Int.mul_assoc, ← pow_addI]; congr 2; exact Nat.le_antisymm (fk3 [_,_] [_,_,_] (φn (ν 0) (ζ (ν 1) (ν 2))) 1 1 (θ (ν 0) (ζ (π 3 (ξ 0)) (κ 12))) 1 (ϑ (ν 1) (ζ (ζ (π 3 (ξ 0)) (κ 12)) (ξ 1))) 1 (ϑ (ν 2) (η (ξ 1))) yes (tn (a := 3 * d + 12) (fk1 [_] [] (φ (κ 0) (ζ (π 3 (ξ 0)) (κ 12))) 1 3 (φ (κ 2) (ξ 0)) yes hd)) (tn (a := 3 * d + 12 + e) (fk3 [_,_,_] [] (φ (κ 0) (ζ (ζ (π 3 (ξ 0)) (κ 12)) (ξ 1))) 1 2 (φ (κ 2) (ξ 0)) 1 (φ (ξ 2) (κ 4)) 1 (θ (δ (δ (η (ξ 0)) (ξ 2)) (κ 1)) (ξ 1)) yes hd c4 he)) (tn (a := -e) (fk3 [_,_,_] [] (φ (κ 0) (η (ξ 0))) 1 1 (φ (κ 2) (ξ 1)) 1 (φ (κ 1) (ξ 2)) 1 (ϑ (δ (δ (η (ξ 1)) (ξ 2)) (κ 1)) (ξ 0)) yes hd c1 he))) (fk3 [_,_] [_,_,_] (φn (ζ (ν 0) (ν 1)) (ν 2)) 1 1 (ϑ (ν 2) (ζ (π 3 (ξ 0)) (κ 12))) 1 (θ (ν 0) (ζ (ζ (π 3 (ξ 0)) (κ 12)) (ξ 1))) 1 (θ (ν 1) (η (ξ 1))) yes (tn (a := 3 * d + 12) (fk1 [_] [] (φ (κ 0) (ζ (π 3 (ξ 0)) (κ 12))) 1 3 (φ (κ 2) (ξ 0)) yes hd)) (tn (a := 3 * d + 12 + e) (fk3 [_,_,_] [] (φ (κ 0) (ζ (ζ (π 3 (ξ 0)) (κ 12)) (ξ 1))) 1 2 (φ (κ 2) (ξ 0)) 1 (φ (ξ 2) (κ 4)) 1 (θ (δ (δ (η (ξ 0)) (ξ 2)) (κ 1)) (ξ 1)) yes hd c4 he)) (tn (a := -e) (fk3 [_,_,_] [] (φ (κ 0) (η (ξ 0))) 1 1 (φ (κ 2) (ξ 1)) 1 (φ (κ 1) (ξ 2)) 1 (ϑ (δ (δ (η (ξ 1)) (ξ 2)) (κ 1)) (ξ 0)) yes hd c1 he)))
    rw [this, fdivP (pow_pos10 _), Int.mul_ediv_cancel _ (by have := pow_pos10 (-e).toNat; exact fun hq => fn2 [_] [] 1 (ψ (κ 0) (ξ 0)) 1 (θ (ξ 0) (κ 0)) yes this hq)]
  have ps := pow_pos10 (3 * d + 12 + e).toNat
  have t0 : 10 ^ (2 * d + 10).toNat ≤ m * 10 ^ (3 * d + 12 + e).toNat := by
    have := Int.mul_le_mul_of_nonneg_right (pow_dg_leI hm.1) (Int.le_of_lt ps)
    rw [← pow_addI] at this
    have e1 : (cd m - 1).toNat + (3 * d + 12 + e).toNat = (2 * d + 10).toNat := by exact Nat.le_antisymm (fk4 [_,_,_] [_,_,_] (φn (ζ (ν 0) (ν 1)) (ν 2)) 1 1 (ϑ (δ (δ (η (ξ 0)) (ξ 1)) (κ 1)) (ξ 2)) 1 (θ (ν 0) (δ (ξ 1) (κ 1))) 1 (θ (ν 1) (ζ (ζ (π 3 (ξ 0)) (κ 12)) (ξ 2))) 1 (ϑ (ν 2) (ζ (π 2 (ξ 0)) (κ 10))) yes he (tn (a := cd m - 1) (fk1 [_] [] (φ (κ 0) (δ (ξ 0) (κ 1))) 1 1 (φ (κ 1) (ξ 0)) yes c1)) (tn (a := 3 * d + 12 + e) (fk3 [_,_,_] [] (φ (κ 0) (ζ (ζ (π 3 (ξ 0)) (κ 12)) (ξ 1))) 1 2 (φ (κ 2) (ξ 0)) 1 (φ (ξ 2) (κ 4)) 1 (θ (δ (δ (η (ξ 0)) (ξ 2)) (κ 1)) (ξ 1)) yes hd c4 he)) (tn (a := 2 * d + 10) (fk1 [_] [] (φ (κ 0) (ζ (π 2 (ξ 0)) (κ 10))) 1 2 (φ (κ 2) (ξ 0)) yes hd))) (fk4 [_,_,_] [_,_,_] (φn (ν 0) (ζ (ν 1) (ν 2))) 1 1 (θ (δ (δ (η (ξ 0)) (ξ 1)) (κ 1)) (ξ 2)) 1 (ϑ (ν 1) (δ (ξ 1) (κ 1))) 1 (ϑ (ν 2) (ζ (ζ (π 3 (ξ 0)) (κ 12)) (ξ 2))) 1 (θ (ν 0) (ζ (π 2 (ξ 0)) (κ 10))) yes he (tn (a := cd m - 1) (fk1 [_] [] (φ (κ 0) (δ (ξ 0) (κ 1))) 1 1 (φ (κ 1) (ξ 0)) yes c1)) (tn (a := 3 * d + 12 + e) (fk3 [_,_,_] [] (φ (κ 0) (ζ (ζ (π 3 (ξ 0)) (κ 12)) (ξ 1))) 1 2 (φ (κ 2) (ξ 0)) 1 (φ (ξ 2) (κ 4)) 1 (θ (δ (δ (η (ξ 0)) (ξ 2)) (κ 1)) (ξ 1)) yes hd c4 he)) (tn (a := 2 * d + 10) (fk1 [_] [] (φ (κ 0) (ζ (π 2 (ξ 0)) (κ 10))) 1 2 (φ (κ 2) (ξ 0)) yes hd)))
    rw [e1] at this; exact this
  have t1 : m * 10 ^ (3 * d + 12 + e).toNat < 10 ^ (2 * d + 11).toNat := by
    have := Int.mul_lt_mul_of_pos_right (lt_pow_cdI (by exact fk1 [_] [] (φ (κ 0) (ξ 0)) 1 1 (ψ (κ 0) (ξ 0)) yes hm.1 : 0 ≤ m)) ps
    rw [← pow_addI] at this
    have e1 : (cd m).toNat + (3 * d + 12 + e).toNat = (2 * d + 11).toNat := by exact Nat.le_antisymm (fk4 [_,_,_] [_,_,_] (φn (ζ (ν 0) (ν 1)) (ν 2)) 1 1 (ϑ (δ (δ (η (ξ 0)) (ξ 1)) (κ 1)) (ξ 2)) 1 (θ (ν 0) (ξ 1)) 1 (θ (ν 1) (ζ (ζ (π 3 (ξ 0)) (κ 12)) (ξ 2))) 1 (ϑ (ν 2) (ζ (π 2 (ξ 0)) (κ 11))) yes he (tn (a := cd m) (fk1 [_] [] (φ (κ 0) (ξ 0)) 1 1 (φ (κ 1) (ξ 0)) yes c1)) (tn (a := 3 * d + 12 + e) (fk3 [_,_,_] [] (φ (κ 0) (ζ (ζ (π 3 (ξ 0)) (κ 12)) (ξ 1))) 1 2 (φ (κ 2) (ξ 0)) 1 (φ (ξ 2) (κ 4)) 1 (θ (δ (δ (η (ξ 0)) (ξ 2)) (κ 1)) (ξ 1)) yes hd c4 he)) (tn (a := 2 * d + 11) (fk1 [_] [] (φ (κ 0) (ζ (π 2 (ξ 0)) (κ 11))) 1 2 (φ (κ 2) (ξ 0)) yes hd))) (fk4 [_,_,_] [_,_,_] (φn (ν 0) (ζ (ν 1) (ν 2))) 1 1 (θ (δ (δ (η (ξ 0)) (ξ 1)) (κ 1)) (ξ 2)) 1 (ϑ (ν 1) (ξ 1)) 1 (ϑ (ν 2) (ζ (ζ (π 3 (ξ 0)) (κ 12)) (ξ 2))) 1 (θ (ν 0) (ζ (π 2 (ξ 0)) (κ 11))) yes he (tn (a := cd m) (fk1 [_] [] (φ (κ 0) (ξ 0)) 1 1 (φ (κ 1) (ξ 0)) yes c1)) (tn (a := 3 * d + 12 + e) (fk3 [_,_,_] [] (φ (κ 0) (ζ (ζ (π 3 (ξ 0)) (κ 12)) (ξ 1))) 1 2 (φ (κ 2) (ξ 0)) 1 (φ (ξ 2) (κ 4)) 1 (θ (δ (δ (η (ξ 0)) (ξ 2)) (κ 1)) (ξ 1)) yes hd c4 he)) (tn (a := 2 * d + 11) (fk1 [_] [] (φ (κ 0) (ζ (π 2 (ξ 0)) (κ 11))) 1 2 (φ (κ 2) (ξ 0)) yes hd)))
    rw [e1] at this; exact this
  obtain ⟨r1, r2⟩ := arc_tiny hd hd1 (t := m * 10 ^ (3 * d + 12 + e).toNat) (Int.le_of_lt (Int.mul_pos hm.1 ps)) (Int.le_of_lt t1)
  rw [← hA] at r1 r2
  obtain ⟨j1, g1, g1b, g2, g2b, g3, g4, g6, ⟨q1, g7⟩, g8⟩ := rd_pow (x := m) (y := e) (d := d) hm.1 (by exact fk1 [_] [] (φ (κ 1) (ξ 0)) 1 1 (φ (κ 2) (ξ 0)) yes hd)
  generalize hr : atA m e 1 0 d = r at *
  have c10 : (10 : Int) ^ 10 = 10000000000 := by decide +kernel
  have p9 : (10 : Int) ^ (2 * d + 10).toNat = 10 ^ (2 * d + 9).toNat * 10 := by rw [← Int.pow_succ]; congr 1; exact Nat.le_antisymm (fk2 [_] [_,_] (φn (ν 0) (ζ (ν 1) (κ 1))) 1 1 (θ (ν 0) (ζ (π 2 (ξ 0)) (κ 10))) 1 (ϑ (ν 1) (ζ (π 2 (ξ 0)) (κ 9))) yes (tn (a := 2 * d + 10) (fk1 [_] [] (φ (κ 0) (ζ (π 2 (ξ 0)) (κ 10))) 1 2 (φ (κ 2) (ξ 0)) yes hd)) (tn (a := 2 * d + 9) (fk1 [_] [] (φ (κ 0) (ζ (π 2 (ξ 0)) (κ 9))) 1 2 (φ (κ 2) (ξ 0)) yes hd))) (fk2 [_] [_,_] (φn (ζ (ν 0) (κ 1)) (ν 1)) 1 1 (ϑ (ν 1) (ζ (π 2 (ξ 0)) (κ 10))) 1 (θ (ν 0) (ζ (π 2 (ξ 0)) (κ 9))) yes (tn (a := 2 * d + 10) (fk1 [_] [] (φ (κ 0) (ζ (π 2 (ξ 0)) (κ 10))) 1 2 (φ (κ 2) (ξ 0)) yes hd)) (tn (a := 2 * d + 9) (fk1 [_] [] (φ (κ 0) (ζ (π 2 (ξ 0)) (κ 9))) 1 2 (φ (κ 2) (ξ 0)) yes hd)))
  have p13 : (10 : Int) ^ 13 ≤ 10 ^ (2 * d + 9).toNat := pow10_mono (by exact fk2 [_] [_] (φn (κ 13) (ν 0)) 1 2 (φ (κ 2) (ξ 0)) 1 (ϑ (ν 0) (ζ (π 2 (ξ 0)) (κ 9))) yes hd (tn (a := 2 * d + 9) (fk1 [_] [] (φ (κ 0) (ζ (π 2 (ξ 0)) (κ 9))) 1 2 (φ (κ 2) (ξ 0)) yes hd)))
  have c13 : (10 : Int) ^ 13 = 10000000000000 := by decide +kernel
  have r0 : 0 < r := by exact fk6 [_,_,_,_,_,_] [] (ψ (κ 0) (ξ 0)) 1 1 (φ (ξ 1) (ξ 2)) 1 (φ (δ (ξ 2) (ξ 3)) (ξ 0)) 1 (θ (ξ 3) (κ 10000000000)) 1 (ϑ (ξ 1) (ω (ξ 4) 10)) 10 (φ (ξ 5) (ξ 4)) 10 (ϑ (ξ 5) (κ 10000000000000)) yes t0 r2 c10 p9 p13 c13
  have cr1 := le_cd (x := r) (k := (2 * d + 9).toNat) (by exact fk6 [_,_,_,_,_,_] [] (φ (ξ 0) (ξ 1)) 1 1 (φ (ξ 2) (ξ 3)) 1 (φ (δ (ξ 3) (ξ 4)) (ξ 1)) 1 (θ (ξ 4) (κ 10000000000)) 1 (ϑ (ξ 2) (ω (ξ 0) 10)) 9 (φ (ξ 5) (ξ 0)) 9 (ϑ (ξ 5) (κ 10000000000000)) yes t0 r2 c10 p9 p13 c13)
  have cr2 := cd_le (x := r) (k := (2 * d + 11).toNat) (by exact fk1 [_] [] (φ (κ 0) (ξ 0)) 1 1 (ψ (κ 0) (ξ 0)) yes r0) (by exact fk2 [_,_,_] [] (ψ (ξ 0) (ξ 1)) 1 1 (ψ (ξ 2) (ξ 1)) 1 (φ (ξ 0) (ξ 2)) yes t1 r1)
  obtain ⟨j2, k1, k1b, k2, k2b, k3, k4, k6, ⟨q2, k7⟩, k8⟩ := rd_pow (x := r) (y := -(3 * d + 12)) (d := d) r0 (by exact fk1 [_] [] (φ (κ 1) (ξ 0)) 1 1 (φ (κ 2) (ξ 0)) yes hd)
  have hs := rr_some (x := r) (y := -(3 * d + 12)) (d := d) (top := 99) r0 (by exact fk1 [_] [] (φ (κ 1) (ξ 0)) 1 1 (φ (κ 2) (ξ 0)) yes hd) (by exact fk3 [_,_] [_] (φ (η (κ 99)) (δ (ζ (η (ζ (π 3 (ξ 0)) (κ 12))) (ξ 1)) (κ 1))) 1 3 (φ (ξ 0) (κ 7)) 1 (φ (ζ (ν 0) (κ 1)) (ξ 1)) 1 (φn (κ 0) (ν 0)) yes hd1 cr1 (Nat.zero_le _)) (by exact fk3 [_,_] [_] (φ (ζ (η (ζ (π 3 (ξ 0)) (κ 12))) (ξ 1)) (κ 99)) 1 1 (φ (κ 2) (ξ 0)) 1 (φ (ξ 1) (ν 0)) 1 (θ (ν 0) (ζ (π 2 (ξ 0)) (κ 11))) yes hd cr2 (tn (a := 2 * d + 11) (fk1 [_] [] (φ (κ 0) (ζ (π 2 (ξ 0)) (κ 11))) 1 2 (φ (κ 2) (ξ 0)) yes hd)))
  refine ⟨(rd r (-(3 * d + 12)) d).1, (rd r (-(3 * d + 12)) d).2, at_g (by exact fun hq => fn2 [_] [] 1 (ψ (κ 0) (ξ 0)) 1 (θ (ξ 0) (κ 0)) yes hm.1 hq) (by decide) (by exact fk3 [_,_,_,_] [] (Ψ (ζ (ξ 0) (κ 2)) (δ (ζ (ξ 1) (ξ 2)) (ζ (ξ 3) (κ 0)))) 1 2 (φ (κ 2) (ξ 0)) 1 (ϑ (δ (δ (η (ξ 0)) (ξ 1)) (κ 1)) (ξ 2)) 1 (ϑ (ξ 3) (κ 1)) yes hd he hc1) (by exact fk2 [_,_,_,_] [] (Ψ (ζ (ξ 0) (κ 2)) (δ (ζ (ξ 1) (κ 0)) (ζ (ξ 2) (ξ 3)))) 1 1 (θ (δ (δ (η (ξ 0)) (ξ 2)) (κ 1)) (ξ 3)) 1 (θ (ξ 1) (κ 1)) yes he hc1) ?_, ?_⟩
  · rw [hP]
    unfold sgn atB
    rw [if_neg (by exact fk1 [_] [] (Ψ (ξ 0) (κ 0)) 1 1 (ψ (κ 0) (ξ 0)) yes hm.1), if_neg (by decide), hr]; exact hs
  · generalize (rd r (-(3 * d + 12)) d).1 = A2 at *
    generalize (rd r (-(3 * d + 12)) d).2 = B2 at *
    generalize (rd m e d).1 = A1 at *
    generalize (rd m e d).2 = B1 at *
    have hz := pow_pos10 (120 - (3 * d + 12)).toNat
    have eU : (10 : Int) ^ (d + 11).toNat * 10 ^ (120 - (3 * d + 12)).toNat = 10 ^ (-d - 1 + 120 - d).toNat := by rw [← pow_addI]; congr 1; exact Nat.le_antisymm (fk3 [_] [_,_,_] (φn (ζ (ν 0) (ν 1)) (ν 2)) 1 1 (θ (ν 0) (ζ (ξ 0) (κ 11))) 1 (θ (ν 1) (δ (κ 120) (ζ (π 3 (ξ 0)) (κ 12)))) 1 (ϑ (ν 2) (δ (ζ (δ (η (ξ 0)) (κ 1)) (κ 120)) (ξ 0))) yes (tn (a := d + 11) (fk1 [_] [] (φ (κ 0) (ζ (ξ 0) (κ 11))) 1 1 (φ (κ 2) (ξ 0)) yes hd)) (tn (a := 120 - (3 * d + 12)) (fk1 [_] [] (φ (κ 0) (δ (κ 120) (ζ (π 3 (ξ 0)) (κ 12)))) 1 3 (φ (ξ 0) (κ 7)) yes hd1)) (tn (a := -d - 1 + 120 - d) (fk1 [_] [] (φ (κ 0) (δ (ζ (δ (η (ξ 0)) (κ 1)) (κ 120)) (ξ 0))) 1 2 (φ (ξ 0) (κ 7)) yes hd1))) (fk3 [_] [_,_,_] (φn (ν 0) (ζ (ν 1) (ν 2))) 1 1 (ϑ (ν 1) (ζ (ξ 0) (κ 11))) 1 (ϑ (ν 2) (δ (κ 120) (ζ (π 3 (ξ 0)) (κ 12)))) 1 (θ (ν 0) (δ (ζ (δ (η (ξ 0)) (κ 1)) (κ 120)) (ξ 0))) yes (tn (a := d + 11) (fk1 [_] [] (φ (κ 0) (ζ (ξ 0) (κ 11))) 1 1 (φ (κ 2) (ξ 0)) yes hd)) (tn (a := 120 - (3 * d + 12)) (fk1 [_] [] (φ (κ 0) (δ (κ 120) (ζ (π 3 (ξ 0)) (κ 12)))) 1 3 (φ (ξ 0) (κ 7)) yes hd1)) (tn (a := -d - 1 + 120 - d) (fk1 [_] [] (φ (κ 0) (δ (ζ (δ (η (ξ 0)) (κ 1)) (κ 120)) (ξ 0))) 1 2 (φ (ξ 0) (κ 7)) yes hd1)))
    have eX1 : A1 * 10 ^ (B1 + 120).toNat = (A1 * 10 ^ j1 * 10 ^ (3 * d + 12 + e).toNat) * 10 ^ (120 - (3 * d + 12)).toNat := by
      rw [Int.mul_assoc, Int.mul_assoc, ← pow_addI, ← pow_addI]; congr 2; exact Nat.le_antisymm (fk4 [_,_,_] [_,_,_,_] (φn (ν 0) (ζ (ν 1) (ζ (ν 2) (ν 3)))) 1 1 (θ (ξ 0) (ζ (ξ 1) (ν 1))) 1 (θ (ν 0) (ζ (ξ 0) (κ 120))) 1 (ϑ (ν 2) (ζ (ζ (π 3 (ξ 2)) (κ 12)) (ξ 1))) 1 (ϑ (ν 3) (δ (κ 120) (ζ (π 3 (ξ 2)) (κ 12)))) yes g1 (tn (a := B1 + 120) (fk5 [_,_,_,_] [_] (φ (κ 0) (ζ (ξ 0) (κ 120))) 1 1 (φ (ξ 1) (κ 7)) 1 (φ (ξ 2) (κ 4)) 1 (θ (δ (δ (η (ξ 1)) (ξ 2)) (κ 1)) (ξ 3)) 1 (ϑ (ξ 0) (ζ (ξ 3) (ν 0))) 1 (φn (κ 0) (ν 0)) yes hd1 c4 he g1 (Nat.zero_le _))) (tn (a := 3 * d + 12 + e) (fk3 [_,_,_] [] (φ (κ 0) (ζ (ζ (π 3 (ξ 0)) (κ 12)) (ξ 1))) 1 2 (φ (κ 2) (ξ 0)) 1 (φ (ξ 2) (κ 4)) 1 (θ (δ (δ (η (ξ 0)) (ξ 2)) (κ 1)) (ξ 1)) yes hd c4 he)) (tn (a := 120 - (3 * d + 12)) (fk1 [_] [] (φ (κ 0) (δ (κ 120) (ζ (π 3 (ξ 0)) (κ 12)))) 1 3 (φ (ξ 0) (κ 7)) yes hd1))) (fk4 [_,_,_] [_,_,_,_] (φn (ζ (ν 0) (ζ (ν 1) (ν 2))) (ν 3)) 1 1 (ϑ (ξ 0) (ζ (ξ 1) (ν 0))) 1 (ϑ (ν 3) (ζ (ξ 0) (κ 120))) 1 (θ (ν 1) (ζ (ζ (π 3 (ξ 2)) (κ 12)) (ξ 1))) 1 (θ (ν 2) (δ (κ 120) (ζ (π 3 (ξ 2)) (κ 12)))) yes g1 (tn (a := B1 + 120) (fk5 [_,_,_,_] [_] (φ (κ 0) (ζ (ξ 0) (κ 120))) 1 1 (φ (ξ 1) (κ 7)) 1 (φ (ξ 2) (κ 4)) 1 (θ (δ (δ (η (ξ 1)) (ξ 2)) (κ 1)) (ξ 3)) 1 (ϑ (ξ 0) (ζ (ξ 3) (ν 0))) 1 (φn (κ 0) (ν 0)) yes hd1 c4 he g1 (Nat.zero_le _))) (tn (a := 3 * d + 12 + e) (fk3 [_,_,_] [] (φ (κ 0) (ζ (ζ (π 3 (ξ 0)) (κ 12)) (ξ 1))) 1 2 (φ (κ 2) (ξ 0)) 1 (φ (ξ 2) (κ 4)) 1 (θ (δ (δ (η (ξ 0)) (ξ 2)) (κ 1)) (ξ 1)) yes hd c4 he)) (tn (a := 120 - (3 * d + 12)) (fk1 [_] [] (φ (κ 0) (δ (κ 120) (ζ (π 3 (ξ 0)) (κ 12)))) 1 3 (φ (ξ 0) (κ 7)) yes hd1)))
    have eX2 : A2 * 10 ^ (B2 + 120).toNat = (A2 * 10 ^ j2) * 10 ^ (120 - (3 * d + 12)).toNat := by
      rw [Int.mul_assoc, ← pow_addI]; congr 2; exact Nat.le_antisymm (fk3 [_,_] [_,_,_] (φn (ν 0) (ζ (ν 1) (ν 2))) 1 1 (θ (ξ 0) (ζ (η (ζ (π 3 (ξ 1)) (κ 12))) (ν 1))) 1 (θ (ν 0) (ζ (ξ 0) (κ 120))) 1 (ϑ (ν 2) (δ (κ 120) (ζ (π 3 (ξ 1)) (κ 12)))) yes k1 (tn (a := B2 + 120) (fk3 [_,_] [_] (φ (κ 0) (ζ (ξ 0) (κ 120))) 1 3 (φ (ξ 1) (κ 7)) 1 (ϑ (ξ 0) (ζ (η (ζ (π 3 (ξ 1)) (κ 12))) (ν 0))) 1 (φn (κ 0) (ν 0)) yes hd1 k1 (Nat.zero_le _))) (tn (a := 120 - (3 * d + 12)) (fk1 [_] [] (φ (κ 0) (δ (κ 120) (ζ (π 3 (ξ 0)) (κ 12)))) 1 3 (φ (ξ 0) (κ 7)) yes hd1))) (fk3 [_,_] [_,_,_] (φn (ζ (ν 0) (ν 1)) (ν 2)) 1 1 (ϑ (ξ 0) (ζ (η (ζ (π 3 (ξ 1)) (κ 12))) (ν 0))) 1 (ϑ (ν 2) (ζ (ξ 0) (κ 120))) 1 (θ (ν 1) (δ (κ 120) (ζ (π 3 (ξ 1)) (κ 12)))) yes k1 (tn (a := B2 + 120) (fk3 [_,_] [_] (φ (κ 0) (ζ (ξ 0) (κ 120))) 1 3 (φ (ξ 1) (κ 7)) 1 (ϑ (ξ 0) (ζ (η (ζ (π 3 (ξ 1)) (κ 12))) (ν 0))) 1 (φn (κ 0) (ν 0)) yes hd1 k1 (Nat.zero_le _))) (tn (a := 120 - (3 * d + 12)) (fk1 [_] [] (φ (κ 0) (δ (κ 120) (ζ (π 3 (ξ 0)) (κ 12)))) 1 3 (φ (ξ 0) (κ 7)) yes hd1)))
    have U13 : (10 : Int) ^ 13 ≤ 10 ^ (d + 11).toNat := pow10_mono (by exact fk2 [_] [_] (φn (κ 13) (ν 0)) 1 1 (φ (κ 2) (ξ 0)) 1 (ϑ (ν 0) (ζ (ξ 0) (κ 11))) yes hd (tn (a := d + 11) (fk1 [_] [] (φ (κ 0) (ζ (ξ 0) (κ 11))) 1 1 (φ (κ 2) (ξ 0)) yes hd)))
    have X1 : 2 * (A1 * 10 ^ j1 * 10 ^ (3 * d + 12 + e).toNat - m * 10 ^ (3 * d + 12 + e).toNat) ≤ 10 ^ (d + 11).toNat ∧ 2 * (m * 10 ^ (3 * d + 12 + e).toNat - A1 * 10 ^ j1 * 10 ^ (3 * d + 12 + e).toNat) ≤ 10 ^ (d + 11).toNat ∧
        ∃ q, A1 * 10 ^ j1 * 10 ^ (3 * d + 12 + e).toNat = q * 10 ^ (d + 11).toNat := by
      by_cases hc : cd m ≤ d
      · rw [g8 hc]
        refine ⟨by exact fk2 [_,_,_] [] (φ (π 2 (δ (ξ 0) (ξ 0))) (ξ 1)) 1 1 (ϑ (ξ 2) (κ 10000000000000)) 1 (φ (ξ 2) (ξ 1)) yes c13 U13, by exact fk2 [_,_,_] [] (φ (π 2 (δ (ξ 0) (ξ 0))) (ξ 1)) 1 1 (ϑ (ξ 2) (κ 10000000000000)) 1 (φ (ξ 2) (ξ 1)) yes c13 U13, m * 10 ^ (3 * d + 12 + e - (d + 11)).toNat, ?_⟩
        rw [Int.mul_assoc, ← pow_addI]; congr 2; exact Nat.le_antisymm (fk3 [_,_] [_,_,_] (φn (ν 0) (ζ (ν 1) (ν 2))) 1 1 (θ (ν 0) (ζ (ζ (π 3 (ξ 0)) (κ 12)) (ξ 1))) 1 (ϑ (ν 1) (δ (ζ (ζ (π 3 (ξ 0)) (κ 12)) (ξ 1)) (ζ (ξ 0) (κ 11)))) 1 (ϑ (ν 2) (ζ (ξ 0) (κ 11))) yes (tn (a := 3 * d + 12 + e) (fk3 [_,_,_] [] (φ (κ 0) (ζ (ζ (π 3 (ξ 0)) (κ 12)) (ξ 1))) 1 1 (φ (κ 1) (ξ 2)) 1 (θ (δ (δ (η (ξ 0)) (ξ 2)) (κ 1)) (ξ 1)) 2 (φ (ξ 2) (ξ 0)) yes c1 he hc)) (tn (a := 3 * d + 12 + e - (d + 11)) (fk2 [_,_,_] [] (φ (κ 0) (δ (ζ (ζ (π 3 (ξ 0)) (κ 12)) (ξ 1)) (ζ (ξ 0) (κ 11)))) 1 1 (θ (δ (δ (η (ξ 0)) (ξ 2)) (κ 1)) (ξ 1)) 1 (φ (ξ 2) (ξ 0)) yes he hc)) (tn (a := d + 11) (fk1 [_] [] (φ (κ 0) (ζ (ξ 0) (κ 11))) 1 1 (φ (κ 2) (ξ 0)) yes hd))) (fk3 [_,_] [_,_,_] (φn (ζ (ν 0) (ν 1)) (ν 2)) 1 1 (ϑ (ν 2) (ζ (ζ (π 3 (ξ 0)) (κ 12)) (ξ 1))) 1 (θ (ν 0) (δ (ζ (ζ (π 3 (ξ 0)) (κ 12)) (ξ 1)) (ζ (ξ 0) (κ 11)))) 1 (θ (ν 1) (ζ (ξ 0) (κ 11))) yes (tn (a := 3 * d + 12 + e) (fk3 [_,_,_] [] (φ (κ 0) (ζ (ζ (π 3 (ξ 0)) (κ 12)) (ξ 1))) 1 1 (φ (κ 1) (ξ 2)) 1 (θ (δ (δ (η (ξ 0)) (ξ 2)) (κ 1)) (ξ 1)) 2 (φ (ξ 2) (ξ 0)) yes c1 he hc)) (tn (a := 3 * d + 12 + e - (d + 11)) (fk2 [_,_,_] [] (φ (κ 0) (δ (ζ (ζ (π 3 (ξ 0)) (κ 12)) (ξ 1)) (ζ (ξ 0) (κ 11)))) 1 1 (θ (δ (δ (η (ξ 0)) (ξ 2)) (κ 1)) (ξ 1)) 1 (φ (ξ 2) (ξ 0)) yes he hc)) (tn (a := d + 11) (fk1 [_] [] (φ (κ 0) (ζ (ξ 0) (κ 11))) 1 1 (φ (κ 2) (ξ 0)) yes hd)))
      · have eu : unitI m d * 10 ^ (3 * d + 12 + e).toNat = 10 ^ (d + 11).toNat := by unfold unitI; rw [← pow_addI]; congr 1; exact Nat.le_antisymm (fk4 [_,_,_] [_,_,_] (φn (ζ (ν 0) (ν 1)) (ν 2)) 1 1 (ϑ (δ (δ (η (ξ 0)) (ξ 1)) (κ 1)) (ξ 2)) 1 (θ (ν 0) (δ (ξ 1) (ξ 0))) 1 (θ (ν 1) (ζ (ζ (π 3 (ξ 0)) (κ 12)) (ξ 2))) 1 (ϑ (ν 2) (ζ (ξ 0) (κ 11))) yes he (tn (a := cd m - d) (fk1 [_,_] [] (φ (κ 0) (δ (ξ 0) (ξ 1))) 1 1 (Φ (ξ 0) (ξ 1)) yes hc)) (tn (a := 3 * d + 12 + e) (fk3 [_,_,_] [] (φ (κ 0) (ζ (ζ (π 3 (ξ 0)) (κ 12)) (ξ 1))) 1 2 (φ (κ 2) (ξ 0)) 1 (φ (ξ 2) (κ 4)) 1 (θ (δ (δ (η (ξ 0)) (ξ 2)) (κ 1)) (ξ 1)) yes hd c4 he)) (tn (a := d + 11) (fk1 [_] [] (φ (κ 0) (ζ (ξ 0) (κ 11))) 1 1 (φ (κ 2) (ξ 0)) yes hd))) (fk4 [_,_,_] [_,_,_] (φn (ν 0) (ζ (ν 1) (ν 2))) 1 1 (θ (δ (δ (η (ξ 0)) (ξ 1)) (κ 1)) (ξ 2)) 1 (ϑ (ν 1) (δ (ξ 1) (ξ 0))) 1 (ϑ (ν 2) (ζ (ζ (π 3 (ξ 0)) (κ 12)) (ξ 2))) 1 (θ (ν 0) (ζ (ξ 0) (κ 11))) yes he (tn (a := cd m - d) (fk1 [_,_] [] (φ (κ 0) (δ (ξ 0) (ξ 1))) 1 1 (Φ (ξ 0) (ξ 1)) yes hc)) (tn (a := 3 * d + 12 + e) (fk3 [_,_,_] [] (φ (κ 0) (ζ (ζ (π 3 (ξ 0)) (κ 12)) (ξ 1))) 1 2 (φ (κ 2) (ξ 0)) 1 (φ (ξ 2) (κ 4)) 1 (θ (δ (δ (η (ξ 0)) (ξ 2)) (κ 1)) (ξ 1)) yes hd c4 he)) (tn (a := d + 11) (fk1 [_] [] (φ (κ 0) (ζ (ξ 0) (κ 11))) 1 1 (φ (κ 2) (ξ 0)) yes hd)))
        have a := Int.mul_le_mul_of_nonneg_right g3 (Int.le_of_lt ps)
        have b := Int.mul_le_mul_of_nonneg_right g4 (Int.le_of_lt ps)
        rw [eu, Int.mul_assoc, Int.sub_mul] at a b
        exact ⟨a, b, q1, by rw [g7, Int.mul_assoc, eu]⟩
    obtain ⟨x1, x2, q, x3⟩ := X1
    have key : A1 * 10 ^ j1 * 10 ^ (3 * d + 12 + e).toNat - A2 * 10 ^ j2 ≤ 10 ^ (d + 11).toNat ∧ A2 * 10 ^ j2 - A1 * 10 ^ j1 * 10 ^ (3 * d + 12 + e).toNat ≤ 10 ^ (d + 11).toNat := by
      by_cases hcr : cd r = 2 * d + 11
      · have eu : unitI r d = 10 ^ (d + 11).toNat := by unfold unitI; congr 1; exact Nat.le_antisymm (fk3 [_,_] [_,_] (φn (ν 0) (ν 1)) 1 1 (θ (ξ 0) (ζ (π 2 (ξ 1)) (κ 11))) 1 (θ (ν 0) (δ (ξ 0) (ξ 1))) 1 (ϑ (ν 1) (ζ (ξ 1) (κ 11))) yes hcr (tn (a := cd r - d) (fk2 [_,_] [] (φ (κ 0) (δ (ξ 0) (ξ 1))) 1 1 (φ (κ 2) (ξ 1)) 1 (ϑ (ξ 0) (ζ (π 2 (ξ 1)) (κ 11))) yes hd hcr)) (tn (a := d + 11) (fk1 [_] [] (φ (κ 0) (ζ (ξ 0) (κ 11))) 1 1 (φ (κ 2) (ξ 0)) yes hd))) (fk3 [_,_] [_,_] (φn (ν 0) (ν 1)) 1 1 (ϑ (ξ 0) (ζ (π 2 (ξ 1)) (κ 11))) 1 (ϑ (ν 1) (δ (ξ 0) (ξ 1))) 1 (θ (ν 0) (ζ (ξ 1) (κ 11))) yes hcr (tn (a := cd r - d) (fk2 [_,_] [] (φ (κ 0) (δ (ξ 0) (ξ 1))) 1 1 (φ (κ 2) (ξ 1)) 1 (ϑ (ξ 0) (ζ (π 2 (ξ 1)) (κ 11))) yes hd hcr)) (tn (a := d + 11) (fk1 [_] [] (φ (κ 0) (ζ (ξ 0) (κ 11))) 1 1 (φ (κ 2) (ξ 0)) yes hd)))
        rw [eu] at k3 k4 k7
        generalize A1 * 10 ^ j1 * 10 ^ (3 * d + 12 + e).toNat = X at *
        generalize A2 * 10 ^ j2 = Y at *
        generalize (10 : Int) ^ (d + 11).toNat = U at *
        have h1 : X - Y < 2 * U := by exact fk6 [_,_,_,_,_,_,_] [] (ψ (δ (ξ 0) (ξ 1)) (π 2 (ξ 2))) 2 2 (φ (δ (ξ 3) (ξ 4)) (ξ 5)) 2 (θ (ξ 4) (κ 10000000000)) 2 (ϑ (ξ 6) (κ 10000000000000)) 2 (φ (ξ 6) (ξ 2)) 1 (φ (π 2 (δ (ξ 0) (ξ 3))) (ξ 2)) 1 (φ (π 2 (δ (ξ 5) (ξ 1))) (ξ 2)) yes r2 c10 c13 U13 x1 k4
        have h2 : Y - X < 2 * U := by exact fk4 [_,_,_,_,_] [] (ψ (δ (ξ 0) (ξ 1)) (π 2 (ξ 2))) 3 4 (φ (ξ 3) (ξ 4)) 2 (φ (π 2 (δ (ξ 4) (ξ 1))) (ξ 2)) 2 (φ (π 2 (δ (ξ 0) (ξ 3))) (ξ 2)) 1 (ψ (δ (ξ 1) (ξ 0)) (π 2 (ξ 2))) yes r1 x2 k3 h1
        subst x3
        subst k7
        have h3 : (q - q2) * U < 2 * U := by grind
        have h4 : (q2 - q) * U < 2 * U := by grind
        have h5 := Int.lt_of_mul_lt_mul_right h3 (by exact fk2 [_,_] [] (φ (κ 0) (ξ 0)) 1 1 (ϑ (ξ 1) (κ 10000000000000)) 1 (φ (ξ 1) (ξ 0)) yes c13 U13)
        have h6 := Int.lt_of_mul_lt_mul_right h4 (by exact fk2 [_,_] [] (φ (κ 0) (ξ 0)) 1 1 (ϑ (ξ 1) (κ 10000000000000)) 1 (φ (ξ 1) (ξ 0)) yes c13 U13)
        have hq : q = q2 ∨ q = q2 + 1 ∨ q = q2 - 1 := by lia
        rcases hq with rfl | rfl | rfl
        · exact ⟨fk1 [_,_] [] (φ (δ (ξ 0) (ξ 0)) (ξ 1)) 2 1 (ψ (δ (ξ 0) (ξ 0)) (π 2 (ξ 1))) yes h1, fk1 [_,_] [] (φ (δ (ξ 0) (ξ 0)) (ξ 1)) 2 1 (ψ (δ (ξ 0) (ξ 0)) (π 2 (ξ 1))) yes h1⟩
        · constructor <;> grind
        · constructor <;> grind
      · have c2 : cd r ≤ 2 * d + 11 := by exact fk2 [_,_] [_] (φ (ξ 0) (ζ (π 2 (ξ 1)) (κ 11))) 1 1 (φ (ξ 0) (ν 0)) 1 (θ (ν 0) (ζ (π 2 (ξ 1)) (κ 11))) yes cr2 (tn (a := 2 * d + 11) (fk1 [_] [] (φ (κ 0) (ζ (π 2 (ξ 0)) (κ 11))) 1 2 (φ (κ 2) (ξ 0)) yes hd))
        have h9 : cd r < 2 * d + 11 := Int.lt_iff_le_and_ne.mpr ⟨c2, hcr⟩
        have eu : unitI r d * 10 = 10 ^ (d + 11).toNat := by unfold unitI; rw [← Int.pow_succ]; congr 1; exact Nat.le_antisymm (fk3 [_,_] [_,_] (φn (ζ (ν 0) (κ 1)) (ν 1)) 1 1 (ψ (ξ 0) (ζ (π 2 (ξ 1)) (κ 11))) 1 (θ (ν 0) (δ (ξ 0) (ξ 1))) 1 (ϑ (ν 1) (ζ (ξ 1) (κ 11))) yes h9 (tn (a := cd r - d) (fk3 [_,_] [_] (φ (κ 0) (δ (ξ 0) (ξ 1))) 1 1 (φ (κ 2) (ξ 1)) 1 (φ (ζ (ν 0) (κ 1)) (ξ 0)) 1 (ϑ (ν 0) (ζ (π 2 (ξ 1)) (κ 9))) yes hd cr1 (tn (a := 2 * d + 9) (fk1 [_] [] (φ (κ 0) (ζ (π 2 (ξ 0)) (κ 9))) 1 2 (φ (κ 2) (ξ 0)) yes hd)))) (tn (a := d + 11) (fk1 [_] [] (φ (κ 0) (ζ (ξ 0) (κ 11))) 1 1 (φ (κ 2) (ξ 0)) yes hd))) (fk4 [_,_] [_,_,_] (φn (ν 0) (ζ (ν 1) (κ 1))) 1 1 (φ (ζ (ν 2) (κ 1)) (ξ 0)) 1 (ϑ (ν 2) (ζ (π 2 (ξ 1)) (κ 9))) 1 (ϑ (ν 1) (δ (ξ 0) (ξ 1))) 1 (θ (ν 0) (ζ (ξ 1) (κ 11))) yes cr1 (tn (a := 2 * d + 9) (fk1 [_] [] (φ (κ 0) (ζ (π 2 (ξ 0)) (κ 9))) 1 2 (φ (κ 2) (ξ 0)) yes hd)) (tn (a := cd r - d) (fk3 [_,_] [_] (φ (κ 0) (δ (ξ 0) (ξ 1))) 1 1 (φ (κ 2) (ξ 1)) 1 (φ (ζ (ν 0) (κ 1)) (ξ 0)) 1 (ϑ (ν 0) (ζ (π 2 (ξ 1)) (κ 9))) yes hd cr1 (tn (a := 2 * d + 9) (fk1 [_] [] (φ (κ 0) (ζ (π 2 (ξ 0)) (κ 9))) 1 2 (φ (κ 2) (ξ 0)) yes hd)))) (tn (a := d + 11) (fk1 [_] [] (φ (κ 0) (ζ (ξ 0) (κ 11))) 1 1 (φ (κ 2) (ξ 0)) yes hd)))
        generalize A1 * 10 ^ j1 * 10 ^ (3 * d + 12 + e).toNat = X at *
        generalize A2 * 10 ^ j2 = Y at *
        generalize unitI r d = V at *
        exact ⟨fk7 [_,_,_,_,_,_,_,_] [] (φ (δ (ξ 0) (ξ 1)) (ξ 2)) 20 20 (φ (δ (ξ 3) (ξ 4)) (ξ 5)) 20 (θ (ξ 4) (κ 10000000000)) 9 (ϑ (ξ 6) (κ 10000000000000)) 9 (φ (ξ 6) (ξ 2)) 10 (φ (π 2 (δ (ξ 0) (ξ 3))) (ξ 2)) 1 (θ (ω (ξ 7) 10) (ξ 2)) 10 (φ (π 2 (δ (ξ 5) (ξ 1))) (ξ 7)) yes r2 c10 c13 U13 x1 eu k4, fk6 [_,_,_,_,_,_,_] [] (φ (δ (ξ 0) (ξ 1)) (ξ 2)) 20 20 (φ (ξ 3) (ξ 4)) 9 (ϑ (ξ 5) (κ 10000000000000)) 9 (φ (ξ 5) (ξ 2)) 10 (φ (π 2 (δ (ξ 4) (ξ 1))) (ξ 2)) 1 (θ (ω (ξ 6) 10) (ξ 2)) 10 (φ (π 2 (δ (ξ 0) (ξ 3))) (ξ 6)) yes r1 c13 U13 x2 eu k3⟩
    have b200 : (10 : Int) ^ 30 < 10 ^ 300 := by decide +kernel
    have a1u : (10 : Int) ^ (cd m).toNat ≤ 10 ^ 30 := pow10_mono (by exact fk2 [_] [_] (φn (ν 0) (κ 30)) 1 1 (φ (ξ 0) (κ 4)) 1 (θ (ν 0) (ξ 0)) yes c4 (tn (a := cd m) (fk1 [_] [] (φ (κ 0) (ξ 0)) 1 1 (φ (κ 1) (ξ 0)) yes c1)))
    have a2u : (10 : Int) ^ (cd r).toNat ≤ 10 ^ 30 := pow10_mono (by exact fk4 [_,_] [_,_] (φn (ν 0) (κ 30)) 1 2 (φ (ξ 0) (κ 7)) 1 (φ (ξ 1) (ν 1)) 1 (θ (ν 1) (ζ (π 2 (ξ 0)) (κ 11))) 1 (θ (ν 0) (ξ 1)) yes hd1 cr2 (tn (a := 2 * d + 11) (fk1 [_] [] (φ (κ 0) (ζ (π 2 (ξ 0)) (κ 11))) 1 2 (φ (κ 2) (ξ 0)) yes hd)) (tn (a := cd r) (fk2 [_] [_] (φ (κ 0) (ξ 0)) 1 1 (φ (ν 0) (ξ 0)) 1 (φn (κ 0) (ν 0)) yes k1b (Nat.zero_le _))))
    refine near_sym (near_of (c := -d - 1) hd hd1 (by decide) (by exact ⟨fk5 [_,_,_,_] [_] (φ (η (κ 105)) (ξ 0)) 1 1 (φ (ξ 1) (κ 7)) 1 (φ (ξ 2) (κ 4)) 1 (θ (δ (δ (η (ξ 1)) (ξ 2)) (κ 1)) (ξ 3)) 1 (ϑ (ξ 0) (ζ (ξ 3) (ν 0))) 1 (φn (κ 0) (ν 0)) yes hd1 c4 he g1 (Nat.zero_le _), fk4 [_,_,_,_] [_] (φ (ξ 0) (κ 10)) 1 1 (φ (κ 2) (ξ 1)) 1 (ϑ (δ (δ (η (ξ 1)) (ξ 2)) (κ 1)) (ξ 3)) 1 (φ (ν 0) (ξ 2)) 1 (θ (ξ 0) (ζ (ξ 3) (ν 0))) yes hd he g1b g1⟩) (by exact ⟨fk3 [_,_] [_] (φ (η (κ 105)) (ξ 0)) 1 3 (φ (ξ 1) (κ 7)) 1 (ϑ (ξ 0) (ζ (η (ζ (π 3 (ξ 1)) (κ 12))) (ν 0))) 1 (φn (κ 0) (ν 0)) yes hd1 k1 (Nat.zero_le _), fk5 [_,_,_] [_,_] (φ (ξ 0) (κ 10)) 1 1 (φ (κ 2) (ξ 1)) 1 (φ (ξ 2) (ν 0)) 1 (φ (ν 1) (ξ 2)) 1 (θ (ξ 0) (ζ (η (ζ (π 3 (ξ 1)) (κ 12))) (ν 1))) 1 (θ (ν 0) (ζ (π 2 (ξ 1)) (κ 11))) yes hd cr2 k1b k1 (tn (a := 2 * d + 11) (fk1 [_] [] (φ (κ 0) (ζ (π 2 (ξ 0)) (κ 11))) 1 2 (φ (κ 2) (ξ 0)) yes hd))⟩) (by exact fk3 [_,_,_,_] [_] (φ (ξ 0) (δ (η (ξ 1)) (κ 1))) 1 1 (ϑ (δ (δ (η (ξ 1)) (ξ 2)) (κ 1)) (ξ 3)) 1 (φ (ν 0) (ξ 2)) 1 (θ (ξ 0) (ζ (ξ 3) (ν 0))) yes he g1b g1) (by exact fk1 [_] [] (φ (δ (η (ξ 0)) (κ 1)) (κ 10)) 1 1 (φ (κ 2) (ξ 0)) yes hd) (by exact ⟨fk5 [_,_,_,_,_] [] (ψ (η (ξ 0)) (ξ 1)) 1 1 (ψ (κ 0) (ξ 2)) 1 (φ (ξ 2) (ξ 3)) 1 (ψ (κ 0) (ξ 1)) 1 (ψ (ξ 4) (ξ 0)) 1 (φ (ξ 3) (ξ 4)) yes k2 k2b g2 b200 a2u, fk3 [_,_,_,_] [] (ψ (ξ 0) (ξ 1)) 1 1 (φ (ξ 0) (ξ 2)) 1 (ψ (ξ 3) (ξ 1)) 1 (φ (ξ 2) (ξ 3)) yes g2b b200 a1u⟩) (by exact ⟨fk5 [_,_,_,_,_] [] (ψ (η (ξ 0)) (ξ 1)) 1 1 (ψ (κ 0) (ξ 1)) 1 (ψ (κ 0) (ξ 2)) 1 (φ (ξ 2) (ξ 3)) 1 (ψ (ξ 4) (ξ 0)) 1 (φ (ξ 3) (ξ 4)) yes k2 g2 g2b b200 a1u, fk3 [_,_,_,_] [] (ψ (ξ 0) (ξ 1)) 1 1 (φ (ξ 0) (ξ 2)) 1 (ψ (ξ 3) (ξ 1)) 1 (φ (ξ 2) (ξ 3)) yes k2b b200 a2u⟩) ?_ ?_ ?_)
    · rw [eX1]
      have a := Int.mul_le_mul_of_nonneg_right g6 (Int.le_of_lt ps)
      have b := Int.mul_le_mul_of_nonneg_right a (Int.le_of_lt hz)
      rw [← pow_addI, ← pow_addI] at b
      have ee : (cd m - 1).toNat + (3 * d + 12 + e).toNat + (120 - (3 * d + 12)).toNat = (-d - 1 + 119).toNat := by exact Nat.le_antisymm (fk5 [_,_,_] [_,_,_,_] (φn (ζ (ζ (ν 0) (ν 1)) (ν 2)) (ν 3)) 1 1 (ϑ (δ (δ (η (ξ 0)) (ξ 1)) (κ 1)) (ξ 2)) 1 (θ (ν 0) (δ (ξ 1) (κ 1))) 1 (θ (ν 1) (ζ (ζ (π 3 (ξ 0)) (κ 12)) (ξ 2))) 1 (θ (ν 2) (δ (κ 120) (ζ (π 3 (ξ 0)) (κ 12)))) 1 (ϑ (ν 3) (ζ (δ (η (ξ 0)) (κ 1)) (κ 119))) yes he (tn (a := cd m - 1) (fk1 [_] [] (φ (κ 0) (δ (ξ 0) (κ 1))) 1 1 (φ (κ 1) (ξ 0)) yes c1)) (tn (a := 3 * d + 12 + e) (fk3 [_,_,_] [] (φ (κ 0) (ζ (ζ (π 3 (ξ 0)) (κ 12)) (ξ 1))) 1 2 (φ (κ 2) (ξ 0)) 1 (φ (ξ 2) (κ 4)) 1 (θ (δ (δ (η (ξ 0)) (ξ 2)) (κ 1)) (ξ 1)) yes hd c4 he)) (tn (a := 120 - (3 * d + 12)) (fk1 [_] [] (φ (κ 0) (δ (κ 120) (ζ (π 3 (ξ 0)) (κ 12)))) 1 3 (φ (ξ 0) (κ 7)) yes hd1)) (tn (a := -d - 1 + 119) (fk1 [_] [] (φ (κ 0) (ζ (δ (η (ξ 0)) (κ 1)) (κ 119))) 1 1 (φ (ξ 0) (κ 7)) yes hd1))) (fk5 [_,_,_] [_,_,_,_] (φn (ν 0) (ζ (ζ (ν 1) (ν 2)) (ν 3))) 1 1 (θ (δ (δ (η (ξ 0)) (ξ 1)) (κ 1)) (ξ 2)) 1 (ϑ (ν 1) (δ (ξ 1) (κ 1))) 1 (ϑ (ν 2) (ζ (ζ (π 3 (ξ 0)) (κ 12)) (ξ 2))) 1 (ϑ (ν 3) (δ (κ 120) (ζ (π 3 (ξ 0)) (κ 12)))) 1 (θ (ν 0) (ζ (δ (η (ξ 0)) (κ 1)) (κ 119))) yes he (tn (a := cd m - 1) (fk1 [_] [] (φ (κ 0) (δ (ξ 0) (κ 1))) 1 1 (φ (κ 1) (ξ 0)) yes c1)) (tn (a := 3 * d + 12 + e) (fk3 [_,_,_] [] (φ (κ 0) (ζ (ζ (π 3 (ξ 0)) (κ 12)) (ξ 1))) 1 2 (φ (κ 2) (ξ 0)) 1 (φ (ξ 2) (κ 4)) 1 (θ (δ (δ (η (ξ 0)) (ξ 2)) (κ 1)) (ξ 1)) yes hd c4 he)) (tn (a := 120 - (3 * d + 12)) (fk1 [_] [] (φ (κ 0) (δ (κ 120) (ζ (π 3 (ξ 0)) (κ 12)))) 1 3 (φ (ξ 0) (κ 7)) yes hd1)) (tn (a := -d - 1 + 119) (fk1 [_] [] (φ (κ 0) (ζ (δ (η (ξ 0)) (κ 1)) (κ 119))) 1 1 (φ (ξ 0) (κ 7)) yes hd1)))
      rw [ee] at b; exact b
    · rw [eX1, eX2, ← eU, Int.one_mul, ← Int.sub_mul]
      exact Int.mul_le_mul_of_nonneg_right key.1 (Int.le_of_lt hz)
    · rw [eX1, eX2, ← eU, Int.one_mul, ← Int.sub_mul]
      exact Int.mul_le_mul_of_nonneg_right key.2 (Int.le_of_lt hz)
theorem tinyOk {m d : Int} (hm : 0 < m ∧ m < 10000) (hd : 2 ≤ d) (hd1 : d ≤ 7) : ∃ a1 b1 a2 b2 a3 b3 a4 b4, TinyOk m d a1 b1 a2 b2 a3 b3 a4 b4 := by
  have c1 := cd_pos (x := m) (by exact fun hq => fn2 [_] [] 1 (ψ (κ 0) (ξ 0)) 1 (θ (ξ 0) (κ 0)) yes hm.1 hq)
  have c4 := cd_le (x := m) (k := 4) (by exact fk1 [_] [] (φ (κ 0) (ξ 0)) 1 1 (ψ (κ 0) (ξ 0)) yes hm.1) (by lia)
  obtain ⟨a2, b2, h2, n2⟩ := tiny_round hm hd hd1
  have hE := (expFacts (a := absI m) (e := -d - cd m - 1) (d := d) (absI_nn m) (by rw [absI_of_nn (by exact fk1 [_] [] (φ (κ 0) (ξ 0)) 1 1 (ψ (κ 0) (ξ 0)) yes hm.1)]; exact hm.2) (by exact fk2 [_,_] [] (φ (η (κ 13)) (δ (δ (η (ξ 0)) (ξ 1)) (κ 1))) 1 1 (φ (ξ 0) (κ 7)) 1 (φ (ξ 1) (κ 4)) yes hd1 c4) (by exact fk2 [_,_] [] (φ (δ (δ (η (ξ 0)) (ξ 1)) (κ 1)) (κ 0)) 1 1 (φ (κ 2) (ξ 0)) 1 (φ (κ 1) (ξ 1)) yes hd c1) hd hd1 (by rw [cd_absI]; exact fk1 [_,_] [] (φ (ζ (ξ 0) (δ (δ (η (ξ 1)) (ξ 0)) (κ 1))) (κ 3)) 1 1 (φ (κ 2) (ξ 1)) yes hd)).ok
  have ht : tinyB m (-d - cd m - 1) d = true := decide_eq_true (by lia)
  have hs := rr_some (x := m) (y := -d - cd m - 1) (d := d) (top := 99) hm.1 (by exact fk1 [_] [] (φ (κ 1) (ξ 0)) 1 1 (φ (κ 2) (ξ 0)) yes hd) (by exact fk1 [_,_] [] (φ (η (κ 99)) (δ (ζ (δ (δ (η (ξ 0)) (ξ 1)) (κ 1)) (ξ 1)) (κ 1))) 1 1 (φ (ξ 0) (κ 7)) yes hd1) (by exact fk1 [_,_] [] (φ (ζ (δ (δ (η (ξ 0)) (ξ 1)) (κ 1)) (ξ 1)) (κ 99)) 1 1 (φ (κ 2) (ξ 0)) yes hd)
  have ev := evV_rd (e := -d - cd m - 1) hm.1 (by exact fk1 [_] [] (φ (κ 1) (ξ 0)) 1 1 (φ (κ 2) (ξ 0)) yes hd : 1 ≤ d)
  obtain ⟨j, g1, g2, g3, g4, _⟩ := rd_pow (x := m) (y := -d - cd m - 1) (d := d) hm.1 (by exact fk1 [_] [] (φ (κ 1) (ξ 0)) 1 1 (φ (κ 2) (ξ 0)) yes hd)
  have p200 : (10 : Int) ^ (cd m).toNat < 10 ^ 200 := Int.lt_of_le_of_lt (pow10_mono (by exact fk2 [_] [_] (φn (ν 0) (κ 4)) 1 1 (φ (ξ 0) (κ 4)) 1 (θ (ν 0) (ξ 0)) yes c4 (tn (a := cd m) (fk1 [_] [] (φ (κ 0) (ξ 0)) 1 1 (φ (κ 1) (ξ 0)) yes c1)) : (cd m).toNat ≤ 4)) (by decide +kernel)
  have ns := near_self (x := (rd m (-d - cd m - 1) d).1) (y := (rd m (-d - cd m - 1) d).2) hd hd1 g3 (by exact fk2 [_,_,_] [] (ψ (ξ 0) (ξ 1)) 1 1 (φ (ξ 0) (ξ 2)) 1 (ψ (ξ 2) (ξ 1)) yes g4 p200) (by exact ⟨fk4 [_,_,_] [_] (φ (η (κ 60)) (ξ 0)) 1 1 (φ (ξ 1) (κ 7)) 1 (φ (ξ 2) (κ 4)) 1 (ϑ (ξ 0) (ζ (δ (δ (η (ξ 1)) (ξ 2)) (κ 1)) (ν 0))) 1 (φn (κ 0) (ν 0)) yes hd1 c4 g1 (Nat.zero_le _), fk3 [_,_,_] [_] (φ (ξ 0) (κ 5)) 1 1 (φ (κ 2) (ξ 1)) 1 (θ (ξ 0) (ζ (δ (δ (η (ξ 1)) (ξ 2)) (κ 1)) (ν 0))) 1 (φ (ν 0) (ξ 2)) yes hd g1 g2⟩)
  have h00 : ArcCond 0 0 d := by
    obtain ⟨n, rfl, hn, hn1⟩ := dNat hd hd1
    have := ax_all n hn1 hn
    unfold axB at this
    rw [Bool.and_eq_true] at this
    exact arc_of this.2
  have h0 : asV 0 0 d 99 = some (0, 0) := as1 (decide_eq_true (.inl rfl)) (rr_n1 (by unfold rd; rw [if_neg (by have : cd 0 = 0 := rfl; exact fk2 [_,_] [] (Ψ (κ 0) (δ (ξ 0) (ξ 1))) 1 1 (φ (κ 2) (ξ 1)) 1 (θ (ξ 0) (κ 0)) yes hd this)]; rfl))
  refine ⟨(rd m (-d - cd m - 1) d).1, (rd m (-d - cd m - 1) d).2, a2, b2, (rd m (-d - cd m - 1) d).1, (rd m (-d - cd m - 1) d).2, (rd m (-d - cd m - 1) d).1, (rd m (-d - cd m - 1) d).2,
    ⟨by exact fk1 [_] [] (φ (κ 0) (ξ 0)) 1 1 (φ (κ 2) (ξ 0)) yes hd, by exact fk1 [_] [] (φ (ξ 0) (κ 1900)) 1 1 (φ (ξ 0) (κ 4)) yes c4, by decide +kernel, fun _ => arcCond_tiny hm hd hd1, fun _ => h00, at2Ok hd hd1 (by exact ⟨fk1 [_] [] (ψ (η (κ 100000)) (ξ 0)) 1 1 (ψ (κ 0) (ξ 0)) yes hm.1, fk1 [_] [] (ψ (ξ 0) (κ 100000)) 1 1 (ψ (ξ 0) (κ 10000)) yes hm.2⟩) (by exact ⟨fk0 [] [] (ψ (η (κ 100000)) (κ 1)) 1  yes , fk0 [] [] (ψ (κ 1) (κ 100000)) 1  yes ⟩) (by exact ⟨fk2 [_,_] [] (φ (η (κ 30)) (δ (δ (η (ξ 0)) (ξ 1)) (κ 1))) 1 1 (φ (ξ 0) (κ 7)) 1 (φ (ξ 1) (κ 4)) yes hd1 c4, fk2 [_,_] [] (φ (δ (δ (η (ξ 0)) (ξ 1)) (κ 1)) (κ 30)) 1 1 (φ (κ 2) (ξ 0)) 1 (φ (κ 1) (ξ 1)) yes hd c1⟩) (by exact ⟨fk0 [] [] (φ (η (κ 30)) (κ 0)) 1  yes , fk0 [] [] (φ (κ 0) (κ 30)) 1  yes ⟩), hE, as1 ht hs, h2, sh1 ht hs, th1 ht hs, ch1 ht, h0, ?_, ?_, ?_, ?_⟩⟩
  · rw [ev]; exact ns
  · rw [ev]; exact n2
  · rw [ev]; exact ns
  · rw [ev]; exact ns
end Mine
end
section
open Mine.FLx (ξ ν κ ζ δ η π ω)
open Mine.FCx (φ ψ θ ϑ Φ Ψ φn ψn θn ϑn Φn Ψn)
open PySem PySem.W PyProof.Rows PySem.Calls
set_option maxRecDepth 100000
namespace Mine
inductive Pull (d : Addr) (o : Obj) : Led → Led → Prop
  | head {r : Led} : Pull d o ((d, o) :: r) r
  | tail {p : Addr × Obj} {r r' : Led} : Pull d o r r' → Pull d o (p :: r) (p :: r')
theorem Pull.sub {d : Addr} {o : Obj} {r r' : Led} (h : Pull d o r r') : ∀ p ∈ (d, o) :: r', p ∈ r := by
  induction h with
  | head => exact fun p hp => hp
  | tail h ih =>
    intro p hp
    rcases List.mem_cons.mp hp with rfl | hp
    · exact List.Mem.tail _ (ih _ (List.Mem.head _))
    · rcases List.mem_cons.mp hp with rfl | hp
      · exact List.Mem.head _
      · exact List.Mem.tail _ (ih _ (List.Mem.tail _ hp))
theorem jar0 {w : World} {o : Obj} {D : Addr} {a b u : Tok} (h : o.IsDictOf (PySem.strKind prg w) (strPairs [(.str (Str.ofString "row") a, .ref D), (.str (Str.ofString "at") b, .int 0 u)])) : Jar w o D 0 := ⟨u, h⟩
section
variable {w : World} {p : Program} {loose : List Str} {mean : ExcName → Option Value} {mg mb : Str → Option Value}
theorem jar_draw {D d : Addr} {ws : List Value} {ns : List Int} {k many : Int} {t1 : Tok} {o : Obj} {news rest : Led}
    {dp un : Nat} {gd : Option (List Code)} {cn : Str} {cs : Scope} {a : Addr} {ccd : Value} {cl : List (Str × Addr)} {outer : List Env} {A₀ : Around} {base h₀ : Heap} {L : Addr} {m : Str → Option Value} {s : Shared} {Q E : Value → Shared → Prop}
    (F : Fr h₀ L s.heap m) (N : News h₀ L s.heap news) (hP : Pull d o news rest) (J : Jar w o D k) (hM : (D, W.listOf ws.toArray 0) ∈ rest) (hR : ∀ p ∈ rest, p.1 ≠ d) (hI : IntsAre ws ns) (hl : ns.length ≤ 20) (hk0 : 0 ≤ k) (hk1 : k ≤ 1000) (hm0 : 0 < many) (hm1 : many ≤ 100000)
    (B : Below A₀ base outer h₀) (X : (heapK w.params).In h₀) (T : Top p loose mean mg mb h₀) (hk : cs.kind = .function) (hd : dp + 4 < recursionLimit) (hu : un + 8 * 4 < cLine)
    (ret : ∀ r t o' h' tk', Fr h₀ L h' m → News h₀ L h' ((d, o') :: rest) → Jar w o' D (k + 1) → 0 ≤ r → r < many → Q (.int r t) { s with heap := h', toks := tk' }) :
    wpAny (model PySem.Challenge.rw_pf0124_01.row.prog w) (ktrTop dp un gd cn cs L a ccd cl outer) (call (.ref 271) [.ref d, .int many t1]) Q E s :=
  law_of_ok D d ws ns k many t1 o rest hI (by rw [hI.length]; exact hl) hk0 hk1 hm0 hm1 J hM hR _ _ _ _ _ _ _ _ _ _ _ _ _ _ _ _ _ B F X (fun q hq => N q (hP.sub q hq)) T hk hd hu ret
theorem steps_all (news : Led) (a1 : Addr) (x y d top : Int) (t1 t2 : Tok) (hp : PairIn w news a1 x y) (hx : -1000 < x ∧ x < 1000) (hx0 : x ≠ 0) (hy : -2 ≤ y ∧ y ≤ 0) (hd : 2 ≤ d) (hd1 : d ≤ 7) (ht : 2 ≤ top) (ht1 : top ≤ 1000) :
    CallS0 w p loose mean mg mb 327 30 news [.ref a1, .int d t1, .int top t2] (BoolOut true) := by
  obtain ⟨s1, s2, c1, c2, u1, u2, hO⟩ := stepsOk hx hx0 hy hd hd1 ht ht1
  exact law_steps_ok news a1 x y d top s1 s2 c1 c2 u1 u2 t1 t2 hp hO
theorem angle_all (news : Led) (a1 a2 : Addr) (y v x u d : Int) (t1 : Tok) (hp : PairIn w news a1 y v) (hq : PairIn w news a2 x u) (hd : 2 ≤ d) (hd1 : d ≤ 7) (hy : 0 < y ∧ y < 100) (hx : 0 < x ∧ x < 100) (hv : -20 ≤ v ∧ v ≤ 20) (hu : -20 ≤ u ∧ u ≤ 20) :
    CallOk w p loose mean mg mb 334 24 news [.ref a1, .ref a2, .int d t1] (BoolOut true) := by
  obtain ⟨a, b, a3, b3, hO⟩ := angleOk hd hd1 hy hx hv hu
  exact law_angle_ok news a1 a2 y v x u d a b a3 b3 t1 hp hq hO
theorem axes_all (news : Led) (a1 : Addr) (y v d : Int) (t1 : Tok) (hp : PairIn w news a1 y v) (hd : 2 ≤ d) (hd1 : d ≤ 7) (hy : 0 < y ∧ y < 100) (hv : -20 ≤ v ∧ v ≤ 20) :
    CallS0 w p loose mean mg mb 341 24 news [.ref a1, .int d t1] (BoolOut true) := law_axes_ok news a1 y v d t1 hp (axesOk hd hd1 hy hv)
theorem ones_all' (news : Led) (k d : Int) (t1 t2 : Tok) (hk : 0 ≤ k) (hk1 : k ≤ 3) (hd : 2 ≤ d) (hd1 : d ≤ 7) :
    CallS0 w p loose mean mg mb 348 30 news [.int k t1, .int d t2] (BoolOut true) := law_ones_ok news k d t1 t2 (onesOk hk hk1 hd hd1)
theorem PairE.pin' {o : Obj} {x y : Int} {a : Addr} {news : Led} (hm : (a, o) ∈ news) (h : PairE o x y) : PairIn w news a x y := h.pin hm
end
section
variable {prog : Program} {w w₀ : World} {A : Around} {E : Value → Shared → Prop} {s : Shared} {h₀ : Heap} {L : Addr} {m : Str → Option Value} {news : Led} {x y : Int}
theorem newPairL {t u : Tok} {Q : Value → Shared → Prop} (F : Fr h₀ L s.heap m) (N : News h₀ L s.heap news)
    (h : ∀ a o h', Fr h₀ L h' m → News h₀ L h' ((a, o) :: news) → PairE o x y → (∀ p ∈ news, p.1 < a) → Q (.ref a) { s with heap := h' }) :
    wpAny (model prog w) A (newTuple [.int x t, .int y u]) Q E s :=
  newTuple_N F N (fun h' F' N' => h _ _ h' F' N' ⟨rfl, t, u, _, rfl⟩ fun p hp => Heap.lt_size (N p hp).1) (by show _ ≤ sizeLine; rw [sizeLine_eq]; exact Nat.le_of_ble_eq_true rfl)
theorem menu8 {T : Addr} {o : Obj} {n : Nat} {r : Int} {t : Tok} {v0 v1 v2 v3 v4 v5 v6 v7 : Tok} {value slice : Expr} {Q : Value → Shared → Prop} (N : News h₀ L s.heap news) (hm : (T, o) ∈ news) (hc : o.cls = .type "tuple")
    (hd : o.data = .seq #[.int 2 v0, .int 5 v1, .int 9 v2, .int 10 v3, .int 43 v4, .int 99 v5, .int 100 v6, .int 300 v7] n) (h0 : 0 ≤ r) (h1 : r < 8) (h : ∀ v u, 2 ≤ v → v ≤ 1000 → Q (.int v u) s)
    (hs : subscripted slice false (.ref T) (.int r t) = operate [.ref T, .int r t] (getItem (.ref T) (.int r t)) := by with_unfolding_all rfl) :
    wpAny (model prog w) A (subscriptTail value slice (.ref T) (.int r t)) Q E s := by
  have ht : IsTup s.heap T #[.int 2 v0, .int 5 v1, .int 9 v2, .int 10 v3, .int 43 v4, .int 99 v5, .int 100 v6, .int 300 v7] := ⟨o, N.get hm, hc, n, hd⟩
  have hr : r = 0 ∨ r = 1 ∨ r = 2 ∨ r = 3 ∨ r = 4 ∨ r = 5 ∨ r = 6 ∨ r = 7 := by lia
  rcases hr with rfl | rfl | rfl | rfl | rfl | rfl | rfl | rfl
  · exact item_tupleT (j := 0) ht (by decide) (by decide) rfl rfl (h _ _ (by decide) (by decide)) hs
  · exact item_tupleT (j := 1) ht (by decide) (by decide) rfl rfl (h _ _ (by decide) (by decide)) hs
  · exact item_tupleT (j := 2) ht (by decide) (by decide) rfl rfl (h _ _ (by decide) (by decide)) hs
  · exact item_tupleT (j := 3) ht (by decide) (by decide) rfl rfl (h _ _ (by decide) (by decide)) hs
  · exact item_tupleT (j := 4) ht (by decide) (by decide) rfl rfl (h _ _ (by decide) (by decide)) hs
  · exact item_tupleT (j := 5) ht (by decide) (by decide) rfl rfl (h _ _ (by decide) (by decide)) hs
  · exact item_tupleT (j := 6) ht (by decide) (by decide) rfl rfl (h _ _ (by decide) (by decide)) hs
  · exact item_tupleT (j := 7) ht (by decide) (by decide) rfl rfl (h _ _ (by decide) (by decide)) hs
theorem tup2_unpackN {a : Addr} {o : Obj} {n k : Nat} {v1 v2 : Value} {Q : List Value → Shared → Prop} (F : Fr h₀ L s.heap m) (N : News h₀ L s.heap news) (hm : (a, o) ∈ news) (hc : o.cls = .type "tuple") (hd : o.data = .seq #[v1, v2] k)
    (hh : A.handled = none) (hn : n = 2) (h : ∀ h', Fr h₀ L h' m → News h₀ L h' news → Q [v1, v2] { s with heap := h' }) : wpAny (model prog w) A (unpackItems (.ref a) n none) Q E s := by
  subst hn
  exact unpackItemsN_ F N ⟨o, N.get hm, hc, k, hd⟩ hh rfl fun h' F' N' => h h' F' N'
theorem pairE_unpackN {a : Addr} {o : Obj} {n : Nat} {Q : List Value → Shared → Prop} (F : Fr h₀ L s.heap m) (N : News h₀ L s.heap news) (hm : (a, o) ∈ news) (P : PairE o x y)
    (hh : A.handled = none) (hn : n = 2) (h : ∀ h' t u, Fr h₀ L h' m → News h₀ L h' news → Q [.int x t, .int y u] { s with heap := h' }) : wpAny (model prog w) A (unpackItems (.ref a) n none) Q E s := by
  obtain ⟨hc, t, u, k, hd⟩ := P
  exact tup2_unpackN F N hm hc hd hh hn fun h' F' N' => h h' t u F' N'
end
end Mine
end
section
open PySem PySem.W PyProof.Rows PySem.Calls
set_option maxRecDepth 100000
namespace Mine
theorem tinyOk' {m d : Int} (hm : 0 < m ∧ m < 10000) (hd : 2 ≤ d) (hd1 : d ≤ 7) : ∃ a1 b1 a2 b2 a3 b3 a4 b4, TinyOk m d a1 b1 a2 b2 a3 b3 a4 b4 := tinyOk hm hd hd1
theorem tiny_all {w : World} {p : Program} {loose : List Str} {mean : ExcName → Option Value} {mg mb : Str → Option Value} (m d : Int) (t1 t2 : Tok) (hm : 0 < m ∧ m < 10000) (hd : 2 ≤ d) (hd1 : d ≤ 7) :
    CallOk w p loose mean mg mb 353 30 [] [.int m t1, .int d t2] (BoolOut true) := by
  obtain ⟨a1, b1, a2, b2, a3, b3, a4, b4, hO⟩ := tinyOk' hm hd hd1
  exact law_tiny_ok [] m d a1 b1 a2 b2 a3 b3 a4 b4 t1 t2 hO
end Mine
end
section
open PySem PySem.W PySem.Calls PyProof.Rows
set_option maxRecDepth 100000
namespace Mine
local macro_rules | `(tactic| walk_at "newTuple cons") => `(tactic| k_extra "newTuple cons")
local macro_rules | `(tactic| walk_at "unpackItems ref") => `(tactic| k_extra "unpackItems ref")
local macro_rules | `(tactic| walk_at "subscriptTail") => `(tactic| k_extra "subscriptTail")
local macro_rules | `(tactic| walk_at "call ref") => `(tactic| k_extra "call ref")
theorem fill_C24 : heapK = heapK ∧ PySem.Challenge.rw_pf0124_01 = PySem.Challenge.rw_pf0124_01 := by
  k_fill
  exact ⟨rfl, rfl⟩
theorem lines_C24 : True := by
  k_with_none
  k_with "mine sub" => (intro p9 hp9; repeat (first | exact hp9 | apply List.mem_append_right | apply List.mem_cons_of_mem))
  k_with "subscriptTail Name Constant ref int" => (k_here; (with_reducible show wpAny _ _ (subscriptTail _ _ (Value.ref _) (Value.int 0 _)) _ _ _); k_dflt (refine' pair_item0 ?Pz2 ?Xz2 ?Fz2 ?Nz2 ?Sz2 ?_ ?hsz2); (case Pz2 => with_reducible assumption); (case Xz2 => with_reducible assumption); (case Fz2 => with_reducible assumption); (case Nz2 => with_reducible assumption); (case Sz2 => walk_at "mine sub"); (case hsz2 => with_unfolding_all rfl); k_whole; intro t9)
  k_with "subscriptTail Name Constant ref int" => (k_here; (with_reducible show wpAny _ _ (subscriptTail _ _ (Value.ref _) (Value.int 1 _)) _ _ _); k_dflt (refine' pair_item1 ?Pz3 ?Xz3 ?Fz3 ?Nz3 ?Sz3 ?_ ?hsz3); (case Pz3 => with_reducible assumption); (case Xz3 => with_reducible assumption); (case Fz3 => with_reducible assumption); (case Nz3 => with_reducible assumption); (case Sz3 => walk_at "mine sub"); (case hsz3 => with_unfolding_all rfl); k_whole; intro t9)
  k_with "newTuple cons" => (k_here; (with_reducible show wpAny _ _ (newTuple [Value.int _ _, Value.int _ _]) _ _ _); k_dflt (refine' newPair (w₀ := ‹World›) ?Fz4 ?Nz4 ?_); (case Fz4 => with_reducible assumption); (case Nz4 => with_reducible assumption); intro a9 o9 h9 F9 N9 P9; (try k_sweep))
  k_with "newTuple cons" => (k_here; (with_reducible show wpAny _ _ (newTuple [Value.int _ _, Value.int _ _, Value.int _ _]) _ _ _); k_dflt (refine' newTrip ?Fz5 ?Nz5 ?_); (case Fz5 => with_reducible assumption); (case Nz5 => with_reducible assumption); intro a9 o9 h9 F9 N9 P9; (try k_sweep))
  k_with "assign Tuple" => (k_here; k_dflt (refine' pair_unpack ?Pz6 ?Xz6 ?Fz6 ?Nz6 ?Sz6 ?az6 ?bz6 ?cz6 ?_); (case Pz6 => with_reducible assumption); (case Xz6 => with_reducible assumption); (case Fz6 => with_reducible assumption); (case Nz6 => with_reducible assumption); (case Sz6 => walk_at "mine sub"); (case az6 => exact rfl); (case bz6 => with_unfolding_all exact rfl); (case cz6 => with_unfolding_all exact rfl); k_whole; intro h9 t9 u9 F9 N9; (try k_sweep))
  k_with "assign Tuple" => (k_here; k_dflt (refine' trip_unpack ?Pz7 ?Fz7 ?Nz7 ?Sz7 ?az7 ?bz7 ?cz7 ?_); (case Pz7 => with_reducible assumption); (case Fz7 => with_reducible assumption); (case Nz7 => with_reducible assumption); (case Sz7 => walk_at "mine sub"); (case az7 => exact rfl); (case bz7 => with_unfolding_all exact rfl); (case cz7 => with_unfolding_all exact rfl); k_whole; intro h9 t9 u9 v9 F9 N9; (try k_sweep))
  k_with "unpackItems ref" => (k_here; k_dflt (refine' pair_unpackN ?Pz8 ?Xz8 ?Fz8 ?Nz8 ?Sz8 ?az8 ?bz8 ?_); (case Pz8 => with_reducible assumption); (case Xz8 => with_reducible assumption); (case Fz8 => with_reducible assumption); (case Nz8 => with_reducible assumption); (case Sz8 => walk_at "mine sub"); (case az8 => exact rfl); (case bz8 => with_unfolding_all exact rfl); intro h9 t9 u9 F9 N9; (try k_sweep))
  k_with "compareOp Eq ref ref" => (k_here; k_dflt (refine' pair_eq ?Pz9 ?P2z9 ?Xz9 ?Fz9 ?Nz9 ?Sz9 ?S2z9 ?Uz9 ?_); (case Pz9 => with_reducible assumption); (case P2z9 => with_reducible assumption); (case Xz9 => with_reducible assumption); (case Fz9 => with_reducible assumption); (case Nz9 => with_reducible assumption); (case Sz9 => walk_at "mine sub"); (case S2z9 => walk_at "mine sub"); (case Uz9 => ktr_units); k_whole)
  k_with "compareOp NotEq ref ref" => (k_here; k_dflt (refine' pair_ne ?Pz10 ?P2z10 ?Xz10 ?Fz10 ?Nz10 ?Sz10 ?S2z10 ?Uz10 ?_); (case Pz10 => with_reducible assumption); (case P2z10 => with_reducible assumption); (case Xz10 => with_reducible assumption); (case Fz10 => with_reducible assumption); (case Nz10 => with_reducible assumption); (case Sz10 => walk_at "mine sub"); (case S2z10 => walk_at "mine sub"); (case Uz10 => ktr_units); k_whole)
  k_with "mine sm" => first | with_reducible assumption | exact sm_pow (by omega) | exact sm_small (by omega) | exact Sm.abs (by with_reducible assumption) | k_dflt (k_extra "sm")
  k_with "mine ne" => first | with_reducible assumption | exact pow_ne10 _ | omega | k_dflt (k_extra "ne")
  k_with "binaryOp Mult int int" => (k_here; (with_reducible refine mul_sm ?az13 ?bz13 ?_); (case az13 => walk_at "mine sm"); (case bz13 => walk_at "mine sm"))
  k_with "binaryOp FloorDiv int int" => (k_here; (with_reducible refine floordiv_sm ?az14 ?bz14 ?_); (case az14 => walk_at "mine ne"); (case bz14 => walk_at "mine sm"))
  k_with "inplaceOp FloorDiv int int" => (k_here; (with_reducible refine ifloordiv_sm ?az15 ?bz15 ?_); (case az15 => walk_at "mine ne"); (case bz15 => walk_at "mine sm"))
  k_with "inplaceOp Mult int int" => (k_here; (with_reducible refine imul_sm ?az16 ?bz16 ?_); (case az16 => walk_at "mine sm"); (case bz16 => walk_at "mine sm"))
  k_with "binaryOp Pow int int" => (k_here; (with_reducible refine pow_int_small ?az17 ?bz17 ?cz17 ?_); (case az17 => k_dflt (first | omega | k_extra "pow")); (case bz17 => k_dflt (first | omega | k_extra "pow")); (case cz17 => decide))
  k_with "call builtin:divmod" => (k_here; k_dflt (refine' divmod_pair (w₀ := ‹World›) ?Fz18 ?Nz18 ?az18 ?bz18 ?_); (case Fz18 => with_reducible assumption); (case Nz18 => with_reducible assumption); (case az18 => walk_at "mine ne"); (case bz18 => walk_at "mine sm"); intro a9 o9 h9 tk9 F9 N9 P9; (try k_sweep))
  k_with "UnrEnd" => (k_dflt (refine' unrEnd_lt ?Fz19 ?Nz19 ?lz19 ?sz19 ?_); (case Fz19 => k_asm); (case Nz19 => k_asm); (case lz19 => with_reducible assumption); (case sz19 => walk_at "mine sub"))
  k_with "mine room" => first | ktr_room | ktr_units | decide | exact Nat.lt_of_ble_eq_true rfl
  k_with "mine mem2" => (repeat (first | with_reducible exact List.mem_cons_self | apply List.mem_append_right | apply List.mem_cons_of_mem))
  k_with "mine pull" => first | with_reducible exact Pull.head | (apply Pull.tail; walk_at "mine pull")
  k_with "newTuple cons" => (k_here; (with_reducible show wpAny _ _ (newTuple [Value.int _ _, Value.int _ _]) _ _ _); k_dflt (refine' newPairL ?zzFz23 ?zzNz23 ?_); (case zzFz23 => with_reducible assumption); (case zzNz23 => with_reducible assumption); intro a9 o9 h9 F9 N9 E9 l9; (try k_lt l9); (try k_sweep))
  k_with "assign Tuple" => (k_here; k_dflt (refine' pairE_unpack ?zzFz24 ?zzNz24 ?zzMz24 ?zzPz24 ?zzaz24 ?zzbz24 ?zzcz24 ?_); (case zzFz24 => with_reducible assumption); (case zzNz24 => with_reducible assumption); (case zzMz24 => walk_at "mine mem2"); (case zzPz24 => with_reducible assumption); (case zzaz24 => exact rfl); (case zzbz24 => with_unfolding_all exact rfl); (case zzcz24 => with_unfolding_all exact rfl); k_whole; intro h9 t9 u9 F9 N9; (try k_sweep))
  k_with "unpackItems ref" => (k_here; k_dflt (refine' tup2_unpackN ?zzFz25 ?zzNz25 ?zzMz25 ?zzcz25 ?zzdz25 ?zzaz25 ?zzbz25 ?_); (case zzFz25 => with_reducible assumption); (case zzNz25 => with_reducible assumption); (case zzMz25 => walk_at "mine mem2"); (case zzcz25 => exact rfl); (case zzdz25 => exact rfl); (case zzaz25 => exact rfl); (case zzbz25 => with_unfolding_all exact rfl); intro h9 F9 N9; (try k_sweep))
  k_with "unpackItems ref" => (k_here; k_dflt (refine' pairE_unpackN ?zzFz26 ?zzNz26 ?zzMz26 ?zzPz26 ?zzaz26 ?zzbz26 ?_); (case zzFz26 => with_reducible assumption); (case zzNz26 => with_reducible assumption); (case zzMz26 => walk_at "mine mem2"); (case zzPz26 => with_reducible assumption); (case zzaz26 => exact rfl); (case zzbz26 => with_unfolding_all exact rfl); intro h9 t9 u9 F9 N9; (try k_sweep))
  k_with "subscriptTail" => (k_here; (with_reducible show wpAny _ _ (subscriptTail _ _ (Value.ref _) (Value.int _ _)) _ _ _); k_dflt (refine' menu8 ?zzNz27 ?zzMz27 ?zzcz27 ?zzdz27 ?zzaz27 ?zzbz27 ?_; (case zzNz27 => k_asm); (case zzMz27 => walk_at "mine mem2"); (case zzcz27 => exact rfl); (case zzdz27 => exact rfl); (case zzaz27 => with_reducible assumption); (case zzbz27 => with_reducible assumption); k_whole; intro v9 u9 lo9 hi9))
  k_with "call ref" => (k_here; (with_reducible show wpAny _ _ (call (Value.ref _) [Value.ref _, Value.int _ _]) _ _ _); k_dflt (refine' jar_draw ?zzFz28 ?zzNz28 ?zzhPz28 ?zzJz28 ?zzMz28 ?zzRz28 ?zzIz28 ?zzlz28 ?zzaz28 ?zzbz28 ?zzcz28 ?zzdz28 ?zzBz28 ?zzXz28 ?zzTz28 ?zzhkz28 ?zzhdz28 ?zzhuz28 ?_; (case zzFz28 => k_asm); (case zzNz28 => k_asm); (case zzhPz28 => walk_at "mine pull"); (case zzJz28 => first | with_reducible assumption | exact jar0 (by assumption)); (case zzMz28 => walk_at "mine mem2"); (case zzRz28 => k_all); (case zzIz28 => with_reducible assumption); (case zzlz28 => walk_at "mine len"); (case zzaz28 => omega); (case zzbz28 => omega); (case zzcz28 => decide); (case zzdz28 => decide); (case zzBz28 => k_asm); (case zzXz28 => k_asm); (case zzTz28 => k_asm); (case zzhkz28 => exact rfl); (case zzhdz28 => walk_at "mine room"); (case zzhuz28 => walk_at "mine room"); intro r9 t9 o9 h9 tk9 F9 N9 J9 lo9 hi9; (try dsimp only); (try k_fold); (try k_sweep)))
  k_with "mine len" => (rw [List.length_take]; exact Nat.min_le_left _ _)
  k_with "call ref" => (k_here; k_dflt (refine' CallS0.use (steps_all _ _ _ _ _ _ _ _ ?zzh0z30 ?zzh1z30 ?zzh2z30 ?zzh3z30 ?zzh4z30 ?zzh5z30 ?zzh6z30 ?zzh7z30) ?zzk1z30 ?zzk2z30 ?zzk3z30 ?zzk4z30 ?zzk5z30 ?zzk9z30 ?zzk10z30 ?zzk6z30 ?zzk7z30 ?zzk8z30 ?_; (case zzk2z30 => k_asm); (case zzk1z30 => k_asm); (case zzk3z30 => k_asm); (case zzk4z30 => k_asm); (case zzk5z30 => k_asm); (case zzk9z30 => k_asm); (case zzk10z30 => k_asm); (case zzh0z30 => exact (PairE.pin' (by walk_at "mine mem2") (by with_reducible assumption))); (case zzh1z30 => exact (by omega)); (case zzh2z30 => exact (by omega)); (case zzh3z30 => exact (by omega)); (case zzh4z30 => exact (by omega)); (case zzh5z30 => exact (by omega)); (case zzh6z30 => exact (by omega)); (case zzh7z30 => exact (by omega)); (case zzk6z30 => first | exact rfl | assumption); (case zzk7z30 => walk_at "mine room"); (case zzk8z30 => walk_at "mine room"); intro r9 tl9 h9 tk9 F9 N9 P9; (obtain ⟨e9, e9b⟩ := P9; subst e9; subst e9b; (simp only [List.nil_append] at N9)); (try dsimp only); (try k_fold); (try k_sweep)))
  k_with "call ref" => (k_here; k_dflt (refine' CallOk.use (angle_all _ _ _ _ _ _ _ _ _ ?zzh0z31 ?zzh1z31 ?zzh2z31 ?zzh3z31 ?zzh4z31 ?zzh5z31 ?zzh6z31 ?zzh7z31) ?zzk1z31 ?zzk2z31 ?zzk3z31 ?zzk4z31 ?zzk5z31 ?zzk6z31 ?zzk7z31 ?zzk8z31 ?_; (case zzk1z31 => k_asm); (case zzk2z31 => k_asm); (case zzk3z31 => k_asm); (case zzk4z31 => k_asm); (case zzk5z31 => k_asm); (case zzh0z31 => exact (PairE.pin' (by walk_at "mine mem2") (by with_reducible assumption))); (case zzh1z31 => exact (PairE.pin' (by walk_at "mine mem2") (by with_reducible assumption))); (case zzh2z31 => exact (by omega)); (case zzh3z31 => exact (by omega)); (case zzh4z31 => exact (by omega)); (case zzh5z31 => exact (by omega)); (case zzh6z31 => exact (by omega)); (case zzh7z31 => exact (by omega)); (case zzk6z31 => first | exact rfl | assumption); (case zzk7z31 => walk_at "mine room"); (case zzk8z31 => walk_at "mine room"); intro r9 tl9 h9 tk9 F9 N9 P9; (obtain ⟨e9, e9b⟩ := P9; subst e9; subst e9b; (simp only [List.nil_append] at N9)); (try dsimp only); (try k_fold); (try k_sweep)))
  k_with "call ref" => (k_here; k_dflt (refine' CallS0.use (axes_all _ _ _ _ _ _ ?zzh0z32 ?zzh1z32 ?zzh2z32 ?zzh3z32 ?zzh4z32) ?zzk1z32 ?zzk2z32 ?zzk3z32 ?zzk4z32 ?zzk5z32 ?zzk9z32 ?zzk10z32 ?zzk6z32 ?zzk7z32 ?zzk8z32 ?_; (case zzk2z32 => k_asm); (case zzk1z32 => k_asm); (case zzk3z32 => k_asm); (case zzk4z32 => k_asm); (case zzk5z32 => k_asm); (case zzk9z32 => k_asm); (case zzk10z32 => k_asm); (case zzh0z32 => exact (PairE.pin' (by walk_at "mine mem2") (by with_reducible assumption))); (case zzh1z32 => exact (by omega)); (case zzh2z32 => exact (by omega)); (case zzh3z32 => exact (by omega)); (case zzh4z32 => exact (by omega)); (case zzk6z32 => first | exact rfl | assumption); (case zzk7z32 => walk_at "mine room"); (case zzk8z32 => walk_at "mine room"); intro r9 tl9 h9 tk9 F9 N9 P9; (obtain ⟨e9, e9b⟩ := P9; subst e9; subst e9b; (simp only [List.nil_append] at N9)); (try dsimp only); (try k_fold); (try k_sweep)))
  k_with "call ref" => (k_here; k_dflt (refine' CallS0.use (ones_all' _ _ _ _ _ ?zzh0z33 ?zzh1z33 ?zzh2z33 ?zzh3z33) ?zzk1z33 ?zzk2z33 ?zzk3z33 ?zzk4z33 ?zzk5z33 ?zzk9z33 ?zzk10z33 ?zzk6z33 ?zzk7z33 ?zzk8z33 ?_; (case zzk2z33 => k_asm); (case zzk1z33 => k_asm); (case zzk3z33 => k_asm); (case zzk4z33 => k_asm); (case zzk5z33 => k_asm); (case zzk9z33 => k_asm); (case zzk10z33 => k_asm); (case zzh0z33 => exact (by omega)); (case zzh1z33 => exact (by omega)); (case zzh2z33 => exact (by omega)); (case zzh3z33 => exact (by omega)); (case zzk6z33 => first | exact rfl | assumption); (case zzk7z33 => walk_at "mine room"); (case zzk8z33 => walk_at "mine room"); intro r9 tl9 h9 tk9 F9 N9 P9; (obtain ⟨e9, e9b⟩ := P9; subst e9; subst e9b; (simp only [List.nil_append] at N9)); (try dsimp only); (try k_fold); (try k_sweep)))
  k_with "call ref" => (k_here; k_dflt (refine' CallOk.use (tiny_all _ _ _ _ ?zzh0z34 ?zzh1z34 ?zzh2z34) ?zzk1z34 ?zzk2z34 ?zzk3z34 ?zzk4z34 ?zzk5z34 ?zzk6z34 ?zzk7z34 ?zzk8z34 ?_; (case zzk1z34 => k_asm); (case zzk2z34 => k_asm); (case zzk3z34 => k_asm); (case zzk4z34 => exact News.nil); (case zzk5z34 => k_asm); (case zzh0z34 => exact (by omega)); (case zzh1z34 => exact (by omega)); (case zzh2z34 => exact (by omega)); (case zzk6z34 => first | exact rfl | assumption); (case zzk7z34 => walk_at "mine room"); (case zzk8z34 => walk_at "mine room"); intro r9 tl9 h9 tk9 F9 N9 P9; (obtain ⟨e9, e9b⟩ := P9; subst e9; subst e9b; (simp only [List.nil_append] at N9)); (try dsimp only); (try k_fold); (try k_sweep)))
  trivial
set_option maxHeartbeats 0 in
theorem law_holds : PySem.Challenge.rw_pf0124_01.Holds := by
  w_on
  refine holds_law ?wl fun said => ?_
  case wl => exact wl_ok
  refine holds_open (q := viewQ) (loose := []) (Xt := XtQ) (XP := XL viewQ []) (Yf := Hook.obs hook0) (Ya := Hook.val hook0) (YP := Hook.says hook0) (N := 4096) ?hl (Hook.of hook0) (Hook.keeps hook0) (fun s e => xl_of s (Bool.and_eq_true_iff.mp e).1) XL.keeps (by rfl) (by rfl) (by rfl) (fun s e => recFacts_of (Bool.and_eq_true_iff.mp e).2) (by rfl) (by first | assumption | decide +kernel) (by decide +kernel) ⟨rfl, rfl, rfl, rfl, rfl, by decide +kernel⟩ ?hw ?hc
  case hw => w_witness2
  case hl => exact hl_ok
  case hc => (w_strict (
    intro w s₀ s₁ mg mb G Y fa o pm cd doc dV kV ho hd hcd hD hmg hg args vals as hpre hlay hrd hwl hlo
    have KX := kIn_of Y
    have X := (Ground.X G).1
    have V := (Ground.X G).2
    refine Ground.open G ?_
    intro T B D TE TW
    (try (refine guard_noD D (by decide +kernel) ?_; clear D))
    obtain ⟨_, _, M⟩ := bmod_of_top T
    have TA := at_of_top T
    (try (obtain ⟨_, _, he, B0⟩ := based_of_top T rfl hmg ho hd; have he' : cd = _ := he; subst he'; clear he))
    clear hmg
    wrow_args hpre hlay hrd hwl hlo
    all_goals (
      (first | refine callC_kw (enter_call ?_) | refine enter_call ?_ | refine callC_kw (enter_callW ?_) | refine enter_callW ?_ | w_how)
      w_top on
      (try refine codeAny_mono ?_ (fun _ _ g => GoodW.toG g))
      have K0 := below_caller (Top.heap T)
      w_call any ho hd hcd hD T F
      clear hd TA
      k_drop
      skip)
    (all_goals try k_fold)
    k_steps))
end Mine
end
theorem PySem.Challenge.cw_pf0124_01_holds : PySem.Challenge.rw_pf0124_01.Holds := by
  exact Mine.law_holds
