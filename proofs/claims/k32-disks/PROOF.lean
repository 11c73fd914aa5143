import PyProof.Rows.All
import Wide.All
import OpenK.AllK
import Wide.FinOn
import HandS.ForMost
import HandS.Walk
import HandS.Evl
import HandS.IsInst
import HandS.Wide

import PySem.Challenge.RW_pullstore_k32_disks_cut_anywhere
set_option Elab.async false
set_option linter.all false
set_option maxRecDepth 100000
namespace PL
open PySem PySem.Spec PyProof.Rows L2 Evl
set_option maxHeartbeats 4000000

/-! ### calls of defs of the text -/
structure Has (P : Program) (w : World) (K : PySem.W.Frag) (mg : Str → Option Value) (base : Heap) (x : Str) (k : Nat) (sp : Sp) : Prop where
  ex : ∃ (f : Addr) (fd : FuncData) (ps : List Str), mg x = some (.ref f) ∧ PySem.W.keepIn K (.ref f) = true ∧ Binds K fd ps [] ∧ FnOk P w K mg base CX0 k f fd ps sp
theorem has_mk {P : Program} {w : World} {K : PySem.W.Frag} {mg : Str → Option Value} {base : Heap} {x : Str} {k : Nat} {sp : Sp} {f : Addr} {fd : FuncData} {ps : List Str} (h1 : mg x = some (.ref f)) (h2 : PySem.W.keepIn K (.ref f) = true) (h3 : Binds K fd ps [])
    (h4 : FnOk P w K mg base CX0 k f fd ps sp) : Has P w K mg base x k sp := ⟨f, fd, ps, h1, h2, h3, h4⟩
section
variable {X : Cx} {k : Nat} {sp : Sp} {x : Str} {p pos : Pos} {e : Expr} {es : List Expr} {t : TA}
theorem pe_fn (h : Has X.prog X.w X.K X.mg X.base x k sp) (hr : Room k X.A) (hg : Gl X x) (ha : PA X (e :: es) t) (hdb : (x == ("__debug__" : Str)) = false := by decide) (he : starEach (e :: es) X.env = (false, eval e X.env) :: starEach es X.env := by rfl)
    (hpl : (backTo pos (starEach es X.env)).any (·.1) = false := by rfl) : PE X (.Call (.Name x p) (e :: es) [] pos) (tCall sp [] E0 t) := by
  obtain ⟨f, fd, ps, h1, h2, h3, h4⟩ := h.ex
  exact pe_call h4 hr hg h1 h2 h3 .nil pass0 ha hdb he hpl
theorem pe_fn0 (h : Has X.prog X.w X.K X.mg X.base x k sp) (hr : Room k X.A) (hg : Gl X x) (hdb : (x == ("__debug__" : Str)) = false := by decide) : PE X (.Call (.Name x p) [] [] pos) (tCall sp [] E0 tNil) := by
  obtain ⟨f, fd, ps, h1, h2, h3, h4⟩ := h.ex
  exact pe_call0 h4 hr hg h1 h2 h3 .nil pass0 hdb
theorem pe_constI {i : Int} (hm : ∃ t, X.mg x = some (.int i t)) (hg : Gl X x) (hd : (x == ("__debug__" : Str)) = false := by decide) : PE X (.Name x pos) (tC (.int i)) := by
  obtain ⟨t, hm⟩ := hm
  exact pe_glob hg hm ⟨t, rfl⟩ hd
end

/-! ### promises by their arguments -/
def Sp0 (R : Hp → VK → Prop) : Sp := fun vs H Q _ => vs = [] ∧ R H Q
def Sp1 (R : V → Hp → VK → Prop) : Sp := fun vs H Q _ => ∃ a, vs = [a] ∧ R a H Q
def Sp2 (R : V → V → Hp → VK → Prop) : Sp := fun vs H Q _ => ∃ a b, vs = [a, b] ∧ R a b H Q
def Sp3 (R : V → V → V → Hp → VK → Prop) : Sp := fun vs H Q _ => ∃ a b c, vs = [a, b, c] ∧ R a b c H Q
def Sp4 (R : V → V → V → V → Hp → VK → Prop) : Sp := fun vs H Q _ => ∃ a b c d, vs = [a, b, c, d] ∧ R a b c d H Q
def Sp5 (R : V → V → V → V → V → Hp → VK → Prop) : Sp := fun vs H Q _ => ∃ a b c d e, vs = [a, b, c, d, e] ∧ R a b c d e H Q
section
variable {vs : List V} {H : Hp} {Q : VK} {E : XK}
theorem len0 {R} (h : Sp0 R vs H Q E) : vs.length = 0 := by obtain ⟨rfl, _⟩ := h; rfl
theorem len1 {R} (h : Sp1 R vs H Q E) : vs.length = 1 := by obtain ⟨_, rfl, _⟩ := h; rfl
theorem len2 {R} (h : Sp2 R vs H Q E) : vs.length = 2 := by obtain ⟨_, _, rfl, _⟩ := h; rfl
theorem len3 {R} (h : Sp3 R vs H Q E) : vs.length = 3 := by obtain ⟨_, _, _, rfl, _⟩ := h; rfl
theorem len4 {R} (h : Sp4 R vs H Q E) : vs.length = 4 := by obtain ⟨_, _, _, _, rfl, _⟩ := h; rfl
theorem len5 {R} (h : Sp5 R vs H Q E) : vs.length = 5 := by obtain ⟨_, _, _, _, _, rfl, _⟩ := h; rfl
end

/-! ### operators that ask their operands' kind late -/
section
variable {X : Cx}
def rAddA : R2 := fun x y H Q => rI0 (fun i j => .int (i + j)) x y H Q ∨ rCat x y H Q
theorem op_addA : OpR X (binaryOp .Add) rAddA := op_add.or op_cat
def rMulA : R2 := fun x y H Q => rI CMul (fun i j => .int (i * j)) x y H Q ∨ rRep x y H Q
theorem op_mulA : OpR X (binaryOp .Mult) rMulA := op_mul.or op_rep
def rDivA : R2 := fun x y H Q => rI CDiv (fun i j => .int (i / j)) x y H Q ∨ rI CDivW (fun i j => .int (i / j)) x y H Q
theorem op_fdivA : OpR X (binaryOp .FloorDiv) rDivA := op_fdiv.or op_fdivW
def rModA : R2 := rI (fun _ j => 0 < j) fun i j => .int (i % j)
theorem op_modA : OpR X (binaryOp .Mod) rModA := op_mod
def rPowA : R2 := rI CPow fun i j => .int (i ^ j.toNat)
theorem op_powA : OpR X (binaryOp .Pow) rPowA := op_pow
def rEqA (K : PySem.W.Frag) : R2 := fun x y H Q => rEq x y H Q ∨ rEqD K x y H Q
theorem op_eqA (hu : X.A.units + 64 < cLine) : OpR X (compareOp .Eq) (rEqA X.K) := op_eq.or (op_eqD hu)
def rNeA (K : PySem.W.Frag) : R2 := fun x y H Q => rNe x y H Q ∨ rNeD K x y H Q
theorem op_neA (hu : X.A.units + 64 < cLine) : OpR X (compareOp .NotEq) (rNeA X.K) := op_ne.or (op_neD hu)
end

def rLen (K : PySem.W.Frag) : List V → Hp → VK → Prop := fun xs H Q => ∃ p ys, xs = [.ref p] ∧ (SqL K H p ys ∨ SqT K H p ys) ∧ Q (.int (ys.length : Nat)) H
def rLst (K : PySem.W.Frag) : List V → Hp → VK → Prop := fun xs H Q => ∃ p ys, xs = [.ref p] ∧ (SqL K H p ys ∨ SqT K H p ys) ∧ ∀ l, H l = none → Q (.ref l) (upd H l (.lst ys))
def rInt : List V → Hp → VK → Prop := fun xs H Q => (∃ i, xs = [.int i] ∧ Q (.int i) H) ∨ ∃ k, xs = [.bl k] ∧ Q (.int (if k then 1 else 0)) H
def tTru (K : PySem.W.Frag) (ta : TE) : TT := fun σ H Q => ta σ H fun x H' => ∃ k, TruV K x H' k ∧ Q k H'
/-! ### steps -/
section
variable {K : PySem.W.Frag} {σ : L2.St} {H : Hp} {Q : VK} {ta tb te tc : TE} {v x y : V} {r : R2} {D : Ends} {t u : TS} {c d : TT} {i : Nat} {P : Bool → Hp → Prop}
theorem w_seq (h : t { D with nx := u D } σ H) : tSeq t u D σ H := h
theorem w_cut (M : L2.St → Hp → Prop) (h : t { D with nx := M } σ H) (k : ∀ σ' H', M σ' H' → u D σ' H') : tCut t u D σ H := ⟨M, h, k⟩
theorem w_asg (h : te σ H fun v H' => D.nx (σ.set i (some v)) H') : tAsg te (gName i) D σ H := h
theorem w_ret (h : te σ H D.rt) : tRet te D σ H := h
theorem w_if (h : c σ H fun b H1 => if b = true then t D σ H1 else u D σ H1) : tIfS c t u D σ H := h
theorem w_drop (h : te σ H fun _ H1 => D.nx σ H1) : tDrop te D σ H := h
theorem w_next (h : D.nx σ H) : tNext D σ H := h
theorem w_brk (h : D.bk σ H) : tBreak D σ H := h
theorem w_cont (h : D.ct σ H) : tCont D σ H := h
theorem w_var (e : σ[i]? = some (some v)) (h : Q v H) : tVar i σ H Q := ⟨v, e, h⟩
theorem w_c (h : Q v H) : tC v σ H Q := h
theorem w_op (h : ta σ H fun x H1 => tb σ H1 fun y H2 => r x y H2 Q) : tOp r ta tb σ H Q := h
theorem w_un {r : V → Hp → VK → Prop} (h : ta σ H fun x H1 => r x H1 Q) : tUn r ta σ H Q := h
theorem w_neg {i : Int} (h : Q (.int (-i)) H) : rU (fun i => .int (-i)) (.int i) H Q := ⟨i, rfl, h⟩
theorem w_test (h : te σ H fun x H1 => ∃ k, x = .bl k ∧ P k H1) : tTest te σ H P := h
theorem w_bl {b : Bool} (h : P b H) : ∃ k, V.bl b = .bl k ∧ P k H := ⟨b, rfl, h⟩
theorem w_bl0 {b : Bool} {A : Bool → Prop} (h : A b) : ∃ c, V.bl b = .bl c ∧ A c := ⟨b, rfl, h⟩
theorem w_and (h : c σ H fun b H1 => if b = true then d σ H1 P else P false H1) : tAnd c d σ H P := h
theorem w_or (h : c σ H fun b H1 => if b = true then P true H1 else d σ H1 P) : tOr c d σ H P := h
theorem w_not (h : c σ H fun b H1 => P (!b) H1) : tNot c σ H P := h
theorem w_andV (h : ta σ H fun x H1 => ∃ c, x = .bl c ∧ if c = true then tb σ H1 Q else Q (.bl false) H1) : tAndV ta tb σ H Q := h
theorem w_orV (h : ta σ H fun x H1 => ∃ c, x = .bl c ∧ if c = true then Q (.bl true) H1 else tb σ H1 Q) : tOrV ta tb σ H Q := h
theorem w_notV (h : ta σ H fun x H1 => ∃ c, x = .bl c ∧ Q (.bl (!c)) H1) : tNotV ta σ H Q := h
theorem w_ifE (h : c σ H fun b H1 => if b = true then ta σ H1 Q else tb σ H1 Q) : tIf c ta tb σ H Q := h
theorem w_I0 {g : Int → Int → V} {i j : Int} (h : Q (g i j) H) : rI0 g (.int i) (.int j) H Q := ⟨i, j, rfl, rfl, h⟩
theorem w_addI {i j : Int} (h : Q (.int (i + j)) H) : rAddA (.int i) (.int j) H Q := .inl ⟨i, j, rfl, rfl, h⟩
theorem w_mulI {i j : Int} (hc : CMul i j) (h : Q (.int (i * j)) H) : rMulA (.int i) (.int j) H Q := .inl ⟨i, j, rfl, rfl, hc, h⟩
theorem w_divI {i j : Int} (h0 : 0 < j) (h1 : j < 1073741824) (h : Q (.int (i / j)) H) : rDivA (.int i) (.int j) H Q := .inl ⟨i, j, rfl, rfl, ⟨h0, h1⟩, h⟩
theorem w_divW {i j : Int} (hc : CDivW i j) (h : Q (.int (i / j)) H) : rDivA (.int i) (.int j) H Q := .inr ⟨i, j, rfl, rfl, hc, h⟩
theorem w_modI {i j : Int} (h0 : 0 < j) (h : Q (.int (i % j)) H) : rModA (.int i) (.int j) H Q := ⟨i, j, rfl, rfl, h0, h⟩
theorem w_powI {i j : Int} (hc : CPow i j) (h : Q (.int (i ^ j.toNat)) H) : rPowA (.int i) (.int j) H Q := ⟨i, j, rfl, rfl, hc, h⟩
theorem w_eqI {i j : Int} (h : Q (.bl (decide (i = j))) H) : rEqA K (.int i) (.int j) H Q := .inl ⟨rfl, by
  have e : decide (V.int i = V.int j) = decide (i = j) := by simp
  rw [e]; exact h⟩
theorem w_neI {i j : Int} (h : Q (.bl (!decide (i = j))) H) : rNeA K (.int i) (.int j) H Q := .inl ⟨rfl, by
  have e : decide (V.int i = V.int j) = decide (i = j) := by simp
  rw [e]; exact h⟩
theorem w_chain {r r' : R2} (h : ta σ H fun x H1 => tb σ H1 fun y H2 => r x y H2 fun z H3 => ∃ k, z = .bl k ∧ if k = true then tc σ H3 fun u H4 => r' y u H4 Q else Q (.bl false) H3) : tChain r r' ta tb tc σ H Q := h
/-- a test that is known -/
theorem w_ite {p A B : Prop} [Decidable p] (h1 : p → A) (h2 : ¬ p → B) : if decide p = true then A else B := by
  by_cases h : p
  · rw [if_pos (decide_eq_true h)]; exact h1 h
  · rw [if_neg (by simpa using h)]; exact h2 h
theorem w_iteN {p A B : Prop} [Decidable p] (h1 : ¬ p → A) (h2 : p → B) : if (!decide p) = true then A else B := by
  by_cases h : p
  · rw [if_neg (by simpa using h)]; exact h2 h
  · rw [if_pos (by simpa using h)]; exact h1 h
theorem w_iteB {b : Bool} {A B : Prop} (h1 : b = true → A) (h2 : b = false → B) : if b = true then A else B := by
  cases b with
  | true => rw [if_pos rfl]; exact h1 rfl
  | false => rw [if_neg Bool.false_ne_true]; exact h2 rfl
theorem w_iteBN {b : Bool} {A B : Prop} (h1 : b = false → A) (h2 : b = true → B) : if (!b) = true then A else B := by
  cases b with
  | true => exact iteF (h2 rfl)
  | false => exact iteT (h1 rfl)
theorem w_true {A B : Prop} (h : A) : if true = true then A else B := iteT h
theorem w_false {A B : Prop} (h : B) : if false = true then A else B := iteF h
theorem w_notT {A B : Prop} (h : B) : if (!true) = true then A else B := iteF h
theorem w_notF {A B : Prop} (h : A) : if (!false) = true then A else B := iteT h

/-! arguments, calls -/
variable {tx : TA} {R : List V → Hp → Prop}
theorem w_nil (h : R [] H) : tNil σ H R := h
theorem w_cons (h : ta σ H fun x H1 => tx σ H1 fun xs H2 => R (x :: xs) H2) : tCons ta tx σ H R := h
theorem w_call {sp : Sp} {dvs : List V} {E : XK} (h : tx σ H fun vs H1 => sp (vs ++ dvs) H1 Q E) : tCall sp dvs E tx σ H Q := h
theorem w_cb {r : List V → Hp → VK → Prop} (h : tx σ H fun vs H1 => r vs H1 Q) : tCB r tx σ H Q := h
/-! new objects: the heap behind is a letter -/
def New (o : HO) (H : Hp) (Q : Addr → Hp → Prop) : Prop := ∀ p H', H p = none → Ex H H' → H' p = some o → Q p H'
theorem New.go {o : HO} {Q : Addr → Hp → Prop} (h : New o H Q) : ∀ p, H p = none → Q p (upd H p o) := fun p hp => h p _ hp (Ex.new hp) upd_same
theorem w_lst (h : tx σ H fun xs H1 => xs.length ≤ sizeLine ∧ ∀ p, H1 p = none → Q (.ref p) (upd H1 p (.lst xs))) : tLst tx σ H Q := h
theorem w_tup (h : tx σ H fun xs H1 => xs.length ≤ sizeLine ∧ ∀ p, H1 p = none → Q (.ref p) (upd H1 p (.tup xs))) : tTup tx σ H Q := h
theorem w_newL {xs : List V} (hl : xs.length ≤ 1000) (h : ∀ p H', H p = none → Ex H H' → H' p = some (.lst xs) → Q (.ref p) H') : xs.length ≤ sizeLine ∧ ∀ p, H p = none → Q (.ref p) (upd H p (.lst xs)) :=
  ⟨Nat.le_trans hl (by decide), fun p hp => h p _ hp (Ex.new hp) upd_same⟩
theorem w_newT {xs : List V} (hl : xs.length ≤ 1000) (h : ∀ p H', H p = none → Ex H H' → H' p = some (.tup xs) → Q (.ref p) H') : xs.length ≤ sizeLine ∧ ∀ p, H p = none → Q (.ref p) (upd H p (.tup xs)) :=
  ⟨Nat.le_trans hl (by decide), fun p hp => h p _ hp (Ex.new hp) upd_same⟩
theorem w_newX {o : HO} {n m : Nat} {G : Addr → Prop} (hl : n ≤ m) (h : ∀ p H', H p = none → Ex H H' → H' p = some o → H' = upd H p o → G p) (hG : ∀ p, G p → G p := by intro _ q; exact q) : n ≤ m ∧ ∀ p, H p = none → G p :=
  ⟨hl, fun p hp => h p _ hp (Ex.new hp) upd_same rfl⟩
theorem w_newXL {xs : List V} {m : Nat} {G : Addr → Prop} (hl : xs.length ≤ m) (h : ∀ p H', H p = none → Ex H H' → H' p = some (.lst xs) → H' = upd H p (.lst xs) → G p) : xs.length ≤ m ∧ ∀ p, H p = none → G p :=
  ⟨hl, fun p hp => h p _ hp (Ex.new hp) upd_same rfl⟩
theorem w_newXT {xs : List V} {m : Nat} {G : Addr → Prop} (hl : xs.length ≤ m) (h : ∀ p H', H p = none → Ex H H' → H' p = some (.tup xs) → H' = upd H p (.tup xs) → G p) : xs.length ≤ m ∧ ∀ p, H p = none → G p :=
  ⟨hl, fun p hp => h p _ hp (Ex.new hp) upd_same rfl⟩
theorem w_newY {o : HO} {G : Addr → Prop} (h : ∀ p H', H p = none → Ex H H' → H' p = some o → H' = upd H p o → G p) : ∀ p, H p = none → G p :=
  fun p hp => h p _ hp (Ex.new hp) upd_same rfl
theorem le_line {n : Nat} (h : n ≤ 100000) : n ≤ sizeLine := Nat.le_trans h (by decide)
/-! lists -/
theorem w_ixC {a : Addr} {xs : List V} {i : Int} (h : SqL K H a xs) (hv : atI xs i = some v) (k : Q v H) : rIx K (.ref a) (.int i) H Q := .inl ⟨a, xs, i, v, rfl, rfl, h, hv, k⟩
theorem w_ixT {a : Addr} {xs : List V} {i : Int} (h : SqT K H a xs) (hv : atI xs i = some v) (k : Q v H) : rIx K (.ref a) (.int i) H Q := .inr (.inl ⟨a, xs, i, v, rfl, rfl, h, hv, k⟩)
theorem at_nat {α : Type} {xs : List α} {i : Int} {v : α} (h0 : 0 ≤ i) (h : xs[i.toNat]? = some v) : atI xs i = some v := by
  have e : ((i.toNat : Nat) : Int) = i := Int.toNat_of_nonneg h0
  have q := atI_nat (j := i.toNat) h
  rw [e] at q
  exact q
theorem w_ixI {a : Addr} {ns : List Int} {i : Int} (h : SqL K H a (ns.map V.int)) (h0 : 0 ≤ i) (h1 : i < ns.length) (k : ∀ n, ns[i.toNat]? = some n → Q (.int n) H) : rIx K (.ref a) (.int i) H Q := by
  have hl : i.toNat < ns.length := by omega
  refine w_ixC h (v := .int ns[i.toNat]) (at_nat h0 ?_) (k _ (List.getElem?_eq_getElem hl))
  rw [List.getElem?_map, List.getElem?_eq_getElem hl]
  rfl
theorem w_ixA {a : Addr} {ns : List Int} {i n : Int} {j : Nat} (h : SqL K H a (ns.map V.int)) (hv : ns[j]? = some n) (e : i = (j : Int)) (k : Q (.int n) H) : rIx K (.ref a) (.int i) H Q := by
  subst e
  refine w_ixC h (atI_nat (j := j) ?_) k
  rw [List.getElem?_map, hv]
  rfl
/-- the part of a list that a slice takes -/
def cut {α : Type} (xs : List α) (lo hi : Option Int) : List α := (xs.drop (HT.sIx xs.length 0 lo)).take (HT.sIx xs.length xs.length hi - HT.sIx xs.length 0 lo)
theorem cutV_map {ns : List Int} {lo hi : Option Int} : cutV (ns.map V.int) lo hi = (cut ns lo hi).map V.int := by
  unfold cutV cut
  rw [List.length_map, List.map_take, List.map_drop]
theorem sIx_of {n d : Nat} {i : Int} (h : 0 ≤ i) : HT.sIx n d (some i) = min i.toNat n := by
  have e : ((i.toNat : Nat) : Int) = i := Int.toNat_of_nonneg h
  have q := HT.sIx_nat n d i.toNat
  rw [e] at q
  exact q
theorem take_min {α : Type} (xs : List α) (k : Nat) : xs.take (min k xs.length) = xs.take k := by
  by_cases h : k ≤ xs.length
  · rw [Nat.min_eq_left h]
  · rw [Nat.min_eq_right (by omega), List.take_of_length_le (Nat.le_refl _), List.take_of_length_le (by omega)]
theorem drop_min {α : Type} (xs : List α) (k : Nat) : xs.drop (min k xs.length) = xs.drop k := by
  by_cases h : k ≤ xs.length
  · rw [Nat.min_eq_left h]
  · rw [Nat.min_eq_right (by omega), List.drop_of_length_le (Nat.le_refl _), List.drop_of_length_le (by omega)]
theorem cut_hi {α : Type} {xs : List α} {i : Int} (h : 0 ≤ i) : cut xs none (some i) = xs.take i.toNat := by
  unfold cut
  rw [sIx_of h, HT.sIx_none, List.drop_zero, Nat.sub_zero, take_min]
theorem cut_lo {α : Type} {xs : List α} {i : Int} (h : 0 ≤ i) : cut xs (some i) none = xs.drop i.toNat := by
  unfold cut
  rw [sIx_of h, HT.sIx_none, drop_min]
  refine List.take_of_length_le ?_
  rw [List.length_drop]
  omega
theorem cut_both {α : Type} {xs : List α} {i j : Int} (h : 0 ≤ i) (h2 : 0 ≤ j) : cut xs (some i) (some j) = (xs.take j.toNat).drop i.toNat := by
  unfold cut
  rw [sIx_of h, sIx_of h2, drop_min, List.drop_take]
  by_cases hj : j.toNat ≤ xs.length
  · rw [Nat.min_eq_left hj]
    by_cases hi : i.toNat ≤ xs.length
    · rw [Nat.min_eq_left hi]
    · rw [List.drop_of_length_le (by omega), List.take_nil, List.take_nil]
  · rw [Nat.min_eq_right (show xs.length ≤ j.toNat by omega)]
    rw [List.take_of_length_le (l := xs.drop i.toNat) (i := j.toNat - i.toNat) (by rw [List.length_drop]; omega)]
    refine List.take_of_length_le ?_
    rw [List.length_drop]
    omega
theorem w_sl {te : TE} {tl th : TO} {r : V → Option Int → Option Int → Hp → VK → Prop} (h : te σ H fun x H1 => tl σ H1 fun l H2 => th σ H2 fun u H3 => r x l u H3 Q) : tSl r te tl th σ H Q := h
theorem w_noPart {Q : Option Int → Hp → Prop} (h : Q none H) : tNoPart σ H Q := h
theorem w_part {Q : Option Int → Hp → Prop} (h : te σ H fun x H1 => ∃ i, x = .int i ∧ Q (some i) H1) : tPart te σ H Q := h
theorem w_some {i : Int} {Q : Option Int → Hp → Prop} (h : Q (some i) H) : ∃ j, V.int i = .int j ∧ Q (some j) H := ⟨i, rfl, h⟩
theorem w_some0 {i : Int} {A : Int → Prop} (h : A i) : ∃ j, V.int i = .int j ∧ A j := ⟨i, rfl, h⟩
theorem w_slI {a : Addr} {ns : List Int} {lo hi : Option Int} (h : SqL K H a (ns.map V.int)) (k : ∀ p H', H p = none → Ex H H' → H' p = some (.lst ((cut ns lo hi).map V.int)) → Q (.ref p) H') : rSlL K (.ref a) lo hi H Q :=
  ⟨a, _, rfl, h, fun p hp => by rw [cutV_map]; exact k p _ hp (Ex.new hp) upd_same⟩
theorem w_slHi {a : Addr} {ns : List Int} {i : Int} (h : SqL K H a (ns.map V.int)) (h0 : 0 ≤ i) (k : ∀ p H', H p = none → Ex H H' → H' p = some (.lst ((ns.take i.toNat).map V.int)) → Q (.ref p) H') : rSlL K (.ref a) none (some i) H Q :=
  w_slI h (by rw [cut_hi h0]; exact k)
theorem w_slLo {a : Addr} {ns : List Int} {i : Int} (h : SqL K H a (ns.map V.int)) (h0 : 0 ≤ i) (k : ∀ p H', H p = none → Ex H H' → H' p = some (.lst ((ns.drop i.toNat).map V.int)) → Q (.ref p) H') : rSlL K (.ref a) (some i) none H Q :=
  w_slI h (by rw [cut_lo h0]; exact k)
theorem w_slBo {a : Addr} {ns : List Int} {i j : Int} (h : SqL K H a (ns.map V.int)) (h0 : 0 ≤ i) (h1 : 0 ≤ j) (k : ∀ p H', H p = none → Ex H H' → H' p = some (.lst (((ns.take j.toNat).drop i.toNat).map V.int)) → Q (.ref p) H') : rSlL K (.ref a) (some i) (some j) H Q :=
  w_slI h (by rw [cut_both h0 h1]; exact k)
theorem w_catI {a b : Addr} {ns ms : List Int} (h : H a = some (.lst (ns.map V.int))) (h' : H b = some (.lst (ms.map V.int))) (hl : ns.length + ms.length ≤ 100000) (k : ∀ p H', H p = none → Ex H H' → H' p = some (.lst ((ns ++ ms).map V.int)) → Q (.ref p) H') :
    rAddA (.ref a) (.ref b) H Q := .inr ⟨a, b, _, _, rfl, rfl, h, h', by rw [List.length_map, List.length_map]; exact Nat.le_trans hl (by decide), fun p hp => by rw [← List.map_append]; exact k p _ hp (Ex.new hp) upd_same⟩
theorem w_lenI {a : Addr} {ns : List Int} (h : SqL K H a (ns.map V.int)) (k : Q (.int ns.length) H) : rLen K [V.ref a] H Q := ⟨a, _, rfl, .inl h, by rw [List.length_map]; exact k⟩
theorem w_lenT {a : Addr} {xs : List V} (h : SqT K H a xs) (k : Q (.int xs.length) H) : rLen K [V.ref a] H Q := ⟨a, _, rfl, .inr h, k⟩
theorem w_int1 {i : Int} (k : Q (.int i) H) : rInt [V.int i] H Q := .inl ⟨i, rfl, k⟩
theorem w_int2 {b : Bool} (k : Q (.int (if b then 1 else 0)) H) : rInt [V.bl b] H Q := .inr ⟨b, rfl, k⟩
theorem w_sum {a : Addr} {ns : List Int} (h : SqL K H a (ns.map V.int)) (k : Q (.int ns.sum) H) : rSum K [.ref a] H Q := ⟨a, ns, rfl, h, k⟩
theorem w_listI {a : Addr} {ns : List Int} (h : SqL K H a (ns.map V.int)) (k : ∀ p H', H p = none → Ex H H' → H' p = some (.lst (ns.map V.int)) → Q (.ref p) H') :
    rLst K [V.ref a] H Q := ⟨a, _, rfl, .inl h, fun p hp => k p _ hp (Ex.new hp) upd_same⟩
theorem ty_lst {a : Addr} {xs : List V} (h : SqL K H a xs) : TyX K H (.ref a) (.type "list") := by
  rcases h with (h | ⟨o, h⟩) | ⟨o, its, n, h, c, _⟩
  · exact .base (.lst h)
  · exact .base (.frz h)
  · exact .kList h c
theorem ty_tup {a : Addr} {xs : List V} (h : H a = some (.tup xs)) : TyX K H (.ref a) (.type "tuple") := .base (.tup h)
theorem w_isi {T U : String} {b : Bool} (h : TyX K H x (.type T)) (e : kitB T U = some b) (k : Q (.bl b) H) : rIsi K [x, .ty U] H Q := ⟨x, _, _, _, b, rfl, .ty U, h, kit_ty e, k⟩
theorem w_isiI {i : Int} {U : String} {b : Bool} (e : kitB "int" U = some b) (k : Q (.bl b) H) : rIsi K [.int i, .ty U] H Q := w_isi (.base (.int i)) e k
theorem w_isiL {a : Addr} {xs : List V} {U : String} {b : Bool} (h : SqL K H a xs) (e : kitB "list" U = some b) (k : Q (.bl b) H) : rIsi K [.ref a, .ty U] H Q := w_isi (ty_lst h) e k
theorem w_isiT {a : Addr} {xs : List V} {U : String} {b : Bool} (h : H a = some (.tup xs)) (e : kitB "tuple" U = some b) (k : Q (.bl b) H) : rIsi K [.ref a, .ty U] H Q := w_isi (ty_tup h) e k
theorem w_isi_ii {i : Int} (k : Q (.bl true) H) : rIsi K [.int i, .ty "int"] H Q := w_isiI (by decide +kernel) k
theorem w_isi_ib {i : Int} (k : Q (.bl false) H) : rIsi K [.int i, .ty "bool"] H Q := w_isiI (by decide +kernel) k
theorem w_isi_ll {a : Addr} {xs : List V} (h : SqL K H a xs) (k : Q (.bl true) H) : rIsi K [.ref a, .ty "list"] H Q := w_isiL h (by decide +kernel) k
theorem w_isi_tt {a : Addr} {xs : List V} (h : H a = some (.tup xs)) (k : Q (.bl true) H) : rIsi K [.ref a, .ty "tuple"] H Q := w_isiT h (by decide +kernel) k
/-! data compared -/
theorem dp_ints {ns : List Int} : DpAll K H (ns.map V.int) (ns.map PyData.int) := by
  induction ns with
  | nil => exact .nil
  | cons n ns ih => exact .cons (.int n) ih
theorem dp_list {a : Addr} {ns : List Int} (h : SqL K H a (ns.map V.int)) : Dp K H (.ref a) (.list (ns.map PyData.int)) := .lst h dp_ints
theorem shaped_ints (ns : List Int) : SeqAt.shaped (.list (ns.map PyData.int)) = true := by
  have h1 : PyData.canLayAll0 (ns.map PyData.int) = true := by
    induction ns with
    | nil => rfl
    | cons n ns ih => simp [PyData.canLayAll0, PyData.canLay0, ih]
  have h2 : PyData.depthAll (ns.map PyData.int) ≤ 1 := by
    induction ns with
    | nil => simp [PyData.depthAll]
    | cons n ns ih => simp [PyData.depthAll, PyData.depth]; simp [PyData.canLayAll0] at h1; exact ih h1.2
  unfold SeqAt.shaped
  rw [Bool.and_eq_true, decide_eq_true_eq]
  refine ⟨by simpa [PyData.canLay0] using h1, ?_⟩
  show PyData.depth (.list (ns.map PyData.int)) ≤ 64
  simp [PyData.depth]
  omega
theorem eqv_ints : ∀ (ns ms : List Int), PyData.eqvAll (ns.map PyData.int) (ms.map PyData.int) = decide (ns = ms)
  | [], [] => by simp [PyData.eqvAll]
  | [], _ :: _ => by simp [PyData.eqvAll]
  | _ :: _, [] => by simp [PyData.eqvAll]
  | n :: ns, m :: ms => by
    simp only [List.map_cons, PyData.eqvAll, PyData.eqv, eqv_ints ns ms, List.cons.injEq, Bool.decide_and]
    rw [Bool.beq_eq_decide_eq]
theorem w_eqL {a b : Addr} {ns ms : List Int} (h : SqL K H a (ns.map V.int)) (h' : SqL K H b (ms.map V.int)) (k : Q (.bl (decide (ns = ms))) H) : rEqA K (.ref a) (.ref b) H Q :=
  .inr ⟨_, _, dp_list h, dp_list h', shaped_ints _, shaped_ints _, by rw [PyData.eqv, eqv_ints]; exact k⟩
theorem w_neL {a b : Addr} {ns ms : List Int} (h : SqL K H a (ns.map V.int)) (h' : SqL K H b (ms.map V.int)) (k : Q (.bl (!decide (ns = ms))) H) : rNeA K (.ref a) (.ref b) H Q :=
  .inr ⟨_, _, dp_list h, dp_list h', shaped_ints _, shaped_ints _, by rw [PyData.eqv, eqv_ints]; exact k⟩
theorem get_map {ns : List Int} {i : Nat} {v : V} (h : (ns.map V.int)[i]? = some v) : ∃ e, ns[i]? = some e ∧ v = .int e := by
  rw [List.getElem?_map] at h
  cases q : ns[i]? with
  | none => rw [q] at h; cases h
  | some e => rw [q] at h; exact ⟨e, rfl, (Option.some.inj h).symm⟩
/-! tests by their truth -/
theorem w_tru (h : ta σ H fun x H' => ∃ k, TruV K x H' k ∧ P k H') : tTru K ta σ H P := h
theorem w_truB {b : Bool} (h : P b H) : ∃ k, TruV K (.bl b) H k ∧ P k H := ⟨b, rfl, h⟩
theorem w_truB0 {b : Bool} {A : Bool → Prop} (h : A b) : ∃ k, TruV K (.bl b) H k ∧ A k := ⟨b, rfl, h⟩
theorem w_truI {i : Int} (h : P (i != 0) H) : ∃ k, TruV K (.int i) H k ∧ P k H := ⟨_, rfl, h⟩
theorem w_truL {a : Addr} {xs : List V} (s : SqL K H a xs) (h : P (!xs.isEmpty) H) : ∃ k, TruV K (.ref a) H k ∧ P k H := ⟨_, .inl ⟨xs, s, rfl⟩, h⟩
/-! methods -/
theorem w_bm {T : String} {r : V → List V → Hp → VK → Prop} (h : ta σ H fun x H1 => tyV K T x H1 ∧ tx σ H1 fun xs H2 => r x xs H2 Q) : tBM K T r ta tx σ H Q := h
theorem w_bm0 {T : String} {r : V → List V → Hp → VK → Prop} (h : ta σ H fun x H1 => tyV K T x H1 ∧ r x [] H1 Q) : tBM0 K T r ta σ H Q := h
theorem w_ty {a : Addr} {xs : List V} {A : Prop} (s : SqL K H a xs) (h : A) : tyV K "list" (.ref a) H ∧ A := ⟨Or.inl ⟨rfl, xs, s⟩, h⟩
/-- the heap but for l -/
def Chg (l : Addr) (H H' : Hp) : Prop := ∀ a, a ≠ l → H' a = H a
theorem Chg.ex {l : Addr} {H0 H H' : Hp} (c : Chg l H H') (e : Ex H0 H) (h : H0 l = none) : Ex H0 H' := fun a o q => (c a (ne_of_none q h)).trans (e a o q)
theorem Chg.trans {l : Addr} {H1 H2 : Hp} (a : Chg l H H1) (b : Chg l H1 H2) : Chg l H H2 := fun x h => (b x h).trans (a x h)
theorem chg_upd {l : Addr} {o : HO} : Chg l H (upd H l o) := fun _ h => upd_ne h
theorem Chg.sq {l : Addr} {H' : Hp} {a : Addr} {xs : List V} (c : Chg l H H') (n : a ≠ l) (h : SqL K H a xs) : SqL K H' a xs := by
  rcases h with (h | ⟨o, h⟩) | h
  · exact .inl (.inl ((c a n).trans h))
  · exact .inl (.inr ⟨o, (c a n).trans h⟩)
  · exact .inr h
theorem w_app {l : Addr} {xs : List V} (h : H l = some (.lst xs)) (hl : xs.length ≤ 100000) (k : ∀ H', Chg l H H' → H' l = some (.lst (xs ++ [y])) → Q .non H') : rAppend (.ref l) [y] H Q :=
  ⟨l, xs, y, rfl, rfl, h, Nat.lt_of_le_of_lt hl (by decide), k _ chg_upd upd_same⟩
theorem w_appI {l : Addr} {ns : List Int} {i : Int} (h : H l = some (.lst (ns.map V.int))) (hl : ns.length ≤ 100000) (k : ∀ H', Chg l H H' → H' l = some (.lst ((ns ++ [i]).map V.int)) → Q .non H') : rAppend (.ref l) [.int i] H Q :=
  w_app h (by rw [List.length_map]; exact hl) fun H' c e => k H' c (by rw [e, List.map_append]; rfl)
/-- x[i] = e -/
theorem w_sub {to ti : TE} {w : V → V → V → Hp → (Hp → Prop) → Prop} (h : te σ H fun v H1 => to σ H1 fun o H2 => ti σ H2 fun i H3 => w o i v H3 fun H4 => D.nx σ H4) : tAsg te (gSub to ti w) D σ H := h
theorem w_setC {l : Addr} {xs : List V} {k : Int} {j : Nat} {Q : Hp → Prop} (h : H l = some (.lst xs)) (hk : ixN xs.length k = some j) (q : ∀ H', Chg l H H' → H' l = some (.lst (xs.set j v)) → Q H') : rSetL (.ref l) (.int k) v H Q :=
  ⟨l, xs, k, j, rfl, rfl, h, hk, q _ chg_upd upd_same⟩
/-! loops -/
def Loop (J : It) (g : TG) (tb : TS) (D : Ends) (σ : L2.St) (H : Hp) : Prop := ∃ W : Nat → Nat → L2.St → Hp → Prop, (∃ m, W 0 m σ H) ∧ ∀ i m σ H, W i m σ H →
  (J.stop i H ∧ D.nx σ H) ∨ (J.go i H ∧ ∃ N : L2.St → Hp → Prop, (∀ σ' H', N σ' H' → ∃ m', m' < m ∧ W (i + 1) m' σ' H') ∧ ∀ x H', J.yld i H x H' → g x σ H' fun σ2 H2 => tb { D with nx := N, ct := N, bk := D.nx } σ2 H2)
variable {wi : TI} {g : TG} {tb : TS} {J : It} {n : Nat} {G : Hp → Prop} {Y : Nat → Hp → V → Hp → Prop}
theorem w_for (h : wi σ H fun J H1 => Loop J g tb D σ H1) : tFor wi g tb D σ H := h
theorem w_loop (w : Walk J n G Y) (Pv : Nat → L2.St → Hp → Prop) (h0 : Pv 0 σ H) (hG : ∀ i σ H, i ≤ n → Pv i σ H → G H)
    (hs : ∀ i x σ H H', i < n → Pv i σ H → Y i H x H' → g x σ H' fun σ2 H2 => tb { D with nx := Pv (i + 1), ct := Pv (i + 1), bk := D.nx } σ2 H2) (hd : ∀ σ H, Pv n σ H → D.nx σ H) : Loop J g tb D σ H :=
  for_it w Pv h0 hG hs hd
theorem w_loopR {n : Nat} {j : Nat} (Pv : Nat → L2.St → Hp → Prop) (h0 : Pv 0 σ H)
    (hs : ∀ (i : Nat) σ H, i < n → Pv i σ H → tb { D with nx := Pv (i + 1), ct := Pv (i + 1), bk := D.nx } (σ.set j (some (.int (i : Int)))) H) (hd : ∀ σ H, Pv n σ H → D.nx σ H) : Loop (Itr 0 n) (gName j) tb D σ H :=
  w_loop walk_range Pv h0 (fun _ _ _ _ _ => trivial) (fun i x σ H H' hi p y => by
    obtain ⟨rfl, rfl⟩ := y
    have e : (0 : Int) + (i : Int) = (i : Int) := Int.zero_add _
    show tb { D with nx := Pv (i + 1), ct := Pv (i + 1), bk := D.nx } (σ.set j (some (.int ((0 : Int) + (i : Int))))) H'
    rw [e]
    exact hs i σ H' hi p) hd
theorem w_loopR2 {lo : Int} {n : Nat} {j : Nat} (Pv : Nat → L2.St → Hp → Prop) (h0 : Pv 0 σ H)
    (hs : ∀ (i : Nat) σ H, i < n → Pv i σ H → tb { D with nx := Pv (i + 1), ct := Pv (i + 1), bk := D.nx } (σ.set j (some (.int (lo + (i : Int))))) H) (hd : ∀ σ H, Pv n σ H → D.nx σ H) : Loop (Itr lo n) (gName j) tb D σ H :=
  w_loop walk_range Pv h0 (fun _ _ _ _ _ => trivial) (fun i x σ H H' hi p y => by
    obtain ⟨rfl, rfl⟩ := y
    exact hs i σ H' hi p) hd
def IRng (R : It → Hp → Prop) (vs : List V) (H : Hp) : Prop := ∃ j : Int, vs = [.int j] ∧ -(2 ^ 62) ≤ j ∧ j < 2 ^ 62 ∧ R (Itr 0 j.toNat) H
def IRng2 (R : It → Hp → Prop) (vs : List V) (H : Hp) : Prop := ∃ i j : Int, vs = [.int i, .int j] ∧ (-(2 ^ 62) ≤ i ∧ i < 2 ^ 62 ∧ -(2 ^ 62) ≤ j ∧ j < 2 ^ 62) ∧ R (Itr i (j - i).toNat) H
def ILst (K : PySem.W.Frag) (R : It → Hp → Prop) (x : V) (H : Hp) : Prop := ∃ a, x = .ref a ∧ (∃ xs, SqL K H a xs) ∧ R (Itl K a) H
def IEnu (K : PySem.W.Frag) (R : It → Hp → Prop) (vs : List V) (H : Hp) : Prop := ∃ a xs, vs = [.ref a] ∧ SqL K H a xs ∧ R (Ite K a) H
theorem w_iR1 {R : It → Hp → Prop} (h : tx σ H fun vs H1 => IRng R vs H1) : iRng1 tx σ H R := h
theorem w_iR2 {R : It → Hp → Prop} (h : tx σ H fun vs H1 => IRng2 R vs H1) : iRng2 tx σ H R := h
theorem w_iL {R : It → Hp → Prop} (h : ta σ H fun x H1 => ILst K R x H1) : iList K ta σ H R := h
theorem w_iE {R : It → Hp → Prop} (h : tx σ H fun vs H1 => IEnu K R vs H1) : iEnum K tx σ H R := h
theorem w_rng {R : It → Hp → Prop} {j : Int} (h0 : -(2 ^ 62) ≤ j) (h1 : j < 2 ^ 62) (h : R (Itr 0 j.toNat) H) : IRng R [.int j] H := ⟨j, rfl, h0, h1, h⟩
theorem w_rng2 {R : It → Hp → Prop} {i j : Int} (h0 : -(2 ^ 62) ≤ i) (h1 : i < 2 ^ 62) (h2 : -(2 ^ 62) ≤ j) (h3 : j < 2 ^ 62) (h : R (Itr i (j - i).toNat) H) : IRng2 R [.int i, .int j] H := ⟨i, j, rfl, ⟨h0, h1, h2, h3⟩, h⟩
theorem w_lstI {R : It → Hp → Prop} {a : Addr} {xs : List V} (s : SqL K H a xs) (h : R (Itl K a) H) : ILst K R (.ref a) H := ⟨a, rfl, ⟨xs, s⟩, h⟩
theorem w_enu {R : It → Hp → Prop} {a : Addr} {xs : List V} (s : SqL K H a xs) (h : R (Ite K a) H) : IEnu K R [.ref a] H := ⟨a, xs, rfl, s, h⟩
/-! comprehensions -/
def LcLoop (J : It) (g : TG) (tt : TT) (te : TE) (vs : List Nat) (σ : L2.St) (Q : VK) (H1 : Hp) : Prop := ∀ D, H1 D = none → ∃ W : Nat → Nat → Hp → Prop, (∃ m, W 0 m (upd H1 D (.lst []))) ∧ ∀ i m H, W i m H →
  (J.stop i H ∧ Q (.ref D) H) ∨ (J.go i H ∧ ∃ Nx : Hp → Prop, (∀ H', Nx H' → ∃ m', m' < m ∧ W (i + 1) m' H') ∧ ∀ x H', J.yld i H x H' → g x (wipe σ vs) H' fun σ2 H2 => wipe σ2 vs = wipe σ vs ∧ tt σ2 H2 fun b H3 =>
    if b = true then te σ2 H3 fun y H4 => ∃ acc, H4 D = some (.lst acc) ∧ acc.length < sizeLine ∧ Nx (upd H4 D (.lst (acc ++ [y]))) else Nx H3)
variable {tt : TT} {vs : List Nat}
theorem w_lc (h : wi σ H fun J H1 => LcLoop J g tt te vs σ Q H1) : tLc wi g tt te vs σ H Q := h
/-- the heap without the object at D -/
def del (D : Addr) (H : Hp) : Hp := fun a => if a = D then none else H a
theorem del_ne {D a : Addr} (h : a ≠ D) : del D H a = H a := if_neg h
theorem del_self {D : Addr} : del D H D = none := if_pos rfl
theorem del_ex {D : Addr} : Ex (del D H) H := fun a o q => by
  unfold del at q
  split at q
  · cases q
  · exact q
theorem ex_del {D : Addr} {H' : Hp} (e : Ex H H') (h : H D = none) : Ex H (del D H') := fun a o q => (del_ne (ne_of_none q h)).trans (e a o q)
/-- what stands ahead of turn i of a comprehension: P of the items made, over a heap B that does not know the new list D -/
def CPv (P : Nat → List V → Hp → Prop) (H : Hp) (D : Addr) (i : Nat) (H' : Hp) : Prop := ∃ acc B, Ex H B ∧ P i acc B ∧ B D = none ∧ Ex B H' ∧ H' D = some (.lst acc)
def CYes (P : Nat → List V → Hp → Prop) (H : Hp) (D : Addr) (i : Nat) (y : V) (H4 : Hp) : Prop := ∃ acc, H4 D = some (.lst acc) ∧ acc.length < sizeLine ∧ CPv P H D (i + 1) (upd H4 D (.lst (acc ++ [y])))
theorem cyes {P : Nat → List V → Hp → Prop} {D : Addr} {i : Nat} {H1 H4 : Hp} {acc : List V} (hD : H D = none) (e : Ex H H1) (hx : H1 D = some (.lst acc)) (hl : acc.length ≤ 100000) (e4 : Ex H1 H4) (p : P (i + 1) (acc ++ [y]) (del D H4)) : CYes P H D i y H4 :=
  ⟨acc, e4 D _ hx, Nat.lt_of_le_of_lt hl (by decide), acc ++ [y], del D H4, ex_del (e.trans e4) hD, p, del_self, fun a o q => by
    have na : a ≠ D := ne_of_none q del_self
    rw [upd_ne na]
    exact del_ex a o q, upd_same⟩
theorem cno {P : Nat → List V → Hp → Prop} {D : Addr} {i : Nat} {H1 H3 : Hp} {acc : List V} (hD : H D = none) (e : Ex H H1) (hx : H1 D = some (.lst acc)) (e4 : Ex H1 H3) (p : P (i + 1) acc (del D H3)) : CPv P H D (i + 1) H3 :=
  ⟨acc, del D H3, ex_del (e.trans e4) hD, p, del_self, del_ex, e4 D _ hx⟩
theorem w_comp (w : Walk J n G Y) (P : Nat → List V → Hp → Prop) (hY : ∀ i H x H', Y i H x H' → Ex H H') (hG : ∀ H', Ex H H' → G H') (h0 : P 0 [] H)
    (hs : ∀ i x acc D B H1 H', i < n → Ex H B → P i acc B → B D = none → Ex B H1 → H1 D = some (.lst acc) → H D = none → Y i H1 x H' → Ex H1 H' → g x (wipe σ vs) H' fun σ2 H2 => wipe σ2 vs = wipe σ vs ∧ tt σ2 H2 fun b H3 =>
      if b = true then te σ2 H3 (CYes P H D i) else CPv P H D (i + 1) H3)
    (hd : ∀ D B H' acc, H D = none → Ex H B → Ex B H' → B D = none → H' D = some (.lst acc) → P n acc B → Q (.ref D) H') : LcLoop J g tt te vs σ Q H := fun D hD =>
  lc_it w (CPv P H D) ⟨[], H, Ex.refl H, h0, hD, Ex.new hD, upd_same⟩ (fun i H' _ ⟨acc, B, e1, _, _, e2, _⟩ => hG H' (e1.trans e2)) (fun i x H1 H' hi ⟨acc, B, e1, p, b, e2, hx⟩ y => hs i x acc D B H1 H' hi e1 p b e2 hx hD y (hY i H1 x H' y))
    (fun H' ⟨acc, B, e1, p, b, e2, hx⟩ => hd D B H' acc hD e1 e2 b hx p)
/-! two clauses -/
def Inner (J1 : It) (g1 : TG) (tt1 : TT) (te : TE) (vs1 : List Nat) (σ2 : L2.St) (Nx : Hp → Prop) (D : Addr) (H4 : Hp) : Prop := ∃ W1 : Nat → Nat → Hp → Prop, (∃ m, W1 0 m H4) ∧ ∀ j k H, W1 j k H →
  (J1.stop j H ∧ Nx H) ∨ (J1.go j H ∧ ∃ Nx1 : Hp → Prop, (∀ H', Nx1 H' → ∃ k', k' < k ∧ W1 (j + 1) k' H') ∧ ∀ x H', J1.yld j H x H' → g1 x (wipe σ2 vs1) H' fun σ3 H5 => wipe σ3 vs1 = wipe σ2 vs1 ∧ tt1 σ3 H5 fun b H6 =>
    if b = true then te σ3 H6 fun y H7 => ∃ acc, H7 D = some (.lst acc) ∧ acc.length < sizeLine ∧ Nx1 (upd H7 D (.lst (acc ++ [y]))) else Nx1 H6)
def Lc2Loop (J : It) (g : TG) (tt : TT) (wi1 : TI) (g1 : TG) (tt1 : TT) (te : TE) (vs vs1 : List Nat) (σ : L2.St) (Q : VK) (H1 : Hp) : Prop := ∀ D, H1 D = none → ∃ W : Nat → Nat → Hp → Prop, (∃ m, W 0 m (upd H1 D (.lst []))) ∧ ∀ i m H, W i m H →
  (J.stop i H ∧ Q (.ref D) H) ∨ (J.go i H ∧ ∃ Nx : Hp → Prop, (∀ H', Nx H' → ∃ m', m' < m ∧ W (i + 1) m' H') ∧ ∀ x H', J.yld i H x H' → g x (wipe σ vs) H' fun σ2 H2 => wipe σ2 vs = wipe σ vs ∧ tt σ2 H2 fun b H3 =>
    if b = true then wi1 σ2 H3 fun J1 H4 => Inner J1 g1 tt1 te vs1 σ2 Nx D H4 else Nx H3)
theorem w_lc2 {wi1 : TI} {g1 : TG} {tt1 : TT} {vs1 : List Nat} (h : wi σ H fun J H1 => Lc2Loop J g tt wi1 g1 tt1 te vs vs1 σ Q H1) : tLc2 wi g tt wi1 g1 tt1 te vs vs1 σ H Q := h
theorem w_comp2 {wi1 : TI} {g1 : TG} {tt1 : TT} {vs1 : List Nat} (w : Walk J n G Y) (P : Nat → List V → Hp → Prop) (hY : ∀ i H x H', Y i H x H' → Ex H H') (hG : ∀ H', Ex H H' → G H') (h0 : P 0 [] H)
    (hs : ∀ i x acc D B H1 H', i < n → Ex H B → P i acc B → B D = none → Ex B H1 → H1 D = some (.lst acc) → H D = none → Y i H1 x H' → Ex H1 H' → g x (wipe σ vs) H' fun σ2 H2 => wipe σ2 vs = wipe σ vs ∧ tt σ2 H2 fun b H3 =>
      if b = true then wi1 σ2 H3 fun J1 H4 => Inner J1 g1 tt1 te vs1 σ2 (CPv P H D (i + 1)) D H4 else CPv P H D (i + 1) H3)
    (hd : ∀ D B H' acc, H D = none → Ex H B → Ex B H' → B D = none → H' D = some (.lst acc) → P n acc B → Q (.ref D) H') : Lc2Loop J g tt wi1 g1 tt1 te vs vs1 σ Q H := fun D hD => by
  refine ⟨fun i m H' => m = n - i ∧ i ≤ n ∧ CPv P H D i H', ⟨n, by simp, Nat.zero_le _, ⟨[], H, Ex.refl H, h0, hD, Ex.new hD, upd_same⟩⟩, ?_⟩
  rintro i m H' ⟨rfl, hi, p⟩
  obtain ⟨acc, B, e1, p, b, e2, hx⟩ := id p
  have q := hG H' (e1.trans e2)
  by_cases hlt : i < n
  · exact .inr ⟨w.goes i H' hlt q, CPv P H D (i + 1), fun H2 p' => ⟨n - (i + 1), by omega, rfl, hlt, p'⟩, fun x H2 y => hs i x acc D B H' H2 hlt e1 p b e2 hx hD (w.yields i H' x H2 hlt q y) (hY _ _ _ _ (w.yields i H' x H2 hlt q y))⟩
  · have e : i = n := by omega
    subst e
    exact .inl ⟨w.stops H' q, hd D B H' acc hD e1 e2 b hx p⟩
theorem w_inner {J1 : It} {n1 : Nat} {G1 : Hp → Prop} {Y1 : Nat → Hp → V → Hp → Prop} {g1 : TG} {tt1 : TT} {vs1 : List Nat} {D : Addr} {Nx : Hp → Prop} {Hb H4 : Hp} (w : Walk J1 n1 G1 Y1) (P : Nat → List V → Hp → Prop) (hY : ∀ i H x H', Y1 i H x H' → Ex H H') (hG : ∀ H', Ex Hb H' → G1 H')
    (hD : Hb D = none) (h0 : CPv P Hb D 0 H4)
    (hs : ∀ i x acc B H1 H', i < n1 → Ex Hb B → P i acc B → B D = none → Ex B H1 → H1 D = some (.lst acc) → Y1 i H1 x H' → Ex H1 H' → g1 x (wipe σ vs1) H' fun σ2 H2 => wipe σ2 vs1 = wipe σ vs1 ∧ tt1 σ2 H2 fun b H3 =>
      if b = true then te σ2 H3 (CYes P Hb D i) else CPv P Hb D (i + 1) H3)
    (hd : ∀ B H' acc, Ex Hb B → Ex B H' → B D = none → H' D = some (.lst acc) → P n1 acc B → Nx H') : Inner J1 g1 tt1 te vs1 σ Nx D H4 := by
  refine ⟨fun i m H' => m = n1 - i ∧ i ≤ n1 ∧ CPv P Hb D i H', ⟨n1, by simp, Nat.zero_le _, h0⟩, ?_⟩
  rintro i m H' ⟨rfl, hi, p⟩
  obtain ⟨acc, B, e1, p, b, e2, hx⟩ := id p
  have q := hG H' (e1.trans e2)
  by_cases hlt : i < n1
  · exact .inr ⟨w.goes i H' hlt q, CPv P Hb D (i + 1), fun H2 p' => ⟨n1 - (i + 1), by omega, rfl, hlt, p'⟩, fun x H2 y => hs i x acc B H' H2 hlt e1 p b e2 hx (w.yields i H' x H2 hlt q y) (hY _ _ _ _ (w.yields i H' x H2 hlt q y))⟩
  · have e : i = n1 := by omega
    subst e
    exact .inl ⟨w.stops H' q, hd B H' acc e1 e2 b hx p⟩
theorem w_gt2 {a : Addr} {i j : Nat} {x y : V} {Q : L2.St → Hp → Prop} (h : SqT K H a [x, y]) (k : Q ((σ.set i (some x)).set j (some y)) H) : gTup K 2 (gCons (gName i) (gCons (gName j) gNil)) (.ref a) σ H Q :=
  ⟨a, [x, y], rfl, h, rfl, x, [y], rfl, y, [], rfl, rfl, k⟩
theorem w_yes {P : Bool → Hp → Prop} (h : P true H) : tYes σ H P := h
/-! .. of ints -/
def PIs (P : Nat → List Int → Prop) : Nat → List V → Hp → Prop := fun i vs _ => ∃ acc : List Int, vs = acc.map V.int ∧ P i acc ∧ acc.length ≤ i
theorem w_compI (w : Walk J n G Y) (P : Nat → List Int → Prop) (hY : ∀ i H x H', Y i H x H' → Ex H H') (hG : ∀ H', Ex H H' → G H') (h0 : P 0 [])
    (hs : ∀ i x (acc : List Int) D H1 H', i < n → P i acc → acc.length ≤ i → Ex H H1 → H1 D = some (.lst (acc.map V.int)) → H D = none → Y i H1 x H' → Ex H1 H' → g x (wipe σ vs) H' fun σ2 H2 => wipe σ2 vs = wipe σ vs ∧ tt σ2 H2 fun b H3 =>
      if b = true then te σ2 H3 (CYes (PIs P) H D i) else CPv (PIs P) H D (i + 1) H3)
    (hd : ∀ D H' (acc : List Int), H D = none → Ex H H' → H' D = some (.lst (acc.map V.int)) → P n acc → acc.length ≤ n → Q (.ref D) H') : LcLoop J g tt te vs σ Q H :=
  w_comp w (PIs P) hY hG ⟨[], rfl, h0, Nat.zero_le _⟩ (fun i x acc D B H1 H' hi e1 ⟨ns, en, p, l⟩ b e2 hx hD y eY => by
    subst en
    exact hs i x ns D H1 H' hi p l (e1.trans e2) hx hD y eY) (fun D B H' acc hD e1 e2 b hx ⟨ns, en, p, l⟩ => by
    subst en
    exact hd D H' ns hD (e1.trans e2) hx p l)
theorem cyI {P : Nat → List Int → Prop} {D : Addr} {i : Nat} {H1 H4 : Hp} {acc : List Int} {m : Int} (hD : H D = none) (e : Ex H H1) (hx : H1 D = some (.lst (acc.map V.int))) (hl : acc.length ≤ i) (hi : i ≤ 100000) (e4 : Ex H1 H4) (p : P (i + 1) (acc ++ [m])) : CYes (PIs P) H D i (.int m) H4 :=
  cyes hD e hx (by rw [List.length_map]; omega) e4 ⟨acc ++ [m], by rw [List.map_append]; rfl, p, by rw [List.length_append]; exact Nat.succ_le_succ hl⟩
theorem cnI {P : Nat → List Int → Prop} {D : Addr} {i : Nat} {H1 H3 : Hp} {acc : List Int} (hD : H D = none) (e : Ex H H1) (hx : H1 D = some (.lst (acc.map V.int))) (hl : acc.length ≤ i) (e4 : Ex H1 H3) (p : P (i + 1) acc) : CPv (PIs P) H D (i + 1) H3 :=
  cno hD e hx e4 ⟨acc, rfl, p, Nat.le_succ_of_le hl⟩
theorem yAt {xs : List V} : ∀ i H x H', YAt xs i H x H' → Ex H H' := fun i H x H' y => by rw [y.1]; exact Ex.refl H
theorem yFn {f : Nat → V} : ∀ i H x H', YFn f i H x H' → Ex H H' := fun i H x H' y => by rw [y.1]; exact Ex.refl H
theorem yPair {xs ys : Nat → Option V} : ∀ i H x H', YPair xs ys i H x H' → Ex H H' := fun i H x H' ⟨T, a, b, h1, h2, h3, _⟩ => by rw [h3]; exact Ex.new h2
end
/-! ### a list that stands sealed: its items are known by a word alone -/
section
variable {P : Program} {w : World} {K : PySem.W.Frag} {mg : Str → Option Value} {base : Heap} {k : Nat} {f : Addr} {fd : FuncData} {ps : List Str} {sp sp' : Sp}
def SealP (t : Addr) (G : List V → Prop) (h : Heap) : Prop := ∃ xs, G xs ∧ xs.length ≤ sizeLine ∧ ∃ (its : List Value) (n : Nat), Vals xs its ∧ h.get? t = some { cls := .type "list", data := .seq its.toArray n }
def Sealed (t : Addr) (G : List V → Prop) : HO := .ext (SealP t G)
theorem stay_upd {H : Hp} {h : Heap} {t a : Addr} {o u : HO} (x : ObjOk P w H h a o) (hb : ∀ y, H t ≠ some (.own y)) (ht : ∀ xs, H t ≠ some (.tup xs)) : ObjOk P w (upd H t u) h a o :=
  x.stay (fun _ _ _ q => q) (fun b q => by rw [upd_ne (fun e => by subst e; exact hb _ q)]; exact q) fun b xs q => by rw [upd_ne (fun e => by subst e; exact ht _ q)]; exact q
theorem seal_open {H : Hp} {h : Heap} {t : Addr} {G : List V → Prop} (ok : HOk P w H h) (e : H t = some (Sealed t G)) : ∃ xs, G xs ∧ HOk P w (upd H t (.lst xs)) h := by
  obtain ⟨⟨xs, g, z, its, n, r, q⟩, _, _⟩ : SealP t G h ∧ (∃ o, h.get? t = some o) ∧ _ := ok t _ e
  refine ⟨xs, g, fun a o ea => ?_⟩
  by_cases ha : a = t
  · subst ha
    rw [upd_same] at ea
    cases ea
    exact ⟨z, its, n, r, q⟩
  · rw [upd_ne ha] at ea
    exact stay_upd (ok a o ea) (fun y q => by rw [e] at q; cases q) fun xs q => by rw [e] at q; cases q
theorem seal_close {H : Hp} {h : Heap} {t : Addr} {G : List V → Prop} {xs : List V} (ok : HOk P w H h) (e : H t = some (.lst xs)) (g : G xs) : HOk P w (upd H t (Sealed t G)) h := fun a o ea => by
  by_cases ha : a = t
  · subst ha
    rw [upd_same] at ea
    cases ea
    obtain ⟨z, its, n, r, q⟩ := ok a _ e
    exact ⟨⟨xs, g, z, its, n, r, q⟩, ⟨_, q⟩, fun h1 h2 ⟨xs, g, z, its, n, r, q⟩ hk => ⟨xs, g, z, its, n, r, hk _ q⟩⟩
  · rw [upd_ne ha] at ea
    exact stay_upd (ok a o ea) (fun y q => by rw [e] at q; cases q) fun xs q => by rw [e] at q; cases q
/-- a def that works on the list itself, called where it stands sealed -/
theorem fn_unseal (F : FnOk P w K mg base CX0 k f fd ps sp) (len : ∀ vs H Q E, sp' vs H Q E → vs.length = ps.length)
    (h : ∀ vs H Q E, sp' vs H Q E → ∃ t G, H t = some (Sealed t G) ∧ ∀ xs, G xs → sp vs (upd H t (.lst xs)) Q E) : FnOk P w K mg base CX0 k f fd ps sp' := by
  refine ⟨len, fun A outer s H args us vs Q E hr e0 hb hv hs => ?_⟩
  obtain ⟨t, G, et, hx⟩ := h vs H Q E hs
  obtain ⟨xs, g, ok⟩ := seal_open e0.hok et
  have nt : ∀ b, H b = none → b ≠ t := fun b q e => by rw [e, et] at q; cases q
  have e1 : Env0 P w K mg base A outer s (upd H t (.lst xs)) := ⟨e0.frames, e0.mod, fun b o q => ⟨(e0.bs b o q).1, by rw [upd_ne (nt b (e0.bs b o q).2)]; exact (e0.bs b o q).2⟩, e0.bsz, e0.funs, fun b q => by rw [upd_ne (nt b (e0.frf b q))]; exact e0.frf b q, ok, e0.bare⟩
  refine codeAny_mono (F.run A outer s _ args us vs Q E hr e1 hb hv (hx xs g)) fun r s' hq => ?_
  cases r with
  | error e => exact hq
  | ok fl =>
    cases fl with
    | ret u =>
      obtain ⟨v, H', os, bare, un, hok, rv, q⟩ := hq
      have ne : ∀ {b o}, H b = some o → o ≠ Sealed t G → b ≠ t := fun {b o} q n e => n (by rw [e, et] at q; exact (Option.some.inj q).symm)
      refine ⟨v, H', os, bare, ⟨fun b o q n => un.keep b o q (by rw [upd_ne (nt b n)]; exact n), fun b o q n => un.slot b o q (by rw [upd_ne (nt b n)]; exact n), fun b o q n => un.free b o q (by rw [upd_ne (nt b n)]; exact n), un.there, fun b xs q => ?_, fun b o u q => ?_, fun b ps q => ?_⟩, hok, rv, q⟩
      · exact un.tups b xs (by rw [upd_ne (ne q (fun z => by cases z))]; exact q)
      · exact un.frzs b o u (by rw [upd_ne (ne q (fun z => by cases z))]; exact q)
      · exact un.tbls b ps (by rw [upd_ne (ne q (fun z => by cases z))]; exact q)
    | next => exact False.elim hq
    | brk => exact False.elim hq
    | cont => exact False.elim hq
/-- .. and sealed again, or for the first time -/
theorem fn_seal (F : FnOk P w K mg base CX0 k f fd ps sp) (len : ∀ vs H Q E, sp' vs H Q E → vs.length = ps.length)
    (h : ∀ vs H Q E, sp' vs H Q E → sp vs H (fun v H' => ∃ t ys G, H' t = some (.lst ys) ∧ G ys ∧ Q v (upd H' t (Sealed t G))) E) : FnOk P w K mg base CX0 k f fd ps sp' := by
  refine ⟨len, fun A outer s H args us vs Q E hr e0 hb hv hs => ?_⟩
  refine codeAny_mono (F.run A outer s _ args us vs _ E hr e0 hb hv (h vs H Q E hs)) fun r s' hq => ?_
  cases r with
  | error e => exact hq
  | ok fl =>
    cases fl with
    | ret u =>
      obtain ⟨v, H', os, bare, un, hok, rv, t, ys, G, et, g, q⟩ := hq
      have nt : ∀ b, H' b = none → b ≠ t := fun b q e => by rw [e, et] at q; cases q
      refine ⟨v, _, os, bare, ⟨un.keep, un.slot, fun b o q n hx => ?_, un.there, fun b xs q => ?_, fun b o u q => ?_, fun b ps q => ?_⟩, seal_close hok et g, rv, q⟩
      · have z := un.free b o q n hx
        rw [upd_ne (nt b z)]
        exact z
      · have z := un.tups b xs q
        rw [upd_ne (fun e => by rw [e, et] at z; cases z)]
        exact z
      · have z := un.frzs b o u q
        rw [upd_ne (fun e => by rw [e, et] at z; cases z)]
        exact z
      · obtain ⟨m, z⟩ := un.tbls b ps q
        refine ⟨m, ?_⟩
        rw [upd_ne (fun e => by rw [e, et] at z; cases z)]
        exact z
    | next => exact False.elim hq
    | brk => exact False.elim hq
    | cont => exact False.elim hq
end
section
variable {X : Cx}
/-- i ** j, both written -/
theorem pe_powC {i j : Int} {z : Int} {a b : Nat} {p1 p2 p3 : Pos} (h : i ^ j.toNat = z) (hc : CPow i j) : PE X (.BinOp (.Constant (.int i) a p1) .Pow (.Constant (.int j) b p2) p3) (tC (.int z)) := by
  refine ⟨fun pins s σ H Q I q => ?_⟩
  exact (pe_op op_pow pe_int pe_int).run pins s σ H Q I ⟨i, j, rfl, rfl, hc, by show Q (.int (i ^ j.toNat)) H; rw [h]; exact q⟩
end
/-! ### the rules with the written part K told (within a comprehension it can't be read off) -/
section
variable {X : Cx} {T id : String} {name : Str} {o e e2 : Expr} {es : List Expr} {t ta : TA} {to te : TE} {r : V → List V → Hp → VK → Prop} {apos cpos p pos tpos : Pos} {elts : List Expr} {kk : Nat} {tg : Expr}
theorem ix_K (K : PySem.W.Frag) (h : X.K = K := by rfl) : IxR X (rIx K) := h ▸ ix_seq
theorem sl_K (K : PySem.W.Frag) (h : X.K = K := by rfl) : SlR X (rSlL K) := h ▸ sl_list
theorem eq_K (K : PySem.W.Frag) (hu : X.A.units + 64 < cLine) (h : X.K = K := by rfl) : OpR X (compareOp .Eq) (rEqA K) := h ▸ op_eqA hu
theorem ne_K (K : PySem.W.Frag) (hu : X.A.units + 64 < cLine) (h : X.K = K := by rfl) : OpR X (compareOp .NotEq) (rNeA K) := h ▸ op_neA hu
theorem in_K (K : PySem.W.Frag) (h : X.K = K := by rfl) : OpR X (compareOp .In) (rIn K false) := h ▸ op_in_seq
theorem ni_K (K : PySem.W.Frag) (h : X.K = K := by rfl) : OpR X (compareOp .NotIn) (rIn K true) := h ▸ op_notIn_seq
theorem len_K (K : PySem.W.Frag) (h : X.K = K := by rfl) : CallR X (.builtin "len") (rLen K) := h ▸ call_len_seq
theorem lst_K (K : PySem.W.Frag) (h : X.K = K := by rfl) : CallR X (.type "list") (rLst K) := h ▸ call_list_of
theorem int_K (K : PySem.W.Frag) (_ : X.K = K := by rfl) : CallR X (.type "int") rInt := call_int1
theorem sum_K (K : PySem.W.Frag) (hc : X.calm = true := by rfl) (h : X.K = K := by rfl) : CallR X (.builtin "sum") (rSum K) := h ▸ cr_sum hc
theorem isi_K (K : PySem.W.Frag) (h : X.K = K := by rfl) : CallR X (.builtin "isinstance") (rIsi K) := h ▸ call_isi
theorem tru_K (K : PySem.W.Frag) (ha : PE X e to) (he : ∀ whole, isTrue e X.env whole = (do let v ← whole; standAt e.pos; holding [v] (truthy v))) (h : X.K = K := by rfl) : PT X e (tTru K to) := h ▸ pt_truth ha he
theorem pi_lstK (K : PySem.W.Frag) {l : Expr} {tl : TE} (hl : PE X l tl) (h : X.K = K := by rfl) : PI X tg l (iList K tl) := h ▸ pi_list hl
theorem pi_enumK (K : PySem.W.Frag) (hg : Gl X "enumerate") (hm : X.mg "enumerate" = none) (ha : PA X [e] ta) (h : X.K = K := by rfl) (hs : starEach [e] X.env = [(false, eval e X.env)] := by rfl) :
    PI X (.Tuple elts kk tpos) (.Call (.Name "enumerate" p) [e] [] pos) (iEnum K ta) := h ▸ pi_enum hg hm ha hs
theorem pg_tupK (K : PySem.W.Frag) {k : Nat} {n : Nat} {t : TGs} (hc : X.calm = true) (h : PGs X es t) (h2 : X.K = K := by rfl) (hn : (assignEach es X.env).length = n := by rfl) (hst : (assignEach es X.env).findIdx? (·.1) = none := by rfl) : PG X (.Tuple es k pos) (gTup K n t) := h2 ▸ pg_tup hc h hn hst
theorem bm_K (K : PySem.W.Frag) (pa : PlainAttrs T) (slot : Slot T name id) (hty : typeOf (.builtin id) = pure (.type "method_descriptor")) (hm : MtR X id r) (ho : PE X o to) (ha : PA X (e :: es) t) (h : X.K = K := by rfl)
    (hbase : attributeBase o name X.env (eval o X.env) = eval o X.env := by rfl)
    (hfew : ((backTo cpos (starEach (e :: es) X.env)).all (fun x => !x.1) && (backToKw cpos (keywordEach [] X.env)).all (fun x => x.1.isSome)
      && decide ((e :: es).length + ([] : List Keyword).length + (if ([] : List Keyword).isEmpty then 0 else 1) < 30)) = true := by rfl)
    (hline : (apos.endLine == cpos.line) = true := by rfl) (hs : starEach (e :: es) X.env = (false, eval e X.env) :: starEach es X.env := by rfl) (hplain : (backTo cpos (starEach es X.env)).any (·.1) = false := by rfl) :
    PE X (.Call (.Attribute o name apos) (e :: es) [] cpos) (tBM K T r to t) := h ▸ pe_bm pa slot hty hm ho ha hbase hfew hline hs hplain
theorem bm0_K (K : PySem.W.Frag) (pa : PlainAttrs T) (slot : Slot T name id) (hty : typeOf (.builtin id) = pure (.type "method_descriptor")) (hm : MtR X id r) (ho : PE X o to) (h : X.K = K := by rfl)
    (hbase : attributeBase o name X.env (eval o X.env) = eval o X.env := by rfl) (hline : (apos.endLine == cpos.line) = true := by rfl) : PE X (.Call (.Attribute o name apos) [] [] cpos) (tBM0 K T r to) := h ▸ pe_bm0 pa slot hty hm ho hbase hline
end
end PL
/-! the walk's own tactics -/
local macro_rules | `(tactic| walk_at "ex") => `(tactic| first | assumption | exact Ex.refl _ | exact Ex.trans ?_ (by assumption))
local macro_rules | `(tactic| walk_at "at") => `(tactic| first
  | assumption
  | exact (by assumption : Ex _ _) _ _ (by walk_at "at"))
local macro_rules | `(tactic| walk_at "sq") => `(tactic| first
  | assumption
  | exact Evl.sq_of (by assumption)
  | exact Evl.ex_l (by assumption) (by walk_at "sq")
  | exact PL.Chg.sq (by assumption) (by first | assumption | exact L2.ne_of_none (by assumption) (by assumption) | exact (L2.ne_of_none (by assumption) (by assumption)).symm) (by walk_at "sq"))
local macro_rules | `(tactic| walk_at "st") => `(tactic| first
  | assumption
  | exact L2.SqT.of (by assumption)
  | exact Evl.ex_t (by assumption) (by walk_at "st"))
local macro_rules | `(tactic| walk_at "side") => `(tactic| first
  | assumption
  | omega
  | decide
  | exact Or.inr ⟨by decide, by decide⟩
  | exact Or.inl ⟨by decide, by decide⟩
  | exact Or.inr ⟨by omega, by omega⟩
  | exact Or.inl ⟨by omega, by omega⟩
  | exact ⟨by decide, by decide, by decide⟩
  | (simp only [List.length_map, List.length_cons, List.length_nil, List.length_append, List.length_take, List.length_drop]; omega))
local macro_rules | `(tactic| walk_at "w3") => `(tactic| first
  | ((with_reducible refine PL.w_mulI ?c ?_); (case c => walk_at "side"))
  | ((with_reducible refine PL.w_divI ?c ?d ?_); (case c => walk_at "side"); (case d => walk_at "side"))
  | ((with_reducible refine PL.w_modI ?c ?_); (case c => walk_at "side"))
  | ((with_reducible refine PL.w_powI ?c ?_); (case c => walk_at "side"))
  | ((with_reducible refine PL.w_ixC (xs := ?x) (v := ?y) ?c ?d ?_); (case c => walk_at "sq"); (case d => rfl))
  | ((with_reducible refine PL.w_lenI (ns := ?x) ?c ?_); (case c => walk_at "sq"))
  | ((with_reducible refine PL.w_lenT (xs := ?x) ?c ?_); (case c => walk_at "st"))
  | ((with_reducible refine PL.w_ixT (xs := ?x) (v := ?y) ?c ?d ?_); (case c => walk_at "st"); (case d => rfl))
  | ((with_reducible refine PL.w_truL (xs := ?x) ?c ?_); (case c => walk_at "sq"))
  | (with_reducible refine PL.w_isi_ii ?_)
  | (with_reducible refine PL.w_isi_ib ?_)
  | ((with_reducible refine PL.w_isi_ll (xs := ?x) ?c ?_); (case c => walk_at "sq"))
  | ((with_reducible refine PL.w_isi_tt (xs := ?x) ?c ?_); (case c => walk_at "at"))
  | ((with_reducible refine PL.w_ty (xs := ?x) ?c ?_); (case c => walk_at "sq"))
  | ((with_reducible refine PL.w_rng ?c ?d ?_); (case c => walk_at "side"); (case d => walk_at "side"))
  | ((with_reducible refine PL.w_rng2 ?c ?d ?e ?f ?_); (case c => walk_at "side"); (case d => walk_at "side"); (case e => walk_at "side"); (case f => walk_at "side"))
  | ((with_reducible refine PL.w_lstI (xs := ?x) ?c ?_); (case c => walk_at "sq"))
  | ((with_reducible refine PL.w_enu (xs := ?x) ?c ?_); (case c => walk_at "sq")))
local macro_rules | `(tactic| walk_at "wv") => `(tactic| ((with_reducible refine PL.w_var (v := ?v) ?e ?_); (case e => rfl)))
local macro_rules | `(tactic| walk_at "w0") => `(tactic| repeat (first
  | (with_reducible first
  | refine PL.w_seq ?_ | refine PL.w_asg ?_ | refine PL.w_ret ?_ | refine PL.w_if ?_ | refine PL.w_drop ?_ | refine PL.w_next ?_ | refine PL.w_brk ?_ | refine PL.w_cont ?_
  | refine PL.w_c ?_ | refine PL.w_op ?_ | refine PL.w_un ?_ | refine PL.w_test ?_ | refine PL.w_and ?_ | refine PL.w_or ?_ | refine PL.w_not ?_ | refine PL.w_andV ?_ | refine PL.w_orV ?_ | refine PL.w_notV ?_ | refine PL.w_ifE ?_
  | refine PL.w_nil ?_ | refine PL.w_cons ?_ | refine PL.w_call ?_ | refine PL.w_cb ?_ | refine PL.w_lst ?_ | refine PL.w_tup ?_ | refine PL.w_sl ?_ | refine PL.w_noPart ?_ | refine PL.w_part ?_ | refine PL.w_chain ?_
  | refine PL.w_bm ?_ | refine PL.w_bm0 ?_ | refine PL.w_sub ?_ | refine PL.w_for ?_ | refine PL.w_iR1 ?_ | refine PL.w_iR2 ?_ | refine PL.w_iL ?_ | refine PL.w_iE ?_ | refine PL.w_lc ?_ | refine PL.w_tru ?_ | refine PL.w_lc2 ?_ | refine PL.w_yes ?_)
  | (first
  | walk_at "wv"
  | with_reducible refine PL.w_bl0 ?_ | with_reducible refine PL.w_some0 ?_ | with_reducible refine PL.w_truB0 ?_ | with_reducible refine PL.w_truI ?_
  | with_reducible refine PL.w_I0 ?_ | with_reducible refine PL.w_neg ?_ | with_reducible refine PL.w_addI ?_ | with_reducible refine PL.w_eqI ?_ | with_reducible refine PL.w_neI ?_ | with_reducible refine PL.w_int1 ?_
  | with_reducible refine PL.w_true ?_ | with_reducible refine PL.w_false ?_ | with_reducible refine PL.w_notT ?_ | with_reducible refine PL.w_notF ?_)
  | walk_at "w3"))
local macro_rules | `(tactic| walk_at "w") => `(tactic| ((try with_reducible conv => whnf); (walk_at "w0"); (try with_reducible conv => whnf)))
namespace Pr
open PySem PySem.Spec PyProof.Rows L2 Evl PL
def topS (i : Nat) : Stmt := PySem.Challenge.pw_pullstore_k32_disks_cut_anywhere.main.body.getD i (.Pass ⟨0, 0, 0, 0⟩)
/-! ### the mathematics -/
def fr (i : Int) (e : Int) : List Int := [i, e, -1 - e]
def frs : Int → List Int → List Int
  | _, [] => []
  | i, e :: r => fr i e ++ frs (i + 1) r
/-- the entries that are read from the cells, the first frame having the index i -/
def rd : Int → List Int → List Int
  | i, a :: b :: c :: r => if a = i ∧ 0 ≤ b ∧ c = -1 - b then b :: rd (i + 1) r else []
  | _, _ => []
theorem frs_len : ∀ (i : Int) (l : List Int), (frs i l).length = 3 * l.length
  | _, [] => rfl
  | i, e :: r => by
    show (fr i e ++ frs (i + 1) r).length = 3 * (r.length + 1)
    rw [List.length_append, frs_len (i + 1) r]
    show 3 + 3 * r.length = _
    omega
theorem frs_snoc : ∀ (i : Int) (l : List Int) (e : Int), frs i (l ++ [e]) = frs i l ++ fr (i + l.length) e
  | i, [], e => by
    show fr i e ++ [] = [] ++ fr (i + 0) e
    rw [Int.add_zero, List.append_nil, List.nil_append]
  | i, x :: r, e => by
    show fr i x ++ frs (i + 1) (r ++ [e]) = fr i x ++ frs (i + 1) r ++ fr (i + ((r.length + 1 : Nat) : Int)) e
    rw [frs_snoc (i + 1) r e, List.append_assoc, show i + 1 + (r.length : Int) = i + ((r.length + 1 : Nat) : Int) by omega]
theorem take_succ {α : Type} {l : List α} {i : Nat} {x : α} (h : l[i]? = some x) : l.take (i + 1) = l.take i ++ [x] := by
  rw [List.take_add_one, h]
  rfl
theorem take_len {α : Type} {l : List α} {i : Nat} (h : i < l.length) : (l.take i).length = i := by
  rw [List.length_take]
  omega
theorem frs_take {l : List Int} {i : Nat} {e : Int} (h : l[i]? = some e) : frs 0 (l.take (i + 1)) = frs 0 (l.take i) ++ fr i e := by
  have hi : i < l.length := (List.getElem?_eq_some_iff.mp h).1
  rw [take_succ h, frs_snoc, take_len hi, Int.zero_add]
/-- the cells at the frame k of a list -/
theorem at3 {l : List Int} {k : Nat} (h : 3 * k + 2 < l.length) : ∃ a b c r, l.drop (3 * k) = a :: b :: c :: r ∧ l[3 * k]? = some a ∧ l[3 * k + 1]? = some b ∧ l[3 * k + 2]? = some c ∧ r = l.drop (3 * (k + 1)) := by
  refine ⟨l[3 * k], l[3 * k + 1], l[3 * k + 2], l.drop (3 * k + 3), ?_, List.getElem?_eq_getElem _, List.getElem?_eq_getElem _, List.getElem?_eq_getElem _, by rw [Nat.mul_succ]⟩
  rw [List.drop_eq_getElem_cons (by omega), List.drop_eq_getElem_cons (by omega), List.drop_eq_getElem_cons (by omega)]
/-- the frame with the index k stands at its place in the cells -/
def isF (l : List Int) (k : Nat) : Prop := 0 ≤ l.getD (3 * k + 1) 0 ∧ (l.take (3 * k + 3)).drop (3 * k) = fr k (l.getD (3 * k + 1) 0)
instance (l : List Int) (k : Nat) : Decidable (isF l k) := by unfold isF; infer_instance
theorem isF_at {l : List Int} {k : Nat} {a b c : Int} (h : 3 * k + 2 < l.length) (ha : l[3 * k]? = some a) (hb : l[3 * k + 1]? = some b) (hc : l[3 * k + 2]? = some c) : isF l k ↔ (a = k ∧ 0 ≤ b ∧ c = -1 - b) := by
  obtain ⟨a', b', c', r, e, ha', hb', hc', _⟩ := at3 h
  rw [ha] at ha'; rw [hb] at hb'; rw [hc] at hc'
  cases ha'; cases hb'; cases hc'
  have e2 : (l.take (3 * k + 3)).drop (3 * k) = [a, b, c] := by
    rw [List.drop_take, e, show 3 * k + 3 - 3 * k = 3 by omega]
    rfl
  have e3 : l.getD (3 * k + 1) 0 = b := by rw [List.getD_eq_getElem?_getD, hb]; rfl
  unfold isF
  rw [e2, e3]
  show 0 ≤ b ∧ [a, b, c] = [(k : Int), b, -1 - b] ↔ _
  simp only [List.cons.injEq, and_true, true_and]
  constructor
  · rintro ⟨h1, h2, h3⟩; exact ⟨h2, h1, h3⟩
  · rintro ⟨h1, h2, h3⟩; exact ⟨h2, h1, h3⟩
/-- what reading has found ahead of frame k -/
def RdAt (l : List Int) (k : Nat) (es : List Int) : Prop := es.length = k ∧ rd 0 l = es ++ rd k (l.drop (3 * k))
theorem rdAt_zero (l : List Int) : RdAt l 0 [] := ⟨rfl, rfl⟩
theorem rdAt_yes {l : List Int} {k : Nat} {es : List Int} {a b c : Int} (p : RdAt l k es) (h : 3 * k + 2 < l.length) (ha : l[3 * k]? = some a) (hb : l[3 * k + 1]? = some b) (hc : l[3 * k + 2]? = some c) (g : a = k ∧ 0 ≤ b ∧ c = -1 - b) : RdAt l (k + 1) (es ++ [b]) := by
  obtain ⟨a', b', c', r, e, ha', hb', hc', er⟩ := at3 h
  rw [ha] at ha'; rw [hb] at hb'; rw [hc] at hc'
  cases ha'; cases hb'; cases hc'
  obtain ⟨h1, h2⟩ := p
  refine ⟨by rw [List.length_append, h1]; rfl, ?_⟩
  rw [h2, e, List.append_assoc]
  show es ++ (if a = (k : Int) ∧ 0 ≤ b ∧ c = -1 - b then b :: rd ((k : Int) + 1) r else []) = es ++ b :: rd ((k + 1 : Nat) : Int) (l.drop (3 * (k + 1)))
  rw [if_pos g, er]
  rfl
theorem rdAt_no {l : List Int} {k : Nat} {es : List Int} {a b c : Int} (p : RdAt l k es) (h : 3 * k + 2 < l.length) (ha : l[3 * k]? = some a) (hb : l[3 * k + 1]? = some b) (hc : l[3 * k + 2]? = some c) (g : ¬ (a = k ∧ 0 ≤ b ∧ c = -1 - b)) : rd 0 l = es := by
  obtain ⟨a', b', c', r, e, ha', hb', hc', er⟩ := at3 h
  rw [ha] at ha'; rw [hb] at hb'; rw [hc] at hc'
  cases ha'; cases hb'; cases hc'
  obtain ⟨h1, h2⟩ := p
  rw [h2, e]
  show es ++ (if a = (k : Int) ∧ 0 ≤ b ∧ c = -1 - b then b :: rd ((k : Int) + 1) r else []) = es
  rw [if_neg g, List.append_nil]
theorem rd_short {i : Int} {l : List Int} (h : l.length < 3) : rd i l = [] := by
  match l, h with
  | [], _ => rfl
  | [_], _ => rfl
  | [_, _], _ => rfl
  | _ :: _ :: _ :: _, h => simp at h; omega
theorem rdAt_end {l : List Int} {k : Nat} {es : List Int} (p : RdAt l k es) (h : l.length < 3 * k + 3) : rd 0 l = es := by
  obtain ⟨h1, h2⟩ := p
  rw [h2, rd_short (by rw [List.length_drop]; omega), List.append_nil]
theorem rd_get : ∀ (i : Int) (l : List Int) (j : Nat) (e : Int), (rd i l)[j]? = some e → 3 * j + 2 < l.length ∧ l[3 * j]? = some (i + j) ∧ l[3 * j + 1]? = some e ∧ l[3 * j + 2]? = some (-1 - e) ∧ 0 ≤ e
  | i, a :: b :: c :: r, j, e, h => by
    change (if a = i ∧ 0 ≤ b ∧ c = -1 - b then b :: rd (i + 1) r else [])[j]? = some e at h
    split at h
    · rename_i g
      obtain ⟨rfl, g2, rfl⟩ := g
      cases j with
      | zero =>
        simp at h
        subst h
        exact ⟨by simp, by simp, by simp, by simp, g2⟩
      | succ j =>
        have ih := rd_get (a + 1) r j e (by simpa using h)
        obtain ⟨h1, h2, h3, h4, h5⟩ := ih
        refine ⟨by simp; omega, ?_, ?_, ?_, h5⟩
        · rw [show 3 * (j + 1) = 3 * j + 3 by omega]
          show r[3 * j]? = _
          rw [h2, show a + 1 + (j : Int) = a + ((j + 1 : Nat) : Int) by omega]
        · rw [show 3 * (j + 1) + 1 = 3 * j + 1 + 3 by omega]
          exact h3
        · rw [show 3 * (j + 1) + 2 = 3 * j + 2 + 3 by omega]
          exact h4
    · simp at h
  | _, [], _, _, h => by simp [rd] at h
  | _, [_], _, _, h => by simp [rd] at h
  | _, [_, _], _, _, h => by simp [rd] at h
theorem rd_len (i : Int) (l : List Int) : 3 * (rd i l).length ≤ l.length := by
  cases hn : (rd i l).length with
  | zero => omega
  | succ n =>
    have h : (rd i l)[n]? = some ((rd i l)[n]'(by omega)) := List.getElem?_eq_getElem _
    have := (rd_get i l n _ h).1
    omega
/-- reading frames of entries that are not negative, and then what follows -/
theorem rd_frs : ∀ (i : Int) (l t : List Int), (∀ e ∈ l, 0 ≤ e) → rd i (frs i l ++ t) = l ++ rd (i + l.length) t
  | i, [], t, _ => by simp [frs]
  | i, e :: r, t, h => by
    show (if i = i ∧ 0 ≤ e ∧ -1 - e = -1 - e then e :: rd (i + 1) (frs (i + 1) r ++ t) else []) = _
    rw [if_pos ⟨rfl, h e (by simp), rfl⟩, rd_frs (i + 1) r t fun x hx => h x (by simp [hx])]
    show e :: (r ++ rd (i + 1 + (r.length : Int)) t) = e :: (r ++ rd (i + ((r.length + 1 : Nat) : Int)) t)
    rw [show i + 1 + (r.length : Int) = i + ((r.length + 1 : Nat) : Int) by omega]
theorem rd_all {l : List Int} (h : ∀ e ∈ l, 0 ≤ e) : rd 0 (frs 0 l) = l := by
  have q := rd_frs 0 l [] h
  rw [List.append_nil] at q
  rw [q]
  show l ++ [] = l
  rw [List.append_nil]
theorem frs_app : ∀ (i : Int) (l m : List Int), frs i (l ++ m) = frs i l ++ frs (i + l.length) m
  | i, [], m => by simp [frs]
  | i, e :: r, m => by
    show fr i e ++ frs (i + 1) (r ++ m) = fr i e ++ frs (i + 1) r ++ frs (i + ((r.length + 1 : Nat) : Int)) m
    rw [frs_app (i + 1) r m, List.append_assoc, show i + 1 + (r.length : Int) = i + ((r.length + 1 : Nat) : Int) by omega]
/-- the frames of l: those of the first k entries, then the rest -/
theorem frs_split (l : List Int) (k : Nat) (h : k ≤ l.length) : frs 0 l = frs 0 (l.take k) ++ frs k (l.drop k) := by
  have q := frs_app 0 (l.take k) (l.drop k)
  rw [List.take_append_drop] at q
  rw [q, List.length_take, Nat.min_eq_left h, Int.zero_add]
theorem rd_cut {l : List Int} (h : ∀ e ∈ l, 0 ≤ e) {c : Nat} (hc : c ≤ 3 * l.length) : rd 0 ((frs 0 l).take c) = l.take (c / 3) := by
  have hk : c / 3 ≤ l.length := by omega
  rw [frs_split l (c / 3) hk, List.take_append]
  have e1 : (frs 0 (l.take (c / 3))).length = 3 * (c / 3) := by rw [frs_len, List.length_take, Nat.min_eq_left hk]
  rw [List.take_of_length_le (by rw [e1]; omega), rd_frs 0 _ _ (fun e he => h e (List.mem_of_mem_take he)), rd_short (by rw [e1, List.length_take]; omega), List.append_nil]
/-- a row of frames one cell of which has another value -/
theorem rd_changed {l : List Int} (h : ∀ e ∈ l, 0 ≤ e) {p : Nat} {o v : Int} (hp : (frs 0 l)[p]? = some o) (hv : v ≠ o) : rd 0 ((frs 0 l).take p ++ [v] ++ (frs 0 l).drop (p + 1)) = l.take (p / 3) := by
  have hlt : p < 3 * l.length := by rw [← frs_len 0]; exact (List.getElem?_eq_some_iff.mp hp).1
  have hk : p / 3 < l.length := by omega
  have hk' : p / 3 ≤ l.length := by omega
  have e1 : (frs 0 (l.take (p / 3))).length = 3 * (p / 3) := by rw [frs_len, List.length_take, Nat.min_eq_left hk']
  obtain ⟨e, r, er⟩ : ∃ e r, l.drop (p / 3) = e :: r := ⟨_, _, List.drop_eq_getElem_cons hk⟩
  have hs : frs 0 l = frs 0 (l.take (p / 3)) ++ (((p / 3 : Nat) : Int) :: e :: (-1 - e) :: frs ((p / 3 : Nat) + 1) r) := by
    rw [frs_split l (p / 3) hk', er]
    rfl
  have ht : ∀ t : List Int, rd 0 (frs 0 (l.take (p / 3)) ++ t) = l.take (p / 3) ++ rd ((p / 3 : Nat) : Int) t := fun t => by
    rw [rd_frs 0 _ _ (fun e he => h e (List.mem_of_mem_take he)), List.length_take, Nat.min_eq_left hk', Int.zero_add]
  have hd : ∀ q : Nat, (3 * (p / 3) + q) - (frs 0 (l.take (p / 3))).length = q := fun q => by rw [e1]; omega
  have fin : ∀ t : List Int, rd ((p / 3 : Nat) : Int) t = [] → rd 0 (frs 0 (l.take (p / 3)) ++ t) = l.take (p / 3) := fun t ht' => by rw [ht t, ht', List.append_nil]
  have hm : p % 3 = 0 ∨ p % 3 = 1 ∨ p % 3 = 2 := by omega
  have hl : (frs 0 (l.take (p / 3))).take p = frs 0 (l.take (p / 3)) := List.take_of_length_le (by rw [e1]; omega)
  have hdr : (frs 0 (l.take (p / 3))).drop (p + 1) = [] := List.drop_of_length_le (by rw [e1]; omega)
  rw [hs] at hp ⊢
  rw [List.getElem?_append_right (by rw [e1]; omega)] at hp
  rw [List.take_append, List.drop_append, hl, hdr]
  rcases hm with hm | hm | hm
  · rw [show p - (frs 0 (l.take (p / 3))).length = 0 by rw [e1]; omega] at hp ⊢
    rw [show p + 1 - (frs 0 (l.take (p / 3))).length = 1 by rw [e1]; omega]
    simp at hp
    rw [List.append_assoc, List.append_assoc]
    refine fin _ ?_
    show (if v = ((p / 3 : Nat) : Int) ∧ _ then _ else []) = []
    rw [if_neg (fun g => hv (g.1.trans hp))]
  · rw [show p - (frs 0 (l.take (p / 3))).length = 1 by rw [e1]; omega] at hp ⊢
    rw [show p + 1 - (frs 0 (l.take (p / 3))).length = 2 by rw [e1]; omega]
    simp at hp
    rw [List.append_assoc, List.append_assoc]
    refine fin _ ?_
    show (if ((p / 3 : Nat) : Int) = ((p / 3 : Nat) : Int) ∧ 0 ≤ v ∧ (-1 - e) = -1 - v then _ else []) = []
    rw [if_neg (fun g => by have := g.2.2; omega)]
  · rw [show p - (frs 0 (l.take (p / 3))).length = 2 by rw [e1]; omega] at hp ⊢
    rw [show p + 1 - (frs 0 (l.take (p / 3))).length = 3 by rw [e1]; omega]
    simp at hp
    rw [List.append_assoc, List.append_assoc]
    refine fin _ ?_
    show (if ((p / 3 : Nat) : Int) = ((p / 3 : Nat) : Int) ∧ 0 ≤ e ∧ v = -1 - e then _ else []) = []
    rw [if_neg (fun g => by have := g.2.2; omega)]
/-- the first cells, as many as have been read, are the frames of what has been read -/
theorem take_rd : ∀ (i : Int) (l : List Int), l.take (3 * (rd i l).length) = frs i (rd i l)
  | i, a :: b :: c :: r => by
    show (a :: b :: c :: r).take (3 * (if a = i ∧ 0 ≤ b ∧ c = -1 - b then b :: rd (i + 1) r else []).length) = frs i (if a = i ∧ 0 ≤ b ∧ c = -1 - b then b :: rd (i + 1) r else [])
    split
    · rename_i g
      obtain ⟨rfl, g2, rfl⟩ := g
      rw [List.length_cons, Nat.mul_succ]
      show a :: b :: (-1 - b) :: r.take (3 * (rd (a + 1) r).length) = fr a b ++ frs (a + 1) (rd (a + 1) r)
      rw [take_rd (a + 1) r]
      rfl
    · rfl
  | _, [] => by simp [rd, frs]
  | _, [_] => by simp [rd, frs]
  | _, [_, _] => by simp [rd, frs]
theorem rd_nn (i : Int) (l : List Int) : ∀ e ∈ rd i l, 0 ≤ e := fun e he => by
  obtain ⟨j, h⟩ := List.mem_iff_getElem?.mp he
  exact (rd_get i l j e h).2.2.2.2
theorem rd_take (l : List Int) : rd 0 (l.take (3 * (rd 0 l).length)) = rd 0 l := by
  rw [take_rd, rd_all (rd_nn 0 l)]
theorem rd_more {l : List Int} {e : Int} (h : 0 ≤ e) : rd 0 (l.take (3 * (rd 0 l).length) ++ fr (rd 0 l).length e) = rd 0 l ++ [e] := by
  rw [take_rd, rd_frs 0 _ _ (rd_nn 0 l), Int.zero_add]
  show _ ++ (if ((rd 0 l).length : Int) = ((rd 0 l).length : Int) ∧ 0 ≤ e ∧ -1 - e = -1 - e then e :: rd _ [] else []) = _
  rw [if_pos ⟨rfl, h, rfl⟩]
  rfl
/-! the same from 0 on, never unfolded by unification -/
@[irreducible] def rdF (l : List Int) : List Int := rd 0 l
@[irreducible] def frF (l : List Int) : List Int := frs 0 l
theorem rdF_eq (l : List Int) : rdF l = rd 0 l := by unfold rdF; rfl
theorem frF_eq (l : List Int) : frF l = frs 0 l := by unfold frF; rfl
theorem frF_len (l : List Int) : (frF l).length = 3 * l.length := by rw [frF_eq, frs_len]
theorem frF_nil : frF [] = [] := by rw [frF_eq]; rfl
theorem frF_take {l : List Int} {i : Nat} {e : Int} (h : l[i]? = some e) : frF (l.take (i + 1)) = frF (l.take i) ++ fr i e := by rw [frF_eq, frF_eq, frs_take h]
theorem rdF_len (l : List Int) : 3 * (rdF l).length ≤ l.length := by rw [rdF_eq]; exact rd_len 0 l
theorem rdF_get {l : List Int} {j : Nat} {e : Int} (h : (rdF l)[j]? = some e) : 3 * j + 2 < l.length ∧ l[3 * j]? = some (j : Int) ∧ l[3 * j + 1]? = some e ∧ l[3 * j + 2]? = some (-1 - e) ∧ 0 ≤ e := by
  rw [rdF_eq] at h
  have q := rd_get 0 l j e h
  rw [Int.zero_add] at q
  exact q
theorem rdF_no {l : List Int} {k : Nat} {es : List Int} {a b c : Int} (p : RdAt l k es) (h : 3 * k + 2 < l.length) (ha : l[3 * k]? = some a) (hb : l[3 * k + 1]? = some b) (hc : l[3 * k + 2]? = some c) (g : ¬ (a = k ∧ 0 ≤ b ∧ c = -1 - b)) : rdF l = es := by
  rw [rdF_eq]; exact rdAt_no p h ha hb hc g
theorem rdF_end {l : List Int} {k : Nat} {es : List Int} (p : RdAt l k es) (h : l.length < 3 * k + 3) : rdF l = es := by rw [rdF_eq]; exact rdAt_end p h
theorem rdF_all {l : List Int} (h : ∀ e ∈ l, 0 ≤ e) : rdF (frF l) = l := by rw [rdF_eq, frF_eq, rd_all h]
theorem rdF_cut {l : List Int} (h : ∀ e ∈ l, 0 ≤ e) {c : Nat} (hc : c ≤ 3 * l.length) : rdF ((frF l).take c) = l.take (c / 3) := by rw [rdF_eq, frF_eq, rd_cut h hc]
theorem rdF_changed {l : List Int} (h : ∀ e ∈ l, 0 ≤ e) {p : Nat} {o v : Int} (hp : (frF l)[p]? = some o) (hv : v ≠ o) : rdF ((frF l).take p ++ [v] ++ (frF l).drop (p + 1)) = l.take (p / 3) := by
  rw [frF_eq] at hp ⊢
  rw [rdF_eq, rd_changed h hp hv]
theorem rdF_take (l : List Int) : rdF (l.take (3 * (rdF l).length)) = rdF l := by rw [rdF_eq, rdF_eq, rd_take]
theorem rdF_more {l : List Int} {e : Int} (h : 0 ≤ e) : rdF (l.take (3 * (rdF l).length) ++ fr (rdF l).length e) = rdF l ++ [e] := by rw [rdF_eq, rdF_eq, rd_more h]
theorem rdF_nn (l : List Int) : ∀ e ∈ rdF l, 0 ≤ e := by rw [rdF_eq]; exact rd_nn 0 l
/-! ### promises -/
abbrev Frg := PySem.W.Frag
def RetI (ns : List Int) (H : Hp) (Q : VK) : Prop := ∀ p H', H p = none → Ex H H' → H' p = some (.lst (ns.map V.int)) → Q (.ref p) H'
def sp_frame (_ : Frg) : Sp := Sp2 fun a b H Q => ∃ (i e : Int), a = .int i ∧ b = .int e ∧ RetI (fr i e) H Q
def sp_frames (K : Frg) : Sp := Sp1 fun a H Q => ∃ (p : Addr) (ns : List Int), a = .ref p ∧ SqL K H p (ns.map V.int) ∧ ns.length ≤ 1000 ∧ RetI (frF ns) H Q
def sp__is_frame (K : Frg) : Sp := Sp2 fun a b H Q => ∃ (p : Addr) (ns : List Int) (k : Nat), a = .ref p ∧ SqL K H p (ns.map V.int) ∧ b = .int k ∧ 3 * k + 2 < ns.length ∧ ns.length ≤ 10000 ∧
  ∀ H', Ex H H' → Q (.bl (decide (isF ns k))) H'
def sp__count_frames (K : Frg) : Sp := Sp1 fun a H Q => ∃ (p : Addr) (ns : List Int), a = .ref p ∧ SqL K H p (ns.map V.int) ∧ ns.length ≤ 10000 ∧ ∀ H', Ex H H' → Q (.int (rdF ns).length) H'
def sp_scan (K : Frg) : Sp := Sp1 fun a H Q => ∃ (p : Addr) (ns : List Int), a = .ref p ∧ SqL K H p (ns.map V.int) ∧ ns.length ≤ 10000 ∧
  ∀ t l H', H t = none → H l = none → Ex H H' → H' t = some (.tup [.ref l, .int (3 * (rdF ns).length)]) → H' l = some (.lst ((rdF ns).map V.int)) → Q (.ref t) H'
def sp_mend (K : Frg) : Sp := Sp1 fun a H Q => ∃ (p : Addr) (ns : List Int), a = .ref p ∧ SqL K H p (ns.map V.int) ∧ ns.length ≤ 10000 ∧ RetI (ns.take (3 * (rdF ns).length)) H Q
/-! the tape: what draws read, sealed -/
def TG (n : Addr) (xs : List V) : Prop := ∃ pl he co se tu : Int, xs = [.ref n, .int pl, .int he, .int co, .int se, .int tu] ∧ 0 ≤ pl
def Tape (H : Hp) (t : Addr) : Prop := ∃ (n : Addr) (ns : List Int), H t = some (Sealed t (TG n)) ∧ H n = some (.lst (ns.map V.int))
theorem Tape.ex {H H' : Hp} {t : Addr} (h : Tape H t) (e : Ex H H') : Tape H' t := let ⟨n, ns, a, b⟩ := h; ⟨n, ns, e _ _ a, e _ _ b⟩
theorem tg_ne {H : Hp} {t n : Addr} {xs : List V} {ns : List Int} (h : H t = some (.lst xs)) (g : TG n xs) (h' : H n = some (.lst (ns.map V.int))) : n ≠ t := by
  rintro rfl
  obtain ⟨pl, he, co, se, tu, rfl, _⟩ := g
  rw [h] at h'
  cases ns with
  | nil => cases h'
  | cons a r => cases h'
def low__law_draw (_ : Frg) : Sp := Sp2 fun a b H Q => ∃ (t n : Addr) (ns : List Int) (xs : List V) (m : Int), a = .ref t ∧ b = .int m ∧ H t = some (.lst xs) ∧ TG n xs ∧ H n = some (.lst (ns.map V.int)) ∧ 0 < m ∧ m ≤ 1000000000000000000000000000000 ∧
  ∀ d H' ys, 0 ≤ d → d < m → Chg t H H' → H' t = some (.lst ys) → TG n ys → Q (.int d) H'
def mid__law_draw (_ : Frg) : Sp := Sp2 fun a b H Q => ∃ (t n : Addr) (ns : List Int) (xs : List V) (m : Int), a = .ref t ∧ b = .int m ∧ H t = some (.lst xs) ∧ TG n xs ∧ H n = some (.lst (ns.map V.int)) ∧ 0 < m ∧ m ≤ 1000000000000000000000000000000 ∧
  ∀ d, 0 ≤ d → d < m → Q (.int d) (upd H t (Sealed t (TG n)))
def sp__law_draw (_ : Frg) : Sp := Sp2 fun a b H Q => ∃ (t : Addr) (m : Int), a = .ref t ∧ b = .int m ∧ Tape H t ∧ 0 < m ∧ m ≤ 1000000000000000000000000000000 ∧ ∀ d, 0 ≤ d → d < m → Q (.int d) H
theorem up__law_draw {P : Program} {w : World} {K : PySem.W.Frag} {mg : Str → Option Value} {base : Heap} {k : Nat} {f : Addr} {fd : FuncData} {p1 p2 : Str} (F : FnOk P w K mg base CX0 k f fd [p1, p2] (low__law_draw K)) : FnOk P w K mg base CX0 k f fd [p1, p2] (sp__law_draw K) := by
  have F2 : FnOk P w K mg base CX0 k f fd [p1, p2] (mid__law_draw K) := fn_seal F (fun _ _ _ _ h => len2 h) fun vs H Q E h => by
    obtain ⟨a, b, rfl, t, n, ns, xs, m, rfl, rfl, h1, h2, h3, h4, h5, q⟩ := h
    refine ⟨_, _, rfl, t, n, ns, xs, m, rfl, rfl, h1, h2, h3, h4, h5, fun d H' ys d0 d1 c e g => ⟨t, ys, TG n, e, g, ?_⟩⟩
    have eq : upd H' t (Sealed t (TG n)) = upd H t (Sealed t (TG n)) := by
      funext x
      by_cases hx : x = t
      · rw [hx, upd_same, upd_same]
      · rw [upd_ne hx, upd_ne hx, c x hx]
    rw [eq]
    exact q d d0 d1
  refine fn_unseal F2 (fun _ _ _ _ h => len2 h) fun vs H Q E h => ?_
  obtain ⟨a, b, rfl, t, m, rfl, rfl, ⟨n, ns, h1, h2⟩, h4, h5, q⟩ := h
  have nt : n ≠ t := ne_of h2 h1 (by intro z; cases z)
  refine ⟨t, TG n, h1, fun xs g => ⟨_, _, rfl, t, n, ns, xs, m, rfl, rfl, upd_same, g, by rw [upd_ne nt]; exact h2, h4, h5, fun d d0 d1 => ?_⟩⟩
  have eq : upd (upd H t (.lst xs)) t (Sealed t (TG n)) = H := by
    rw [upd_upd]
    funext x
    by_cases hx : x = t
    · rw [hx, upd_same, h1]
    · rw [upd_ne hx]
  rw [eq]
  exact q d d0 d1
def sp__law_mixed (_ : Frg) : Sp := Sp3 fun a b c H Q => ∃ (x y m : Int), a = .int x ∧ b = .int y ∧ c = .int m ∧ 0 < m ∧ ∀ d, 0 ≤ d → d < m → Q (.int d) H
def low__law_tape (K : Frg) : Sp := Sp1 fun a H Q => ∃ (p : Addr) (ns : List Int), a = .ref p ∧ SqL K H p (ns.map V.int) ∧ ns.length ≤ 63 ∧
  ∀ (t n : Addr) (xs : List V) (ms : List Int) (H' : Hp), H t = none → Ex H H' → H' t = some (.lst xs) → TG n xs → H' n = some (.lst (ms.map V.int)) → Q (.ref t) H'
def sp__law_tape (K : Frg) : Sp := Sp1 fun a H Q => ∃ (p : Addr) (ns : List Int), a = .ref p ∧ SqL K H p (ns.map V.int) ∧ ns.length ≤ 63 ∧ ∀ t H', Ex H H' → Tape H' t → Q (.ref t) H'
theorem up__law_tape {P : Program} {w : World} {K : PySem.W.Frag} {mg : Str → Option Value} {base : Heap} {k : Nat} {f : Addr} {fd : FuncData} {p1 : Str} (F : FnOk P w K mg base CX0 k f fd [p1] (low__law_tape K)) : FnOk P w K mg base CX0 k f fd [p1] (sp__law_tape K) :=
  fn_seal F (fun _ _ _ _ h => len1 h) fun vs H Q E h => by
    obtain ⟨a, rfl, p, ns, rfl, h1, h2, q⟩ := h
    refine ⟨_, rfl, p, ns, rfl, h1, h2, fun t n xs ms H' ht e hx g hn => ⟨t, xs, TG n, hx, g, q t _ (Ex.mut e ht) ⟨n, ms, upd_same, ?_⟩⟩⟩
    rw [upd_ne (tg_ne hx g hn)]
    exact hn
def sp__law_entry (_ : Frg) : Sp := Sp1 fun a H Q => ∃ (t : Addr), a = .ref t ∧ Tape H t ∧ ∀ e, 0 ≤ e → Q (.int e) H
def sp__law_log (_ : Frg) : Sp := Sp1 fun a H Q => ∃ (t : Addr), a = .ref t ∧ Tape H t ∧ ∀ p H' (ns : List Int), H p = none → Ex H H' → H' p = some (.lst (ns.map V.int)) → (∀ e ∈ ns, 0 ≤ e) → ns.length ≤ 300 → Q (.ref p) H'
abbrev sp__law_frame (K : Frg) : Sp := sp_frame K
abbrev sp__law_frames (K : Frg) : Sp := sp_frames K
def sp__law_read (K : Frg) : Sp := Sp1 fun a H Q => ∃ (p : Addr) (ns : List Int), a = .ref p ∧ SqL K H p (ns.map V.int) ∧ ns.length ≤ 10000 ∧ RetI (rdF ns) H Q
def Tru (H : Hp) (Q : VK) : Prop := ∀ H', Ex H H' → Q (.bl true) H'
def sp__law_is_row (K : Frg) : Sp := Sp2 fun a b H Q => ∃ (p r : Addr) (ns : List Int), a = .ref p ∧ b = .ref r ∧ SqL K H p (ns.map V.int) ∧ SqL K H r (ns.map V.int) ∧ ns.length ≤ 10000 ∧ Tru H Q
def sp__law_frames_hold (K : Frg) : Sp := Sp2 fun a b H Q => ∃ (p r : Addr) (ns : List Int), a = .ref p ∧ b = .ref r ∧ SqL K H p (ns.map V.int) ∧ SqL K H r ((frF ns).map V.int) ∧ ns.length ≤ 1000 ∧ Tru H Q
def Holds (n : Nat) : Sp := Sp2 fun a b H Q => ∃ (p r : Addr) (ns ms : List Int), a = .ref p ∧ b = .ref r ∧ H p = some (.lst (ns.map V.int)) ∧ H r = some (.lst (ms.map V.int)) ∧ rdF ns = ms ∧ ns.length ≤ n ∧ Tru H Q
abbrev sp__law_scan_holds (_ : Frg) : Sp := Holds 9000
abbrev sp__law_mend_holds (_ : Frg) : Sp := Holds 8000
abbrev sp__law_holds (_ : Frg) : Sp := Holds 8000
def sp__law_changed (K : Frg) : Sp := Sp3 fun a b c H Q => ∃ (t r : Addr) (ns : List Int) (p : Nat), a = .ref t ∧ b = .ref r ∧ c = .int p ∧ Tape H t ∧ SqL K H r (ns.map V.int) ∧ p < ns.length ∧ ns.length ≤ 1000 ∧
  ∀ q H' v o, H q = none → Ex H H' → ns[p]? = some o → v ≠ o → H' q = some (.lst ((ns.take p ++ [v] ++ ns.drop (p + 1)).map V.int)) → Q (.ref q) H'
def AnyI (n : Nat) (H : Hp) (Q : VK) : Prop := ∀ p H' (ns : List Int), H p = none → Ex H H' → H' p = some (.lst (ns.map V.int)) → ns.length ≤ n → Q (.ref p) H'
def sp__law_wrong_frames (_ : Frg) : Sp := Sp1 fun a H Q => ∃ (t : Addr), a = .ref t ∧ Tape H t ∧ AnyI 30 H Q
def sp__law_other_row (_ : Frg) : Sp := Sp4 fun a b c d H Q => ∃ (t : Addr) (y : Int) (l r : Addr) (ns ms : List Int), a = .ref t ∧ b = .int y ∧ c = .ref l ∧ d = .ref r ∧ Tape H t ∧ H l = some (.lst (ns.map V.int)) ∧ H r = some (.lst (ms.map V.int)) ∧ ns.length ≤ 300 ∧
  ms.length = 3 * ns.length ∧ AnyI 4000 H Q
def sp_law (K : Frg) : Sp := Sp1 fun a H Q => ∃ (p : Addr) (ns : List Int), a = .ref p ∧ SqL K H p (ns.map V.int) ∧ ns.length ≤ 63 ∧ ∀ H', Q (.bl true) H'
theorem sp_law_start {K : Frg} {H : Hp} {a : Addr} {ns : List Int} {E : XK} (h : ns.length ≤ 63) (hS : SqL K H a (ns.map V.int)) : sp_law K [.ref a] H (fun v _ => v = .bl true) E := ⟨_, rfl, a, ns, rfl, hS, h, fun _ => rfl⟩
abbrev s_frame : Stmt := topS 2
theorem sc_frame : FnScope ["index", "entry"] ["index", "entry"] (defScope s_frame) := ⟨rfl, rfl, rfl, by decide +kernel, rfl, by decide +kernel, by decide +kernel⟩
abbrev s_frames : Stmt := topS 3
theorem sc_frames : FnScope ["log", "index", "entry", "cell"] ["log"] (defScope s_frames) := ⟨rfl, rfl, rfl, by decide +kernel, rfl, by decide +kernel, by decide +kernel⟩
abbrev s__is_frame : Stmt := topS 4
theorem sc__is_frame : FnScope ["cells", "index", "begin", "entry"] ["cells", "index"] (defScope s__is_frame) := ⟨rfl, rfl, rfl, by decide +kernel, rfl, by decide +kernel, by decide +kernel⟩
abbrev s__count_frames : Stmt := topS 5
theorem sc__count_frames : FnScope ["cells", "most", "index"] ["cells"] (defScope s__count_frames) := ⟨rfl, rfl, rfl, by decide +kernel, rfl, by decide +kernel, by decide +kernel⟩
abbrev s_scan : Stmt := topS 6
theorem sc_scan : FnScope ["cells", "many", "index"] ["cells"] (defScope s_scan) := ⟨rfl, rfl, rfl, by decide +kernel, rfl, by decide +kernel, by decide +kernel⟩
abbrev s_mend : Stmt := topS 7
theorem sc_mend : FnScope ["cells"] ["cells"] (defScope s_mend) := ⟨rfl, rfl, rfl, by decide +kernel, rfl, by decide +kernel, by decide +kernel⟩
abbrev s__law_tape : Stmt := topS 9
theorem sc__law_tape : FnScope ["_law_script", "_law_cell"] ["_law_script"] (defScope s__law_tape) := ⟨rfl, rfl, rfl, by decide +kernel, rfl, by decide +kernel, by decide +kernel⟩
abbrev s__law_mixed : Stmt := topS 10
theorem sc__law_mixed : FnScope ["_law_seed", "_law_turn", "_law_many", "_law_first", "_law_second", "_law_third"] ["_law_seed", "_law_turn", "_law_many"] (defScope s__law_mixed) := ⟨rfl, rfl, rfl, by decide +kernel, rfl, by decide +kernel, by decide +kernel⟩
abbrev s__law_draw : Stmt := topS 11
theorem sc__law_draw : FnScope ["_law_tape_here", "_law_many", "_law_digit", "_law_numbers", "_law_place"] ["_law_tape_here", "_law_many"] (defScope s__law_draw) := ⟨rfl, rfl, rfl, by decide +kernel, rfl, by decide +kernel, by decide +kernel⟩
abbrev s__law_entry : Stmt := topS 12
theorem sc__law_entry : FnScope ["_law_tape_here", "_law_way"] ["_law_tape_here"] (defScope s__law_entry) := ⟨rfl, rfl, rfl, by decide +kernel, rfl, by decide +kernel, by decide +kernel⟩
abbrev s__law_log : Stmt := topS 13
theorem sc__law_log : FnScope ["_law_tape_here", "_law_way", "_law_size", "_law_begin", "_law_step", "_law_k"] ["_law_tape_here"] (defScope s__law_log) := ⟨rfl, rfl, rfl, by decide +kernel, rfl, by decide +kernel, by decide +kernel⟩
abbrev s__law_frame : Stmt := topS 14
theorem sc__law_frame : FnScope ["_law_index", "_law_entry_here"] ["_law_index", "_law_entry_here"] (defScope s__law_frame) := ⟨rfl, rfl, rfl, by decide +kernel, rfl, by decide +kernel, by decide +kernel⟩
abbrev s__law_frames : Stmt := topS 15
theorem sc__law_frames : FnScope ["_law_log_here", "_law_row", "_law_k"] ["_law_log_here"] (defScope s__law_frames) := ⟨rfl, rfl, rfl, by decide +kernel, rfl, by decide +kernel, by decide +kernel⟩
abbrev s__law_read : Stmt := topS 16
theorem sc__law_read : FnScope ["_law_row", "_law_found", "_law_k", "_law_entry_here"] ["_law_row"] (defScope s__law_read) := ⟨rfl, rfl, rfl, by decide +kernel, rfl, by decide +kernel, by decide +kernel⟩
abbrev s__law_is_row : Stmt := topS 17
theorem sc__law_is_row : FnScope ["_law_told", "_law_due", "_law_k"] ["_law_told", "_law_due"] (defScope s__law_is_row) := ⟨rfl, rfl, rfl, by decide +kernel, rfl, by decide +kernel, by decide +kernel⟩
abbrev s__law_frames_hold : Stmt := topS 18
theorem sc__law_frames_hold : FnScope ["_law_log_here", "_law_row", "_law_handed"] ["_law_log_here", "_law_row"] (defScope s__law_frames_hold) := ⟨rfl, rfl, rfl, by decide +kernel, rfl, by decide +kernel, by decide +kernel⟩
abbrev s__law_scan_holds : Stmt := topS 19
theorem sc__law_scan_holds : FnScope ["_law_row", "_law_log_here", "_law_handed", "_law_told"] ["_law_row", "_law_log_here"] (defScope s__law_scan_holds) := ⟨rfl, rfl, rfl, by decide +kernel, rfl, by decide +kernel, by decide +kernel⟩
abbrev s__law_mend_holds : Stmt := topS 20
theorem sc__law_mend_holds : FnScope ["_law_row", "_law_log_here", "_law_due", "_law_handed", "_law_told", "_law_second", "_law_entry_here"] ["_law_row", "_law_log_here"] (defScope s__law_mend_holds) := ⟨rfl, rfl, rfl, by decide +kernel, rfl, by decide +kernel, by decide +kernel⟩
abbrev s__law_holds : Stmt := topS 21
theorem sc__law_holds : FnScope ["_law_row", "_law_log_here"] ["_law_row", "_law_log_here"] (defScope s__law_holds) := ⟨rfl, rfl, rfl, by decide +kernel, rfl, by decide +kernel, by decide +kernel⟩
abbrev s__law_changed : Stmt := topS 22
theorem sc__law_changed : FnScope ["_law_tape_here", "_law_row", "_law_place", "_law_old", "_law_other", "_law_value"] ["_law_tape_here", "_law_row", "_law_place"] (defScope s__law_changed) := ⟨rfl, rfl, rfl, by decide +kernel, rfl, by decide +kernel, by decide +kernel⟩
abbrev s__law_wrong_frames : Stmt := topS 23
theorem sc__law_wrong_frames : FnScope ["_law_tape_here", "_law_row", "_law_k", "_law_entry_here", "_law_index"] ["_law_tape_here"] (defScope s__law_wrong_frames) := ⟨rfl, rfl, rfl, by decide +kernel, rfl, by decide +kernel, by decide +kernel⟩
abbrev s__law_other_row : Stmt := topS 24
theorem sc__law_other_row : FnScope ["_law_tape_here", "_law_way", "_law_log_here", "_law_row", "_law_entry_here", "_law_k", "_law_piece", "_law_behind", "_law_place"] ["_law_tape_here", "_law_way", "_law_log_here", "_law_row"] (defScope s__law_other_row) := ⟨rfl, rfl, rfl, by decide +kernel, rfl, by decide +kernel, by decide +kernel⟩
abbrev s_law : Stmt := topS 25
theorem sc_law : FnScope ["_law_script", "_law_tape_here", "_law_way", "_law_log_here", "_law_row", "_law_cut", "_law_place", "_law_other"] ["_law_script"] (defScope s_law) := ⟨rfl, rfl, rfl, by decide +kernel, rfl, by decide +kernel, by decide +kernel⟩
structure Glo (mg : Str → Option Value) : Prop where
  g_WIDTH : ∃ t, mg "WIDTH" = some (.int 3 t)
  g_bool : mg "bool" = none
  g_enumerate : mg "enumerate" = none
  g_int : mg "int" = none
  g_isinstance : mg "isinstance" = none
  g_len : mg "len" = none
  g_list : mg "list" = none
  g_range : mg "range" = none
  g_sum : mg "sum" = none
  g_tuple : mg "tuple" = none
section
variable {P : Program} {w : World} {K : PySem.W.Frag} {mg : Str → Option Value} {base : Heap}
theorem ok_frame (G : Glo mg) {f : Addr} {fd : FuncData} (F : Fun K "frame" "frame" s_frame f fd) : FnOk P w K mg base CX0 1 f fd ["index", "entry"] (sp_frame K) := by
  refine F.ok sc_frame (fun vs H Q E h => len2 h) (fun cdv A outer s H vs Q E hr h => ?_)
  obtain ⟨v0, v1, rfl, h⟩ := h
  refine ⟨_, (pss_one (ps_ret (pe_lst (pa_cons (pv 0) (pa_cons (pv 1) (pa_cons (pe_op op_sub (pe_un un_neg pe_int) (pv 1)) pa_nil)))))), ?_⟩
  rw [show L2.start ["index", "entry"] [v0, v1] = [some v0, some v1] from rfl]
  obtain ⟨i, e, rfl, rfl, q⟩ := h
  walk_at "w"
  exact w_newL (by walk_at "side") fun p H' hp e0 h0 => q p H' hp e0 h0
theorem ok_frames (G : Glo mg) {f : Addr} {fd : FuncData} (F : Fun K "frames" "frames" s_frames f fd) (h_frame : Has P w K mg base "frame" 1 (sp_frame K)) : FnOk P w K mg base CX0 2 f fd ["log"] (sp_frames K) := by
  refine F.ok sc_frames (fun vs H Q E h => len1 h) (fun cdv A outer s H vs Q E hr h => ?_)
  obtain ⟨v0, rfl, h⟩ := h
  refine ⟨_, (pss_one (ps_ret (pe_lc2 (own := [("index", 1), ("entry", 2), ("cell", 3)]) (vs1 := [3]) (by rfl) sc_frames.nd (pi_enumK K (by rfl) G.g_enumerate (pa_cons (pv 0) pa_nil)) (blkOk_by (own := [("index", 1), ("entry", 2), ("cell", 3)]) (N := ["log", "index", "entry", "cell"]) (sc := defScope s_frames) (by decide +kernel)) (by decide) (fun _ _ _ _ _ => (pg_tupK K (n := 2) rfl (pgs_cons (pg_name (i := 1) (by exact sc_frames.nd) rfl (.inl rfl)) (pgs_cons (pg_name (i := 2) (by exact sc_frames.nd) rfl (.inl rfl)) pgs_nil)))) (fun _ _ _ _ _ => pts_nil) (fun _ _ _ _ _ => (pi_lstK K (pe_fn h_frame (hr.mono (by decide)) (by rfl) (pa_cons (pv 1) (pa_cons (pv 2) pa_nil))))) (fun _ _ _ _ _ => (pg_name (i := 3) (by exact sc_frames.nd) rfl (.inl rfl))) (fun _ _ _ _ _ => pts_nil) (fun _ _ _ _ _ => (pv 3))))), ?_⟩
  rw [show L2.start ["log", "index", "entry", "cell"] [v0] = [some v0, none, none, none] from rfl]
  obtain ⟨a, ns, rfl, hS, hl, q⟩ := h
  walk_at "w"
  refine w_comp2 (walk_enum (xs := ns.map V.int)) (fun i vs _ => vs = (frF (ns.take i)).map V.int) yPair (fun H' e => ex_l e hS) (by show [] = List.map V.int (frF []); rw [frF_nil]; rfl) ?_ ?_
  · rintro i x acc D B H1 H2 hi eB rfl bD eB1 hx hD ⟨T, a1, b1, rfl, nT, rfl, h1, h2⟩ e12
    cases h1
    obtain ⟨e, he, rfl⟩ := get_map h2
    refine w_gt2 (.of upd_same) ⟨rfl, ?_⟩
    walk_at "w"
    refine ⟨_, _, rfl, _, _, rfl, rfl, fun p H3 hp e3 h3 => ?_⟩
    walk_at "w"
    have hD2 : H3 D = some (.lst ((frF (ns.take i)).map V.int)) := e3 _ _ (e12 _ _ hx)
    have npD : p ≠ D := (ne_of_none (e12 _ _ hx) hp).symm
    have el : (frF (ns.take i)).length ≤ 3000 := by rw [frF_len, List.length_take]; omega
    refine w_inner (walk_list (xs := (fr i e).map V.int)) (Hb := del D H3) (fun j vs _ => vs = (frF (ns.take i) ++ (fr i e).take j).map V.int) yAt (fun H' e' => ex_l e' (sq_of ((del_ne npD).trans h3))) del_self ⟨_, del D H3, Ex.refl _, by show _ = List.map V.int (_ ++ []); rw [List.append_nil], del_self, del_ex, hD2⟩ ?_ ?_
    · rintro j x acc B1 H4 H5 hj eB1' rfl bD1 eB2 hx4 ⟨rfl, hy⟩ _
      obtain ⟨z, hz, rfl⟩ := get_map hy
      refine ⟨rfl, ?_⟩
      walk_at "w"
      refine cyes del_self (eB1'.trans eB2) hx4 ?_ (Ex.refl _) ?_
      · rw [List.length_map, List.length_append, List.length_take]
        show _ + min j 3 ≤ _
        omega
      · show _ = List.map V.int (_ ++ (fr i e).take (j + 1))
        rw [take_succ hz, ← List.append_assoc, List.map_append (l₂ := [z])]
        rfl
    · rintro B1 H4 acc eB1' eB2 bD1 hx4 rfl
      refine ⟨_, B1, ?_, ?_, bD1, eB2, hx4⟩
      · exact (ex_del (((eB.trans eB1).trans e12).trans e3) hD).trans eB1'
      · show _ = List.map V.int (frF (ns.take (i + 1)))
        rw [frF_take he, List.length_map]
        rfl
  · rintro D B H' acc hD eB eB' bD hx rfl
    rw [List.length_map, List.take_length] at hx
    exact q D H' hD (eB.trans eB') hx
theorem ok__is_frame (G : Glo mg) {f : Addr} {fd : FuncData} (F : Fun K "_is_frame" "_is_frame" s__is_frame f fd) (h_frame : Has P w K mg base "frame" 1 (sp_frame K)) : FnOk P w K mg base CX0 2 f fd ["cells", "index"] (sp__is_frame K) := by
  refine F.ok sc__is_frame (fun vs H Q E h => len2 h) (fun cdv A outer s H vs Q E hr h => ?_)
  obtain ⟨v0, v1, rfl, h⟩ := h
  refine ⟨_, (pss_cons (ps_set (i := 2) sc__is_frame.nd rfl (.inl rfl) (pe_op op_mulA (pe_constI G.g_WIDTH (by rfl)) (pv 1)))
  (pss_cons (ps_set (i := 3) sc__is_frame.nd rfl (.inl rfl) (pe_ix (ix_K K) (pv 0) (pe_op op_addA (pv 2) pe_int) (fun _ _ => rfl)))
  (pss_one (ps_ret (pe_and (pe_cmpR (op_ge) (pv 3) pe_int (nomark _)) (pe_one (pe_cmpR (eq_K K hr.units) (pe_slice (sl_K K) (pv 0) (po_some (pv 2)) (po_some (pe_op op_addA (pv 2) (pe_constI G.g_WIDTH (by rfl))))) (pe_fn h_frame (hr.mono (by decide)) (by rfl) (pa_cons (pv 1) (pa_cons (pv 3) pa_nil))) (nomark _)))))))), ?_⟩
  rw [show L2.start ["cells", "index", "begin", "entry"] [v0, v1] = [some v0, some v1, none, none] from rfl]
  obtain ⟨p, ns, k, rfl, hS, rfl, hk, hl, q⟩ := h
  walk_at "w"
  refine w_ixI (by walk_at "sq") (by omega) (by omega) fun n hn => ?_
  rw [show (3 * (k : Int) + 1).toNat = 3 * k + 1 by omega] at hn
  have en : ns.getD (3 * k + 1) 0 = n := by rw [List.getD_eq_getElem?_getD, hn]; rfl
  walk_at "w"
  refine w_ite (fun hc => ?_) (fun hc => ?_)
  · walk_at "w"
    refine w_slBo (by walk_at "sq") (by omega) (by omega) fun p1 H1 n1 e1 h1 => ?_
    walk_at "w"
    refine ⟨_, _, rfl, _, _, rfl, rfl, fun p2 H2 n2 e2 h2 => ?_⟩
    refine w_eqL (by walk_at "sq") (by walk_at "sq") ?_
    have e : decide (((ns.take (3 * (k : Int) + 3).toNat).drop (3 * (k : Int)).toNat) = fr k n) = decide (isF ns k) := by
      rw [show (3 * (k : Int) + 3).toNat = 3 * k + 3 by omega, show (3 * (k : Int)).toNat = 3 * k by omega]
      exact decide_eq_decide.mpr ⟨fun g => ⟨by rw [en]; exact hc, by rw [en]; exact g⟩, fun g => by have z := g.2; rw [en] at z; exact z⟩
    rw [e]
    exact q H2 (e1.trans e2)
  · have e : decide (isF ns k) = false := decide_eq_false fun g => hc (by unfold isF at g; rw [en] at g; exact g.1)
    rw [e] at q
    exact q H (Ex.refl H)
theorem ok__count_frames (G : Glo mg) {f : Addr} {fd : FuncData} (F : Fun K "_count_frames" "_count_frames" s__count_frames f fd) (h__is_frame : Has P w K mg base "_is_frame" 2 (sp__is_frame K)) : FnOk P w K mg base CX0 3 f fd ["cells"] (sp__count_frames K) := by
  refine F.ok sc__count_frames (fun vs H Q E h => len1 h) (fun cdv A outer s H vs Q E hr h => ?_)
  obtain ⟨v0, rfl, h⟩ := h
  refine ⟨_, (pss_cons (ps_set (i := 1) sc__count_frames.nd rfl (.inl rfl) (pe_op op_fdivA (pe_callB (len_K K) (by rfl) G.g_len (by decide +kernel) (pa_cons (pv 0) pa_nil)) (pe_constI G.g_WIDTH (by rfl))))
  (pss_cons (ps_for PassesOwn.never rfl (pi_range1 (by rfl) G.g_range (pa_cons (pv 1) pa_nil)) (pg_name (i := 2) (by exact sc__count_frames.nd) rfl (.inl rfl)) (pss_one (ps_if (pt_not (tru_K K (pe_fn h__is_frame (hr.mono (by decide)) (by rfl) (pa_cons (pv 0) (pa_cons (pv 2) pa_nil))) (by intro _; rfl))) (pss_one (ps_ret (pv 2))) pss_nil)))
  (pss_one (ps_ret (pv 1))))), ?_⟩
  rw [show L2.start ["cells", "most", "index"] [v0] = [some v0, none, none] from rfl]
  obtain ⟨p, ns, rfl, hS, hl, q⟩ := h
  walk_at "w"
  have em : ((ns.length : Int) / 3).toNat = ns.length / 3 := by omega
  rw [em]
  refine w_loopR (fun i σ H' => ∃ x es, σ = [some (.ref p), some (.int ((ns.length : Int) / 3)), x] ∧ Ex H H' ∧ RdAt ns i es) ⟨none, [], rfl, Ex.refl H, rdAt_zero ns⟩ ?_ ?_
  · rintro i σ H1 hi ⟨x, es, rfl, e1, pr⟩
    have hlt : 3 * i + 2 < ns.length := by omega
    obtain ⟨a, b, c, r, _, ha, hb, hc, _⟩ := at3 hlt
    have iff := isF_at hlt ha hb hc
    walk_at "w"
    refine ⟨_, _, rfl, _, _, i, rfl, (by walk_at "sq"), rfl, hlt, hl, fun H2 e2 => ?_⟩
    walk_at "w"
    refine w_iteN (p := isF ns i) (fun g => ?_) (fun g => ?_)
    · walk_at "w"
      have er : (rdF ns).length = i := by rw [rdF_no pr hlt ha hb hc (fun z => g (iff.mpr z)), pr.1]
      rw [er] at q
      exact q H2 (e1.trans e2)
    · walk_at "w"
      exact ⟨_, _, rfl, e1.trans e2, rdAt_yes pr hlt ha hb hc (iff.mp g)⟩
  · rintro σ H1 ⟨x, es, rfl, e1, pr⟩
    walk_at "w"
    have er : ((rdF ns).length : Int) = (ns.length : Int) / 3 := by
      rw [rdF_end pr (by omega), pr.1]
      omega
    rw [er] at q
    exact q H1 e1
theorem ok_scan (G : Glo mg) {f : Addr} {fd : FuncData} (F : Fun K "scan" "scan" s_scan f fd) (h__count_frames : Has P w K mg base "_count_frames" 3 (sp__count_frames K)) : FnOk P w K mg base CX0 4 f fd ["cells"] (sp_scan K) := by
  refine F.ok sc_scan (fun vs H Q E h => len1 h) (fun cdv A outer s H vs Q E hr h => ?_)
  obtain ⟨v0, rfl, h⟩ := h
  refine ⟨_, (pss_cons (ps_set (i := 1) sc_scan.nd rfl (.inl rfl) (pe_fn h__count_frames (hr.mono (by decide)) (by rfl) (pa_cons (pv 0) pa_nil)))
  (pss_one (ps_ret (pe_tup (pa_cons (pe_lc (own := [("index", 2)]) (by rfl) sc_scan.nd (pi_range1 (by rfl) G.g_range (pa_cons (pv 1) pa_nil)) (blkOk_by (own := [("index", 2)]) (N := ["cells", "many", "index"]) (sc := defScope s_scan) (by decide +kernel)) (fun _ _ _ _ _ => (pg_name (i := 2) (by exact sc_scan.nd) rfl (.inl rfl))) (fun _ _ _ _ _ => pts_nil) (fun _ _ _ _ _ => (pe_ix (ix_K K) (pv 0) (pe_op op_addA (pe_op op_mulA (pe_constI G.g_WIDTH (by rfl)) (pv 2)) pe_int) (fun _ _ => rfl)))) (pa_cons (pe_op op_mulA (pe_constI G.g_WIDTH (by rfl)) (pv 1)) pa_nil)))))), ?_⟩
  rw [show L2.start ["cells", "many", "index"] [v0] = [some v0, none, none] from rfl]
  obtain ⟨p, ns, rfl, hS, hl, q⟩ := h
  have hle := rdF_len ns
  walk_at "w"
  refine ⟨_, rfl, _, _, rfl, hS, hl, fun H1 e1 => ?_⟩
  walk_at "w"
  rw [Int.toNat_natCast]
  refine w_compI walk_range (fun i acc => acc = (rdF ns).take i) yFn (fun _ _ => trivial) rfl ?_ ?_
  · rintro i x acc D H2 H3 hi rfl hal e2 hx hD ⟨rfl, rfl⟩ -
    obtain ⟨e, he⟩ : ∃ e, (rdF ns)[i]? = some e := ⟨_, List.getElem?_eq_getElem hi⟩
    obtain ⟨g1, g2, g3, g4, g5⟩ := rdF_get he
    refine ⟨rfl, ?_⟩
    walk_at "w"
    refine w_ixI (by walk_at "sq") (by omega) (by omega) fun n hn => ?_
    rw [show (3 * (0 + (i : Int)) + 1).toNat = 3 * i + 1 by omega, g3] at hn
    cases hn
    have hi2 : i ≤ 100000 := by omega
    refine cyI hD e2 hx hal hi2 (Ex.refl _) ?_
    exact (take_succ he).symm
  · rintro D H2 acc hD e2 hx rfl hal
    rw [List.take_of_length_le (Nat.le_refl _)] at hx
    walk_at "w"
    refine w_newT (by walk_at "side") fun t H3 ht e3 h3 => ?_
    exact q t D H3 (fresh_back (e1.trans e2) ht) (fresh_back e1 hD) ((e1.trans e2).trans e3) h3 (e3 _ _ hx)
theorem ok_mend (G : Glo mg) {f : Addr} {fd : FuncData} (F : Fun K "mend" "mend" s_mend f fd) (h__count_frames : Has P w K mg base "_count_frames" 3 (sp__count_frames K)) : FnOk P w K mg base CX0 4 f fd ["cells"] (sp_mend K) := by
  refine F.ok sc_mend (fun vs H Q E h => len1 h) (fun cdv A outer s H vs Q E hr h => ?_)
  obtain ⟨v0, rfl, h⟩ := h
  refine ⟨_, (pss_one (ps_ret (pe_slice (sl_K K) (pv 0) po_none (po_some (pe_op op_mulA (pe_constI G.g_WIDTH (by rfl)) (pe_fn h__count_frames (hr.mono (by decide)) (by rfl) (pa_cons (pv 0) pa_nil))))))), ?_⟩
  rw [show L2.start ["cells"] [v0] = [some v0] from rfl]
  obtain ⟨p, ns, rfl, hS, hl, q⟩ := h
  have hle := rdF_len ns
  walk_at "w"
  refine ⟨_, rfl, _, _, rfl, hS, hl, fun H1 e1 => ?_⟩
  walk_at "w"
  refine w_slHi (by walk_at "sq") (by omega) fun p2 H2 n2 e2 h2 => ?_
  rw [show (3 * ((rdF ns).length : Int)).toNat = 3 * (rdF ns).length by omega] at h2
  exact q p2 H2 (fresh_back e1 n2) (e1.trans e2) h2
theorem ok__law_mixed (G : Glo mg) {f : Addr} {fd : FuncData} (F : Fun K "_law_mixed" "_law_mixed" s__law_mixed f fd) : FnOk P w K mg base CX0 1 f fd ["_law_seed", "_law_turn", "_law_many"] (sp__law_mixed K) := by
  refine F.ok sc__law_mixed (fun vs H Q E h => len3 h) (fun cdv A outer s H vs Q E hr h => ?_)
  obtain ⟨v0, v1, v2, rfl, h⟩ := h
  refine ⟨_, (pss_cons (ps_set (i := 3) sc__law_mixed.nd rfl (.inl rfl) (pe_op op_modA (pe_callTy (int_K K) (by rfl) G.g_int (by decide +kernel) (pa_cons (pe_op op_addA (pe_op op_addA (pe_op op_mulA (pv 0) pe_int) (pe_op op_mulA (pv 1) pe_int)) pe_int) pa_nil)) pe_int))
  (pss_cons (ps_set (i := 4) sc__law_mixed.nd rfl (.inl rfl) (pe_op op_modA (pe_callTy (int_K K) (by rfl) G.g_int (by decide +kernel) (pa_cons (pe_op op_addA (pe_op op_addA (pe_op op_mulA (pv 3) (pv 3)) (pe_op op_mulA (pv 3) pe_int)) (pe_op op_mulA (pv 1) pe_int)) pa_nil)) pe_int))
  (pss_cons (ps_set (i := 5) sc__law_mixed.nd rfl (.inl rfl) (pe_op op_modA (pe_callTy (int_K K) (by rfl) G.g_int (by decide +kernel) (pa_cons (pe_op op_addA (pe_op op_mulA (pv 4) pe_int) (pe_op op_fdivA (pv 3) pe_int)) pa_nil)) pe_int))
  (pss_one (ps_ret (pe_op op_modA (pe_callTy (int_K K) (by rfl) G.g_int (by decide +kernel) (pa_cons (pe_op op_fdivA (pv 5) pe_int) pa_nil)) (pv 2))))))), ?_⟩
  rw [show L2.start ["_law_seed", "_law_turn", "_law_many", "_law_first", "_law_second", "_law_third"] [v0, v1, v2] = [some v0, some v1, some v2, none, none, none] from rfl]
  obtain ⟨x, y, m, rfl, rfl, rfl, hm, q⟩ := h
  walk_at "w"
  exact q _ (Int.emod_nonneg _ (by omega)) (Int.emod_lt_of_pos _ hm)
theorem ok__law_draw (G : Glo mg) {f : Addr} {fd : FuncData} (F : Fun K "_law_draw" "_law_draw" s__law_draw f fd) (h__law_mixed : Has P w K mg base "_law_mixed" 1 (sp__law_mixed K)) : FnOk P w K mg base CX0 2 f fd ["_law_tape_here", "_law_many"] (low__law_draw K) := by
  refine F.ok sc__law_draw (fun vs H Q E h => len2 h) (fun cdv A outer s H vs Q E hr h => ?_)
  obtain ⟨v0, v1, rfl, h⟩ := h
  refine ⟨_, (pss_cons (ps_asg (pe_op op_addA (pe_ix (ix_K K) (pv 0) pe_int (fun _ _ => rfl)) pe_int) (pg_sub (pv 0) pe_int set_list))
  (pss_cut (ps_if (PW.pt (pw_and (pt_cmpR (op_gt) (pe_ix (ix_K K) (pv 0) pe_int (fun _ _ => rfl)) pe_int (nomark _)) (pw_and1 (pt_cmpR (op_lt) (pe_ix (ix_K K) (pv 0) pe_int (fun _ _ => rfl)) pe_int (nomark _))))) (pss_cons (ps_set (i := 2) sc__law_draw.nd rfl (.inl rfl) (pe_op op_modA (pe_callTy (int_K K) (by rfl) G.g_int (by decide +kernel) (pa_cons (pe_ix (ix_K K) (pv 0) pe_int (fun _ _ => rfl)) pa_nil)) (pv 1)))
  (pss_cons (ps_asg (pe_op op_fdivA (pe_callTy (int_K K) (by rfl) G.g_int (by decide +kernel) (pa_cons (pe_ix (ix_K K) (pv 0) pe_int (fun _ _ => rfl)) pa_nil)) (pv 1)) (pg_sub (pv 0) pe_int set_list))
  (pss_cons (ps_asg (pe_op op_addA (pe_ix (ix_K K) (pv 0) pe_int (fun _ _ => rfl)) pe_int) (pg_sub (pv 0) pe_int set_list))
  (pss_one (ps_ret (pv 2)))))) pss_nil)
  (pss_cons (ps_set (i := 3) sc__law_draw.nd rfl (.inl rfl) (pe_ix (ix_K K) (pv 0) pe_int (fun _ _ => rfl)))
  (pss_cons (ps_set (i := 4) sc__law_draw.nd rfl (.inl rfl) (pe_ix (ix_K K) (pv 0) pe_int (fun _ _ => rfl)))
  (pss_cons (ps_if (pt_cmpR (op_ge) (pv 4) (pe_callB (len_K K) (by rfl) G.g_len (by decide +kernel) (pa_cons (pv 3) pa_nil)) (nomark _)) (pss_one (ps_ret (pe_fn h__law_mixed (hr.mono (by decide)) (by rfl) (pa_cons (pe_ix (ix_K K) (pv 0) pe_int (fun _ _ => rfl)) (pa_cons (pe_ix (ix_K K) (pv 0) pe_int (fun _ _ => rfl)) (pa_cons (pv 1) pa_nil)))))) pss_nil)
  (pss_cons (ps_asg (pe_op op_addA (pv 4) pe_int) (pg_sub (pv 0) pe_int set_list))
  (pss_cons (ps_if (pt_cmpR (op_lt) (pe_ix (ix_K K) (pv 3) (pv 4) (fun _ _ => rfl)) (pe_powC (z := 1000000000000000000) (by decide +kernel) ⟨by decide, by decide, by decide⟩) (nomark _)) (pss_one (ps_ret (pe_fn h__law_mixed (hr.mono (by decide)) (by rfl) (pa_cons (pe_ix (ix_K K) (pv 3) (pv 4) (fun _ _ => rfl)) (pa_cons (pe_ix (ix_K K) (pv 0) pe_int (fun _ _ => rfl)) (pa_cons (pv 1) pa_nil)))))) pss_nil)
  (pss_cons (ps_asg (pe_op op_fdivA (pe_callTy (int_K K) (by rfl) G.g_int (by decide +kernel) (pa_cons (pe_ix (ix_K K) (pv 3) (pv 4) (fun _ _ => rfl)) pa_nil)) (pv 1)) (pg_sub (pv 0) pe_int set_list))
  (pss_cons (ps_asg pe_int (pg_sub (pv 0) pe_int set_list))
  (pss_one (ps_ret (pe_op op_modA (pe_callTy (int_K K) (by rfl) G.g_int (by decide +kernel) (pa_cons (pe_ix (ix_K K) (pv 3) (pv 4) (fun _ _ => rfl)) pa_nil)) (pv 1))))))))))))), ?_⟩
  rw [show L2.start ["_law_tape_here", "_law_many", "_law_digit", "_law_numbers", "_law_place"] [v0, v1] = [some v0, some v1, none, none, none] from rfl]
  obtain ⟨t, n, ns, xs, m, rfl, rfl, h1, h2, h3, h4, h5, q⟩ := h
  have nt := tg_ne h1 h2 h3
  obtain ⟨pl, he, co, se, tu, rfl, hpl⟩ := h2
  have wide : CDivW 0 m := wide_div (b := 200) h4 (by omega) (by decide) (by decide)
  have lo : ∀ z : Int, 0 ≤ z % m := fun z => Int.emod_nonneg _ (by omega)
  have hi : ∀ z : Int, z % m < m := fun z => Int.emod_lt_of_pos _ h4
  have h3' := sq_of (K := K) h3
  walk_at "w"
  refine w_setC h1 rfl fun H1 c1 g1 => ?_
  walk_at "w"
  refine w_cut (fun σ H' => σ = [some (.ref t), some (.int m), none, none, none] ∧ H' = H1) ?_ ?_
  · walk_at "w"
    refine w_ite (fun hc => ?_) (fun hc => ?_)
    · walk_at "w"
      refine w_ite (fun hc2 => ?_) (fun hc2 => ?_)
      · walk_at "w"
        refine w_divW wide ?_
        walk_at "w"
        refine w_setC g1 rfl fun H2 c2 g2 => ?_
        walk_at "w"
        refine w_setC g2 rfl fun H3 c3 g3 => ?_
        walk_at "w"
        exact q _ H3 _ (lo _) (hi _) ((c1.trans c2).trans c3) g3 ⟨_, _, _, _, _, rfl, hpl⟩
      · walk_at "w"
        exact ⟨rfl, rfl⟩
    · walk_at "w"
      exact ⟨rfl, rfl⟩
  · rintro σ H2 ⟨rfl, rfl⟩
    walk_at "w"
    refine w_ite (fun hc => ?_) (fun hc => ?_)
    · walk_at "w"
      refine ⟨_, _, _, rfl, _, _, _, rfl, rfl, rfl, h4, fun d d0 d1 => ?_⟩
      exact q d H2 _ d0 d1 c1 g1 ⟨_, _, _, _, _, rfl, hpl⟩
    · walk_at "w"
      refine w_setC g1 rfl fun H3 c2 g2 => ?_
      walk_at "w"
      refine w_ixI (by walk_at "sq") hpl (by omega) fun z hz => ?_
      walk_at "w"
      refine w_ite (fun hc2 => ?_) (fun hc2 => ?_)
      · walk_at "w"
        refine w_ixI (by walk_at "sq") hpl (by omega) fun z hz => ?_
        walk_at "w"
        refine ⟨_, _, _, rfl, _, _, _, rfl, rfl, rfl, h4, fun d d0 d1 => ?_⟩
        exact q d H3 _ d0 d1 (c1.trans c2) g2 ⟨_, _, _, _, _, rfl, by omega⟩
      · walk_at "w"
        refine w_ixI (by walk_at "sq") hpl (by omega) fun z hz => ?_
        walk_at "w"
        refine w_divW wide ?_
        walk_at "w"
        refine w_setC g2 rfl fun H4 c3 g3 => ?_
        walk_at "w"
        refine w_setC g3 rfl fun H5 c4 g4 => ?_
        walk_at "w"
        refine w_ixI (by walk_at "sq") hpl (by omega) fun z hz => ?_
        walk_at "w"
        exact q _ H5 _ (lo _) (hi _) (((c1.trans c2).trans c3).trans c4) g4 ⟨_, _, _, _, _, rfl, by omega⟩
theorem ok__law_tape (G : Glo mg) {f : Addr} {fd : FuncData} (F : Fun K "_law_tape" "_law_tape" s__law_tape f fd) : FnOk P w K mg base CX0 1 f fd ["_law_script"] (low__law_tape K) := by
  refine F.ok sc__law_tape (fun vs H Q E h => len1 h) (fun cdv A outer s H vs Q E hr h => ?_)
  obtain ⟨v0, rfl, h⟩ := h
  refine ⟨_, (pss_one (ps_ret (pe_lst (pa_cons (pe_lc (own := [("_law_cell", 1)]) (by rfl) sc__law_tape.nd (pi_lstK K (pe_slice (sl_K K) (pv 0) po_none (po_some pe_int))) (blkOk_by (own := [("_law_cell", 1)]) (N := ["_law_script", "_law_cell"]) (sc := defScope s__law_tape) (by decide +kernel)) (fun _ _ _ _ _ => (pg_name (i := 1) (by exact sc__law_tape.nd) rfl (.inl rfl))) (fun _ _ _ _ _ => pts_nil) (fun _ _ _ _ _ => (pe_callTy (int_K K) (by rfl) G.g_int (by decide +kernel) (pa_cons (pv 1) pa_nil)))) (pa_cons pe_int (pa_cons pe_int (pa_cons pe_int (pa_cons (pe_op op_modA (pe_callTy (int_K K) (by rfl) G.g_int (by decide +kernel) (pa_cons (pe_callB (sum_K K) (by rfl) G.g_sum (by decide +kernel) (pa_cons (pe_slice (sl_K K) (pv 0) po_none (po_some pe_int)) pa_nil)) pa_nil)) pe_int) (pa_cons pe_int pa_nil))))))))), ?_⟩
  rw [show L2.start ["_law_script", "_law_cell"] [v0] = [some v0, none] from rfl]
  obtain ⟨p, ns, rfl, hS, hl, q⟩ := h
  walk_at "w"
  refine w_slHi (by walk_at "sq") (by omega) fun p1 H1 n1 e1 h1 => ?_
  walk_at "w"
  refine w_compI (walk_list (xs := (ns.take (63 : Int).toNat).map V.int)) (fun _ _ => True) yAt (fun H' e => sq_of (e _ _ h1)) trivial ?_ ?_
  · rintro i x acc D H2 H3 hi - hal e2 hx hD ⟨rfl, hy⟩ -
    obtain ⟨z, hz, rfl⟩ := get_map hy
    refine ⟨rfl, ?_⟩
    walk_at "w"
    refine cyI hD e2 hx hal ?_ (Ex.refl _) trivial
    rw [List.length_map, List.length_take] at hi
    omega
  · rintro D H2 acc hD e2 hx - hal
    walk_at "w"
    refine w_slHi (by walk_at "sq") (by omega) fun p3 H3 n3 e3 h3 => ?_
    walk_at "w"
    refine w_sum (by walk_at "sq") ?_
    walk_at "w"
    refine w_newL (by walk_at "side") fun t H4 n4 e4 h4 => ?_
    exact q t D _ acc H4 (fresh_back ((e1.trans e2).trans e3) n4) (((e1.trans e2).trans e3).trans e4) h4 ⟨_, _, _, _, _, rfl, by decide⟩ (e4 _ _ (e3 _ _ hx))
theorem ok__law_entry (G : Glo mg) {f : Addr} {fd : FuncData} (F : Fun K "_law_entry" "_law_entry" s__law_entry f fd) (h__law_draw : Has P w K mg base "_law_draw" 2 (sp__law_draw K)) : FnOk P w K mg base CX0 3 f fd ["_law_tape_here"] (sp__law_entry K) := by
  refine F.ok sc__law_entry (fun vs H Q E h => len1 h) (fun cdv A outer s H vs Q E hr h => ?_)
  obtain ⟨v0, rfl, h⟩ := h
  refine ⟨_, (pss_cons (ps_set (i := 1) sc__law_entry.nd rfl (.inl rfl) (pe_fn h__law_draw (hr.mono (by decide)) (by rfl) (pa_cons (pv 0) (pa_cons pe_int pa_nil))))
  (pss_cons (ps_if (pt_cmpR (eq_K K hr.units) (pv 1) pe_int (nomark _)) (pss_one (ps_ret (pe_fn h__law_draw (hr.mono (by decide)) (by rfl) (pa_cons (pv 0) (pa_cons (pe_powC (z := 1000000000000000000000000000000) (by decide +kernel) ⟨by decide, by decide, by decide⟩) pa_nil))))) pss_nil)
  (pss_cons (ps_if (pt_cmpR (eq_K K hr.units) (pv 1) pe_int (nomark _)) (pss_one (ps_ret (pe_op op_sub (pe_op op_sub (pe_powC (z := 1000000000000000000000000000000) (by decide +kernel) ⟨by decide, by decide, by decide⟩) pe_int) (pe_fn h__law_draw (hr.mono (by decide)) (by rfl) (pa_cons (pv 0) (pa_cons pe_int pa_nil)))))) pss_nil)
  (pss_one (ps_ret (pe_fn h__law_draw (hr.mono (by decide)) (by rfl) (pa_cons (pv 0) (pa_cons pe_int pa_nil)))))))), ?_⟩
  rw [show L2.start ["_law_tape_here", "_law_way"] [v0] = [some v0, none] from rfl]
  obtain ⟨t, rfl, hT, q⟩ := h
  walk_at "w"
  refine ⟨_, _, rfl, _, _, rfl, rfl, hT, by decide, by decide, fun d d0 d1 => ?_⟩
  walk_at "w"
  refine w_ite (fun hc => ?_) (fun hc => ?_)
  · walk_at "w"
    exact ⟨_, _, rfl, _, _, rfl, rfl, hT, by decide, by decide, fun d d0 d1 => q d d0⟩
  · walk_at "w"
    refine w_ite (fun hc => ?_) (fun hc => ?_)
    · walk_at "w"
      refine ⟨_, _, rfl, _, _, rfl, rfl, hT, by decide, by decide, fun d d0 d1 => ?_⟩
      walk_at "w"
      exact q _ (by omega)
    · walk_at "w"
      exact ⟨_, _, rfl, _, _, rfl, rfl, hT, by decide, by decide, fun d d0 d1 => q d d0⟩
theorem ok__law_log (G : Glo mg) {f : Addr} {fd : FuncData} (F : Fun K "_law_log" "_law_log" s__law_log f fd) (h__law_draw : Has P w K mg base "_law_draw" 2 (sp__law_draw K)) (h__law_entry : Has P w K mg base "_law_entry" 3 (sp__law_entry K)) : FnOk P w K mg base CX0 4 f fd ["_law_tape_here"] (sp__law_log K) := by
  refine F.ok sc__law_log (fun vs H Q E h => len1 h) (fun cdv A outer s H vs Q E hr h => ?_)
  obtain ⟨v0, rfl, h⟩ := h
  refine ⟨_, (pss_cons (ps_set (i := 1) sc__law_log.nd rfl (.inl rfl) (pe_fn h__law_draw (hr.mono (by decide)) (by rfl) (pa_cons (pv 0) (pa_cons pe_int pa_nil))))
  (pss_cons (ps_if (pt_cmpR (op_gt) (pv 1) pe_int (nomark _)) (pss_one (ps_ret (pe_lc (own := [("_law_k", 5)]) (by rfl) sc__law_log.nd (pi_range1 (by rfl) G.g_range (pa_cons (pe_fn h__law_draw (hr.mono (by decide)) (by rfl) (pa_cons (pv 0) (pa_cons pe_int pa_nil))) pa_nil)) (blkOk_by (own := [("_law_k", 5)]) (N := ["_law_tape_here", "_law_way", "_law_size", "_law_begin", "_law_step", "_law_k"]) (sc := defScope s__law_log) (by decide +kernel)) (fun _ _ _ _ _ => (pg_name (i := 5) (by exact sc__law_log.nd) rfl (.inl rfl))) (fun _ _ _ _ _ => pts_nil) (fun _ _ _ _ _ => (pe_fn h__law_entry (hr.mono (by decide)) (by rfl) (pa_cons (pv 0) pa_nil)))))) pss_nil)
  (pss_cons (ps_set (i := 2) sc__law_log.nd rfl (.inl rfl) (pe_op op_addA pe_int (pe_fn h__law_draw (hr.mono (by decide)) (by rfl) (pa_cons (pv 0) (pa_cons pe_int pa_nil)))))
  (pss_cut (ps_if (pt_cmpR (eq_K K hr.units) (pv 1) pe_int (nomark _)) (pss_one (ps_set (i := 2) sc__law_log.nd rfl (.inl rfl) (pe_op op_addA (pv 2) pe_int))) pss_nil)
  (pss_cons (ps_set (i := 3) sc__law_log.nd rfl (.inr rfl) (pe_fn h__law_entry (hr.mono (by decide)) (by rfl) (pa_cons (pv 0) pa_nil)))
  (pss_cons (ps_set (i := 4) sc__law_log.nd rfl (.inr rfl) (pe_fn h__law_draw (hr.mono (by decide)) (by rfl) (pa_cons (pv 0) (pa_cons pe_int pa_nil))))
  (pss_one (ps_ret (pe_lc (own := [("_law_k", 5)]) (by rfl) sc__law_log.nd (pi_range1 (by rfl) G.g_range (pa_cons (pv 2) pa_nil)) (blkOk_by (own := [("_law_k", 5)]) (N := ["_law_tape_here", "_law_way", "_law_size", "_law_begin", "_law_step", "_law_k"]) (sc := defScope s__law_log) (by decide +kernel)) (fun _ _ _ _ _ => (pg_name (i := 5) (by exact sc__law_log.nd) rfl (.inl rfl))) (fun _ _ _ _ _ => pts_nil) (fun _ _ _ _ _ => (pe_op op_modA (pe_callTy (int_K K) (by rfl) G.g_int (by decide +kernel) (pa_cons (pe_op op_addA (pv 3) (pe_op op_mulA (pv 5) (pv 4))) pa_nil)) (pe_powC (z := 1000000000000000000000000000000) (by decide +kernel) ⟨by decide, by decide, by decide⟩)))))))))))), ?_⟩
  rw [show L2.start ["_law_tape_here", "_law_way", "_law_size", "_law_begin", "_law_step", "_law_k"] [v0] = [some v0, none, none, none, none, none] from rfl]
  obtain ⟨t, rfl, hT, q⟩ := h
  walk_at "w"
  refine ⟨_, _, rfl, _, _, rfl, rfl, hT, by decide, by decide, fun d d0 d1 => ?_⟩
  walk_at "w"
  refine w_ite (fun hc => ?_) (fun hc => ?_)
  · walk_at "w"
    refine ⟨_, _, rfl, _, _, rfl, rfl, hT, by decide, by decide, fun m m0 m1 => ?_⟩
    walk_at "w"
    refine w_compI walk_range (fun i acc => ∀ e ∈ acc, 0 ≤ e) yFn (fun _ _ => trivial) (fun _ h => by cases h) ?_ ?_
    · rintro i x acc D H2 H3 hi pa hal e2 hx hD ⟨rfl, rfl⟩ -
      refine ⟨rfl, ?_⟩
      walk_at "w"
      refine ⟨_, rfl, _, rfl, hT.ex e2, fun e he => ?_⟩
      refine cyI hD e2 hx hal (by omega) (Ex.refl _) fun z hz => ?_
      rcases List.mem_append.mp hz with hz | hz
      · exact pa z hz
      · rw [List.mem_singleton.mp hz]
        exact he
    · rintro D H2 acc hD e2 hx pa hal
      exact q D H2 acc hD e2 hx pa (by omega)
  · walk_at "w"
    refine ⟨_, _, rfl, _, _, rfl, rfl, hT, by decide, by decide, fun m m0 m1 => ?_⟩
    walk_at "w"
    refine w_cut (fun σ H' => ∃ n : Int, σ = [some (.ref t), some (.int d), some (.int n), none, none, none] ∧ 0 ≤ n ∧ n ≤ 300 ∧ H' = H) ?_ ?_
    · walk_at "w"
      refine w_ite (fun hc => ?_) (fun hc => ?_)
      · walk_at "w"
        exact ⟨_, rfl, by omega, by omega, rfl⟩
      · walk_at "w"
        exact ⟨_, rfl, by omega, by omega, rfl⟩
    · rintro σ H1 ⟨n, rfl, n0, n1, rfl⟩
      walk_at "w"
      refine ⟨_, rfl, _, rfl, hT, fun e he => ?_⟩
      walk_at "w"
      refine ⟨_, _, rfl, _, _, rfl, rfl, hT, by decide, by decide, fun z z0 z1 => ?_⟩
      walk_at "w"
      refine w_compI walk_range (fun i acc => ∀ e ∈ acc, 0 ≤ e) yFn (fun _ _ => trivial) (fun _ h => by cases h) ?_ ?_
      · rintro i x acc D H2 H3 hi pa hal e2 hx hD ⟨rfl, rfl⟩ -
        refine ⟨rfl, ?_⟩
        walk_at "w"
        refine cyI hD e2 hx hal (by omega) (Ex.refl _) fun y hy => ?_
        rcases List.mem_append.mp hy with hy | hy
        · exact pa y hy
        · rw [List.mem_singleton.mp hy]
          exact Int.emod_nonneg _ (by decide)
      · rintro D H2 acc hD e2 hx pa hal
        exact q D H2 acc hD e2 hx pa (by omega)
theorem ok__law_frame (G : Glo mg) {f : Addr} {fd : FuncData} (F : Fun K "_law_frame" "_law_frame" s__law_frame f fd) : FnOk P w K mg base CX0 1 f fd ["_law_index", "_law_entry_here"] (sp__law_frame K) := by
  refine F.ok sc__law_frame (fun vs H Q E h => len2 h) (fun cdv A outer s H vs Q E hr h => ?_)
  obtain ⟨v0, v1, rfl, h⟩ := h
  refine ⟨_, (pss_one (ps_ret (pe_lst (pa_cons (pv 0) (pa_cons (pv 1) (pa_cons (pe_op op_sub (pe_un un_neg pe_int) (pv 1)) pa_nil)))))), ?_⟩
  rw [show L2.start ["_law_index", "_law_entry_here"] [v0, v1] = [some v0, some v1] from rfl]
  obtain ⟨i, e, rfl, rfl, q⟩ := h
  walk_at "w"
  exact w_newL (by walk_at "side") fun p H' hp e0 h0 => q p H' hp e0 h0
theorem ok__law_frames (G : Glo mg) {f : Addr} {fd : FuncData} (F : Fun K "_law_frames" "_law_frames" s__law_frames f fd) (h__law_frame : Has P w K mg base "_law_frame" 1 (sp__law_frame K)) : FnOk P w K mg base CX0 2 f fd ["_law_log_here"] (sp__law_frames K) := by
  refine F.ok sc__law_frames (fun vs H Q E h => len1 h) (fun cdv A outer s H vs Q E hr h => ?_)
  obtain ⟨v0, rfl, h⟩ := h
  refine ⟨_, (pss_cons (ps_set (i := 1) sc__law_frames.nd rfl (.inl rfl) (pe_lst pa_nil))
  (pss_cons (ps_for PassesOwn.never rfl (pi_range1 (by rfl) G.g_range (pa_cons (pe_callB (len_K K) (by rfl) G.g_len (by decide +kernel) (pa_cons (pv 0) pa_nil)) pa_nil)) (pg_name (i := 2) (by exact sc__law_frames.nd) rfl (.inl rfl)) (pss_one (ps_set (i := 1) sc__law_frames.nd rfl (.inl rfl) (pe_op op_addA (pv 1) (pe_fn h__law_frame (hr.mono (by decide)) (by rfl) (pa_cons (pv 2) (pa_cons (pe_ix (ix_K K) (pv 0) (pv 2) (fun _ _ => rfl)) pa_nil)))))))
  (pss_one (ps_ret (pv 1))))), ?_⟩
  rw [show L2.start ["_law_log_here", "_law_row", "_law_k"] [v0] = [some v0, none, none] from rfl]
  obtain ⟨a, ns, rfl, hS, hl, q⟩ := h
  walk_at "w"
  (refine w_newX (o := .lst []) (le_line (by walk_at "side")) (fun p0 H0 n0 e0 h0 EE_ => ?_); (try rw [← EE_]); clear EE_)
  walk_at "w"
  rw [Int.toNat_natCast]
  refine w_loopR (fun i σ H' => ∃ p x, σ = [some (.ref a), some (.ref p), x] ∧ H p = none ∧ Ex H H' ∧ H' p = some (.lst ((frF (ns.take i)).map V.int))) ⟨p0, none, rfl, n0, e0, by rw [List.take_zero, frF_nil]; exact h0⟩ ?_ ?_
  · rintro i σ H1 hi ⟨p, x, rfl, np, e1, hp⟩
    obtain ⟨e, he⟩ : ∃ e, ns[i]? = some e := ⟨_, List.getElem?_eq_getElem hi⟩
    walk_at "w"
    refine w_ixI (by walk_at "sq") (by omega) (by omega) fun z hz => ?_
    rw [Int.toNat_natCast, he] at hz
    cases hz
    refine ⟨_, _, rfl, _, _, rfl, rfl, fun p2 H2 n2 e2 h2 => ?_⟩
    have el : (frF (ns.take i)).length ≤ 3000 := by rw [frF_len, List.length_take]; omega
    refine w_catI (e2 _ _ hp) h2 (by show _ + 3 ≤ _; omega) fun p3 H3 n3 e3 h3 => ?_
    walk_at "w"
    refine ⟨p3, _, rfl, fresh_back (e1.trans e2) n3, (e1.trans e2).trans e3, ?_⟩
    rw [frF_take he]
    exact h3
  · rintro σ H1 ⟨p, x, rfl, np, e1, hp⟩
    walk_at "w"
    rw [List.take_length] at hp
    exact q p H1 np e1 hp
theorem ok__law_read (G : Glo mg) {f : Addr} {fd : FuncData} (F : Fun K "_law_read" "_law_read" s__law_read f fd) : FnOk P w K mg base CX0 1 f fd ["_law_row"] (sp__law_read K) := by
  refine F.ok sc__law_read (fun vs H Q E h => len1 h) (fun cdv A outer s H vs Q E hr h => ?_)
  obtain ⟨v0, rfl, h⟩ := h
  refine ⟨_, (pss_cons (ps_set (i := 1) sc__law_read.nd rfl (.inl rfl) (pe_lst pa_nil))
  (pss_cut (ps_for PassesOwn.never rfl (pi_range1 (by rfl) G.g_range (pa_cons (pe_op op_fdivA (pe_callB (len_K K) (by rfl) G.g_len (by decide +kernel) (pa_cons (pv 0) pa_nil)) pe_int) pa_nil)) (pg_name (i := 2) (by exact sc__law_read.nd) rfl (.inl rfl)) (pss_cons (ps_set (i := 3) sc__law_read.nd rfl (.inl rfl) (pe_ix (ix_K K) (pv 0) (pe_op op_addA (pe_op op_mulA pe_int (pv 2)) pe_int) (fun _ _ => rfl)))
  (pss_cons (ps_if (PW.pt (pw_or (pt_cmpR (ne_K K hr.units) (pe_ix (ix_K K) (pv 0) (pe_op op_mulA pe_int (pv 2)) (fun _ _ => rfl)) (pv 2) (nomark _)) (pw_or (pt_cmpR (op_lt) (pv 3) pe_int (nomark _)) (pw_or1 (pt_cmpR (ne_K K hr.units) (pe_ix (ix_K K) (pv 0) (pe_op op_addA (pe_op op_mulA pe_int (pv 2)) pe_int) (fun _ _ => rfl)) (pe_op op_sub (pe_un un_neg pe_int) (pv 3)) (nomark _)))))) (pss_one ps_break) pss_nil)
  (pss_one (ps_expr (bm_K K PySem.F.plainAttrs_list PySem.F.slot_list_append PySem.F.type_list_append mt_append (pv 1) (pa_cons (pv 3) pa_nil)))))))
  (pss_one (ps_ret (pv 1))))), ?_⟩
  rw [show L2.start ["_law_row", "_law_found", "_law_k", "_law_entry_here"] [v0] = [some v0, none, none, none] from rfl]
  obtain ⟨a, ns, rfl, hS, hl, q⟩ := h
  walk_at "w"
  (refine w_newX (o := .lst []) (le_line (by walk_at "side")) (fun p0 H0 n0 e0 h0 EE_ => ?_); (try rw [← EE_]); clear EE_)
  walk_at "w"
  refine w_cut (fun σ H' => ∃ y x, σ = [some (.ref a), some (.ref p0), y, x] ∧ Ex H H' ∧ H' p0 = some (.lst ((rdF ns).map V.int))) ?_ ?_
  · walk_at "w"
    rw [show ((ns.length : Int) / 3).toNat = ns.length / 3 by omega]
    refine w_loopR (fun i σ H' => ∃ y x es, σ = [some (.ref a), some (.ref p0), y, x] ∧ Ex H H' ∧ RdAt ns i es ∧ H' p0 = some (.lst (es.map V.int))) ⟨none, none, [], rfl, e0, rdAt_zero ns, h0⟩ ?_ ?_
    · rintro i σ H1 hi ⟨y, x, es, rfl, e1, pr, hp⟩
      have hlt : 3 * i + 2 < ns.length := by omega
      obtain ⟨z0, z1, z2, r, _, g0, g1, g2, _⟩ := at3 hlt
      have leave : ¬ (z0 = (i : Int) ∧ 0 ≤ z1 ∧ z2 = -1 - z1) → H1 p0 = some (.lst ((rdF ns).map V.int)) := fun g => by rw [rdF_no pr hlt g0 g1 g2 g]; exact hp
      walk_at "w"
      refine w_ixA (by walk_at "sq") g1 (by omega) ?_
      walk_at "w"
      refine w_ixA (by walk_at "sq") g0 (by omega) ?_
      walk_at "w"
      refine w_iteN (fun c1 => ?_) (fun c1 => ?_)
      · walk_at "w"
        exact ⟨_, _, rfl, e1, leave fun g => c1 g.1⟩
      · walk_at "w"
        refine w_ite (fun c2 => ?_) (fun c2 => ?_)
        · walk_at "w"
          exact ⟨_, _, rfl, e1, leave fun g => by omega⟩
        · walk_at "w"
          refine w_ixA (by walk_at "sq") g2 (by omega) ?_
          walk_at "w"
          refine w_iteN (fun c3 => ?_) (fun c3 => ?_)
          · walk_at "w"
            exact ⟨_, _, rfl, e1, leave fun g => c3 g.2.2⟩
          · walk_at "w"
            refine w_appI hp (by rw [pr.1]; omega) fun H2 c4 h4 => ?_
            walk_at "w"
            exact ⟨_, _, _, rfl, c4.ex e1 n0, rdAt_yes pr hlt g0 g1 g2 ⟨c1, by omega, c3⟩, h4⟩
    · rintro σ H1 ⟨y, x, es, rfl, e1, pr, hp⟩
      rw [← rdF_end pr (by omega)] at hp
      exact ⟨_, _, rfl, e1, hp⟩
  · rintro σ H1 ⟨y, x, rfl, e1, hp⟩
    walk_at "w"
    exact q p0 H1 n0 e1 hp
theorem ok__law_is_row (G : Glo mg) {f : Addr} {fd : FuncData} (F : Fun K "_law_is_row" "_law_is_row" s__law_is_row f fd) : FnOk P w K mg base CX0 1 f fd ["_law_told", "_law_due"] (sp__law_is_row K) := by
  refine F.ok sc__law_is_row (fun vs H Q E h => len2 h) (fun cdv A outer s H vs Q E hr h => ?_)
  obtain ⟨v0, v1, rfl, h⟩ := h
  refine ⟨_, (pss_cons (ps_if (PW.pt (pw_or (pt_not (tru_K K (pe_callB (isi_K K) (by rfl) G.g_isinstance (by decide +kernel) (pa_cons (pv 0) (pa_cons (pe_bltn (v := .ty "list") (by rfl) G.g_list (by decide +kernel) rfl) pa_nil))) (by intro _; rfl))) (pw_or1 (pt_cmpR (ne_K K hr.units) (pe_callB (len_K K) (by rfl) G.g_len (by decide +kernel) (pa_cons (pv 0) pa_nil)) (pe_callB (len_K K) (by rfl) G.g_len (by decide +kernel) (pa_cons (pv 1) pa_nil)) (nomark _))))) (pss_one (ps_ret pe_bl)) pss_nil)
  (pss_cons (ps_for PassesOwn.never rfl (pi_range1 (by rfl) G.g_range (pa_cons (pe_callB (len_K K) (by rfl) G.g_len (by decide +kernel) (pa_cons (pv 1) pa_nil)) pa_nil)) (pg_name (i := 2) (by exact sc__law_is_row.nd) rfl (.inl rfl)) (pss_one (ps_if (PW.pt (pw_or (pt_not (tru_K K (pe_callB (isi_K K) (by rfl) G.g_isinstance (by decide +kernel) (pa_cons (pe_ix (ix_K K) (pv 0) (pv 2) (fun _ _ => rfl)) (pa_cons (pe_bltn (v := .ty "int") (by rfl) G.g_int (by decide +kernel) rfl) pa_nil))) (by intro _; rfl))) (pw_or (tru_K K (pe_callB (isi_K K) (by rfl) G.g_isinstance (by decide +kernel) (pa_cons (pe_ix (ix_K K) (pv 0) (pv 2) (fun _ _ => rfl)) (pa_cons (pe_bltn (v := .ty "bool") (by rfl) G.g_bool (by decide +kernel) rfl) pa_nil))) (by intro _; rfl)) (pw_or1 (pt_cmpR (ne_K K hr.units) (pe_ix (ix_K K) (pv 0) (pv 2) (fun _ _ => rfl)) (pe_ix (ix_K K) (pv 1) (pv 2) (fun _ _ => rfl)) (nomark _)))))) (pss_one (ps_ret pe_bl)) pss_nil)))
  (pss_one (ps_ret pe_bl)))), ?_⟩
  rw [show L2.start ["_law_told", "_law_due", "_law_k"] [v0, v1] = [some v0, some v1, none] from rfl]
  obtain ⟨a, b, ns, rfl, rfl, hS, hS', hl, q⟩ := h
  walk_at "w"
  refine w_iteN (fun c => absurd rfl c) (fun _ => ?_)
  walk_at "w"
  rw [Int.toNat_natCast]
  refine w_loopR (fun i σ H' => ∃ x, σ = [some (.ref a), some (.ref b), x] ∧ Ex H H') ⟨none, rfl, Ex.refl H⟩ ?_ ?_
  · rintro i σ H1 hi ⟨x, rfl, e1⟩
    obtain ⟨z, hz⟩ : ∃ z, ns[i]? = some z := ⟨_, List.getElem?_eq_getElem hi⟩
    walk_at "w"
    refine w_ixA (by walk_at "sq") hz rfl ?_
    walk_at "w"
    refine w_ixA (by walk_at "sq") hz rfl ?_
    walk_at "w"
    refine w_ixA (by walk_at "sq") hz rfl ?_
    walk_at "w"
    refine w_ixA (by walk_at "sq") hz rfl ?_
    walk_at "w"
    refine w_iteN (fun c => absurd rfl c) (fun _ => ?_)
    walk_at "w"
    exact ⟨_, rfl, e1⟩
  · rintro σ H1 ⟨x, rfl, e1⟩
    walk_at "w"
    exact q H1 e1
theorem ok__law_frames_hold (G : Glo mg) {f : Addr} {fd : FuncData} (F : Fun K "_law_frames_hold" "_law_frames_hold" s__law_frames_hold f fd) (h__law_is_row : Has P w K mg base "_law_is_row" 1 (sp__law_is_row K)) (h_frames : Has P w K mg base "frames" 2 (sp_frames K)) : FnOk P w K mg base CX0 3 f fd ["_law_log_here", "_law_row"] (sp__law_frames_hold K) := by
  refine F.ok sc__law_frames_hold (fun vs H Q E h => len2 h) (fun cdv A outer s H vs Q E hr h => ?_)
  obtain ⟨v0, v1, rfl, h⟩ := h
  refine ⟨_, (pss_cons (ps_set (i := 2) sc__law_frames_hold.nd rfl (.inl rfl) (pe_callTy (lst_K K) (by rfl) G.g_list (by decide +kernel) (pa_cons (pv 0) pa_nil)))
  (pss_one (ps_ret (pe_and (pe_fn h__law_is_row (hr.mono (by decide)) (by rfl) (pa_cons (pe_fn h_frames (hr.mono (by decide)) (by rfl) (pa_cons (pv 2) pa_nil)) (pa_cons (pv 1) pa_nil))) (pe_one (pe_fn h__law_is_row (hr.mono (by decide)) (by rfl) (pa_cons (pv 2) (pa_cons (pv 0) pa_nil)))))))), ?_⟩
  rw [show L2.start ["_law_log_here", "_law_row", "_law_handed"] [v0, v1] = [some v0, some v1, none] from rfl]
  obtain ⟨a, b, ns, rfl, rfl, hS, hS', hl, q⟩ := h
  have el := frF_len ns
  walk_at "w"
  refine w_listI (by walk_at "sq") fun p H1 n1 e1 h1 => ?_
  walk_at "w"
  refine ⟨_, rfl, _, _, rfl, sq_of h1, hl, fun p2 H2 n2 e2 h2 => ?_⟩
  walk_at "w"
  refine ⟨_, _, rfl, _, _, _, rfl, rfl, sq_of h2, (by walk_at "sq"), by omega, fun H3 e3 => ?_⟩
  walk_at "w"
  exact ⟨_, _, rfl, _, _, ns, rfl, rfl, (by walk_at "sq"), (by walk_at "sq"), by omega, fun H4 e4 => q H4 (((e1.trans e2).trans e3).trans e4)⟩
theorem ok__law_scan_holds (G : Glo mg) {f : Addr} {fd : FuncData} (F : Fun K "_law_scan_holds" "_law_scan_holds" s__law_scan_holds f fd) (h_scan : Has P w K mg base "scan" 4 (sp_scan K)) (h__law_is_row : Has P w K mg base "_law_is_row" 1 (sp__law_is_row K)) : FnOk P w K mg base CX0 5 f fd ["_law_row", "_law_log_here"] (sp__law_scan_holds K) := by
  refine F.ok sc__law_scan_holds (fun vs H Q E h => len2 h) (fun cdv A outer s H vs Q E hr h => ?_)
  obtain ⟨v0, v1, rfl, h⟩ := h
  refine ⟨_, (pss_cons (ps_set (i := 2) sc__law_scan_holds.nd rfl (.inl rfl) (pe_callTy (lst_K K) (by rfl) G.g_list (by decide +kernel) (pa_cons (pv 0) pa_nil)))
  (pss_cons (ps_set (i := 3) sc__law_scan_holds.nd rfl (.inl rfl) (pe_fn h_scan (hr.mono (by decide)) (by rfl) (pa_cons (pv 2) pa_nil)))
  (pss_cons (ps_if (PW.pt (pw_or (pt_not (tru_K K (pe_callB (isi_K K) (by rfl) G.g_isinstance (by decide +kernel) (pa_cons (pv 3) (pa_cons (pe_bltn (v := .ty "tuple") (by rfl) G.g_tuple (by decide +kernel) rfl) pa_nil))) (by intro _; rfl))) (pw_or1 (pt_cmpR (ne_K K hr.units) (pe_callB (len_K K) (by rfl) G.g_len (by decide +kernel) (pa_cons (pv 3) pa_nil)) pe_int (nomark _))))) (pss_one (ps_ret pe_bl)) pss_nil)
  (pss_cons (ps_if (PW.pt (pw_or (pt_not (tru_K K (pe_fn h__law_is_row (hr.mono (by decide)) (by rfl) (pa_cons (pe_ix (ix_K K) (pv 3) pe_int (fun _ _ => rfl)) (pa_cons (pv 1) pa_nil))) (by intro _; rfl))) (pw_or1 (pt_not (tru_K K (pe_fn h__law_is_row (hr.mono (by decide)) (by rfl) (pa_cons (pe_lst (pa_cons (pe_ix (ix_K K) (pv 3) pe_int (fun _ _ => rfl)) pa_nil)) (pa_cons (pe_lst (pa_cons (pe_op op_mulA pe_int (pe_callB (len_K K) (by rfl) G.g_len (by decide +kernel) (pa_cons (pv 1) pa_nil))) pa_nil)) pa_nil))) (by intro _; rfl)))))) (pss_one (ps_ret pe_bl)) pss_nil)
  (pss_one (ps_ret (pe_fn h__law_is_row (hr.mono (by decide)) (by rfl) (pa_cons (pv 2) (pa_cons (pv 0) pa_nil))))))))), ?_⟩
  rw [show L2.start ["_law_row", "_law_log_here", "_law_handed", "_law_told"] [v0, v1] = [some v0, some v1, none, none] from rfl]
  obtain ⟨a, b, ns, ms, rfl, rfl, hS, hS', em, hl, q⟩ := h
  have el := rdF_len ns
  rw [em] at el
  walk_at "w"
  refine w_listI (by walk_at "sq") fun p H1 n1 e1 h1 => ?_
  walk_at "w"
  refine ⟨_, rfl, _, _, rfl, sq_of h1, by omega, fun t l H2 nt nl e2 h2 h3 => ?_⟩
  rw [em] at h2 h3
  walk_at "w"
  refine w_iteN (fun c => absurd rfl c) (fun _ => ?_)
  walk_at "w"
  refine ⟨_, _, rfl, _, _, _, rfl, rfl, sq_of h3, (by walk_at "sq"), by omega, fun H3 e3 => ?_⟩
  walk_at "w"
  (refine w_newX (o := .lst [.int (3 * ms.length)]) (le_line (by walk_at "side")) (fun p4 H4 n4 e4 h4 EE_ => ?_); (try rw [← EE_]); clear EE_)
  walk_at "w"
  (refine w_newX (o := .lst [.int (3 * ms.length)]) (le_line (by walk_at "side")) (fun p5 H5 n5 e5 h5 EE_ => ?_); (try rw [← EE_]); clear EE_)
  walk_at "w"
  refine ⟨_, _, rfl, _, _, [3 * (ms.length : Int)], rfl, rfl, sq_of (e5 _ _ h4), sq_of h5, (by walk_at "side"), fun H6 e6 => ?_⟩
  walk_at "w"
  exact ⟨_, _, rfl, _, _, ns, rfl, rfl, (by walk_at "sq"), (by walk_at "sq"), by omega, fun H7 e7 => q H7 ((((((e1.trans e2).trans e3).trans e4).trans e5).trans e6).trans e7)⟩
theorem ok__law_mend_holds (G : Glo mg) {f : Addr} {fd : FuncData} (F : Fun K "_law_mend_holds" "_law_mend_holds" s__law_mend_holds f fd) (h_mend : Has P w K mg base "mend" 4 (sp_mend K)) (h__law_is_row : Has P w K mg base "_law_is_row" 1 (sp__law_is_row K)) (h__law_scan_holds : Has P w K mg base "_law_scan_holds" 5 (sp__law_scan_holds K)) (h__law_frame : Has P w K mg base "_law_frame" 1 (sp__law_frame K)) : FnOk P w K mg base CX0 6 f fd ["_law_row", "_law_log_here"] (sp__law_mend_holds K) := by
  refine F.ok sc__law_mend_holds (fun vs H Q E h => len2 h) (fun cdv A outer s H vs Q E hr h => ?_)
  obtain ⟨v0, v1, rfl, h⟩ := h
  refine ⟨_, (pss_cons (ps_set (i := 2) sc__law_mend_holds.nd rfl (.inl rfl) (pe_slice (sl_K K) (pv 0) po_none (po_some (pe_op op_mulA pe_int (pe_callB (len_K K) (by rfl) G.g_len (by decide +kernel) (pa_cons (pv 1) pa_nil))))))
  (pss_cons (ps_set (i := 3) sc__law_mend_holds.nd rfl (.inl rfl) (pe_callTy (lst_K K) (by rfl) G.g_list (by decide +kernel) (pa_cons (pv 0) pa_nil)))
  (pss_cons (ps_set (i := 4) sc__law_mend_holds.nd rfl (.inl rfl) (pe_fn h_mend (hr.mono (by decide)) (by rfl) (pa_cons (pv 3) pa_nil)))
  (pss_cons (ps_if (PW.pt (pw_or (pt_not (tru_K K (pe_fn h__law_is_row (hr.mono (by decide)) (by rfl) (pa_cons (pv 4) (pa_cons (pv 2) pa_nil))) (by intro _; rfl))) (pw_or1 (pt_not (tru_K K (pe_fn h__law_is_row (hr.mono (by decide)) (by rfl) (pa_cons (pv 3) (pa_cons (pv 0) pa_nil))) (by intro _; rfl)))))) (pss_one (ps_ret pe_bl)) pss_nil)
  (pss_cons (ps_set (i := 5) sc__law_mend_holds.nd rfl (.inl rfl) (pe_fn h_mend (hr.mono (by decide)) (by rfl) (pa_cons (pv 4) pa_nil)))
  (pss_cons (ps_if (PW.pt (pw_or (pt_not (tru_K K (pe_fn h__law_is_row (hr.mono (by decide)) (by rfl) (pa_cons (pv 5) (pa_cons (pv 2) pa_nil))) (by intro _; rfl))) (pw_or1 (pt_not (tru_K K (pe_fn h__law_is_row (hr.mono (by decide)) (by rfl) (pa_cons (pv 4) (pa_cons (pv 2) pa_nil))) (by intro _; rfl)))))) (pss_one (ps_ret pe_bl)) pss_nil)
  (pss_cons (ps_expr (bm_K K PySem.F.plainAttrs_list PySem.F.slot_list_append PySem.F.type_list_append mt_append (pv 5) (pa_cons pe_int pa_nil)))
  (pss_cons (ps_if (pt_not (tru_K K (pe_fn h__law_is_row (hr.mono (by decide)) (by rfl) (pa_cons (pv 4) (pa_cons (pv 2) pa_nil))) (by intro _; rfl))) (pss_one (ps_ret pe_bl)) pss_nil)
  (pss_cons (ps_expr (bm_K K PySem.F.plainAttrs_list PySem.F.slot_list_append PySem.F.type_list_append mt_append (pv 4) (pa_cons (pe_un un_neg pe_int) pa_nil)))
  (pss_cons (ps_if (pt_not (tru_K K (pe_fn h__law_is_row (hr.mono (by decide)) (by rfl) (pa_cons (pv 3) (pa_cons (pv 0) pa_nil))) (by intro _; rfl))) (pss_one (ps_ret pe_bl)) pss_nil)
  (pss_cons (ps_set (i := 6) sc__law_mend_holds.nd rfl (.inl rfl) (pe_op op_addA pe_int (pe_callB (len_K K) (by rfl) G.g_len (by decide +kernel) (pa_cons (pv 1) pa_nil))))
  (pss_one (ps_ret (pe_fn h__law_scan_holds (hr.mono (by decide)) (by rfl) (pa_cons (pe_op op_addA (pv 2) (pe_fn h__law_frame (hr.mono (by decide)) (by rfl) (pa_cons (pe_callB (len_K K) (by rfl) G.g_len (by decide +kernel) (pa_cons (pv 1) pa_nil)) (pa_cons (pv 6) pa_nil)))) (pa_cons (pe_op op_addA (pv 1) (pe_lst (pa_cons (pv 6) pa_nil))) pa_nil)))))))))))))))), ?_⟩
  rw [show L2.start ["_law_row", "_law_log_here", "_law_due", "_law_handed", "_law_told", "_law_second", "_law_entry_here"] [v0, v1] = [some v0, some v1, none, none, none, none, none] from rfl]
  obtain ⟨a, b, ns, ms, rfl, rfl, hS, hS', em, hl, q⟩ := h
  have el := rdF_len ns
  rw [em] at el
  have el2 : (ns.take (3 * ms.length)).length = 3 * ms.length := by rw [List.length_take]; omega
  have ti : (3 * (ms.length : Int)).toNat = 3 * ms.length := by omega
  have tl : (ns.take (3 * ms.length)).length ≤ 8000 := by omega
  have tt : (ns.take (3 * ms.length)).take (3 * ms.length) = ns.take (3 * ms.length) := List.take_of_length_le (by omega)
  have er : rdF (ns.take (3 * ms.length)) = ms := by rw [← em, rdF_take, em]
  walk_at "w"
  refine w_slHi (by walk_at "sq") (by omega) fun p1 H1 n1 e1 h1 => ?_
  rw [ti] at h1
  walk_at "w"
  refine w_listI (by walk_at "sq") fun p2 H2 n2 e2 h2 => ?_
  walk_at "w"
  refine ⟨_, rfl, _, _, rfl, sq_of h2, by omega, fun p3 H3 n3 e3 h3 => ?_⟩
  rw [em] at h3
  walk_at "w"
  refine ⟨_, _, rfl, _, _, _, rfl, rfl, sq_of h3, (by walk_at "sq"), by omega, fun H4 e4 => ?_⟩
  walk_at "w"
  refine ⟨_, _, rfl, _, _, ns, rfl, rfl, (by walk_at "sq"), (by walk_at "sq"), by omega, fun H5 e5 => ?_⟩
  walk_at "w"
  have h3' := e5 _ _ (e4 _ _ h3)
  refine ⟨_, rfl, _, _, rfl, sq_of h3', by omega, fun p6 H6 n6 e6 h6 => ?_⟩
  rw [er, tt] at h6
  walk_at "w"
  refine ⟨_, _, rfl, _, _, _, rfl, rfl, sq_of h6, (by walk_at "sq"), by omega, fun H7 e7 => ?_⟩
  walk_at "w"
  refine ⟨_, _, rfl, _, _, ns.take (3 * ms.length), rfl, rfl, (by walk_at "sq"), (by walk_at "sq"), by omega, fun H8 e8 => ?_⟩
  -- second.append(3)
  have h6' := e8 _ _ (e7 _ _ h6)
  walk_at "w"
  refine w_appI h6' (by omega) fun H9 c9 h9 => ?_
  have e59 : Ex H5 H9 := c9.ex ((e6.trans e7).trans e8) n6
  walk_at "w"
  refine ⟨_, _, rfl, _, _, ns.take (3 * ms.length), rfl, rfl, ex_l e59 (sq_of h3'), ex_l e59 (by walk_at "sq"), by omega, fun H10 e10 => ?_⟩
  -- told.append(-1)
  have h3'' := e10 _ _ (e59 _ _ h3')
  walk_at "w"
  refine w_appI h3'' (by omega) fun H11 c11 h11 => ?_
  have e211 : Ex H2 H11 := c11.ex ((((e3.trans e4).trans e5).trans e59).trans e10) n3
  walk_at "w"
  refine ⟨_, _, rfl, _, _, ns, rfl, rfl, ex_l e211 (sq_of h2), ex_l e211 (by walk_at "sq"), by omega, fun H12 e12 => ?_⟩
  walk_at "w"
  have q2 := e12 _ _ (e211 _ _ (e2 _ _ (e1 _ _ hS')))
  refine ⟨_, _, rfl, _, _, rfl, rfl, fun p13 H13 n13 e13 h13 => ?_⟩
  refine w_catI (e13 _ _ (e12 _ _ (e211 _ _ (e2 _ _ h1)))) h13 (by show _ + 3 ≤ _; omega) fun p14 H14 n14 e14 h14 => ?_
  walk_at "w"
  (refine w_newX (o := .lst [.int (4 + ms.length)]) (le_line (by walk_at "side")) (fun p15 H15 n15 e15 h15 EE_ => ?_); (try rw [← EE_]); clear EE_)
  refine w_catI (ms := [4 + (ms.length : Int)]) (e15 _ _ (e14 _ _ (e13 _ _ q2))) h15 (by show _ + 1 ≤ _; omega) fun p16 H16 n16 e16 h16 => ?_
  walk_at "w"
  have e016 : Ex H H16 := (((((e1.trans e2).trans e211).trans e12).trans e13).trans e14).trans (e15.trans e16)
  refine ⟨_, _, rfl, _, _, _, _, rfl, rfl, e16 _ _ (e15 _ _ h14), h16, ?_, ?_, fun H17 e17 => q H17 (e016.trans e17)⟩
  · have z := rdF_more (l := ns) (e := 4 + (ms.length : Int)) (by omega)
    rw [em] at z
    exact z
  · rw [List.length_append, el2]
    show _ + 3 ≤ _
    omega
theorem ok__law_holds (G : Glo mg) {f : Addr} {fd : FuncData} (F : Fun K "_law_holds" "_law_holds" s__law_holds f fd) (h__law_mend_holds : Has P w K mg base "_law_mend_holds" 6 (sp__law_mend_holds K)) (h__law_scan_holds : Has P w K mg base "_law_scan_holds" 5 (sp__law_scan_holds K)) : FnOk P w K mg base CX0 7 f fd ["_law_row", "_law_log_here"] (sp__law_holds K) := by
  refine F.ok sc__law_holds (fun vs H Q E h => len2 h) (fun cdv A outer s H vs Q E hr h => ?_)
  obtain ⟨v0, v1, rfl, h⟩ := h
  refine ⟨_, (pss_one (ps_ret (pe_and (pe_fn h__law_scan_holds (hr.mono (by decide)) (by rfl) (pa_cons (pv 0) (pa_cons (pv 1) pa_nil))) (pe_one (pe_fn h__law_mend_holds (hr.mono (by decide)) (by rfl) (pa_cons (pv 0) (pa_cons (pv 1) pa_nil))))))), ?_⟩
  rw [show L2.start ["_law_row", "_law_log_here"] [v0, v1] = [some v0, some v1] from rfl]
  obtain ⟨a, b, ns, ms, rfl, rfl, hS, hS', em, hl, q⟩ := h
  walk_at "w"
  refine ⟨_, _, rfl, _, _, _, _, rfl, rfl, hS, hS', em, by omega, fun H1 e1 => ?_⟩
  walk_at "w"
  exact ⟨_, _, rfl, _, _, _, _, rfl, rfl, e1 _ _ hS, e1 _ _ hS', em, hl, fun H2 e2 => q H2 (e1.trans e2)⟩
theorem ok__law_changed (G : Glo mg) {f : Addr} {fd : FuncData} (F : Fun K "_law_changed" "_law_changed" s__law_changed f fd) (h__law_draw : Has P w K mg base "_law_draw" 2 (sp__law_draw K)) : FnOk P w K mg base CX0 3 f fd ["_law_tape_here", "_law_row", "_law_place"] (sp__law_changed K) := by
  refine F.ok sc__law_changed (fun vs H Q E h => len3 h) (fun cdv A outer s H vs Q E hr h => ?_)
  obtain ⟨v0, v1, v2, rfl, h⟩ := h
  refine ⟨_, (pss_cons (ps_set (i := 3) sc__law_changed.nd rfl (.inl rfl) (pe_ix (ix_K K) (pv 1) (pv 2) (fun _ _ => rfl)))
  (pss_cons (ps_set (i := 4) sc__law_changed.nd rfl (.inl rfl) (pe_ix (ix_K K) (pv 1) (pe_fn h__law_draw (hr.mono (by decide)) (by rfl) (pa_cons (pv 0) (pa_cons (pe_callB (len_K K) (by rfl) G.g_len (by decide +kernel) (pa_cons (pv 1) pa_nil)) pa_nil))) (fun _ _ => rfl)))
  (pss_cons (ps_set (i := 5) sc__law_changed.nd rfl (.inl rfl) (pe_ix (ix_K K) (pe_lst (pa_cons (pe_op op_addA (pv 3) pe_int) (pa_cons (pe_op op_sub (pv 3) pe_int) (pa_cons (pe_op op_sub (pe_un un_neg pe_int) (pv 3)) (pa_cons (pe_op op_addA (pv 3) pe_int) (pa_cons (pe_op op_addA (pv 3) (pe_powC (z := 4294967296) (by decide +kernel) ⟨by decide, by decide, by decide⟩)) (pa_cons pe_int (pa_cons (pv 4) pa_nil)))))))) (pe_fn h__law_draw (hr.mono (by decide)) (by rfl) (pa_cons (pv 0) (pa_cons pe_int pa_nil))) (fun _ _ => rfl)))
  (pss_cut (ps_if (pt_cmpR (eq_K K hr.units) (pv 5) (pv 3) (nomark _)) (pss_one (ps_set (i := 5) sc__law_changed.nd rfl (.inl rfl) (pe_op op_addA (pv 3) pe_int))) pss_nil)
  (pss_one (ps_ret (pe_op op_addA (pe_op op_addA (pe_slice (sl_K K) (pv 1) po_none (po_some (pv 2))) (pe_lst (pa_cons (pv 5) pa_nil))) (pe_slice (sl_K K) (pv 1) (po_some (pe_op op_addA (pv 2) pe_int)) po_none)))))))), ?_⟩
  rw [show L2.start ["_law_tape_here", "_law_row", "_law_place", "_law_old", "_law_other", "_law_value"] [v0, v1, v2] = [some v0, some v1, some v2, none, none, none] from rfl]
  obtain ⟨t, r, ns, p, rfl, rfl, rfl, hT, hS, hp, hl, q⟩ := h
  obtain ⟨o, ho⟩ : ∃ o, ns[p]? = some o := ⟨_, List.getElem?_eq_getElem hp⟩
  walk_at "w"
  refine w_ixA (by walk_at "sq") ho rfl ?_
  walk_at "w"
  refine ⟨_, _, rfl, _, _, rfl, rfl, hT, by omega, by omega, fun d d0 d1 => ?_⟩
  walk_at "w"
  refine w_ixI (by walk_at "sq") d0 d1 fun z hz => ?_
  walk_at "w"
  (refine w_newXL (le_line (by walk_at "side")) (fun p1 H1 n1 e1 h1 EE_ => ?_); (try rw [← EE_]); clear EE_)
  walk_at "w"
  refine ⟨_, _, rfl, _, _, rfl, rfl, hT.ex e1, by decide, by decide, fun d2 d20 d21 => ?_⟩
  walk_at "w"
  refine w_ixI (ns := [o + 1, o - 1, -1 - o, o + 256, o + 4294967296, 0, z]) (sq_of h1) d20 d21 fun v hv => ?_
  walk_at "w"
  refine w_cut (fun σ H' => ∃ v, σ = [some (.ref t), some (.ref r), some (.int p), some (.int o), some (.int z), some (.int v)] ∧ H' = H1 ∧ v ≠ o) ?_ ?_
  · walk_at "w"
    refine w_ite (fun c => ?_) (fun c => ?_)
    · walk_at "w"
      exact ⟨_, rfl, rfl, by omega⟩
    · walk_at "w"
      exact ⟨_, rfl, rfl, c⟩
  · rintro σ H2 ⟨v, rfl, rfl, hv⟩
    walk_at "w"
    refine w_slHi (by walk_at "sq") (by omega) fun p3 H3 n3 e3 h3 => ?_
    rw [Int.toNat_natCast] at h3
    walk_at "w"
    (refine w_newXL (le_line (by walk_at "side")) (fun p4 H4 n4 e4 h4 EE_ => ?_); (try rw [← EE_]); clear EE_)
    walk_at "w"
    refine w_catI (ms := [v]) (e4 _ _ h3) h4 (by rw [List.length_take]; show _ + 1 ≤ _; omega) fun p5 H5 n5 e5 h5 => ?_
    walk_at "w"
    refine w_slLo (ex_l (((e1.trans e3).trans e4).trans e5) hS) (by omega) fun p6 H6 n6 e6 h6 => ?_
    rw [show ((p : Int) + 1).toNat = p + 1 by omega] at h6
    refine w_catI (e6 _ _ h5) h6 (by rw [List.length_append, List.length_take, List.length_drop]; show _ + 1 + _ ≤ _; omega) fun p7 H7 n7 e7 h7 => ?_
    exact q p7 H7 v o (fresh_back ((((e1.trans e3).trans e4).trans e5).trans e6) n7) (((((e1.trans e3).trans e4).trans e5).trans e6).trans e7) ho hv h7
theorem ok__law_wrong_frames (G : Glo mg) {f : Addr} {fd : FuncData} (F : Fun K "_law_wrong_frames" "_law_wrong_frames" s__law_wrong_frames f fd) (h__law_draw : Has P w K mg base "_law_draw" 2 (sp__law_draw K)) : FnOk P w K mg base CX0 3 f fd ["_law_tape_here"] (sp__law_wrong_frames K) := by
  refine F.ok sc__law_wrong_frames (fun vs H Q E h => len1 h) (fun cdv A outer s H vs Q E hr h => ?_)
  obtain ⟨v0, rfl, h⟩ := h
  refine ⟨_, (pss_cons (ps_set (i := 1) sc__law_wrong_frames.nd rfl (.inr rfl) (pe_lst pa_nil))
  (pss_cons (ps_for PassesOwn.never rfl (pi_range1 (by rfl) G.g_range (pa_cons (pe_fn h__law_draw (hr.mono (by decide)) (by rfl) (pa_cons (pv 0) (pa_cons pe_int pa_nil))) pa_nil)) (pg_name (i := 2) (by exact sc__law_wrong_frames.nd) rfl (.inl rfl)) (pss_cons (ps_set (i := 3) sc__law_wrong_frames.nd rfl (.inl rfl) (pe_op op_sub (pe_fn h__law_draw (hr.mono (by decide)) (by rfl) (pa_cons (pv 0) (pa_cons pe_int pa_nil))) pe_int))
  (pss_cons (ps_set (i := 4) sc__law_wrong_frames.nd rfl (.inl rfl) (pe_op op_addA (pv 2) (pe_ix (ix_K K) (pe_lst (pa_cons pe_int (pa_cons pe_int (pa_cons pe_int (pa_cons pe_int (pa_cons pe_int (pa_cons pe_int (pa_cons pe_int (pa_cons pe_int (pa_cons (pe_un un_neg pe_int) pa_nil)))))))))) (pe_fn h__law_draw (hr.mono (by decide)) (by rfl) (pa_cons (pv 0) (pa_cons pe_int pa_nil))) (fun _ _ => rfl))))
  (pss_one (ps_set (i := 1) sc__law_wrong_frames.nd rfl (.inr rfl) (pe_op op_addA (pv 1) (pe_lst (pa_cons (pv 4) (pa_cons (pv 3) (pa_cons (pe_op op_addA (pe_op op_sub (pe_un un_neg pe_int) (pv 3)) (pe_ix (ix_K K) (pe_lst (pa_cons pe_int (pa_cons pe_int (pa_cons pe_int (pa_cons pe_int (pa_cons pe_int (pa_cons pe_int (pa_cons pe_int (pa_cons pe_int (pa_cons (pe_un un_neg pe_int) pa_nil)))))))))) (pe_fn h__law_draw (hr.mono (by decide)) (by rfl) (pa_cons (pv 0) (pa_cons pe_int pa_nil))) (fun _ _ => rfl))) pa_nil))))))))))
  (pss_one (ps_ret (pe_op op_addA (pv 1) (pe_lc (own := [("_law_k", 2)]) (by rfl) sc__law_wrong_frames.nd (pi_range1 (by rfl) G.g_range (pa_cons (pe_fn h__law_draw (hr.mono (by decide)) (by rfl) (pa_cons (pv 0) (pa_cons pe_int pa_nil))) pa_nil)) (blkOk_by (own := [("_law_k", 2)]) (N := ["_law_tape_here", "_law_row", "_law_k", "_law_entry_here", "_law_index"]) (sc := defScope s__law_wrong_frames) (by decide +kernel)) (fun _ _ _ _ _ => (pg_name (i := 2) (by exact sc__law_wrong_frames.nd) rfl (.inl rfl))) (fun _ _ _ _ _ => pts_nil) (fun _ _ _ _ _ => (pe_ix (ix_K K) (pe_lst (pa_cons (pe_op op_fdivA (pe_callB (len_K K) (by rfl) G.g_len (by decide +kernel) (pa_cons (pv 1) pa_nil)) pe_int) (pa_cons pe_int pa_nil))) (pv 2) (fun _ _ => rfl))))))))), ?_⟩
  rw [show L2.start ["_law_tape_here", "_law_row", "_law_k", "_law_entry_here", "_law_index"] [v0] = [some v0, none, none, none, none] from rfl]
  obtain ⟨t, rfl, hT, q⟩ := h
  walk_at "w"
  (refine w_newXL (le_line (by walk_at "side")) (fun p0 H0 n0 e0 h0 EE_ => ?_); (try rw [← EE_]); clear EE_)
  walk_at "w"
  refine ⟨_, _, rfl, _, _, rfl, rfl, hT.ex e0, by decide, by decide, fun d d0 d1 => ?_⟩
  walk_at "w"
  refine w_loopR (fun i σ H' => ∃ (p : Addr) (ns : List Int) (x y z : Option V), σ = [some (.ref t), some (.ref p), x, y, z] ∧ H p = none ∧ Ex H H' ∧ H' p = some (.lst (ns.map V.int)) ∧ ns.length = 3 * i) ⟨p0, [], none, none, none, rfl, n0, e0, h0, rfl⟩ ?_ ?_
  · rintro i σ H1 hi ⟨p, ns, x, y, z, rfl, np, e1, hp, hl⟩
    walk_at "w"
    refine ⟨_, _, rfl, _, _, rfl, rfl, hT.ex e1, by decide, by decide, fun m m0 m1 => ?_⟩
    walk_at "w"
    (refine w_newXL (le_line (by walk_at "side")) (fun p2 H2 n2 e2 h2 EE_ => ?_); (try rw [← EE_]); clear EE_)
    walk_at "w"
    refine ⟨_, _, rfl, _, _, rfl, rfl, (hT.ex e1).ex e2, by decide, by decide, fun d2 d20 d21 => ?_⟩
    walk_at "w"
    refine w_ixI (ns := [0, 0, 0, 0, 0, 0, 0, 1, -1]) (sq_of h2) d20 d21 fun v hv => ?_
    walk_at "w"
    (refine w_newXL (le_line (by walk_at "side")) (fun p3 H3 n3 e3 h3 EE_ => ?_); (try rw [← EE_]); clear EE_)
    walk_at "w"
    refine ⟨_, _, rfl, _, _, rfl, rfl, ((hT.ex e1).ex e2).ex e3, by decide, by decide, fun d3 d30 d31 => ?_⟩
    walk_at "w"
    refine w_ixI (ns := [0, 0, 0, 0, 0, 0, 0, 1, -1]) (sq_of h3) d30 d31 fun v2 hv2 => ?_
    walk_at "w"
    (refine w_newXL (le_line (by walk_at "side")) (fun p4 H4 n4 e4 h4 EE_ => ?_); (try rw [← EE_]); clear EE_)
    refine w_catI (ms := [(i : Int) + v, m - 1, -1 - (m - 1) + v2]) (e4 _ _ (e3 _ _ (e2 _ _ hp))) h4 (by show _ + 3 ≤ _; omega) fun p5 H5 n5 e5 h5 => ?_
    walk_at "w"
    exact ⟨p5, _, _, _, _, rfl, fresh_back (((e1.trans e2).trans e3).trans e4) n5, (((e1.trans e2).trans e3).trans e4).trans e5, h5, by rw [List.length_append, hl]; rfl⟩
  · rintro σ H1 ⟨p, ns, x, y, z, rfl, np, e1, hp, hl⟩
    walk_at "w"
    refine ⟨_, _, rfl, _, _, rfl, rfl, hT.ex e1, by decide, by decide, fun m m0 m1 => ?_⟩
    walk_at "w"
    refine w_compI walk_range (fun i acc => True) yFn (fun _ _ => trivial) trivial ?_ ?_
    · rintro i x acc D H2 H3 hi pa hal e2 hx hD ⟨rfl, rfl⟩ -
      refine ⟨rfl, ?_⟩
      walk_at "w"
      (refine w_newXL (le_line (by walk_at "side")) (fun p4 H4 n4 e4 h4 EE_ => ?_); (try rw [← EE_]); clear EE_)
      walk_at "w"
      refine w_ixI (ns := [(ns.length : Int) / 3, 2]) (sq_of h4) (by omega) (by show _ < ((2 : Nat) : Int); omega) fun v hv => ?_
      exact cyI hD e2 hx hal (by omega) e4 trivial
    · rintro D H2 acc hD e2 hx pa hal
      refine w_catI (e2 _ _ hp) hx (by omega) fun p5 H5 n5 e5 h5 => ?_
      exact q p5 H5 _ (fresh_back (e1.trans e2) n5) ((e1.trans e2).trans e5) h5 (by rw [List.length_append]; omega)
theorem ok__law_other_row (G : Glo mg) {f : Addr} {fd : FuncData} (F : Fun K "_law_other_row" "_law_other_row" s__law_other_row f fd) (h__law_frames : Has P w K mg base "_law_frames" 2 (sp__law_frames K)) (h__law_log : Has P w K mg base "_law_log" 4 (sp__law_log K)) (h__law_entry : Has P w K mg base "_law_entry" 3 (sp__law_entry K)) (h__law_frame : Has P w K mg base "_law_frame" 1 (sp__law_frame K)) (h__law_wrong_frames : Has P w K mg base "_law_wrong_frames" 3 (sp__law_wrong_frames K)) (h__law_draw : Has P w K mg base "_law_draw" 2 (sp__law_draw K)) : FnOk P w K mg base CX0 5 f fd ["_law_tape_here", "_law_way", "_law_log_here", "_law_row"] (sp__law_other_row K) := by
  refine F.ok sc__law_other_row (fun vs H Q E h => len4 h) (fun cdv A outer s H vs Q E hr h => ?_)
  obtain ⟨v0, v1, v2, v3, rfl, h⟩ := h
  refine ⟨_, (pss_cons (ps_if (pt_cmpR (eq_K K hr.units) (pv 1) pe_int (nomark _)) (pss_one (ps_ret (pe_op op_addA (pv 3) (pe_fn h__law_frames (hr.mono (by decide)) (by rfl) (pa_cons (pe_fn h__law_log (hr.mono (by decide)) (by rfl) (pa_cons (pv 0) pa_nil)) pa_nil))))) pss_nil)
  (pss_cons (ps_if (pt_cmpR (eq_K K hr.units) (pv 1) pe_int (nomark _)) (pss_cons (ps_set (i := 4) sc__law_other_row.nd rfl (.inl rfl) (pe_fn h__law_entry (hr.mono (by decide)) (by rfl) (pa_cons (pv 0) pa_nil)))
  (pss_one (ps_ret (pe_op op_addA (pe_op op_addA (pv 3) (pe_lst (pa_cons (pe_callB (len_K K) (by rfl) G.g_len (by decide +kernel) (pa_cons (pv 2) pa_nil)) (pa_cons (pe_op op_sub (pe_un un_neg pe_int) (pv 4)) (pa_cons (pv 4) pa_nil))))) (pe_fn h__law_frame (hr.mono (by decide)) (by rfl) (pa_cons (pe_op op_addA (pe_callB (len_K K) (by rfl) G.g_len (by decide +kernel) (pa_cons (pv 2) pa_nil)) pe_int) (pa_cons (pv 4) pa_nil))))))) pss_nil)
  (pss_cons (ps_if (PW.pt (pw_or (pt_cmpR (eq_K K hr.units) (pv 1) pe_int (nomark _)) (pw_or1 (pt_cmpR (eq_K K hr.units) (pv 2) (pe_lst pa_nil) (nomark _))))) (pss_one (ps_ret (pe_fn h__law_wrong_frames (hr.mono (by decide)) (by rfl) (pa_cons (pv 0) pa_nil)))) pss_nil)
  (pss_cons (ps_set (i := 5) sc__law_other_row.nd rfl (.inl rfl) (pe_fn h__law_draw (hr.mono (by decide)) (by rfl) (pa_cons (pv 0) (pa_cons (pe_callB (len_K K) (by rfl) G.g_len (by decide +kernel) (pa_cons (pv 2) pa_nil)) pa_nil))))
  (pss_cons (ps_set (i := 6) sc__law_other_row.nd rfl (.inl rfl) (pe_slice (sl_K K) (pv 3) (po_some (pe_op op_mulA pe_int (pv 5))) (po_some (pe_op op_addA (pe_op op_mulA pe_int (pv 5)) pe_int))))
  (pss_cons (ps_set (i := 7) sc__law_other_row.nd rfl (.inl rfl) (pe_slice (sl_K K) (pv 3) (po_some (pe_op op_addA (pe_op op_mulA pe_int (pv 5)) pe_int)) po_none))
  (pss_cons (ps_if (pt_cmpR (eq_K K hr.units) (pv 1) pe_int (nomark _)) (pss_one (ps_ret (pe_op op_addA (pe_op op_addA (pe_slice (sl_K K) (pv 3) po_none (po_some (pe_op op_mulA pe_int (pv 5)))) (pe_fn h__law_frame (hr.mono (by decide)) (by rfl) (pa_cons (pv 5) (pa_cons (pe_fn h__law_entry (hr.mono (by decide)) (by rfl) (pa_cons (pv 0) pa_nil)) pa_nil)))) (pv 7)))) pss_nil)
  (pss_cons (ps_if (pt_cmpR (eq_K K hr.units) (pv 1) pe_int (nomark _)) (pss_one (ps_ret (pe_op op_addA (pe_op op_addA (pe_op op_addA (pe_slice (sl_K K) (pv 3) po_none (po_some (pe_op op_mulA pe_int (pv 5)))) (pe_slice (sl_K K) (pv 7) po_none (po_some pe_int))) (pv 6)) (pe_slice (sl_K K) (pv 7) (po_some pe_int) po_none)))) pss_nil)
  (pss_cons (ps_if (pt_cmpR (eq_K K hr.units) (pv 1) pe_int (nomark _)) (pss_one (ps_ret (pe_op op_addA (pe_slice (sl_K K) (pv 3) po_none (po_some (pe_op op_mulA pe_int (pv 5)))) (pv 7)))) pss_nil)
  (pss_cons (ps_if (pt_cmpR (eq_K K hr.units) (pv 1) pe_int (nomark _)) (pss_one (ps_ret (pe_op op_addA (pe_op op_addA (pe_op op_addA (pe_slice (sl_K K) (pv 3) po_none (po_some (pe_op op_mulA pe_int (pv 5)))) (pv 6)) (pv 6)) (pv 7)))) pss_nil)
  (pss_cons (ps_set (i := 8) sc__law_other_row.nd rfl (.inl rfl) (pe_op op_addA (pe_op op_mulA pe_int (pv 5)) (pe_fn h__law_draw (hr.mono (by decide)) (by rfl) (pa_cons (pv 0) (pa_cons pe_int pa_nil)))))
  (pss_cons (ps_if (pt_cmpR (eq_K K hr.units) (pv 1) pe_int (nomark _)) (pss_one (ps_ret (pe_op op_addA (pe_op op_addA (pe_slice (sl_K K) (pv 3) po_none (po_some (pv 8))) (pe_lst (pa_cons (pe_ix (ix_K K) (pv 3) (pe_fn h__law_draw (hr.mono (by decide)) (by rfl) (pa_cons (pv 0) (pa_cons (pe_callB (len_K K) (by rfl) G.g_len (by decide +kernel) (pa_cons (pv 3) pa_nil)) pa_nil))) (fun _ _ => rfl)) pa_nil))) (pe_slice (sl_K K) (pv 3) (po_some (pv 8)) po_none)))) pss_nil)
  (pss_one (ps_ret (pe_op op_addA (pe_slice (sl_K K) (pv 3) po_none (po_some (pv 8))) (pe_slice (sl_K K) (pv 3) (po_some (pe_op op_addA (pv 8) pe_int)) po_none)))))))))))))))), ?_⟩
  rw [show L2.start ["_law_tape_here", "_law_way", "_law_log_here", "_law_row", "_law_entry_here", "_law_k", "_law_piece", "_law_behind", "_law_place"] [v0, v1, v2, v3] = [some v0, some v1, some v2, some v3, none, none, none, none, none] from rfl]
  obtain ⟨t, y, l, r, ns, ms, rfl, rfl, rfl, rfl, hT, hn, hm, hl, hlm, q⟩ := h
  walk_at "w"
  refine w_ite (fun c0 => ?_) (fun c0 => ?_)
  · walk_at "w"
    refine ⟨_, rfl, _, rfl, hT, fun p H1 ks n1 e1 h1 _ hk => ?_⟩
    walk_at "w"
    refine ⟨_, rfl, _, _, rfl, sq_of h1, by omega, fun p2 H2 n2 e2 h2 => ?_⟩
    have el := frF_len ks
    refine w_catI (e2 _ _ (e1 _ _ hm)) h2 (by omega) fun p5 H5 n5 e5 h5 => ?_
    exact q p5 H5 _ (fresh_back (e1.trans e2) n5) ((e1.trans e2).trans e5) h5 (by rw [List.length_append]; omega)
  walk_at "w"
  refine w_ite (fun c1 => ?_) (fun c1 => ?_)
  · walk_at "w"
    refine ⟨_, rfl, _, rfl, hT, fun e _ => ?_⟩
    walk_at "w"
    (refine w_newXL (le_line (by walk_at "side")) (fun p2 H2 n2 e2 h2 EE_ => ?_); (try rw [← EE_]); clear EE_)
    refine w_catI (ms := [(ns.length : Int), -1 - e, e]) (e2 _ _ hm) h2 (by show _ + 3 ≤ _; omega) fun p3 H3 n3 e3 h3 => ?_
    walk_at "w"
    refine ⟨_, _, rfl, _, _, rfl, rfl, fun p4 H4 n4 e4 h4 => ?_⟩
    refine w_catI (e4 _ _ h3) h4 (by rw [List.length_append]; show _ + 3 + 3 ≤ _; omega) fun p5 H5 n5 e5 h5 => ?_
    exact q p5 H5 _ (fresh_back ((e2.trans e3).trans e4) n5) (((e2.trans e3).trans e4).trans e5) h5 (by rw [List.length_append, List.length_append]; show _ + 3 + 3 ≤ _; omega)
  walk_at "w"
  refine w_ite (fun c8 => ?_) (fun c8 => ?_)
  · walk_at "w"
    exact ⟨_, rfl, _, rfl, hT, fun p H' ks hp e h1 hk => q p H' ks hp e h1 (by omega)⟩
  walk_at "w"
  (refine w_newXL (le_line (by walk_at "side")) (fun p0 H0 n0 e0 h0 EE_ => ?_); (try rw [← EE_]); clear EE_)
  refine w_eqL (ms := []) (by walk_at "sq") (sq_of h0) ?_
  walk_at "w"
  refine w_ite (fun ce => ?_) (fun ce => ?_)
  · walk_at "w"
    exact ⟨_, rfl, _, rfl, hT.ex e0, fun p H' ks hp e h1 hk => q p H' ks (fresh_back e0 hp) (e0.trans e) h1 (by omega)⟩
  have np : 0 < ns.length := List.length_pos_iff.mpr ce
  walk_at "w"
  refine ⟨_, _, rfl, _, _, rfl, rfl, hT.ex e0, by omega, by omega, fun k k0 k1 => ?_⟩
  have hm0 := e0 _ _ hm
  walk_at "w"
  refine w_slBo (by walk_at "sq") (by omega) (by omega) fun p1 H1 n1 e1 h1 => ?_
  walk_at "w"
  refine w_slLo (by walk_at "sq") (by omega) fun p2 H2 n2 e2 h2 => ?_
  have e02 : Ex H H2 := (e0.trans e1).trans e2
  have hm2 := e02 _ _ hm
  have h12 := e2 _ _ h1
  have L1 : ((ms.take (3 * k + 3).toNat).drop (3 * k).toNat).length ≤ 900 := by rw [List.length_drop, List.length_take]; omega
  have L2 : (ms.drop (3 * k + 3).toNat).length ≤ 900 := by rw [List.length_drop]; omega
  have L3 : ∀ i, (ms.take i).length ≤ 900 := fun i => by rw [List.length_take]; omega
  have L4 : ∀ i, (ms.drop i).length ≤ 900 := fun i => by rw [List.length_drop]; omega
  generalize (ms.take (3 * k + 3).toNat).drop (3 * k).toNat = pc at *
  generalize ms.drop (3 * k + 3).toNat = bh at *
  walk_at "w"
  refine w_ite (fun c2 => ?_) (fun c2 => ?_)
  · walk_at "w"
    refine w_slHi (by walk_at "sq") (by omega) fun p3 H3 n3 e3 h3 => ?_
    walk_at "w"
    refine ⟨_, rfl, _, rfl, (hT.ex e02).ex e3, fun e _ => ?_⟩
    walk_at "w"
    refine ⟨_, _, rfl, _, _, rfl, rfl, fun p4 H4 n4 e4 h4 => ?_⟩
    have a3 := L3 (3 * k).toNat
    refine w_catI (e4 _ _ h3) h4 (by show _ + 3 ≤ _; omega) fun p5 H5 n5 e5 h5 => ?_
    walk_at "w"
    refine w_catI h5 (e5 _ _ (e4 _ _ (e3 _ _ h2))) (by rw [List.length_append]; show _ + 3 + _ ≤ _; omega) fun p6 H6 n6 e6 h6 => ?_
    exact q p6 H6 _ (fresh_back (((e02.trans e3).trans e4).trans e5) n6) ((((e02.trans e3).trans e4).trans e5).trans e6) h6 (by rw [List.length_append, List.length_append]; show _ + 3 + _ ≤ _; omega)
  walk_at "w"
  refine w_ite (fun c3 => ?_) (fun c3 => ?_)
  · walk_at "w"
    refine w_slHi (by walk_at "sq") (by omega) fun p3 H3 n3 e3 h3 => ?_
    walk_at "w"
    refine w_slHi (sq_of (e3 _ _ h2)) (by omega) fun p4 H4 n4 e4 h4 => ?_
    have a3 := L3 (3 * k).toNat
    have b3 : (bh.take (3 : Int).toNat).length ≤ 900 := by rw [List.length_take]; omega
    refine w_catI (e4 _ _ h3) h4 (by omega) fun p5 H5 n5 e5 h5 => ?_
    walk_at "w"
    refine w_catI h5 (e5 _ _ (e4 _ _ (e3 _ _ h12))) (by rw [List.length_append]; omega) fun p6 H6 n6 e6 h6 => ?_
    walk_at "w"
    refine w_slLo (sq_of (e6 _ _ (e5 _ _ (e4 _ _ (e3 _ _ h2))))) (by omega) fun p7 H7 n7 e7 h7 => ?_
    have b4 : (bh.drop (3 : Int).toNat).length ≤ 900 := by rw [List.length_drop]; omega
    refine w_catI (e7 _ _ h6) h7 (by rw [List.length_append, List.length_append]; omega) fun p8 H8 n8 e8 h8 => ?_
    have eA := (((e02.trans e3).trans e4).trans e5).trans (e6.trans e7)
    exact q p8 H8 _ (fresh_back eA n8) (eA.trans e8) h8 (by rw [List.length_append, List.length_append, List.length_append]; omega)
  walk_at "w"
  refine w_ite (fun c4 => ?_) (fun c4 => ?_)
  · walk_at "w"
    refine w_slHi (by walk_at "sq") (by omega) fun p3 H3 n3 e3 h3 => ?_
    have a3 := L3 (3 * k).toNat
    walk_at "w"
    refine w_catI h3 (e3 _ _ h2) (by omega) fun p5 H5 n5 e5 h5 => ?_
    exact q p5 H5 _ (fresh_back (e02.trans e3) n5) ((e02.trans e3).trans e5) h5 (by rw [List.length_append]; omega)
  walk_at "w"
  refine w_ite (fun c5 => ?_) (fun c5 => ?_)
  · walk_at "w"
    refine w_slHi (by walk_at "sq") (by omega) fun p3 H3 n3 e3 h3 => ?_
    have a3 := L3 (3 * k).toNat
    walk_at "w"
    refine w_catI h3 (e3 _ _ h12) (by omega) fun p5 H5 n5 e5 h5 => ?_
    walk_at "w"
    refine w_catI h5 (e5 _ _ (e3 _ _ h12)) (by rw [List.length_append]; omega) fun p6 H6 n6 e6 h6 => ?_
    walk_at "w"
    refine w_catI h6 (e6 _ _ (e5 _ _ (e3 _ _ h2))) (by rw [List.length_append, List.length_append]; omega) fun p7 H7 n7 e7 h7 => ?_
    have eA := ((e02.trans e3).trans e5).trans e6
    exact q p7 H7 _ (fresh_back eA n7) (eA.trans e7) h7 (by rw [List.length_append, List.length_append, List.length_append]; omega)
  walk_at "w"
  refine ⟨_, _, rfl, _, _, rfl, rfl, hT.ex e02, by decide, by decide, fun m m0 m1 => ?_⟩
  walk_at "w"
  refine w_ite (fun c6 => ?_) (fun c6 => ?_)
  · walk_at "w"
    refine w_slHi (by walk_at "sq") (by omega) fun p3 H3 n3 e3 h3 => ?_
    have a3 := L3 (3 * k + m).toNat
    walk_at "w"
    refine ⟨_, _, rfl, _, _, rfl, rfl, (hT.ex e02).ex e3, by omega, by omega, fun z z0 z1 => ?_⟩
    walk_at "w"
    refine w_ixI (sq_of (e3 _ _ hm2)) z0 z1 fun v hv => ?_
    walk_at "w"
    (refine w_newXL (le_line (by walk_at "side")) (fun p4 H4 n4 e4 h4 EE_ => ?_); (try rw [← EE_]); clear EE_)
    refine w_catI (ms := [v]) (e4 _ _ h3) h4 (by show _ + 1 ≤ _; omega) fun p5 H5 n5 e5 h5 => ?_
    walk_at "w"
    refine w_slLo (sq_of (e5 _ _ (e4 _ _ (e3 _ _ hm2)))) (by omega) fun p6 H6 n6 e6 h6 => ?_
    have a4 := L4 (3 * k + m).toNat
    refine w_catI (e6 _ _ h5) h6 (by rw [List.length_append]; show _ + 1 + _ ≤ _; omega) fun p7 H7 n7 e7 h7 => ?_
    have eA := ((e02.trans e3).trans e4).trans (e5.trans e6)
    exact q p7 H7 _ (fresh_back eA n7) (eA.trans e7) h7 (by rw [List.length_append, List.length_append]; show _ + 1 + _ ≤ _; omega)
  · walk_at "w"
    refine w_slHi (by walk_at "sq") (by omega) fun p3 H3 n3 e3 h3 => ?_
    have a3 := L3 (3 * k + m).toNat
    have a4 := L4 (3 * k + m + 1).toNat
    walk_at "w"
    refine w_slLo (sq_of (e3 _ _ hm2)) (by omega) fun p4 H4 n4 e4 h4 => ?_
    refine w_catI (e4 _ _ h3) h4 (by omega) fun p5 H5 n5 e5 h5 => ?_
    have eA := (e02.trans e3).trans e4
    exact q p5 H5 _ (fresh_back eA n5) (eA.trans e5) h5 (by rw [List.length_append]; omega)
theorem ok_law (G : Glo mg) {f : Addr} {fd : FuncData} (F : Fun K "law" "law" s_law f fd) (h__law_tape : Has P w K mg base "_law_tape" 1 (sp__law_tape K)) (h__law_draw : Has P w K mg base "_law_draw" 2 (sp__law_draw K)) (h__law_log : Has P w K mg base "_law_log" 4 (sp__law_log K)) (h__law_frames : Has P w K mg base "_law_frames" 2 (sp__law_frames K)) (h__law_holds : Has P w K mg base "_law_holds" 7 (sp__law_holds K)) (h__law_frames_hold : Has P w K mg base "_law_frames_hold" 3 (sp__law_frames_hold K)) (h__law_changed : Has P w K mg base "_law_changed" 3 (sp__law_changed K)) (h__law_other_row : Has P w K mg base "_law_other_row" 5 (sp__law_other_row K)) (h__law_read : Has P w K mg base "_law_read" 1 (sp__law_read K)) : FnOk P w K mg base CX0 8 f fd ["_law_script"] (sp_law K) := by
  refine F.ok sc_law (fun vs H Q E h => len1 h) (fun cdv A outer s H vs Q E hr h => ?_)
  obtain ⟨v0, rfl, h⟩ := h
  refine ⟨_, (pss_cons (ps_set (i := 1) sc_law.nd rfl (.inl rfl) (pe_fn h__law_tape (hr.mono (by decide)) (by rfl) (pa_cons (pv 0) pa_nil)))
  (pss_cons (ps_set (i := 2) sc_law.nd rfl (.inl rfl) (pe_fn h__law_draw (hr.mono (by decide)) (by rfl) (pa_cons (pv 1) (pa_cons pe_int pa_nil))))
  (pss_cons (ps_set (i := 3) sc_law.nd rfl (.inl rfl) (pe_fn h__law_log (hr.mono (by decide)) (by rfl) (pa_cons (pv 1) pa_nil)))
  (pss_cons (ps_set (i := 4) sc_law.nd rfl (.inl rfl) (pe_fn h__law_frames (hr.mono (by decide)) (by rfl) (pa_cons (pv 3) pa_nil)))
  (pss_cons (ps_if (PW.pt (pw_or (pt_not (tru_K K (pe_fn h__law_frames_hold (hr.mono (by decide)) (by rfl) (pa_cons (pv 3) (pa_cons (pv 4) pa_nil))) (by intro _; rfl))) (pw_or1 (pt_not (tru_K K (pe_fn h__law_holds (hr.mono (by decide)) (by rfl) (pa_cons (pv 4) (pa_cons (pv 3) pa_nil))) (by intro _; rfl)))))) (pss_one (ps_ret pe_bl)) pss_nil)
  (pss_cons (ps_set (i := 5) sc_law.nd rfl (.inl rfl) (pe_fn h__law_draw (hr.mono (by decide)) (by rfl) (pa_cons (pv 1) (pa_cons (pe_op op_addA (pe_callB (len_K K) (by rfl) G.g_len (by decide +kernel) (pa_cons (pv 4) pa_nil)) pe_int) pa_nil))))
  (pss_cons (ps_if (pt_not (tru_K K (pe_fn h__law_holds (hr.mono (by decide)) (by rfl) (pa_cons (pe_slice (sl_K K) (pv 4) po_none (po_some (pv 5))) (pa_cons (pe_slice (sl_K K) (pv 3) po_none (po_some (pe_op op_fdivA (pv 5) pe_int))) pa_nil))) (by intro _; rfl))) (pss_one (ps_ret pe_bl)) pss_nil)
  (pss_cut (ps_if (pt_cmpR (ne_K K hr.units) (pv 4) (pe_lst pa_nil) (nomark _)) (pss_cons (ps_set (i := 6) sc_law.nd rfl (.inl rfl) (pe_fn h__law_draw (hr.mono (by decide)) (by rfl) (pa_cons (pv 1) (pa_cons (pe_callB (len_K K) (by rfl) G.g_len (by decide +kernel) (pa_cons (pv 4) pa_nil)) pa_nil))))
  (pss_one (ps_if (pt_not (tru_K K (pe_fn h__law_holds (hr.mono (by decide)) (by rfl) (pa_cons (pe_fn h__law_changed (hr.mono (by decide)) (by rfl) (pa_cons (pv 1) (pa_cons (pv 4) (pa_cons (pv 6) pa_nil)))) (pa_cons (pe_slice (sl_K K) (pv 3) po_none (po_some (pe_op op_fdivA (pv 6) pe_int))) pa_nil))) (by intro _; rfl))) (pss_one (ps_ret pe_bl)) pss_nil))) pss_nil)
  (pss_cons (ps_set (i := 7) sc_law.nd rfl (.inl rfl) (pe_fn h__law_other_row (hr.mono (by decide)) (by rfl) (pa_cons (pv 1) (pa_cons (pv 2) (pa_cons (pv 3) (pa_cons (pv 4) pa_nil))))))
  (pss_one (ps_ret (pe_fn h__law_holds (hr.mono (by decide)) (by rfl) (pa_cons (pv 7) (pa_cons (pe_fn h__law_read (hr.mono (by decide)) (by rfl) (pa_cons (pv 7) pa_nil)) pa_nil)))))))))))))), ?_⟩
  rw [show L2.start ["_law_script", "_law_tape_here", "_law_way", "_law_log_here", "_law_row", "_law_cut", "_law_place", "_law_other"] [v0] = [some v0, none, none, none, none, none, none, none] from rfl]
  obtain ⟨a, ns, rfl, hS, hl, q⟩ := h
  walk_at "w"
  refine ⟨_, rfl, _, _, rfl, hS, hl, fun t H1 e1 hT => ?_⟩
  walk_at "w"
  refine ⟨_, _, rfl, _, _, rfl, rfl, hT, by decide, by decide, fun y y0 y1 => ?_⟩
  walk_at "w"
  refine ⟨_, rfl, _, rfl, hT, fun pl H2 ls n2 e2 h2 nn hls => ?_⟩
  walk_at "w"
  refine ⟨_, rfl, _, _, rfl, sq_of h2, by omega, fun pr H3 n3 e3 h3 => ?_⟩
  have el := frF_len ls
  walk_at "w"
  refine ⟨_, _, rfl, _, _, _, rfl, rfl, sq_of (e3 _ _ h2), sq_of h3, by omega, fun H4 e4 => ?_⟩
  walk_at "w"
  refine ⟨_, _, rfl, _, _, _, _, rfl, rfl, e4 _ _ h3, e4 _ _ (e3 _ _ h2), rdF_all nn, by omega, fun H5 e5 => ?_⟩
  have hT5 := (((hT.ex e2).ex e3).ex e4).ex e5
  have r5 := e5 _ _ (e4 _ _ h3)
  have l5 := e5 _ _ (e4 _ _ (e3 _ _ h2))
  walk_at "w"
  refine ⟨_, _, rfl, _, _, rfl, rfl, hT5, by omega, by omega, fun c c0 c1 => ?_⟩
  walk_at "w"
  refine w_slHi (by walk_at "sq") c0 fun p6 H6 n6 e6 h6 => ?_
  walk_at "w"
  refine w_slHi (sq_of (e6 _ _ l5)) (by omega) fun p7 H7 n7 e7 h7 => ?_
  walk_at "w"
  refine ⟨_, _, rfl, _, _, _, _, rfl, rfl, e7 _ _ h6, h7, ?_, ?_, fun H8 e8 => ?_⟩
  · rw [rdF_cut nn (by omega), show (c / 3).toNat = c.toNat / 3 by omega]
  · rw [List.length_take]; omega
  have e58 : Ex H5 H8 := (e6.trans e7).trans e8
  walk_at "w"
  refine w_cut (fun σ H' => ∃ x, σ = [some (.ref a), some (.ref t), some (.int y), some (.ref pl), some (.ref pr), some (.int c), x, none] ∧ Ex H5 H') ?_ ?_
  · walk_at "w"
    (refine w_newXL (le_line (by walk_at "side")) (fun p0 H9 n9 e9 h9 EE_ => ?_); (try rw [← EE_]); clear EE_)
    have e59 := e58.trans e9
    refine w_neL (ms := []) (sq_of (e59 _ _ r5)) (sq_of h9) ?_
    walk_at "w"
    refine w_iteN (fun ce => ?_) (fun ce => ?_)
    · have lp : 0 < (frF ls).length := List.length_pos_iff.mpr ce
      walk_at "w"
      refine ⟨_, _, rfl, _, _, rfl, rfl, hT5.ex e59, by omega, by omega, fun p q0 q1 => ?_⟩
      obtain ⟨j, rfl⟩ : ∃ j : Nat, p = (j : Int) := ⟨p.toNat, by omega⟩
      walk_at "w"
      refine ⟨_, _, _, rfl, _, _, _, j, rfl, rfl, rfl, hT5.ex e59, sq_of (e59 _ _ r5), by omega, by omega, fun u H10 v o n10 e10 ho hv h10 => ?_⟩
      walk_at "w"
      have e510 := e59.trans e10
      refine w_slHi (sq_of (e510 _ _ l5)) (by omega) fun p11 H11 n11 e11 h11 => ?_
      walk_at "w"
      refine ⟨_, _, rfl, _, _, _, _, rfl, rfl, e11 _ _ h10, h11, ?_, ?_, fun H12 e12 => ?_⟩
      · rw [rdF_changed nn ho hv, show ((j : Int) / 3).toNat = j / 3 by omega]
      · rw [List.length_append, List.length_append, List.length_take, List.length_drop]
        show _ + 1 + _ ≤ _
        omega
      walk_at "w"
      exact ⟨_, rfl, (e510.trans e11).trans e12⟩
    · walk_at "w"
      exact ⟨_, rfl, e59⟩
  · rintro σ H9 ⟨x, rfl, e59⟩
    walk_at "w"
    refine ⟨_, _, _, _, rfl, _, _, _, _, _, _, rfl, rfl, rfl, rfl, hT5.ex e59, e59 _ _ l5, e59 _ _ r5, hls, el, fun u H10 os n10 e10 h10 hos => ?_⟩
    walk_at "w"
    refine ⟨_, rfl, _, _, rfl, sq_of h10, by omega, fun u2 H11 n11 e11 h11 => ?_⟩
    walk_at "w"
    exact ⟨_, _, rfl, _, _, _, _, rfl, rfl, e11 _ _ h10, h11, rfl, by omega, fun H12 e12 => q H12⟩
end
theorem all_mk {l : PySem.W.OpenLaw} {w : World} {K : PySem.W.Frag} {h : Heap} {mg : Str → Option Value} {fa : Addr} (X : K.In h) (G : h.Ns mainGlobals mg) (hfa : mg "law" = some (.ref fa))
    {f_frame f__law_mixed f__law_tape f__law_frame f__law_read f__law_is_row f_frames f__is_frame f__law_draw f__law_frames f__count_frames f__law_entry f__law_frames_hold f__law_changed f__law_wrong_frames f_scan f_mend f__law_log f__law_scan_holds f__law_other_row f__law_mend_holds f__law_holds f_law : Addr} {od_frame an_frame od__law_mixed an__law_mixed od__law_tape an__law_tape od__law_frame an__law_frame od__law_read an__law_read od__law_is_row an__law_is_row od_frames an_frames od__is_frame an__is_frame od__law_draw an__law_draw od__law_frames an__law_frames od__count_frames an__count_frames od__law_entry an__law_entry od__law_frames_hold an__law_frames_hold od__law_changed an__law_changed od__law_wrong_frames an__law_wrong_frames od_scan an_scan od_mend an_mend od__law_log an__law_log od__law_scan_holds an__law_scan_holds od__law_other_row an__law_other_row od__law_mend_holds an__law_mend_holds od__law_holds an__law_holds od_law an_law : Option Addr} {sl_frame sl__law_mixed sl__law_tape sl__law_frame sl__law_read sl__law_is_row sl_frames sl__is_frame sl__law_draw sl__law_frames sl__count_frames sl__law_entry sl__law_frames_hold sl__law_changed sl__law_wrong_frames sl_scan sl_mend sl__law_log sl__law_scan_holds sl__law_other_row sl__law_mend_holds sl__law_holds sl_law : Array (Option Value)} {oc_frame kV_frame dc_frame pm_frame cd_frame ct_frame oc__law_mixed kV__law_mixed dc__law_mixed pm__law_mixed cd__law_mixed ct__law_mixed oc__law_tape kV__law_tape dc__law_tape pm__law_tape cd__law_tape ct__law_tape oc__law_frame kV__law_frame dc__law_frame pm__law_frame cd__law_frame ct__law_frame oc__law_read kV__law_read dc__law_read pm__law_read cd__law_read ct__law_read oc__law_is_row kV__law_is_row dc__law_is_row pm__law_is_row cd__law_is_row ct__law_is_row oc_frames kV_frames dc_frames pm_frames cd_frames ct_frames oc__is_frame kV__is_frame dc__is_frame pm__is_frame cd__is_frame ct__is_frame oc__law_draw kV__law_draw dc__law_draw pm__law_draw cd__law_draw ct__law_draw oc__law_frames kV__law_frames dc__law_frames pm__law_frames cd__law_frames ct__law_frames oc__count_frames kV__count_frames dc__count_frames pm__count_frames cd__count_frames ct__count_frames oc__law_entry kV__law_entry dc__law_entry pm__law_entry cd__law_entry ct__law_entry oc__law_frames_hold kV__law_frames_hold dc__law_frames_hold pm__law_frames_hold cd__law_frames_hold ct__law_frames_hold oc__law_changed kV__law_changed dc__law_changed pm__law_changed cd__law_changed ct__law_changed oc__law_wrong_frames kV__law_wrong_frames dc__law_wrong_frames pm__law_wrong_frames cd__law_wrong_frames ct__law_wrong_frames oc_scan kV_scan dc_scan pm_scan cd_scan ct_scan oc_mend kV_mend dc_mend pm_mend cd_mend ct_mend oc__law_log kV__law_log dc__law_log pm__law_log cd__law_log ct__law_log oc__law_scan_holds kV__law_scan_holds dc__law_scan_holds pm__law_scan_holds cd__law_scan_holds ct__law_scan_holds oc__law_other_row kV__law_other_row dc__law_other_row pm__law_other_row cd__law_other_row ct__law_other_row oc__law_mend_holds kV__law_mend_holds dc__law_mend_holds pm__law_mend_holds cd__law_mend_holds ct__law_mend_holds oc__law_holds kV__law_holds dc__law_holds pm__law_holds cd__law_holds ct__law_holds oc_law kV_law dc_law pm_law cd_law ct_law : Value} {tk_WIDTH : Tok}
    (a_frame : PySem.W.nsIn K mainGlobals "frame" = some (some (.ref f_frame)))
    (l_frame : K.lookup f_frame = some ⟨oc_frame, od_frame, .func (PySem.W.fnOf "frame" "frame" (defArgs s_frame) (defBody s_frame) (defScope s_frame) .none kV_frame dc_frame pm_frame an_frame cd_frame ct_frame), sl_frame⟩)
    (c_frame : PySem.W.codeIn K cd_frame "frame" = true)
    (k_frame : PySem.W.keepIn K (.ref f_frame) = true)
    (a__law_mixed : PySem.W.nsIn K mainGlobals "_law_mixed" = some (some (.ref f__law_mixed)))
    (l__law_mixed : K.lookup f__law_mixed = some ⟨oc__law_mixed, od__law_mixed, .func (PySem.W.fnOf "_law_mixed" "_law_mixed" (defArgs s__law_mixed) (defBody s__law_mixed) (defScope s__law_mixed) .none kV__law_mixed dc__law_mixed pm__law_mixed an__law_mixed cd__law_mixed ct__law_mixed), sl__law_mixed⟩)
    (c__law_mixed : PySem.W.codeIn K cd__law_mixed "_law_mixed" = true)
    (k__law_mixed : PySem.W.keepIn K (.ref f__law_mixed) = true)
    (a__law_tape : PySem.W.nsIn K mainGlobals "_law_tape" = some (some (.ref f__law_tape)))
    (l__law_tape : K.lookup f__law_tape = some ⟨oc__law_tape, od__law_tape, .func (PySem.W.fnOf "_law_tape" "_law_tape" (defArgs s__law_tape) (defBody s__law_tape) (defScope s__law_tape) .none kV__law_tape dc__law_tape pm__law_tape an__law_tape cd__law_tape ct__law_tape), sl__law_tape⟩)
    (c__law_tape : PySem.W.codeIn K cd__law_tape "_law_tape" = true)
    (k__law_tape : PySem.W.keepIn K (.ref f__law_tape) = true)
    (a__law_frame : PySem.W.nsIn K mainGlobals "_law_frame" = some (some (.ref f__law_frame)))
    (l__law_frame : K.lookup f__law_frame = some ⟨oc__law_frame, od__law_frame, .func (PySem.W.fnOf "_law_frame" "_law_frame" (defArgs s__law_frame) (defBody s__law_frame) (defScope s__law_frame) .none kV__law_frame dc__law_frame pm__law_frame an__law_frame cd__law_frame ct__law_frame), sl__law_frame⟩)
    (c__law_frame : PySem.W.codeIn K cd__law_frame "_law_frame" = true)
    (k__law_frame : PySem.W.keepIn K (.ref f__law_frame) = true)
    (a__law_read : PySem.W.nsIn K mainGlobals "_law_read" = some (some (.ref f__law_read)))
    (l__law_read : K.lookup f__law_read = some ⟨oc__law_read, od__law_read, .func (PySem.W.fnOf "_law_read" "_law_read" (defArgs s__law_read) (defBody s__law_read) (defScope s__law_read) .none kV__law_read dc__law_read pm__law_read an__law_read cd__law_read ct__law_read), sl__law_read⟩)
    (c__law_read : PySem.W.codeIn K cd__law_read "_law_read" = true)
    (k__law_read : PySem.W.keepIn K (.ref f__law_read) = true)
    (a__law_is_row : PySem.W.nsIn K mainGlobals "_law_is_row" = some (some (.ref f__law_is_row)))
    (l__law_is_row : K.lookup f__law_is_row = some ⟨oc__law_is_row, od__law_is_row, .func (PySem.W.fnOf "_law_is_row" "_law_is_row" (defArgs s__law_is_row) (defBody s__law_is_row) (defScope s__law_is_row) .none kV__law_is_row dc__law_is_row pm__law_is_row an__law_is_row cd__law_is_row ct__law_is_row), sl__law_is_row⟩)
    (c__law_is_row : PySem.W.codeIn K cd__law_is_row "_law_is_row" = true)
    (k__law_is_row : PySem.W.keepIn K (.ref f__law_is_row) = true)
    (a_frames : PySem.W.nsIn K mainGlobals "frames" = some (some (.ref f_frames)))
    (l_frames : K.lookup f_frames = some ⟨oc_frames, od_frames, .func (PySem.W.fnOf "frames" "frames" (defArgs s_frames) (defBody s_frames) (defScope s_frames) .none kV_frames dc_frames pm_frames an_frames cd_frames ct_frames), sl_frames⟩)
    (c_frames : PySem.W.codeIn K cd_frames "frames" = true)
    (k_frames : PySem.W.keepIn K (.ref f_frames) = true)
    (a__is_frame : PySem.W.nsIn K mainGlobals "_is_frame" = some (some (.ref f__is_frame)))
    (l__is_frame : K.lookup f__is_frame = some ⟨oc__is_frame, od__is_frame, .func (PySem.W.fnOf "_is_frame" "_is_frame" (defArgs s__is_frame) (defBody s__is_frame) (defScope s__is_frame) .none kV__is_frame dc__is_frame pm__is_frame an__is_frame cd__is_frame ct__is_frame), sl__is_frame⟩)
    (c__is_frame : PySem.W.codeIn K cd__is_frame "_is_frame" = true)
    (k__is_frame : PySem.W.keepIn K (.ref f__is_frame) = true)
    (a__law_draw : PySem.W.nsIn K mainGlobals "_law_draw" = some (some (.ref f__law_draw)))
    (l__law_draw : K.lookup f__law_draw = some ⟨oc__law_draw, od__law_draw, .func (PySem.W.fnOf "_law_draw" "_law_draw" (defArgs s__law_draw) (defBody s__law_draw) (defScope s__law_draw) .none kV__law_draw dc__law_draw pm__law_draw an__law_draw cd__law_draw ct__law_draw), sl__law_draw⟩)
    (c__law_draw : PySem.W.codeIn K cd__law_draw "_law_draw" = true)
    (k__law_draw : PySem.W.keepIn K (.ref f__law_draw) = true)
    (a__law_frames : PySem.W.nsIn K mainGlobals "_law_frames" = some (some (.ref f__law_frames)))
    (l__law_frames : K.lookup f__law_frames = some ⟨oc__law_frames, od__law_frames, .func (PySem.W.fnOf "_law_frames" "_law_frames" (defArgs s__law_frames) (defBody s__law_frames) (defScope s__law_frames) .none kV__law_frames dc__law_frames pm__law_frames an__law_frames cd__law_frames ct__law_frames), sl__law_frames⟩)
    (c__law_frames : PySem.W.codeIn K cd__law_frames "_law_frames" = true)
    (k__law_frames : PySem.W.keepIn K (.ref f__law_frames) = true)
    (a__count_frames : PySem.W.nsIn K mainGlobals "_count_frames" = some (some (.ref f__count_frames)))
    (l__count_frames : K.lookup f__count_frames = some ⟨oc__count_frames, od__count_frames, .func (PySem.W.fnOf "_count_frames" "_count_frames" (defArgs s__count_frames) (defBody s__count_frames) (defScope s__count_frames) .none kV__count_frames dc__count_frames pm__count_frames an__count_frames cd__count_frames ct__count_frames), sl__count_frames⟩)
    (c__count_frames : PySem.W.codeIn K cd__count_frames "_count_frames" = true)
    (k__count_frames : PySem.W.keepIn K (.ref f__count_frames) = true)
    (a__law_entry : PySem.W.nsIn K mainGlobals "_law_entry" = some (some (.ref f__law_entry)))
    (l__law_entry : K.lookup f__law_entry = some ⟨oc__law_entry, od__law_entry, .func (PySem.W.fnOf "_law_entry" "_law_entry" (defArgs s__law_entry) (defBody s__law_entry) (defScope s__law_entry) .none kV__law_entry dc__law_entry pm__law_entry an__law_entry cd__law_entry ct__law_entry), sl__law_entry⟩)
    (c__law_entry : PySem.W.codeIn K cd__law_entry "_law_entry" = true)
    (k__law_entry : PySem.W.keepIn K (.ref f__law_entry) = true)
    (a__law_frames_hold : PySem.W.nsIn K mainGlobals "_law_frames_hold" = some (some (.ref f__law_frames_hold)))
    (l__law_frames_hold : K.lookup f__law_frames_hold = some ⟨oc__law_frames_hold, od__law_frames_hold, .func (PySem.W.fnOf "_law_frames_hold" "_law_frames_hold" (defArgs s__law_frames_hold) (defBody s__law_frames_hold) (defScope s__law_frames_hold) .none kV__law_frames_hold dc__law_frames_hold pm__law_frames_hold an__law_frames_hold cd__law_frames_hold ct__law_frames_hold), sl__law_frames_hold⟩)
    (c__law_frames_hold : PySem.W.codeIn K cd__law_frames_hold "_law_frames_hold" = true)
    (k__law_frames_hold : PySem.W.keepIn K (.ref f__law_frames_hold) = true)
    (a__law_changed : PySem.W.nsIn K mainGlobals "_law_changed" = some (some (.ref f__law_changed)))
    (l__law_changed : K.lookup f__law_changed = some ⟨oc__law_changed, od__law_changed, .func (PySem.W.fnOf "_law_changed" "_law_changed" (defArgs s__law_changed) (defBody s__law_changed) (defScope s__law_changed) .none kV__law_changed dc__law_changed pm__law_changed an__law_changed cd__law_changed ct__law_changed), sl__law_changed⟩)
    (c__law_changed : PySem.W.codeIn K cd__law_changed "_law_changed" = true)
    (k__law_changed : PySem.W.keepIn K (.ref f__law_changed) = true)
    (a__law_wrong_frames : PySem.W.nsIn K mainGlobals "_law_wrong_frames" = some (some (.ref f__law_wrong_frames)))
    (l__law_wrong_frames : K.lookup f__law_wrong_frames = some ⟨oc__law_wrong_frames, od__law_wrong_frames, .func (PySem.W.fnOf "_law_wrong_frames" "_law_wrong_frames" (defArgs s__law_wrong_frames) (defBody s__law_wrong_frames) (defScope s__law_wrong_frames) .none kV__law_wrong_frames dc__law_wrong_frames pm__law_wrong_frames an__law_wrong_frames cd__law_wrong_frames ct__law_wrong_frames), sl__law_wrong_frames⟩)
    (c__law_wrong_frames : PySem.W.codeIn K cd__law_wrong_frames "_law_wrong_frames" = true)
    (k__law_wrong_frames : PySem.W.keepIn K (.ref f__law_wrong_frames) = true)
    (a_scan : PySem.W.nsIn K mainGlobals "scan" = some (some (.ref f_scan)))
    (l_scan : K.lookup f_scan = some ⟨oc_scan, od_scan, .func (PySem.W.fnOf "scan" "scan" (defArgs s_scan) (defBody s_scan) (defScope s_scan) .none kV_scan dc_scan pm_scan an_scan cd_scan ct_scan), sl_scan⟩)
    (c_scan : PySem.W.codeIn K cd_scan "scan" = true)
    (k_scan : PySem.W.keepIn K (.ref f_scan) = true)
    (a_mend : PySem.W.nsIn K mainGlobals "mend" = some (some (.ref f_mend)))
    (l_mend : K.lookup f_mend = some ⟨oc_mend, od_mend, .func (PySem.W.fnOf "mend" "mend" (defArgs s_mend) (defBody s_mend) (defScope s_mend) .none kV_mend dc_mend pm_mend an_mend cd_mend ct_mend), sl_mend⟩)
    (c_mend : PySem.W.codeIn K cd_mend "mend" = true)
    (k_mend : PySem.W.keepIn K (.ref f_mend) = true)
    (a__law_log : PySem.W.nsIn K mainGlobals "_law_log" = some (some (.ref f__law_log)))
    (l__law_log : K.lookup f__law_log = some ⟨oc__law_log, od__law_log, .func (PySem.W.fnOf "_law_log" "_law_log" (defArgs s__law_log) (defBody s__law_log) (defScope s__law_log) .none kV__law_log dc__law_log pm__law_log an__law_log cd__law_log ct__law_log), sl__law_log⟩)
    (c__law_log : PySem.W.codeIn K cd__law_log "_law_log" = true)
    (k__law_log : PySem.W.keepIn K (.ref f__law_log) = true)
    (a__law_scan_holds : PySem.W.nsIn K mainGlobals "_law_scan_holds" = some (some (.ref f__law_scan_holds)))
    (l__law_scan_holds : K.lookup f__law_scan_holds = some ⟨oc__law_scan_holds, od__law_scan_holds, .func (PySem.W.fnOf "_law_scan_holds" "_law_scan_holds" (defArgs s__law_scan_holds) (defBody s__law_scan_holds) (defScope s__law_scan_holds) .none kV__law_scan_holds dc__law_scan_holds pm__law_scan_holds an__law_scan_holds cd__law_scan_holds ct__law_scan_holds), sl__law_scan_holds⟩)
    (c__law_scan_holds : PySem.W.codeIn K cd__law_scan_holds "_law_scan_holds" = true)
    (k__law_scan_holds : PySem.W.keepIn K (.ref f__law_scan_holds) = true)
    (a__law_other_row : PySem.W.nsIn K mainGlobals "_law_other_row" = some (some (.ref f__law_other_row)))
    (l__law_other_row : K.lookup f__law_other_row = some ⟨oc__law_other_row, od__law_other_row, .func (PySem.W.fnOf "_law_other_row" "_law_other_row" (defArgs s__law_other_row) (defBody s__law_other_row) (defScope s__law_other_row) .none kV__law_other_row dc__law_other_row pm__law_other_row an__law_other_row cd__law_other_row ct__law_other_row), sl__law_other_row⟩)
    (c__law_other_row : PySem.W.codeIn K cd__law_other_row "_law_other_row" = true)
    (k__law_other_row : PySem.W.keepIn K (.ref f__law_other_row) = true)
    (a__law_mend_holds : PySem.W.nsIn K mainGlobals "_law_mend_holds" = some (some (.ref f__law_mend_holds)))
    (l__law_mend_holds : K.lookup f__law_mend_holds = some ⟨oc__law_mend_holds, od__law_mend_holds, .func (PySem.W.fnOf "_law_mend_holds" "_law_mend_holds" (defArgs s__law_mend_holds) (defBody s__law_mend_holds) (defScope s__law_mend_holds) .none kV__law_mend_holds dc__law_mend_holds pm__law_mend_holds an__law_mend_holds cd__law_mend_holds ct__law_mend_holds), sl__law_mend_holds⟩)
    (c__law_mend_holds : PySem.W.codeIn K cd__law_mend_holds "_law_mend_holds" = true)
    (k__law_mend_holds : PySem.W.keepIn K (.ref f__law_mend_holds) = true)
    (a__law_holds : PySem.W.nsIn K mainGlobals "_law_holds" = some (some (.ref f__law_holds)))
    (l__law_holds : K.lookup f__law_holds = some ⟨oc__law_holds, od__law_holds, .func (PySem.W.fnOf "_law_holds" "_law_holds" (defArgs s__law_holds) (defBody s__law_holds) (defScope s__law_holds) .none kV__law_holds dc__law_holds pm__law_holds an__law_holds cd__law_holds ct__law_holds), sl__law_holds⟩)
    (c__law_holds : PySem.W.codeIn K cd__law_holds "_law_holds" = true)
    (k__law_holds : PySem.W.keepIn K (.ref f__law_holds) = true)
    (a_law : PySem.W.nsIn K mainGlobals "law" = some (some (.ref f_law)))
    (l_law : K.lookup f_law = some ⟨oc_law, od_law, .func (PySem.W.fnOf "law" "law" (defArgs s_law) (defBody s_law) (defScope s_law) .none kV_law dc_law pm_law an_law cd_law ct_law), sl_law⟩)
    (c_law : PySem.W.codeIn K cd_law "law" = true)
    (k_law : PySem.W.keepIn K (.ref f_law) = true)
    (z_WIDTH : PySem.W.nsIn K mainGlobals "WIDTH" = some (some (.int 3 tk_WIDTH)))
    (z_bool : PySem.W.nsIn K mainGlobals "bool" = some none)
    (z_enumerate : PySem.W.nsIn K mainGlobals "enumerate" = some none)
    (z_int : PySem.W.nsIn K mainGlobals "int" = some none)
    (z_isinstance : PySem.W.nsIn K mainGlobals "isinstance" = some none)
    (z_len : PySem.W.nsIn K mainGlobals "len" = some none)
    (z_list : PySem.W.nsIn K mainGlobals "list" = some none)
    (z_range : PySem.W.nsIn K mainGlobals "range" = some none)
    (z_sum : PySem.W.nsIn K mainGlobals "sum" = some none)
    (z_tuple : PySem.W.nsIn K mainGlobals "tuple" = some none)
    : ∃ fd : FuncData, (∀ (s : Shared) (v : Value), BindsTo s fd ⟨[v], []⟩ [("_law_script", v)]) ∧ ∀ base : Heap, K.In base → base.Ns mainGlobals mg → FnOk l.prog w K mg base CX0 8 fa fd ["_law_script"] (sp_law K) := by
  have e := hfa.symm.trans (PySem.W.mg_of X G a_law)
  cases e
  have GG : Glo mg := ⟨⟨_, PySem.W.mg_of X G z_WIDTH⟩, PySem.W.mg_none_of X G z_bool, PySem.W.mg_none_of X G z_enumerate, PySem.W.mg_none_of X G z_int, PySem.W.mg_none_of X G z_isinstance, PySem.W.mg_none_of X G z_len, PySem.W.mg_none_of X G z_list, PySem.W.mg_none_of X G z_range, PySem.W.mg_none_of X G z_sum, PySem.W.mg_none_of X G z_tuple⟩
  refine ⟨PySem.W.fnOf "law" "law" (defArgs s_law) (defBody s_law) (defScope s_law) .none kV_law dc_law pm_law an_law cd_law ct_law, fun s v => .of_eq rfl, fun base _ _ => ?_⟩
  have F_frame := fun_mk (st := s_frame) l_frame c_frame k_frame
  have h_frame : Has l.prog w K mg base "frame" 1 (sp_frame K) := ⟨_, _, _, PySem.W.mg_of X G a_frame, F_frame.kp, F_frame.binds (ps := ["index", "entry"]) (fun _ _ _ _ _ _ us hl => match us, hl with | [_, _], _ => rfl), ok_frame GG F_frame⟩
  have F__law_mixed := fun_mk (st := s__law_mixed) l__law_mixed c__law_mixed k__law_mixed
  have h__law_mixed : Has l.prog w K mg base "_law_mixed" 1 (sp__law_mixed K) := ⟨_, _, _, PySem.W.mg_of X G a__law_mixed, F__law_mixed.kp, F__law_mixed.binds (ps := ["_law_seed", "_law_turn", "_law_many"]) (fun _ _ _ _ _ _ us hl => match us, hl with | [_, _, _], _ => rfl), ok__law_mixed GG F__law_mixed⟩
  have F__law_tape := fun_mk (st := s__law_tape) l__law_tape c__law_tape k__law_tape
  have h__law_tape : Has l.prog w K mg base "_law_tape" 1 (sp__law_tape K) := ⟨_, _, _, PySem.W.mg_of X G a__law_tape, F__law_tape.kp, F__law_tape.binds (ps := ["_law_script"]) (fun _ _ _ _ _ _ us hl => match us, hl with | [_], _ => rfl), up__law_tape (ok__law_tape GG F__law_tape)⟩
  have F__law_frame := fun_mk (st := s__law_frame) l__law_frame c__law_frame k__law_frame
  have h__law_frame : Has l.prog w K mg base "_law_frame" 1 (sp__law_frame K) := ⟨_, _, _, PySem.W.mg_of X G a__law_frame, F__law_frame.kp, F__law_frame.binds (ps := ["_law_index", "_law_entry_here"]) (fun _ _ _ _ _ _ us hl => match us, hl with | [_, _], _ => rfl), ok__law_frame GG F__law_frame⟩
  have F__law_read := fun_mk (st := s__law_read) l__law_read c__law_read k__law_read
  have h__law_read : Has l.prog w K mg base "_law_read" 1 (sp__law_read K) := ⟨_, _, _, PySem.W.mg_of X G a__law_read, F__law_read.kp, F__law_read.binds (ps := ["_law_row"]) (fun _ _ _ _ _ _ us hl => match us, hl with | [_], _ => rfl), ok__law_read GG F__law_read⟩
  have F__law_is_row := fun_mk (st := s__law_is_row) l__law_is_row c__law_is_row k__law_is_row
  have h__law_is_row : Has l.prog w K mg base "_law_is_row" 1 (sp__law_is_row K) := ⟨_, _, _, PySem.W.mg_of X G a__law_is_row, F__law_is_row.kp, F__law_is_row.binds (ps := ["_law_told", "_law_due"]) (fun _ _ _ _ _ _ us hl => match us, hl with | [_, _], _ => rfl), ok__law_is_row GG F__law_is_row⟩
  have F_frames := fun_mk (st := s_frames) l_frames c_frames k_frames
  have h_frames : Has l.prog w K mg base "frames" 2 (sp_frames K) := ⟨_, _, _, PySem.W.mg_of X G a_frames, F_frames.kp, F_frames.binds (ps := ["log"]) (fun _ _ _ _ _ _ us hl => match us, hl with | [_], _ => rfl), ok_frames GG F_frames h_frame⟩
  have F__is_frame := fun_mk (st := s__is_frame) l__is_frame c__is_frame k__is_frame
  have h__is_frame : Has l.prog w K mg base "_is_frame" 2 (sp__is_frame K) := ⟨_, _, _, PySem.W.mg_of X G a__is_frame, F__is_frame.kp, F__is_frame.binds (ps := ["cells", "index"]) (fun _ _ _ _ _ _ us hl => match us, hl with | [_, _], _ => rfl), ok__is_frame GG F__is_frame h_frame⟩
  have F__law_draw := fun_mk (st := s__law_draw) l__law_draw c__law_draw k__law_draw
  have h__law_draw : Has l.prog w K mg base "_law_draw" 2 (sp__law_draw K) := ⟨_, _, _, PySem.W.mg_of X G a__law_draw, F__law_draw.kp, F__law_draw.binds (ps := ["_law_tape_here", "_law_many"]) (fun _ _ _ _ _ _ us hl => match us, hl with | [_, _], _ => rfl), up__law_draw (ok__law_draw GG F__law_draw h__law_mixed)⟩
  have F__law_frames := fun_mk (st := s__law_frames) l__law_frames c__law_frames k__law_frames
  have h__law_frames : Has l.prog w K mg base "_law_frames" 2 (sp__law_frames K) := ⟨_, _, _, PySem.W.mg_of X G a__law_frames, F__law_frames.kp, F__law_frames.binds (ps := ["_law_log_here"]) (fun _ _ _ _ _ _ us hl => match us, hl with | [_], _ => rfl), ok__law_frames GG F__law_frames h__law_frame⟩
  have F__count_frames := fun_mk (st := s__count_frames) l__count_frames c__count_frames k__count_frames
  have h__count_frames : Has l.prog w K mg base "_count_frames" 3 (sp__count_frames K) := ⟨_, _, _, PySem.W.mg_of X G a__count_frames, F__count_frames.kp, F__count_frames.binds (ps := ["cells"]) (fun _ _ _ _ _ _ us hl => match us, hl with | [_], _ => rfl), ok__count_frames GG F__count_frames h__is_frame⟩
  have F__law_entry := fun_mk (st := s__law_entry) l__law_entry c__law_entry k__law_entry
  have h__law_entry : Has l.prog w K mg base "_law_entry" 3 (sp__law_entry K) := ⟨_, _, _, PySem.W.mg_of X G a__law_entry, F__law_entry.kp, F__law_entry.binds (ps := ["_law_tape_here"]) (fun _ _ _ _ _ _ us hl => match us, hl with | [_], _ => rfl), ok__law_entry GG F__law_entry h__law_draw⟩
  have F__law_frames_hold := fun_mk (st := s__law_frames_hold) l__law_frames_hold c__law_frames_hold k__law_frames_hold
  have h__law_frames_hold : Has l.prog w K mg base "_law_frames_hold" 3 (sp__law_frames_hold K) := ⟨_, _, _, PySem.W.mg_of X G a__law_frames_hold, F__law_frames_hold.kp, F__law_frames_hold.binds (ps := ["_law_log_here", "_law_row"]) (fun _ _ _ _ _ _ us hl => match us, hl with | [_, _], _ => rfl), ok__law_frames_hold GG F__law_frames_hold h__law_is_row h_frames⟩
  have F__law_changed := fun_mk (st := s__law_changed) l__law_changed c__law_changed k__law_changed
  have h__law_changed : Has l.prog w K mg base "_law_changed" 3 (sp__law_changed K) := ⟨_, _, _, PySem.W.mg_of X G a__law_changed, F__law_changed.kp, F__law_changed.binds (ps := ["_law_tape_here", "_law_row", "_law_place"]) (fun _ _ _ _ _ _ us hl => match us, hl with | [_, _, _], _ => rfl), ok__law_changed GG F__law_changed h__law_draw⟩
  have F__law_wrong_frames := fun_mk (st := s__law_wrong_frames) l__law_wrong_frames c__law_wrong_frames k__law_wrong_frames
  have h__law_wrong_frames : Has l.prog w K mg base "_law_wrong_frames" 3 (sp__law_wrong_frames K) := ⟨_, _, _, PySem.W.mg_of X G a__law_wrong_frames, F__law_wrong_frames.kp, F__law_wrong_frames.binds (ps := ["_law_tape_here"]) (fun _ _ _ _ _ _ us hl => match us, hl with | [_], _ => rfl), ok__law_wrong_frames GG F__law_wrong_frames h__law_draw⟩
  have F_scan := fun_mk (st := s_scan) l_scan c_scan k_scan
  have h_scan : Has l.prog w K mg base "scan" 4 (sp_scan K) := ⟨_, _, _, PySem.W.mg_of X G a_scan, F_scan.kp, F_scan.binds (ps := ["cells"]) (fun _ _ _ _ _ _ us hl => match us, hl with | [_], _ => rfl), ok_scan GG F_scan h__count_frames⟩
  have F_mend := fun_mk (st := s_mend) l_mend c_mend k_mend
  have h_mend : Has l.prog w K mg base "mend" 4 (sp_mend K) := ⟨_, _, _, PySem.W.mg_of X G a_mend, F_mend.kp, F_mend.binds (ps := ["cells"]) (fun _ _ _ _ _ _ us hl => match us, hl with | [_], _ => rfl), ok_mend GG F_mend h__count_frames⟩
  have F__law_log := fun_mk (st := s__law_log) l__law_log c__law_log k__law_log
  have h__law_log : Has l.prog w K mg base "_law_log" 4 (sp__law_log K) := ⟨_, _, _, PySem.W.mg_of X G a__law_log, F__law_log.kp, F__law_log.binds (ps := ["_law_tape_here"]) (fun _ _ _ _ _ _ us hl => match us, hl with | [_], _ => rfl), ok__law_log GG F__law_log h__law_draw h__law_entry⟩
  have F__law_scan_holds := fun_mk (st := s__law_scan_holds) l__law_scan_holds c__law_scan_holds k__law_scan_holds
  have h__law_scan_holds : Has l.prog w K mg base "_law_scan_holds" 5 (sp__law_scan_holds K) := ⟨_, _, _, PySem.W.mg_of X G a__law_scan_holds, F__law_scan_holds.kp, F__law_scan_holds.binds (ps := ["_law_row", "_law_log_here"]) (fun _ _ _ _ _ _ us hl => match us, hl with | [_, _], _ => rfl), ok__law_scan_holds GG F__law_scan_holds h_scan h__law_is_row⟩
  have F__law_other_row := fun_mk (st := s__law_other_row) l__law_other_row c__law_other_row k__law_other_row
  have h__law_other_row : Has l.prog w K mg base "_law_other_row" 5 (sp__law_other_row K) := ⟨_, _, _, PySem.W.mg_of X G a__law_other_row, F__law_other_row.kp, F__law_other_row.binds (ps := ["_law_tape_here", "_law_way", "_law_log_here", "_law_row"]) (fun _ _ _ _ _ _ us hl => match us, hl with | [_, _, _, _], _ => rfl), ok__law_other_row GG F__law_other_row h__law_frames h__law_log h__law_entry h__law_frame h__law_wrong_frames h__law_draw⟩
  have F__law_mend_holds := fun_mk (st := s__law_mend_holds) l__law_mend_holds c__law_mend_holds k__law_mend_holds
  have h__law_mend_holds : Has l.prog w K mg base "_law_mend_holds" 6 (sp__law_mend_holds K) := ⟨_, _, _, PySem.W.mg_of X G a__law_mend_holds, F__law_mend_holds.kp, F__law_mend_holds.binds (ps := ["_law_row", "_law_log_here"]) (fun _ _ _ _ _ _ us hl => match us, hl with | [_, _], _ => rfl), ok__law_mend_holds GG F__law_mend_holds h_mend h__law_is_row h__law_scan_holds h__law_frame⟩
  have F__law_holds := fun_mk (st := s__law_holds) l__law_holds c__law_holds k__law_holds
  have h__law_holds : Has l.prog w K mg base "_law_holds" 7 (sp__law_holds K) := ⟨_, _, _, PySem.W.mg_of X G a__law_holds, F__law_holds.kp, F__law_holds.binds (ps := ["_law_row", "_law_log_here"]) (fun _ _ _ _ _ _ us hl => match us, hl with | [_, _], _ => rfl), ok__law_holds GG F__law_holds h__law_mend_holds h__law_scan_holds⟩
  have F_law := fun_mk (st := s_law) l_law c_law k_law
  exact ok_law GG F_law h__law_tape h__law_draw h__law_log h__law_frames h__law_holds h__law_frames_hold h__law_changed h__law_other_row h__law_read
end Pr
open PySem PySem.W PyProof.Rows
set_option maxHeartbeats 0 in
theorem PySem.Challenge.cw_pullstore_k32_disks_cut_anywhere_holds : PySem.Challenge.rw_pullstore_k32_disks_cut_anywhere.Holds := by
  w_on; o_law; k_head; (case hw => w_witness2)
  k_fill
  refine L2.walk_of (l := PySem.Challenge.rw_pullstore_k32_disks_cut_anywhere) (n := 63) (k := 8) (x := "_law_script") (CX := fun _ => L2.CX0) (sp := fun w => Pr.sp_law _) rfl (by decide) rfl ⟨rfl, by decide, by decide⟩ (fun w h Y => PySem.W.kIn_of Y) ?F (fun _ _ a ns hl _ hS => Pr.sp_law_start hl hS) (fun _ _ _ _ _ h => h)
  case F =>
    intro w mg fa h KX G hmg
    refine' Pr.all_mk KX G hmg ?a_frame ?l_frame ?c_frame ?k_frame ?a__law_mixed ?l__law_mixed ?c__law_mixed ?k__law_mixed ?a__law_tape ?l__law_tape ?c__law_tape ?k__law_tape ?a__law_frame ?l__law_frame ?c__law_frame ?k__law_frame ?a__law_read ?l__law_read ?c__law_read ?k__law_read ?a__law_is_row ?l__law_is_row ?c__law_is_row ?k__law_is_row ?a_frames ?l_frames ?c_frames ?k_frames ?a__is_frame ?l__is_frame ?c__is_frame ?k__is_frame ?a__law_draw ?l__law_draw ?c__law_draw ?k__law_draw ?a__law_frames ?l__law_frames ?c__law_frames ?k__law_frames ?a__count_frames ?l__count_frames ?c__count_frames ?k__count_frames ?a__law_entry ?l__law_entry ?c__law_entry ?k__law_entry ?a__law_frames_hold ?l__law_frames_hold ?c__law_frames_hold ?k__law_frames_hold ?a__law_changed ?l__law_changed ?c__law_changed ?k__law_changed ?a__law_wrong_frames ?l__law_wrong_frames ?c__law_wrong_frames ?k__law_wrong_frames ?a_scan ?l_scan ?c_scan ?k_scan ?a_mend ?l_mend ?c_mend ?k_mend ?a__law_log ?l__law_log ?c__law_log ?k__law_log ?a__law_scan_holds ?l__law_scan_holds ?c__law_scan_holds ?k__law_scan_holds ?a__law_other_row ?l__law_other_row ?c__law_other_row ?k__law_other_row ?a__law_mend_holds ?l__law_mend_holds ?c__law_mend_holds ?k__law_mend_holds ?a__law_holds ?l__law_holds ?c__law_holds ?k__law_holds ?a_law ?l_law ?c_law ?k_law ?z_WIDTH ?z_bool ?z_enumerate ?z_int ?z_isinstance ?z_len ?z_list ?z_range ?z_sum ?z_tuple
    (case a_frame => k_is)
    (case l_frame => k_is)
    (case c_frame => k_is)
    (case k_frame => k_is)
    (case a__law_mixed => k_is)
    (case l__law_mixed => k_is)
    (case c__law_mixed => k_is)
    (case k__law_mixed => k_is)
    (case a__law_tape => k_is)
    (case l__law_tape => k_is)
    (case c__law_tape => k_is)
    (case k__law_tape => k_is)
    (case a__law_frame => k_is)
    (case l__law_frame => k_is)
    (case c__law_frame => k_is)
    (case k__law_frame => k_is)
    (case a__law_read => k_is)
    (case l__law_read => k_is)
    (case c__law_read => k_is)
    (case k__law_read => k_is)
    (case a__law_is_row => k_is)
    (case l__law_is_row => k_is)
    (case c__law_is_row => k_is)
    (case k__law_is_row => k_is)
    (case a_frames => k_is)
    (case l_frames => k_is)
    (case c_frames => k_is)
    (case k_frames => k_is)
    (case a__is_frame => k_is)
    (case l__is_frame => k_is)
    (case c__is_frame => k_is)
    (case k__is_frame => k_is)
    (case a__law_draw => k_is)
    (case l__law_draw => k_is)
    (case c__law_draw => k_is)
    (case k__law_draw => k_is)
    (case a__law_frames => k_is)
    (case l__law_frames => k_is)
    (case c__law_frames => k_is)
    (case k__law_frames => k_is)
    (case a__count_frames => k_is)
    (case l__count_frames => k_is)
    (case c__count_frames => k_is)
    (case k__count_frames => k_is)
    (case a__law_entry => k_is)
    (case l__law_entry => k_is)
    (case c__law_entry => k_is)
    (case k__law_entry => k_is)
    (case a__law_frames_hold => k_is)
    (case l__law_frames_hold => k_is)
    (case c__law_frames_hold => k_is)
    (case k__law_frames_hold => k_is)
    (case a__law_changed => k_is)
    (case l__law_changed => k_is)
    (case c__law_changed => k_is)
    (case k__law_changed => k_is)
    (case a__law_wrong_frames => k_is)
    (case l__law_wrong_frames => k_is)
    (case c__law_wrong_frames => k_is)
    (case k__law_wrong_frames => k_is)
    (case a_scan => k_is)
    (case l_scan => k_is)
    (case c_scan => k_is)
    (case k_scan => k_is)
    (case a_mend => k_is)
    (case l_mend => k_is)
    (case c_mend => k_is)
    (case k_mend => k_is)
    (case a__law_log => k_is)
    (case l__law_log => k_is)
    (case c__law_log => k_is)
    (case k__law_log => k_is)
    (case a__law_scan_holds => k_is)
    (case l__law_scan_holds => k_is)
    (case c__law_scan_holds => k_is)
    (case k__law_scan_holds => k_is)
    (case a__law_other_row => k_is)
    (case l__law_other_row => k_is)
    (case c__law_other_row => k_is)
    (case k__law_other_row => k_is)
    (case a__law_mend_holds => k_is)
    (case l__law_mend_holds => k_is)
    (case c__law_mend_holds => k_is)
    (case k__law_mend_holds => k_is)
    (case a__law_holds => k_is)
    (case l__law_holds => k_is)
    (case c__law_holds => k_is)
    (case k__law_holds => k_is)
    (case a_law => k_is)
    (case l_law => k_is)
    (case c_law => k_is)
    (case k_law => k_is)
    (case z_WIDTH => k_is)
    (case z_bool => k_is)
    (case z_enumerate => k_is)
    (case z_int => k_is)
    (case z_isinstance => k_is)
    (case z_len => k_is)
    (case z_list => k_is)
    (case z_range => k_is)
    (case z_sum => k_is)
    (case z_tuple => k_is)
#print axioms PySem.Challenge.cw_pullstore_k32_disks_cut_anywhere_holds

