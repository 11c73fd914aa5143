import PyProof.Rows.All
import Wide.All
import OpenK.AllK
import Wide.FinOn
import HandS.ForMost
import HandS.Walk
import HandS.Evl
import HandS.IsInst
import HandS.Wide
import HandS.AnyAll
import HandS.EndTab
import HandS.Conv
import HandS.SortRule
import HandS.Property
import HandS.ClsMeth
import HandS.Zip
import HandS.Style
import HandS.Deep
import HandS.WordsDict
import HandS.More
import HandS.EndOwn
import PySem.Challenge.RW_pullstore_k51_pulls_carry
set_option Elab.async false
set_option linter.all false
set_option maxRecDepth 100000
namespace PL
open PySem PySem.Spec PyProof.Rows L2 Evl
set_option maxHeartbeats 4000000

/-! ### calls of defs of the text -/
structure Has (P : Program) (w : World) (K : PySem.W.Frag) (mg : Str → Option Value) (base : Heap) (x : Str) (k : Nat) (sp : Sp) : Prop where
  ex : ∃ (f : Addr) (fd : FuncData) (ps : List Str), mg x = some (.ref f) ∧ PySem.W.keepIn K (.ref f) = true ∧ Binds K fd ps [] ∧ FnOk P w K mg base CX0 k f fd ps sp
theorem has_mk {P : Program} {w : World} {K : PySem.W.Frag} {mg : Str → Option Value} {base : Heap} {x : Str} {k : Nat} {sp : Sp} {f : Addr} {fd : FuncData} {ps : List Str} (h1 : mg x = some (.ref f)) (h2 : PySem.W.keepIn K (.ref f) = true) (h3 : Binds K fd ps [])
    (h4 : FnOk P w K mg base CX0 k f fd ps sp) : Has P w K mg base x k sp := ⟨f, fd, ps, h1, h2, h3, h4⟩
section
variable {X : Cx} {k : Nat} {sp : Sp} {x : Str} {p pos : Pos} {e : Expr} {es : List Expr} {t : TA}
theorem pe_fn (h : Has X.prog X.w X.K X.mg X.base x k sp) (hr : Room k X.A) (hg : Gl X x) (ha : PA X (e :: es) t) (hdb : (x == ("__debug__" : Str)) = false := by decide) (he : starEach (e :: es) X.env = (false, eval e X.env) :: starEach es X.env := by rfl)
    (hpl : (backTo pos (starEach es X.env)).any (·.1) = false := by rfl) : PE X (.Call (.Name x p) (e :: es) [] pos) (tCall sp [] E0 t) := by
  obtain ⟨f, fd, ps, h1, h2, h3, h4⟩ := h.ex
  exact pe_call h4 hr hg h1 h2 h3 .nil pass0 ha hdb he hpl
theorem pe_fn0 (h : Has X.prog X.w X.K X.mg X.base x k sp) (hr : Room k X.A) (hg : Gl X x) (hdb : (x == ("__debug__" : Str)) = false := by decide) : PE X (.Call (.Name x p) [] [] pos) (tCall sp [] E0 tNil) := by
  obtain ⟨f, fd, ps, h1, h2, h3, h4⟩ := h.ex
  exact pe_call0 h4 hr hg h1 h2 h3 .nil pass0 hdb
theorem pe_constI {i : Int} (hm : ∃ t, X.mg x = some (.int i t)) (hg : Gl X x) (hd : (x == ("__debug__" : Str)) = false := by decide) : PE X (.Name x pos) (tC (.int i)) := by
  obtain ⟨t, hm⟩ := hm
  exact pe_glob hg hm ⟨t, rfl⟩ hd
end

/-! ### promises by their arguments -/
def Sp0 (R : Hp → VK → Prop) : Sp := fun vs H Q _ => vs = [] ∧ R H Q
def Sp1 (R : V → Hp → VK → Prop) : Sp := fun vs H Q _ => ∃ a, vs = [a] ∧ R a H Q
def Sp2 (R : V → V → Hp → VK → Prop) : Sp := fun vs H Q _ => ∃ a b, vs = [a, b] ∧ R a b H Q
def Sp3 (R : V → V → V → Hp → VK → Prop) : Sp := fun vs H Q _ => ∃ a b c, vs = [a, b, c] ∧ R a b c H Q
def Sp4 (R : V → V → V → V → Hp → VK → Prop) : Sp := fun vs H Q _ => ∃ a b c d, vs = [a, b, c, d] ∧ R a b c d H Q
def Sp5 (R : V → V → V → V → V → Hp → VK → Prop) : Sp := fun vs H Q _ => ∃ a b c d e, vs = [a, b, c, d, e] ∧ R a b c d e H Q
section
variable {vs : List V} {H : Hp} {Q : VK} {E : XK}
theorem len0 {R} (h : Sp0 R vs H Q E) : vs.length = 0 := by obtain ⟨rfl, _⟩ := h; rfl
theorem len1 {R} (h : Sp1 R vs H Q E) : vs.length = 1 := by obtain ⟨_, rfl, _⟩ := h; rfl
theorem len2 {R} (h : Sp2 R vs H Q E) : vs.length = 2 := by obtain ⟨_, _, rfl, _⟩ := h; rfl
theorem len3 {R} (h : Sp3 R vs H Q E) : vs.length = 3 := by obtain ⟨_, _, _, rfl, _⟩ := h; rfl
theorem len4 {R} (h : Sp4 R vs H Q E) : vs.length = 4 := by obtain ⟨_, _, _, _, rfl, _⟩ := h; rfl
theorem len5 {R} (h : Sp5 R vs H Q E) : vs.length = 5 := by obtain ⟨_, _, _, _, _, rfl, _⟩ := h; rfl
end

/-! ### operators that ask their operands' kind late -/
section
variable {X : Cx}
def rAddA : R2 := fun x y H Q => rI0 (fun i j => .int (i + j)) x y H Q ∨ rCat x y H Q
theorem op_addA : OpR X (binaryOp .Add) rAddA := op_add.or op_cat
def rMulA : R2 := fun x y H Q => rI CMul (fun i j => .int (i * j)) x y H Q ∨ rRep x y H Q
theorem op_mulA : OpR X (binaryOp .Mult) rMulA := op_mul.or op_rep
def rDivA : R2 := fun x y H Q => rI CDiv (fun i j => .int (i / j)) x y H Q ∨ rI CDivW (fun i j => .int (i / j)) x y H Q
theorem op_fdivA : OpR X (binaryOp .FloorDiv) rDivA := op_fdiv.or op_fdivW
def rModA : R2 := rI (fun _ j => 0 < j) fun i j => .int (i % j)
theorem op_modA : OpR X (binaryOp .Mod) rModA := op_mod
def rPowA : R2 := rI CPow fun i j => .int (i ^ j.toNat)
theorem op_powA : OpR X (binaryOp .Pow) rPowA := op_pow
def rEqA (K : PySem.W.Frag) : R2 := fun x y H Q => rEq x y H Q ∨ rEqD K x y H Q
theorem op_eqA (hu : X.A.units + 64 < cLine) : OpR X (compareOp .Eq) (rEqA X.K) := op_eq.or (op_eqD hu)
def rNeA (K : PySem.W.Frag) : R2 := fun x y H Q => rNe x y H Q ∨ rNeD K x y H Q
theorem op_neA (hu : X.A.units + 64 < cLine) : OpR X (compareOp .NotEq) (rNeA X.K) := op_ne.or (op_neD hu)
end

def rLen (K : PySem.W.Frag) : List V → Hp → VK → Prop := fun xs H Q => ∃ p ys, xs = [.ref p] ∧ (SqL K H p ys ∨ SqT K H p ys) ∧ Q (.int (ys.length : Nat)) H
def rLst (K : PySem.W.Frag) : List V → Hp → VK → Prop := fun xs H Q => ∃ p ys, xs = [.ref p] ∧ (SqL K H p ys ∨ SqT K H p ys) ∧ ∀ l, H l = none → Q (.ref l) (upd H l (.lst ys))
def rInt : List V → Hp → VK → Prop := fun xs H Q => (∃ i, xs = [.int i] ∧ Q (.int i) H) ∨ ∃ k, xs = [.bl k] ∧ Q (.int (if k then 1 else 0)) H
def tTru (K : PySem.W.Frag) (ta : TE) : TT := fun σ H Q => ta σ H fun x H' => ∃ k, TruV K x H' k ∧ Q k H'
/-! ### steps -/
section
variable {K : PySem.W.Frag} {σ : L2.St} {H : Hp} {Q : VK} {ta tb te tc : TE} {v x y : V} {r : R2} {D : Ends} {t u : TS} {c d : TT} {i : Nat} {P : Bool → Hp → Prop}
theorem w_seq (h : t { D with nx := u D } σ H) : tSeq t u D σ H := h
theorem w_cut (M : L2.St → Hp → Prop) (h : t { D with nx := M } σ H) (k : ∀ σ' H', M σ' H' → u D σ' H') : tCut t u D σ H := ⟨M, h, k⟩
theorem w_asg (h : te σ H fun v H' => D.nx (σ.set i (some v)) H') : tAsg te (gName i) D σ H := h
theorem w_ret (h : te σ H D.rt) : tRet te D σ H := h
theorem w_if (h : c σ H fun b H1 => if b = true then t D σ H1 else u D σ H1) : tIfS c t u D σ H := h
theorem w_drop (h : te σ H fun _ H1 => D.nx σ H1) : tDrop te D σ H := h
theorem w_next (h : D.nx σ H) : tNext D σ H := h
theorem w_brk (h : D.bk σ H) : tBreak D σ H := h
theorem w_cont (h : D.ct σ H) : tCont D σ H := h
theorem w_var (e : σ[i]? = some (some v)) (h : Q v H) : tVar i σ H Q := ⟨v, e, h⟩
theorem w_c (h : Q v H) : tC v σ H Q := h
theorem w_op (h : ta σ H fun x H1 => tb σ H1 fun y H2 => r x y H2 Q) : tOp r ta tb σ H Q := h
theorem w_un {r : V → Hp → VK → Prop} (h : ta σ H fun x H1 => r x H1 Q) : tUn r ta σ H Q := h
theorem w_neg {i : Int} (h : Q (.int (-i)) H) : rU (fun i => .int (-i)) (.int i) H Q := ⟨i, rfl, h⟩
theorem w_test (h : te σ H fun x H1 => ∃ k, x = .bl k ∧ P k H1) : tTest te σ H P := h
theorem w_bl {b : Bool} (h : P b H) : ∃ k, V.bl b = .bl k ∧ P k H := ⟨b, rfl, h⟩
theorem w_bl0 {b : Bool} {A : Bool → Prop} (h : A b) : ∃ c, V.bl b = .bl c ∧ A c := ⟨b, rfl, h⟩
theorem w_and (h : c σ H fun b H1 => if b = true then d σ H1 P else P false H1) : tAnd c d σ H P := h
theorem w_or (h : c σ H fun b H1 => if b = true then P true H1 else d σ H1 P) : tOr c d σ H P := h
theorem w_not (h : c σ H fun b H1 => P (!b) H1) : tNot c σ H P := h
theorem w_andV (h : ta σ H fun x H1 => ∃ c, x = .bl c ∧ if c = true then tb σ H1 Q else Q (.bl false) H1) : tAndV ta tb σ H Q := h
theorem w_orV (h : ta σ H fun x H1 => ∃ c, x = .bl c ∧ if c = true then Q (.bl true) H1 else tb σ H1 Q) : tOrV ta tb σ H Q := h
theorem w_notV (h : ta σ H fun x H1 => ∃ c, x = .bl c ∧ Q (.bl (!c)) H1) : tNotV ta σ H Q := h
theorem w_ifE (h : c σ H fun b H1 => if b = true then ta σ H1 Q else tb σ H1 Q) : tIf c ta tb σ H Q := h
theorem w_I0 {g : Int → Int → V} {i j : Int} (h : Q (g i j) H) : rI0 g (.int i) (.int j) H Q := ⟨i, j, rfl, rfl, h⟩
theorem w_addI {i j : Int} (h : Q (.int (i + j)) H) : rAddA (.int i) (.int j) H Q := .inl ⟨i, j, rfl, rfl, h⟩
theorem w_mulI {i j : Int} (hc : CMul i j) (h : Q (.int (i * j)) H) : rMulA (.int i) (.int j) H Q := .inl ⟨i, j, rfl, rfl, hc, h⟩
theorem w_divI {i j : Int} (h0 : 0 < j) (h1 : j < 1073741824) (h : Q (.int (i / j)) H) : rDivA (.int i) (.int j) H Q := .inl ⟨i, j, rfl, rfl, ⟨h0, h1⟩, h⟩
theorem w_divW {i j : Int} (hc : CDivW i j) (h : Q (.int (i / j)) H) : rDivA (.int i) (.int j) H Q := .inr ⟨i, j, rfl, rfl, hc, h⟩
theorem w_modI {i j : Int} (h0 : 0 < j) (h : Q (.int (i % j)) H) : rModA (.int i) (.int j) H Q := ⟨i, j, rfl, rfl, h0, h⟩
theorem w_powI {i j : Int} (hc : CPow i j) (h : Q (.int (i ^ j.toNat)) H) : rPowA (.int i) (.int j) H Q := ⟨i, j, rfl, rfl, hc, h⟩
theorem w_eqI {i j : Int} (h : Q (.bl (decide (i = j))) H) : rEqA K (.int i) (.int j) H Q := .inl ⟨rfl, by
  have e : decide (V.int i = V.int j) = decide (i = j) := by simp
  rw [e]; exact h⟩
theorem w_neI {i j : Int} (h : Q (.bl (!decide (i = j))) H) : rNeA K (.int i) (.int j) H Q := .inl ⟨rfl, by
  have e : decide (V.int i = V.int j) = decide (i = j) := by simp
  rw [e]; exact h⟩
theorem w_chain {r r' : R2} (h : ta σ H fun x H1 => tb σ H1 fun y H2 => r x y H2 fun z H3 => ∃ k, z = .bl k ∧ if k = true then tc σ H3 fun u H4 => r' y u H4 Q else Q (.bl false) H3) : tChain r r' ta tb tc σ H Q := h
/-- a test that is known -/
theorem w_ite {p A B : Prop} [Decidable p] (h1 : p → A) (h2 : ¬ p → B) : if decide p = true then A else B := by
  by_cases h : p
  · rw [if_pos (decide_eq_true h)]; exact h1 h
  · rw [if_neg (by simpa using h)]; exact h2 h
theorem w_iteN {p A B : Prop} [Decidable p] (h1 : ¬ p → A) (h2 : p → B) : if (!decide p) = true then A else B := by
  by_cases h : p
  · rw [if_neg (by simpa using h)]; exact h2 h
  · rw [if_pos (by simpa using h)]; exact h1 h
theorem w_iteB {b : Bool} {A B : Prop} (h1 : b = true → A) (h2 : b = false → B) : if b = true then A else B := by
  cases b with
  | true => rw [if_pos rfl]; exact h1 rfl
  | false => rw [if_neg Bool.false_ne_true]; exact h2 rfl
theorem w_iteBN {b : Bool} {A B : Prop} (h1 : b = false → A) (h2 : b = true → B) : if (!b) = true then A else B := by
  cases b with
  | true => exact iteF (h2 rfl)
  | false => exact iteT (h1 rfl)
theorem w_true {A B : Prop} (h : A) : if true = true then A else B := iteT h
theorem w_false {A B : Prop} (h : B) : if false = true then A else B := iteF h
theorem w_notT {A B : Prop} (h : B) : if (!true) = true then A else B := iteF h
theorem w_notF {A B : Prop} (h : A) : if (!false) = true then A else B := iteT h

/-! arguments, calls -/
variable {tx : TA} {R : List V → Hp → Prop}
theorem w_nil (h : R [] H) : tNil σ H R := h
theorem w_cons (h : ta σ H fun x H1 => tx σ H1 fun xs H2 => R (x :: xs) H2) : tCons ta tx σ H R := h
theorem w_call {sp : Sp} {dvs : List V} {E : XK} (h : tx σ H fun vs H1 => sp (vs ++ dvs) H1 Q E) : tCall sp dvs E tx σ H Q := h
theorem w_cb {r : List V → Hp → VK → Prop} (h : tx σ H fun vs H1 => r vs H1 Q) : tCB r tx σ H Q := h
/-! new objects: the heap behind is a letter -/
def New (o : HO) (H : Hp) (Q : Addr → Hp → Prop) : Prop := ∀ p H', H p = none → Ex H H' → H' p = some o → Q p H'
theorem New.go {o : HO} {Q : Addr → Hp → Prop} (h : New o H Q) : ∀ p, H p = none → Q p (upd H p o) := fun p hp => h p _ hp (Ex.new hp) upd_same
theorem w_lst (h : tx σ H fun xs H1 => xs.length ≤ sizeLine ∧ ∀ p, H1 p = none → Q (.ref p) (upd H1 p (.lst xs))) : tLst tx σ H Q := h
theorem w_tup (h : tx σ H fun xs H1 => xs.length ≤ sizeLine ∧ ∀ p, H1 p = none → Q (.ref p) (upd H1 p (.tup xs))) : tTup tx σ H Q := h
theorem w_newL {xs : List V} (hl : xs.length ≤ 1000) (h : ∀ p H', H p = none → Ex H H' → H' p = some (.lst xs) → Q (.ref p) H') : xs.length ≤ sizeLine ∧ ∀ p, H p = none → Q (.ref p) (upd H p (.lst xs)) :=
  ⟨Nat.le_trans hl (by decide), fun p hp => h p _ hp (Ex.new hp) upd_same⟩
theorem w_newT {xs : List V} (hl : xs.length ≤ 1000) (h : ∀ p H', H p = none → Ex H H' → H' p = some (.tup xs) → Q (.ref p) H') : xs.length ≤ sizeLine ∧ ∀ p, H p = none → Q (.ref p) (upd H p (.tup xs)) :=
  ⟨Nat.le_trans hl (by decide), fun p hp => h p _ hp (Ex.new hp) upd_same⟩
theorem w_newX {o : HO} {n m : Nat} {G : Addr → Prop} (hl : n ≤ m) (h : ∀ p H', H p = none → Ex H H' → H' p = some o → H' = upd H p o → G p) (hG : ∀ p, G p → G p := by intro _ q; exact q) : n ≤ m ∧ ∀ p, H p = none → G p :=
  ⟨hl, fun p hp => h p _ hp (Ex.new hp) upd_same rfl⟩
theorem w_newXL {xs : List V} {m : Nat} {G : Addr → Prop} (hl : xs.length ≤ m) (h : ∀ p H', H p = none → Ex H H' → H' p = some (.lst xs) → H' = upd H p (.lst xs) → G p) : xs.length ≤ m ∧ ∀ p, H p = none → G p :=
  ⟨hl, fun p hp => h p _ hp (Ex.new hp) upd_same rfl⟩
theorem w_newXT {xs : List V} {m : Nat} {G : Addr → Prop} (hl : xs.length ≤ m) (h : ∀ p H', H p = none → Ex H H' → H' p = some (.tup xs) → H' = upd H p (.tup xs) → G p) : xs.length ≤ m ∧ ∀ p, H p = none → G p :=
  ⟨hl, fun p hp => h p _ hp (Ex.new hp) upd_same rfl⟩
theorem w_newY {o : HO} {G : Addr → Prop} (h : ∀ p H', H p = none → Ex H H' → H' p = some o → H' = upd H p o → G p) : ∀ p, H p = none → G p :=
  fun p hp => h p _ hp (Ex.new hp) upd_same rfl
theorem le_line {n : Nat} (h : n ≤ 100000) : n ≤ sizeLine := Nat.le_trans h (by decide)
/-! lists -/
theorem w_ixC {a : Addr} {xs : List V} {i : Int} (h : SqL K H a xs) (hv : atI xs i = some v) (k : Q v H) : rIx K (.ref a) (.int i) H Q := .inl ⟨a, xs, i, v, rfl, rfl, h, hv, k⟩
theorem w_ixT {a : Addr} {xs : List V} {i : Int} (h : SqT K H a xs) (hv : atI xs i = some v) (k : Q v H) : rIx K (.ref a) (.int i) H Q := .inr (.inl ⟨a, xs, i, v, rfl, rfl, h, hv, k⟩)
theorem at_nat {α : Type} {xs : List α} {i : Int} {v : α} (h0 : 0 ≤ i) (h : xs[i.toNat]? = some v) : atI xs i = some v := by
  have e : ((i.toNat : Nat) : Int) = i := Int.toNat_of_nonneg h0
  have q := atI_nat (j := i.toNat) h
  rw [e] at q
  exact q
theorem w_ixI {a : Addr} {ns : List Int} {i : Int} (h : SqL K H a (ns.map V.int)) (h0 : 0 ≤ i) (h1 : i < ns.length) (k : ∀ n, ns[i.toNat]? = some n → Q (.int n) H) : rIx K (.ref a) (.int i) H Q := by
  have hl : i.toNat < ns.length := by omega
  refine w_ixC h (v := .int ns[i.toNat]) (at_nat h0 ?_) (k _ (List.getElem?_eq_getElem hl))
  rw [List.getElem?_map, List.getElem?_eq_getElem hl]
  rfl
theorem w_ixA {a : Addr} {ns : List Int} {i n : Int} {j : Nat} (h : SqL K H a (ns.map V.int)) (hv : ns[j]? = some n) (e : i = (j : Int)) (k : Q (.int n) H) : rIx K (.ref a) (.int i) H Q := by
  subst e
  refine w_ixC h (atI_nat (j := j) ?_) k
  rw [List.getElem?_map, hv]
  rfl
/-- the part of a list that a slice takes -/
def cut {α : Type} (xs : List α) (lo hi : Option Int) : List α := (xs.drop (HT.sIx xs.length 0 lo)).take (HT.sIx xs.length xs.length hi - HT.sIx xs.length 0 lo)
theorem cutV_map {ns : List Int} {lo hi : Option Int} : cutV (ns.map V.int) lo hi = (cut ns lo hi).map V.int := by
  unfold cutV cut
  rw [List.length_map, List.map_take, List.map_drop]
theorem sIx_of {n d : Nat} {i : Int} (h : 0 ≤ i) : HT.sIx n d (some i) = min i.toNat n := by
  have e : ((i.toNat : Nat) : Int) = i := Int.toNat_of_nonneg h
  have q := HT.sIx_nat n d i.toNat
  rw [e] at q
  exact q
theorem take_min {α : Type} (xs : List α) (k : Nat) : xs.take (min k xs.length) = xs.take k := by
  by_cases h : k ≤ xs.length
  · rw [Nat.min_eq_left h]
  · rw [Nat.min_eq_right (by omega), List.take_of_length_le (Nat.le_refl _), List.take_of_length_le (by omega)]
theorem drop_min {α : Type} (xs : List α) (k : Nat) : xs.drop (min k xs.length) = xs.drop k := by
  by_cases h : k ≤ xs.length
  · rw [Nat.min_eq_left h]
  · rw [Nat.min_eq_right (by omega), List.drop_of_length_le (Nat.le_refl _), List.drop_of_length_le (by omega)]
theorem cut_hi {α : Type} {xs : List α} {i : Int} (h : 0 ≤ i) : cut xs none (some i) = xs.take i.toNat := by
  unfold cut
  rw [sIx_of h, HT.sIx_none, List.drop_zero, Nat.sub_zero, take_min]
theorem cut_lo {α : Type} {xs : List α} {i : Int} (h : 0 ≤ i) : cut xs (some i) none = xs.drop i.toNat := by
  unfold cut
  rw [sIx_of h, HT.sIx_none, drop_min]
  refine List.take_of_length_le ?_
  rw [List.length_drop]
  omega
theorem cut_both {α : Type} {xs : List α} {i j : Int} (h : 0 ≤ i) (h2 : 0 ≤ j) : cut xs (some i) (some j) = (xs.take j.toNat).drop i.toNat := by
  unfold cut
  rw [sIx_of h, sIx_of h2, drop_min, List.drop_take]
  by_cases hj : j.toNat ≤ xs.length
  · rw [Nat.min_eq_left hj]
    by_cases hi : i.toNat ≤ xs.length
    · rw [Nat.min_eq_left hi]
    · rw [List.drop_of_length_le (by omega), List.take_nil, List.take_nil]
  · rw [Nat.min_eq_right (show xs.length ≤ j.toNat by omega)]
    rw [List.take_of_length_le (l := xs.drop i.toNat) (i := j.toNat - i.toNat) (by rw [List.length_drop]; omega)]
    refine List.take_of_length_le ?_
    rw [List.length_drop]
    omega
theorem w_sl {te : TE} {tl th : TO} {r : V → Option Int → Option Int → Hp → VK → Prop} (h : te σ H fun x H1 => tl σ H1 fun l H2 => th σ H2 fun u H3 => r x l u H3 Q) : tSl r te tl th σ H Q := h
theorem w_noPart {Q : Option Int → Hp → Prop} (h : Q none H) : tNoPart σ H Q := h
theorem w_part {Q : Option Int → Hp → Prop} (h : te σ H fun x H1 => ∃ i, x = .int i ∧ Q (some i) H1) : tPart te σ H Q := h
theorem w_some {i : Int} {Q : Option Int → Hp → Prop} (h : Q (some i) H) : ∃ j, V.int i = .int j ∧ Q (some j) H := ⟨i, rfl, h⟩
theorem w_some0 {i : Int} {A : Int → Prop} (h : A i) : ∃ j, V.int i = .int j ∧ A j := ⟨i, rfl, h⟩
theorem w_slI {a : Addr} {ns : List Int} {lo hi : Option Int} (h : SqL K H a (ns.map V.int)) (k : ∀ p H', H p = none → Ex H H' → H' p = some (.lst ((cut ns lo hi).map V.int)) → Q (.ref p) H') : rSlL K (.ref a) lo hi H Q :=
  ⟨a, _, rfl, h, fun p hp => by rw [cutV_map]; exact k p _ hp (Ex.new hp) upd_same⟩
theorem w_slHi {a : Addr} {ns : List Int} {i : Int} (h : SqL K H a (ns.map V.int)) (h0 : 0 ≤ i) (k : ∀ p H', H p = none → Ex H H' → H' p = some (.lst ((ns.take i.toNat).map V.int)) → Q (.ref p) H') : rSlL K (.ref a) none (some i) H Q :=
  w_slI h (by rw [cut_hi h0]; exact k)
theorem w_slLo {a : Addr} {ns : List Int} {i : Int} (h : SqL K H a (ns.map V.int)) (h0 : 0 ≤ i) (k : ∀ p H', H p = none → Ex H H' → H' p = some (.lst ((ns.drop i.toNat).map V.int)) → Q (.ref p) H') : rSlL K (.ref a) (some i) none H Q :=
  w_slI h (by rw [cut_lo h0]; exact k)
theorem w_slBo {a : Addr} {ns : List Int} {i j : Int} (h : SqL K H a (ns.map V.int)) (h0 : 0 ≤ i) (h1 : 0 ≤ j) (k : ∀ p H', H p = none → Ex H H' → H' p = some (.lst (((ns.take j.toNat).drop i.toNat).map V.int)) → Q (.ref p) H') : rSlL K (.ref a) (some i) (some j) H Q :=
  w_slI h (by rw [cut_both h0 h1]; exact k)
theorem w_catI {a b : Addr} {ns ms : List Int} (h : H a = some (.lst (ns.map V.int))) (h' : H b = some (.lst (ms.map V.int))) (hl : ns.length + ms.length ≤ 100000) (k : ∀ p H', H p = none → Ex H H' → H' p = some (.lst ((ns ++ ms).map V.int)) → Q (.ref p) H') :
    rAddA (.ref a) (.ref b) H Q := .inr ⟨a, b, _, _, rfl, rfl, h, h', by rw [List.length_map, List.length_map]; exact Nat.le_trans hl (by decide), fun p hp => by rw [← List.map_append]; exact k p _ hp (Ex.new hp) upd_same⟩
theorem w_lenI {a : Addr} {ns : List Int} (h : SqL K H a (ns.map V.int)) (k : Q (.int ns.length) H) : rLen K [V.ref a] H Q := ⟨a, _, rfl, .inl h, by rw [List.length_map]; exact k⟩
theorem w_lenT {a : Addr} {xs : List V} (h : SqT K H a xs) (k : Q (.int xs.length) H) : rLen K [V.ref a] H Q := ⟨a, _, rfl, .inr h, k⟩
theorem w_int1 {i : Int} (k : Q (.int i) H) : rInt [V.int i] H Q := .inl ⟨i, rfl, k⟩
theorem w_int2 {b : Bool} (k : Q (.int (if b then 1 else 0)) H) : rInt [V.bl b] H Q := .inr ⟨b, rfl, k⟩
theorem w_sum {a : Addr} {ns : List Int} (h : SqL K H a (ns.map V.int)) (k : Q (.int ns.sum) H) : rSum K [.ref a] H Q := ⟨a, ns, rfl, h, k⟩
theorem w_listI {a : Addr} {ns : List Int} (h : SqL K H a (ns.map V.int)) (k : ∀ p H', H p = none → Ex H H' → H' p = some (.lst (ns.map V.int)) → Q (.ref p) H') :
    rLst K [V.ref a] H Q := ⟨a, _, rfl, .inl h, fun p hp => k p _ hp (Ex.new hp) upd_same⟩
theorem ty_lst {a : Addr} {xs : List V} (h : SqL K H a xs) : TyX K H (.ref a) (.type "list") := by
  rcases h with (h | ⟨o, h⟩) | ⟨o, its, n, h, c, _⟩
  · exact .base (.lst h)
  · exact .base (.frz h)
  · exact .kList h c
theorem ty_tup {a : Addr} {xs : List V} (h : H a = some (.tup xs)) : TyX K H (.ref a) (.type "tuple") := .base (.tup h)
theorem w_isi {T U : String} {b : Bool} (h : TyX K H x (.type T)) (e : kitB T U = some b) (k : Q (.bl b) H) : rIsi K [x, .ty U] H Q := ⟨x, _, _, _, b, rfl, .ty U, h, kit_ty e, k⟩
theorem w_isiI {i : Int} {U : String} {b : Bool} (e : kitB "int" U = some b) (k : Q (.bl b) H) : rIsi K [.int i, .ty U] H Q := w_isi (.base (.int i)) e k
theorem w_isiL {a : Addr} {xs : List V} {U : String} {b : Bool} (h : SqL K H a xs) (e : kitB "list" U = some b) (k : Q (.bl b) H) : rIsi K [.ref a, .ty U] H Q := w_isi (ty_lst h) e k
theorem w_isiT {a : Addr} {xs : List V} {U : String} {b : Bool} (h : H a = some (.tup xs)) (e : kitB "tuple" U = some b) (k : Q (.bl b) H) : rIsi K [.ref a, .ty U] H Q := w_isi (ty_tup h) e k
theorem w_isi_ii {i : Int} (k : Q (.bl true) H) : rIsi K [.int i, .ty "int"] H Q := w_isiI (by decide +kernel) k
theorem w_isi_ib {i : Int} (k : Q (.bl false) H) : rIsi K [.int i, .ty "bool"] H Q := w_isiI (by decide +kernel) k
theorem w_isi_ll {a : Addr} {xs : List V} (h : SqL K H a xs) (k : Q (.bl true) H) : rIsi K [.ref a, .ty "list"] H Q := w_isiL h (by decide +kernel) k
theorem w_isi_tt {a : Addr} {xs : List V} (h : H a = some (.tup xs)) (k : Q (.bl true) H) : rIsi K [.ref a, .ty "tuple"] H Q := w_isiT h (by decide +kernel) k
/-! data compared -/
theorem dp_ints {ns : List Int} : DpAll K H (ns.map V.int) (ns.map PyData.int) := by
  induction ns with
  | nil => exact .nil
  | cons n ns ih => exact .cons (.int n) ih
theorem dp_list {a : Addr} {ns : List Int} (h : SqL K H a (ns.map V.int)) : Dp K H (.ref a) (.list (ns.map PyData.int)) := .lst h dp_ints
theorem shaped_ints (ns : List Int) : SeqAt.shaped (.list (ns.map PyData.int)) = true := by
  have h1 : PyData.canLayAll0 (ns.map PyData.int) = true := by
    induction ns with
    | nil => rfl
    | cons n ns ih => simp [PyData.canLayAll0, PyData.canLay0, ih]
  have h2 : PyData.depthAll (ns.map PyData.int) ≤ 1 := by
    induction ns with
    | nil => simp [PyData.depthAll]
    | cons n ns ih => simp [PyData.depthAll, PyData.depth]; simp [PyData.canLayAll0] at h1; exact ih h1.2
  unfold SeqAt.shaped
  rw [Bool.and_eq_true, decide_eq_true_eq]
  refine ⟨by simpa [PyData.canLay0] using h1, ?_⟩
  show PyData.depth (.list (ns.map PyData.int)) ≤ 64
  simp [PyData.depth]
  omega
theorem eqv_ints : ∀ (ns ms : List Int), PyData.eqvAll (ns.map PyData.int) (ms.map PyData.int) = decide (ns = ms)
  | [], [] => by simp [PyData.eqvAll]
  | [], _ :: _ => by simp [PyData.eqvAll]
  | _ :: _, [] => by simp [PyData.eqvAll]
  | n :: ns, m :: ms => by
    simp only [List.map_cons, PyData.eqvAll, PyData.eqv, eqv_ints ns ms, List.cons.injEq, Bool.decide_and]
    rw [Bool.beq_eq_decide_eq]
theorem w_eqL {a b : Addr} {ns ms : List Int} (h : SqL K H a (ns.map V.int)) (h' : SqL K H b (ms.map V.int)) (k : Q (.bl (decide (ns = ms))) H) : rEqA K (.ref a) (.ref b) H Q :=
  .inr ⟨_, _, dp_list h, dp_list h', shaped_ints _, shaped_ints _, by rw [PyData.eqv, eqv_ints]; exact k⟩
theorem w_neL {a b : Addr} {ns ms : List Int} (h : SqL K H a (ns.map V.int)) (h' : SqL K H b (ms.map V.int)) (k : Q (.bl (!decide (ns = ms))) H) : rNeA K (.ref a) (.ref b) H Q :=
  .inr ⟨_, _, dp_list h, dp_list h', shaped_ints _, shaped_ints _, by rw [PyData.eqv, eqv_ints]; exact k⟩
theorem get_map {ns : List Int} {i : Nat} {v : V} (h : (ns.map V.int)[i]? = some v) : ∃ e, ns[i]? = some e ∧ v = .int e := by
  rw [List.getElem?_map] at h
  cases q : ns[i]? with
  | none => rw [q] at h; cases h
  | some e => rw [q] at h; exact ⟨e, rfl, (Option.some.inj h).symm⟩
/-! tests by their truth -/
theorem w_tru (h : ta σ H fun x H' => ∃ k, TruV K x H' k ∧ P k H') : tTru K ta σ H P := h
theorem w_truB {b : Bool} (h : P b H) : ∃ k, TruV K (.bl b) H k ∧ P k H := ⟨b, rfl, h⟩
theorem w_truB0 {b : Bool} {A : Bool → Prop} (h : A b) : ∃ k, TruV K (.bl b) H k ∧ A k := ⟨b, rfl, h⟩
theorem w_truI {i : Int} (h : P (i != 0) H) : ∃ k, TruV K (.int i) H k ∧ P k H := ⟨_, rfl, h⟩
theorem w_truL {a : Addr} {xs : List V} (s : SqL K H a xs) (h : P (!xs.isEmpty) H) : ∃ k, TruV K (.ref a) H k ∧ P k H := ⟨_, .inl ⟨xs, s, rfl⟩, h⟩
/-! methods -/
theorem w_bm {T : String} {r : V → List V → Hp → VK → Prop} (h : ta σ H fun x H1 => tyV K T x H1 ∧ tx σ H1 fun xs H2 => r x xs H2 Q) : tBM K T r ta tx σ H Q := h
theorem w_bm0 {T : String} {r : V → List V → Hp → VK → Prop} (h : ta σ H fun x H1 => tyV K T x H1 ∧ r x [] H1 Q) : tBM0 K T r ta σ H Q := h
theorem w_ty {a : Addr} {xs : List V} {A : Prop} (s : SqL K H a xs) (h : A) : tyV K "list" (.ref a) H ∧ A := ⟨Or.inl ⟨rfl, xs, s⟩, h⟩
/-- the heap but for l -/
def Chg (l : Addr) (H H' : Hp) : Prop := ∀ a, a ≠ l → H' a = H a
theorem Chg.ex {l : Addr} {H0 H H' : Hp} (c : Chg l H H') (e : Ex H0 H) (h : H0 l = none) : Ex H0 H' := fun a o q => (c a (ne_of_none q h)).trans (e a o q)
theorem Chg.trans {l : Addr} {H1 H2 : Hp} (a : Chg l H H1) (b : Chg l H1 H2) : Chg l H H2 := fun x h => (b x h).trans (a x h)
theorem chg_upd {l : Addr} {o : HO} : Chg l H (upd H l o) := fun _ h => upd_ne h
theorem Chg.sq {l : Addr} {H' : Hp} {a : Addr} {xs : List V} (c : Chg l H H') (n : a ≠ l) (h : SqL K H a xs) : SqL K H' a xs := by
  rcases h with (h | ⟨o, h⟩) | h
  · exact .inl (.inl ((c a n).trans h))
  · exact .inl (.inr ⟨o, (c a n).trans h⟩)
  · exact .inr h
theorem w_app {l : Addr} {xs : List V} (h : H l = some (.lst xs)) (hl : xs.length ≤ 100000) (k : ∀ H', Chg l H H' → H' l = some (.lst (xs ++ [y])) → Q .non H') : rAppend (.ref l) [y] H Q :=
  ⟨l, xs, y, rfl, rfl, h, Nat.lt_of_le_of_lt hl (by decide), k _ chg_upd upd_same⟩
theorem w_appI {l : Addr} {ns : List Int} {i : Int} (h : H l = some (.lst (ns.map V.int))) (hl : ns.length ≤ 100000) (k : ∀ H', Chg l H H' → H' l = some (.lst ((ns ++ [i]).map V.int)) → Q .non H') : rAppend (.ref l) [.int i] H Q :=
  w_app h (by rw [List.length_map]; exact hl) fun H' c e => k H' c (by rw [e, List.map_append]; rfl)
/-- x[i] = e -/
theorem w_sub {to ti : TE} {w : V → V → V → Hp → (Hp → Prop) → Prop} (h : te σ H fun v H1 => to σ H1 fun o H2 => ti σ H2 fun i H3 => w o i v H3 fun H4 => D.nx σ H4) : tAsg te (gSub to ti w) D σ H := h
theorem w_setC {l : Addr} {xs : List V} {k : Int} {j : Nat} {Q : Hp → Prop} (h : H l = some (.lst xs)) (hk : ixN xs.length k = some j) (q : ∀ H', Chg l H H' → H' l = some (.lst (xs.set j v)) → Q H') : rSetL (.ref l) (.int k) v H Q :=
  ⟨l, xs, k, j, rfl, rfl, h, hk, q _ chg_upd upd_same⟩
/-! loops -/
def Loop (J : It) (g : TG) (tb : TS) (D : Ends) (σ : L2.St) (H : Hp) : Prop := ∃ W : Nat → Nat → L2.St → Hp → Prop, (∃ m, W 0 m σ H) ∧ ∀ i m σ H, W i m σ H →
  (J.stop i H ∧ D.nx σ H) ∨ (J.go i H ∧ ∃ N : L2.St → Hp → Prop, (∀ σ' H', N σ' H' → ∃ m', m' < m ∧ W (i + 1) m' σ' H') ∧ ∀ x H', J.yld i H x H' → g x σ H' fun σ2 H2 => tb { D with nx := N, ct := N, bk := D.nx } σ2 H2)
variable {wi : TI} {g : TG} {tb : TS} {J : It} {n : Nat} {G : Hp → Prop} {Y : Nat → Hp → V → Hp → Prop}
theorem w_for (h : wi σ H fun J H1 => Loop J g tb D σ H1) : tFor wi g tb D σ H := h
theorem w_loop (w : Walk J n G Y) (Pv : Nat → L2.St → Hp → Prop) (h0 : Pv 0 σ H) (hG : ∀ i σ H, i ≤ n → Pv i σ H → G H)
    (hs : ∀ i x σ H H', i < n → Pv i σ H → Y i H x H' → g x σ H' fun σ2 H2 => tb { D with nx := Pv (i + 1), ct := Pv (i + 1), bk := D.nx } σ2 H2) (hd : ∀ σ H, Pv n σ H → D.nx σ H) : Loop J g tb D σ H :=
  for_it w Pv h0 hG hs hd
theorem w_loopR {n : Nat} {j : Nat} (Pv : Nat → L2.St → Hp → Prop) (h0 : Pv 0 σ H)
    (hs : ∀ (i : Nat) σ H, i < n → Pv i σ H → tb { D with nx := Pv (i + 1), ct := Pv (i + 1), bk := D.nx } (σ.set j (some (.int (i : Int)))) H) (hd : ∀ σ H, Pv n σ H → D.nx σ H) : Loop (Itr 0 n) (gName j) tb D σ H :=
  w_loop walk_range Pv h0 (fun _ _ _ _ _ => trivial) (fun i x σ H H' hi p y => by
    obtain ⟨rfl, rfl⟩ := y
    have e : (0 : Int) + (i : Int) = (i : Int) := Int.zero_add _
    show tb { D with nx := Pv (i + 1), ct := Pv (i + 1), bk := D.nx } (σ.set j (some (.int ((0 : Int) + (i : Int))))) H'
    rw [e]
    exact hs i σ H' hi p) hd
theorem w_loopR2 {lo : Int} {n : Nat} {j : Nat} (Pv : Nat → L2.St → Hp → Prop) (h0 : Pv 0 σ H)
    (hs : ∀ (i : Nat) σ H, i < n → Pv i σ H → tb { D with nx := Pv (i + 1), ct := Pv (i + 1), bk := D.nx } (σ.set j (some (.int (lo + (i : Int))))) H) (hd : ∀ σ H, Pv n σ H → D.nx σ H) : Loop (Itr lo n) (gName j) tb D σ H :=
  w_loop walk_range Pv h0 (fun _ _ _ _ _ => trivial) (fun i x σ H H' hi p y => by
    obtain ⟨rfl, rfl⟩ := y
    exact hs i σ H' hi p) hd
def IRng (R : It → Hp → Prop) (vs : List V) (H : Hp) : Prop := ∃ j : Int, vs = [.int j] ∧ -(2 ^ 62) ≤ j ∧ j < 2 ^ 62 ∧ R (Itr 0 j.toNat) H
def IRng2 (R : It → Hp → Prop) (vs : List V) (H : Hp) : Prop := ∃ i j : Int, vs = [.int i, .int j] ∧ (-(2 ^ 62) ≤ i ∧ i < 2 ^ 62 ∧ -(2 ^ 62) ≤ j ∧ j < 2 ^ 62) ∧ R (Itr i (j - i).toNat) H
def ILst (K : PySem.W.Frag) (R : It → Hp → Prop) (x : V) (H : Hp) : Prop := ∃ a, x = .ref a ∧ (∃ xs, SqL K H a xs) ∧ R (Itl K a) H
def IEnu (K : PySem.W.Frag) (R : It → Hp → Prop) (vs : List V) (H : Hp) : Prop := ∃ a xs, vs = [.ref a] ∧ SqL K H a xs ∧ R (Ite K a) H
theorem w_iR1 {R : It → Hp → Prop} (h : tx σ H fun vs H1 => IRng R vs H1) : iRng1 tx σ H R := h
theorem w_iR2 {R : It → Hp → Prop} (h : tx σ H fun vs H1 => IRng2 R vs H1) : iRng2 tx σ H R := h
theorem w_iL {R : It → Hp → Prop} (h : ta σ H fun x H1 => ILst K R x H1) : iList K ta σ H R := h
theorem w_iE {R : It → Hp → Prop} (h : tx σ H fun vs H1 => IEnu K R vs H1) : iEnum K tx σ H R := h
theorem w_rng {R : It → Hp → Prop} {j : Int} (h0 : -(2 ^ 62) ≤ j) (h1 : j < 2 ^ 62) (h : R (Itr 0 j.toNat) H) : IRng R [.int j] H := ⟨j, rfl, h0, h1, h⟩
theorem w_rng2 {R : It → Hp → Prop} {i j : Int} (h0 : -(2 ^ 62) ≤ i) (h1 : i < 2 ^ 62) (h2 : -(2 ^ 62) ≤ j) (h3 : j < 2 ^ 62) (h : R (Itr i (j - i).toNat) H) : IRng2 R [.int i, .int j] H := ⟨i, j, rfl, ⟨h0, h1, h2, h3⟩, h⟩
theorem w_lstI {R : It → Hp → Prop} {a : Addr} {xs : List V} (s : SqL K H a xs) (h : R (Itl K a) H) : ILst K R (.ref a) H := ⟨a, rfl, ⟨xs, s⟩, h⟩
theorem w_enu {R : It → Hp → Prop} {a : Addr} {xs : List V} (s : SqL K H a xs) (h : R (Ite K a) H) : IEnu K R [.ref a] H := ⟨a, xs, rfl, s, h⟩
/-! comprehensions -/
def LcLoop (J : It) (g : TG) (tt : TT) (te : TE) (vs : List Nat) (σ : L2.St) (Q : VK) (H1 : Hp) : Prop := ∀ D, H1 D = none → ∃ W : Nat → Nat → Hp → Prop, (∃ m, W 0 m (upd H1 D (.lst []))) ∧ ∀ i m H, W i m H →
  (J.stop i H ∧ Q (.ref D) H) ∨ (J.go i H ∧ ∃ Nx : Hp → Prop, (∀ H', Nx H' → ∃ m', m' < m ∧ W (i + 1) m' H') ∧ ∀ x H', J.yld i H x H' → g x (wipe σ vs) H' fun σ2 H2 => wipe σ2 vs = wipe σ vs ∧ tt σ2 H2 fun b H3 =>
    if b = true then te σ2 H3 fun y H4 => ∃ acc, H4 D = some (.lst acc) ∧ acc.length < sizeLine ∧ Nx (upd H4 D (.lst (acc ++ [y]))) else Nx H3)
variable {tt : TT} {vs : List Nat}
theorem w_lc (h : wi σ H fun J H1 => LcLoop J g tt te vs σ Q H1) : tLc wi g tt te vs σ H Q := h
/-- the heap without the object at D -/
def del (D : Addr) (H : Hp) : Hp := fun a => if a = D then none else H a
theorem del_ne {D a : Addr} (h : a ≠ D) : del D H a = H a := if_neg h
theorem del_self {D : Addr} : del D H D = none := if_pos rfl
theorem del_ex {D : Addr} : Ex (del D H) H := fun a o q => by
  unfold del at q
  split at q
  · cases q
  · exact q
theorem ex_del {D : Addr} {H' : Hp} (e : Ex H H') (h : H D = none) : Ex H (del D H') := fun a o q => (del_ne (ne_of_none q h)).trans (e a o q)
/-- what stands ahead of turn i of a comprehension: P of the items made, over a heap B that does not know the new list D -/
def CPv (P : Nat → List V → Hp → Prop) (H : Hp) (D : Addr) (i : Nat) (H' : Hp) : Prop := ∃ acc B, Ex H B ∧ P i acc B ∧ B D = none ∧ Ex B H' ∧ H' D = some (.lst acc)
def CYes (P : Nat → List V → Hp → Prop) (H : Hp) (D : Addr) (i : Nat) (y : V) (H4 : Hp) : Prop := ∃ acc, H4 D = some (.lst acc) ∧ acc.length < sizeLine ∧ CPv P H D (i + 1) (upd H4 D (.lst (acc ++ [y])))
theorem cyes {P : Nat → List V → Hp → Prop} {D : Addr} {i : Nat} {H1 H4 : Hp} {acc : List V} (hD : H D = none) (e : Ex H H1) (hx : H1 D = some (.lst acc)) (hl : acc.length ≤ 100000) (e4 : Ex H1 H4) (p : P (i + 1) (acc ++ [y]) (del D H4)) : CYes P H D i y H4 :=
  ⟨acc, e4 D _ hx, Nat.lt_of_le_of_lt hl (by decide), acc ++ [y], del D H4, ex_del (e.trans e4) hD, p, del_self, fun a o q => by
    have na : a ≠ D := ne_of_none q del_self
    rw [upd_ne na]
    exact del_ex a o q, upd_same⟩
theorem cno {P : Nat → List V → Hp → Prop} {D : Addr} {i : Nat} {H1 H3 : Hp} {acc : List V} (hD : H D = none) (e : Ex H H1) (hx : H1 D = some (.lst acc)) (e4 : Ex H1 H3) (p : P (i + 1) acc (del D H3)) : CPv P H D (i + 1) H3 :=
  ⟨acc, del D H3, ex_del (e.trans e4) hD, p, del_self, del_ex, e4 D _ hx⟩
theorem w_comp (w : Walk J n G Y) (P : Nat → List V → Hp → Prop) (hY : ∀ i H x H', Y i H x H' → Ex H H') (hG : ∀ H', Ex H H' → G H') (h0 : P 0 [] H)
    (hs : ∀ i x acc D B H1 H', i < n → Ex H B → P i acc B → B D = none → Ex B H1 → H1 D = some (.lst acc) → H D = none → Y i H1 x H' → Ex H1 H' → g x (wipe σ vs) H' fun σ2 H2 => wipe σ2 vs = wipe σ vs ∧ tt σ2 H2 fun b H3 =>
      if b = true then te σ2 H3 (CYes P H D i) else CPv P H D (i + 1) H3)
    (hd : ∀ D B H' acc, H D = none → Ex H B → Ex B H' → B D = none → H' D = some (.lst acc) → P n acc B → Q (.ref D) H') : LcLoop J g tt te vs σ Q H := fun D hD =>
  lc_it w (CPv P H D) ⟨[], H, Ex.refl H, h0, hD, Ex.new hD, upd_same⟩ (fun i H' _ ⟨acc, B, e1, _, _, e2, _⟩ => hG H' (e1.trans e2)) (fun i x H1 H' hi ⟨acc, B, e1, p, b, e2, hx⟩ y => hs i x acc D B H1 H' hi e1 p b e2 hx hD y (hY i H1 x H' y))
    (fun H' ⟨acc, B, e1, p, b, e2, hx⟩ => hd D B H' acc hD e1 e2 b hx p)
/-! two clauses -/
def Inner (J1 : It) (g1 : TG) (tt1 : TT) (te : TE) (vs1 : List Nat) (σ2 : L2.St) (Nx : Hp → Prop) (D : Addr) (H4 : Hp) : Prop := ∃ W1 : Nat → Nat → Hp → Prop, (∃ m, W1 0 m H4) ∧ ∀ j k H, W1 j k H →
  (J1.stop j H ∧ Nx H) ∨ (J1.go j H ∧ ∃ Nx1 : Hp → Prop, (∀ H', Nx1 H' → ∃ k', k' < k ∧ W1 (j + 1) k' H') ∧ ∀ x H', J1.yld j H x H' → g1 x (wipe σ2 vs1) H' fun σ3 H5 => wipe σ3 vs1 = wipe σ2 vs1 ∧ tt1 σ3 H5 fun b H6 =>
    if b = true then te σ3 H6 fun y H7 => ∃ acc, H7 D = some (.lst acc) ∧ acc.length < sizeLine ∧ Nx1 (upd H7 D (.lst (acc ++ [y]))) else Nx1 H6)
def Lc2Loop (J : It) (g : TG) (tt : TT) (wi1 : TI) (g1 : TG) (tt1 : TT) (te : TE) (vs vs1 : List Nat) (σ : L2.St) (Q : VK) (H1 : Hp) : Prop := ∀ D, H1 D = none → ∃ W : Nat → Nat → Hp → Prop, (∃ m, W 0 m (upd H1 D (.lst []))) ∧ ∀ i m H, W i m H →
  (J.stop i H ∧ Q (.ref D) H) ∨ (J.go i H ∧ ∃ Nx : Hp → Prop, (∀ H', Nx H' → ∃ m', m' < m ∧ W (i + 1) m' H') ∧ ∀ x H', J.yld i H x H' → g x (wipe σ vs) H' fun σ2 H2 => wipe σ2 vs = wipe σ vs ∧ tt σ2 H2 fun b H3 =>
    if b = true then wi1 σ2 H3 fun J1 H4 => Inner J1 g1 tt1 te vs1 σ2 Nx D H4 else Nx H3)
theorem w_lc2 {wi1 : TI} {g1 : TG} {tt1 : TT} {vs1 : List Nat} (h : wi σ H fun J H1 => Lc2Loop J g tt wi1 g1 tt1 te vs vs1 σ Q H1) : tLc2 wi g tt wi1 g1 tt1 te vs vs1 σ H Q := h
theorem w_comp2 {wi1 : TI} {g1 : TG} {tt1 : TT} {vs1 : List Nat} (w : Walk J n G Y) (P : Nat → List V → Hp → Prop) (hY : ∀ i H x H', Y i H x H' → Ex H H') (hG : ∀ H', Ex H H' → G H') (h0 : P 0 [] H)
    (hs : ∀ i x acc D B H1 H', i < n → Ex H B → P i acc B → B D = none → Ex B H1 → H1 D = some (.lst acc) → H D = none → Y i H1 x H' → Ex H1 H' → g x (wipe σ vs) H' fun σ2 H2 => wipe σ2 vs = wipe σ vs ∧ tt σ2 H2 fun b H3 =>
      if b = true then wi1 σ2 H3 fun J1 H4 => Inner J1 g1 tt1 te vs1 σ2 (CPv P H D (i + 1)) D H4 else CPv P H D (i + 1) H3)
    (hd : ∀ D B H' acc, H D = none → Ex H B → Ex B H' → B D = none → H' D = some (.lst acc) → P n acc B → Q (.ref D) H') : Lc2Loop J g tt wi1 g1 tt1 te vs vs1 σ Q H := fun D hD => by
  refine ⟨fun i m H' => m = n - i ∧ i ≤ n ∧ CPv P H D i H', ⟨n, by simp, Nat.zero_le _, ⟨[], H, Ex.refl H, h0, hD, Ex.new hD, upd_same⟩⟩, ?_⟩
  rintro i m H' ⟨rfl, hi, p⟩
  obtain ⟨acc, B, e1, p, b, e2, hx⟩ := id p
  have q := hG H' (e1.trans e2)
  by_cases hlt : i < n
  · exact .inr ⟨w.goes i H' hlt q, CPv P H D (i + 1), fun H2 p' => ⟨n - (i + 1), by omega, rfl, hlt, p'⟩, fun x H2 y => hs i x acc D B H' H2 hlt e1 p b e2 hx hD (w.yields i H' x H2 hlt q y) (hY _ _ _ _ (w.yields i H' x H2 hlt q y))⟩
  · have e : i = n := by omega
    subst e
    exact .inl ⟨w.stops H' q, hd D B H' acc hD e1 e2 b hx p⟩
theorem w_inner {J1 : It} {n1 : Nat} {G1 : Hp → Prop} {Y1 : Nat → Hp → V → Hp → Prop} {g1 : TG} {tt1 : TT} {vs1 : List Nat} {D : Addr} {Nx : Hp → Prop} {Hb H4 : Hp} (w : Walk J1 n1 G1 Y1) (P : Nat → List V → Hp → Prop) (hY : ∀ i H x H', Y1 i H x H' → Ex H H') (hG : ∀ H', Ex Hb H' → G1 H')
    (hD : Hb D = none) (h0 : CPv P Hb D 0 H4)
    (hs : ∀ i x acc B H1 H', i < n1 → Ex Hb B → P i acc B → B D = none → Ex B H1 → H1 D = some (.lst acc) → Y1 i H1 x H' → Ex H1 H' → g1 x (wipe σ vs1) H' fun σ2 H2 => wipe σ2 vs1 = wipe σ vs1 ∧ tt1 σ2 H2 fun b H3 =>
      if b = true then te σ2 H3 (CYes P Hb D i) else CPv P Hb D (i + 1) H3)
    (hd : ∀ B H' acc, Ex Hb B → Ex B H' → B D = none → H' D = some (.lst acc) → P n1 acc B → Nx H') : Inner J1 g1 tt1 te vs1 σ Nx D H4 := by
  refine ⟨fun i m H' => m = n1 - i ∧ i ≤ n1 ∧ CPv P Hb D i H', ⟨n1, by simp, Nat.zero_le _, h0⟩, ?_⟩
  rintro i m H' ⟨rfl, hi, p⟩
  obtain ⟨acc, B, e1, p, b, e2, hx⟩ := id p
  have q := hG H' (e1.trans e2)
  by_cases hlt : i < n1
  · exact .inr ⟨w.goes i H' hlt q, CPv P Hb D (i + 1), fun H2 p' => ⟨n1 - (i + 1), by omega, rfl, hlt, p'⟩, fun x H2 y => hs i x acc B H' H2 hlt e1 p b e2 hx (w.yields i H' x H2 hlt q y) (hY _ _ _ _ (w.yields i H' x H2 hlt q y))⟩
  · have e : i = n1 := by omega
    subst e
    exact .inl ⟨w.stops H' q, hd B H' acc e1 e2 b hx p⟩
theorem w_gt2 {a : Addr} {i j : Nat} {x y : V} {Q : L2.St → Hp → Prop} (h : SqT K H a [x, y]) (k : Q ((σ.set i (some x)).set j (some y)) H) : gTup K 2 (gCons (gName i) (gCons (gName j) gNil)) (.ref a) σ H Q :=
  ⟨a, [x, y], rfl, h, rfl, x, [y], rfl, y, [], rfl, rfl, k⟩
theorem w_yes {P : Bool → Hp → Prop} (h : P true H) : tYes σ H P := h
/-! .. of ints -/
def PIs (P : Nat → List Int → Prop) : Nat → List V → Hp → Prop := fun i vs _ => ∃ acc : List Int, vs = acc.map V.int ∧ P i acc ∧ acc.length ≤ i
theorem w_compI (w : Walk J n G Y) (P : Nat → List Int → Prop) (hY : ∀ i H x H', Y i H x H' → Ex H H') (hG : ∀ H', Ex H H' → G H') (h0 : P 0 [])
    (hs : ∀ i x (acc : List Int) D H1 H', i < n → P i acc → acc.length ≤ i → Ex H H1 → H1 D = some (.lst (acc.map V.int)) → H D = none → Y i H1 x H' → Ex H1 H' → g x (wipe σ vs) H' fun σ2 H2 => wipe σ2 vs = wipe σ vs ∧ tt σ2 H2 fun b H3 =>
      if b = true then te σ2 H3 (CYes (PIs P) H D i) else CPv (PIs P) H D (i + 1) H3)
    (hd : ∀ D H' (acc : List Int), H D = none → Ex H H' → H' D = some (.lst (acc.map V.int)) → P n acc → acc.length ≤ n → Q (.ref D) H') : LcLoop J g tt te vs σ Q H :=
  w_comp w (PIs P) hY hG ⟨[], rfl, h0, Nat.zero_le _⟩ (fun i x acc D B H1 H' hi e1 ⟨ns, en, p, l⟩ b e2 hx hD y eY => by
    subst en
    exact hs i x ns D H1 H' hi p l (e1.trans e2) hx hD y eY) (fun D B H' acc hD e1 e2 b hx ⟨ns, en, p, l⟩ => by
    subst en
    exact hd D H' ns hD (e1.trans e2) hx p l)
theorem cyI {P : Nat → List Int → Prop} {D : Addr} {i : Nat} {H1 H4 : Hp} {acc : List Int} {m : Int} (hD : H D = none) (e : Ex H H1) (hx : H1 D = some (.lst (acc.map V.int))) (hl : acc.length ≤ i) (hi : i ≤ 100000) (e4 : Ex H1 H4) (p : P (i + 1) (acc ++ [m])) : CYes (PIs P) H D i (.int m) H4 :=
  cyes hD e hx (by rw [List.length_map]; omega) e4 ⟨acc ++ [m], by rw [List.map_append]; rfl, p, by rw [List.length_append]; exact Nat.succ_le_succ hl⟩
theorem cnI {P : Nat → List Int → Prop} {D : Addr} {i : Nat} {H1 H3 : Hp} {acc : List Int} (hD : H D = none) (e : Ex H H1) (hx : H1 D = some (.lst (acc.map V.int))) (hl : acc.length ≤ i) (e4 : Ex H1 H3) (p : P (i + 1) acc) : CPv (PIs P) H D (i + 1) H3 :=
  cno hD e hx e4 ⟨acc, rfl, p, Nat.le_succ_of_le hl⟩
theorem yAt {xs : List V} : ∀ i H x H', YAt xs i H x H' → Ex H H' := fun i H x H' y => by rw [y.1]; exact Ex.refl H
theorem yFn {f : Nat → V} : ∀ i H x H', YFn f i H x H' → Ex H H' := fun i H x H' y => by rw [y.1]; exact Ex.refl H
theorem yPair {xs ys : Nat → Option V} : ∀ i H x H', YPair xs ys i H x H' → Ex H H' := fun i H x H' ⟨T, a, b, h1, h2, h3, _⟩ => by rw [h3]; exact Ex.new h2
end
/-! ### a list that stands sealed: its items are known by a word alone -/
section
variable {P : Program} {w : World} {K : PySem.W.Frag} {mg : Str → Option Value} {base : Heap} {k : Nat} {f : Addr} {fd : FuncData} {ps : List Str} {sp sp' : Sp}
def SealP (t : Addr) (G : List V → Prop) (h : Heap) : Prop := ∃ xs, G xs ∧ xs.length ≤ sizeLine ∧ ∃ (its : List Value) (n : Nat), Vals xs its ∧ h.get? t = some { cls := .type "list", data := .seq its.toArray n }
def Sealed (t : Addr) (G : List V → Prop) : HO := .ext (SealP t G)
theorem stay_upd {H : Hp} {h : Heap} {t a : Addr} {o u : HO} (x : ObjOk P w H h a o) (hb : ∀ y, H t ≠ some (.own y)) (ht : ∀ xs, H t ≠ some (.tup xs)) : ObjOk P w (upd H t u) h a o :=
  x.stay (fun _ _ _ q => q) (fun b q => by rw [upd_ne (fun e => by subst e; exact hb _ q)]; exact q) fun b xs q => by rw [upd_ne (fun e => by subst e; exact ht _ q)]; exact q
theorem seal_open {H : Hp} {h : Heap} {t : Addr} {G : List V → Prop} (ok : HOk P w H h) (e : H t = some (Sealed t G)) : ∃ xs, G xs ∧ HOk P w (upd H t (.lst xs)) h := by
  obtain ⟨⟨xs, g, z, its, n, r, q⟩, _, _⟩ : SealP t G h ∧ (∃ o, h.get? t = some o) ∧ _ := ok t _ e
  refine ⟨xs, g, fun a o ea => ?_⟩
  by_cases ha : a = t
  · subst ha
    rw [upd_same] at ea
    cases ea
    exact ⟨z, its, n, r, q⟩
  · rw [upd_ne ha] at ea
    exact stay_upd (ok a o ea) (fun y q => by rw [e] at q; cases q) fun xs q => by rw [e] at q; cases q
theorem seal_close {H : Hp} {h : Heap} {t : Addr} {G : List V → Prop} {xs : List V} (ok : HOk P w H h) (e : H t = some (.lst xs)) (g : G xs) : HOk P w (upd H t (Sealed t G)) h := fun a o ea => by
  by_cases ha : a = t
  · subst ha
    rw [upd_same] at ea
    cases ea
    obtain ⟨z, its, n, r, q⟩ := ok a _ e
    exact ⟨⟨xs, g, z, its, n, r, q⟩, ⟨_, q⟩, fun h1 h2 ⟨xs, g, z, its, n, r, q⟩ hk => ⟨xs, g, z, its, n, r, hk _ q⟩⟩
  · rw [upd_ne ha] at ea
    exact stay_upd (ok a o ea) (fun y q => by rw [e] at q; cases q) fun xs q => by rw [e] at q; cases q
/-- a def that works on the list itself, called where it stands sealed -/
theorem fn_unseal (F : FnOk P w K mg base CX0 k f fd ps sp) (len : ∀ vs H Q E, sp' vs H Q E → vs.length = ps.length)
    (h : ∀ vs H Q E, sp' vs H Q E → ∃ t G, H t = some (Sealed t G) ∧ ∀ xs, G xs → sp vs (upd H t (.lst xs)) Q E) : FnOk P w K mg base CX0 k f fd ps sp' := by
  refine ⟨len, fun A outer s H args us vs Q E hr e0 hb hv hs => ?_⟩
  obtain ⟨t, G, et, hx⟩ := h vs H Q E hs
  obtain ⟨xs, g, ok⟩ := seal_open e0.hok et
  have nt : ∀ b, H b = none → b ≠ t := fun b q e => by rw [e, et] at q; cases q
  have e1 : Env0 P w K mg base A outer s (upd H t (.lst xs)) := ⟨e0.frames, e0.mod, fun b o q => ⟨(e0.bs b o q).1, by rw [upd_ne (nt b (e0.bs b o q).2)]; exact (e0.bs b o q).2⟩, e0.bsz, e0.funs, fun b q => by rw [upd_ne (nt b (e0.frf b q))]; exact e0.frf b q, ok, e0.bare⟩
  refine codeAny_mono (F.run A outer s _ args us vs Q E hr e1 hb hv (hx xs g)) fun r s' hq => ?_
  cases r with
  | error e => exact hq
  | ok fl =>
    cases fl with
    | ret u =>
      obtain ⟨v, H', os, bare, un, hok, rv, q⟩ := hq
      have ne : ∀ {b o}, H b = some o → o ≠ Sealed t G → b ≠ t := fun {b o} q n e => n (by rw [e, et] at q; exact (Option.some.inj q).symm)
      refine ⟨v, H', os, bare, ⟨fun b o q n => un.keep b o q (by rw [upd_ne (nt b n)]; exact n), fun b o q n => un.slot b o q (by rw [upd_ne (nt b n)]; exact n), fun b o q n => un.free b o q (by rw [upd_ne (nt b n)]; exact n), un.there, fun b xs q => ?_, fun b o u q => ?_, fun b ps q => ?_⟩, hok, rv, q⟩
      · exact un.tups b xs (by rw [upd_ne (ne q (fun z => by cases z))]; exact q)
      · exact un.frzs b o u (by rw [upd_ne (ne q (fun z => by cases z))]; exact q)
      · exact un.tbls b ps (by rw [upd_ne (ne q (fun z => by cases z))]; exact q)
    | next => exact False.elim hq
    | brk => exact False.elim hq
    | cont => exact False.elim hq
/-- .. and sealed again, or for the first time -/
theorem fn_seal (F : FnOk P w K mg base CX0 k f fd ps sp) (len : ∀ vs H Q E, sp' vs H Q E → vs.length = ps.length)
    (h : ∀ vs H Q E, sp' vs H Q E → sp vs H (fun v H' => ∃ t ys G, H' t = some (.lst ys) ∧ G ys ∧ Q v (upd H' t (Sealed t G))) E) : FnOk P w K mg base CX0 k f fd ps sp' := by
  refine ⟨len, fun A outer s H args us vs Q E hr e0 hb hv hs => ?_⟩
  refine codeAny_mono (F.run A outer s _ args us vs _ E hr e0 hb hv (h vs H Q E hs)) fun r s' hq => ?_
  cases r with
  | error e => exact hq
  | ok fl =>
    cases fl with
    | ret u =>
      obtain ⟨v, H', os, bare, un, hok, rv, t, ys, G, et, g, q⟩ := hq
      have nt : ∀ b, H' b = none → b ≠ t := fun b q e => by rw [e, et] at q; cases q
      refine ⟨v, _, os, bare, ⟨un.keep, un.slot, fun b o q n hx => ?_, un.there, fun b xs q => ?_, fun b o u q => ?_, fun b ps q => ?_⟩, seal_close hok et g, rv, q⟩
      · have z := un.free b o q n hx
        rw [upd_ne (nt b z)]
        exact z
      · have z := un.tups b xs q
        rw [upd_ne (fun e => by rw [e, et] at z; cases z)]
        exact z
      · have z := un.frzs b o u q
        rw [upd_ne (fun e => by rw [e, et] at z; cases z)]
        exact z
      · obtain ⟨m, z⟩ := un.tbls b ps q
        refine ⟨m, ?_⟩
        rw [upd_ne (fun e => by rw [e, et] at z; cases z)]
        exact z
    | next => exact False.elim hq
    | brk => exact False.elim hq
    | cont => exact False.elim hq
end
section
variable {X : Cx}
/-- i ** j, both written -/
theorem pe_powC {i j : Int} {z : Int} {a b : Nat} {p1 p2 p3 : Pos} (h : i ^ j.toNat = z) (hc : CPow i j) : PE X (.BinOp (.Constant (.int i) a p1) .Pow (.Constant (.int j) b p2) p3) (tC (.int z)) := by
  refine ⟨fun pins s σ H Q I q => ?_⟩
  exact (pe_op op_pow pe_int pe_int).run pins s σ H Q I ⟨i, j, rfl, rfl, hc, by show Q (.int (i ^ j.toNat)) H; rw [h]; exact q⟩
end
/-! ### the rules with the written part K told (within a comprehension it can't be read off) -/
section
variable {X : Cx} {T id : String} {name : Str} {o e e2 : Expr} {es : List Expr} {t ta : TA} {to te : TE} {r : V → List V → Hp → VK → Prop} {apos cpos p pos tpos : Pos} {elts : List Expr} {kk : Nat} {tg : Expr}
theorem ix_K (K : PySem.W.Frag) (h : X.K = K := by rfl) : IxR X (rIx K) := h ▸ ix_seq
theorem sl_K (K : PySem.W.Frag) (h : X.K = K := by rfl) : SlR X (rSlL K) := h ▸ sl_list
theorem eq_K (K : PySem.W.Frag) (hu : X.A.units + 64 < cLine) (h : X.K = K := by rfl) : OpR X (compareOp .Eq) (rEqA K) := h ▸ op_eqA hu
theorem ne_K (K : PySem.W.Frag) (hu : X.A.units + 64 < cLine) (h : X.K = K := by rfl) : OpR X (compareOp .NotEq) (rNeA K) := h ▸ op_neA hu
theorem in_K (K : PySem.W.Frag) (h : X.K = K := by rfl) : OpR X (compareOp .In) (rIn K false) := h ▸ op_in_seq
theorem ni_K (K : PySem.W.Frag) (h : X.K = K := by rfl) : OpR X (compareOp .NotIn) (rIn K true) := h ▸ op_notIn_seq
theorem len_K (K : PySem.W.Frag) (h : X.K = K := by rfl) : CallR X (.builtin "len") (rLen K) := h ▸ call_len_seq
theorem lst_K (K : PySem.W.Frag) (h : X.K = K := by rfl) : CallR X (.type "list") (rLst K) := h ▸ call_list_of
theorem int_K (K : PySem.W.Frag) (_ : X.K = K := by rfl) : CallR X (.type "int") rInt := call_int1
theorem sum_K (K : PySem.W.Frag) (hc : X.calm = true := by rfl) (h : X.K = K := by rfl) : CallR X (.builtin "sum") (rSum K) := h ▸ cr_sum hc
theorem isi_K (K : PySem.W.Frag) (h : X.K = K := by rfl) : CallR X (.builtin "isinstance") (rIsi K) := h ▸ call_isi
theorem tru_K (K : PySem.W.Frag) (ha : PE X e to) (he : ∀ whole, isTrue e X.env whole = (do let v ← whole; standAt e.pos; holding [v] (truthy v))) (h : X.K = K := by rfl) : PT X e (tTru K to) := h ▸ pt_truth ha he
theorem pi_lstK (K : PySem.W.Frag) {l : Expr} {tl : TE} (hl : PE X l tl) (h : X.K = K := by rfl) : PI X tg l (iList K tl) := h ▸ pi_list hl
theorem pi_enumK (K : PySem.W.Frag) (hg : Gl X "enumerate") (hm : X.mg "enumerate" = none) (ha : PA X [e] ta) (h : X.K = K := by rfl) (hs : starEach [e] X.env = [(false, eval e X.env)] := by rfl) :
    PI X (.Tuple elts kk tpos) (.Call (.Name "enumerate" p) [e] [] pos) (iEnum K ta) := h ▸ pi_enum hg hm ha hs
theorem pg_tupK (K : PySem.W.Frag) {k : Nat} {n : Nat} {t : TGs} (hc : X.calm = true) (h : PGs X es t) (h2 : X.K = K := by rfl) (hn : (assignEach es X.env).length = n := by rfl) (hst : (assignEach es X.env).findIdx? (·.1) = none := by rfl) : PG X (.Tuple es k pos) (gTup K n t) := h2 ▸ pg_tup hc h hn hst
theorem bm_K (K : PySem.W.Frag) (pa : PlainAttrs T) (slot : Slot T name id) (hty : typeOf (.builtin id) = pure (.type "method_descriptor")) (hm : MtR X id r) (ho : PE X o to) (ha : PA X (e :: es) t) (h : X.K = K := by rfl)
    (hbase : attributeBase o name X.env (eval o X.env) = eval o X.env := by rfl)
    (hfew : ((backTo cpos (starEach (e :: es) X.env)).all (fun x => !x.1) && (backToKw cpos (keywordEach [] X.env)).all (fun x => x.1.isSome)
      && decide ((e :: es).length + ([] : List Keyword).length + (if ([] : List Keyword).isEmpty then 0 else 1) < 30)) = true := by rfl)
    (hline : (apos.endLine == cpos.line) = true := by rfl) (hs : starEach (e :: es) X.env = (false, eval e X.env) :: starEach es X.env := by rfl) (hplain : (backTo cpos (starEach es X.env)).any (·.1) = false := by rfl) :
    PE X (.Call (.Attribute o name apos) (e :: es) [] cpos) (tBM K T r to t) := h ▸ pe_bm pa slot hty hm ho ha hbase hfew hline hs hplain
theorem bm0_K (K : PySem.W.Frag) (pa : PlainAttrs T) (slot : Slot T name id) (hty : typeOf (.builtin id) = pure (.type "method_descriptor")) (hm : MtR X id r) (ho : PE X o to) (h : X.K = K := by rfl)
    (hbase : attributeBase o name X.env (eval o X.env) = eval o X.env := by rfl) (hline : (apos.endLine == cpos.line) = true := by rfl) : PE X (.Call (.Attribute o name apos) [] [] cpos) (tBM0 K T r to) := h ▸ pe_bm0 pa slot hty hm ho hbase hline
end
end PL
namespace PG
open PySem PySem.Spec PyProof.Rows L2 GxR
set_option maxHeartbeats 4000000
/-! ### all(test for x in a list of ints), the test reads one captured int -/
/-- the test of the int n where the captured name y holds z -/
def EltZ (prog : Program) (w : World) (scope : Scope) (x y : Str) (elt : Expr) (pb : Int → Int → Bool) : Prop :=
  ∀ (ce : Env) (A2 : Around) (E2 : Value → Shared → Prop) (n z : Int) (t u : Tok) (s2 : Shared) (m2 : Str → Option Value) (c : Addr), ce.scope = scope → s2.heap.Ns ce.locals m2 → m2 x = some (.int n t) → ce.cells.lookup y = some c →
    s2.heap.IsCell c (some (.int z u)) → wpAny (model prog w) A2 (eval elt ce) (fun r s3 => r = .bool (pb z n) ∧ Keeps s2 s3) E2 s2
theorem chain_int {prog : Program} {w : World} {A : Around} {E : Value → Shared → Prop} {s : Shared} {a b : Int} {t u : Tok} {Q : Value → Shared → Prop} (h : Q (.bool (decide (a ≤ b))) s) : wpAny (model prog w) A (compareOp .LtE (.int a t) (.int b u)) Q E s := le_int h
/-- 0 <= x < y -/
theorem elt_in {prog : Program} {w : World} {scope : Scope} {x y : Str} {j : Nat} {p1 p2 p3 p4 : Pos} (hk : scope.kind = .function) (hx : scope.names.lookup x = some .local) (hy : scope.names.lookup y = some .free)
    (dx : (x == ("__debug__" : Str)) = false := by decide) (dy : (y == ("__debug__" : Str)) = false := by decide) (cy : (y == ("__classdict__" : Str)) = false := by decide)
    (hm : lastMarks [.LtE, .Lt] [.Name x p2, .Name y p3] = false := by with_unfolding_all rfl) :
    EltZ prog w scope x y (.Compare (.Constant (.int 0) j p1) [.LtE, .Lt] [.Name x p2, .Name y p3] p4) (fun z n => decide (0 ≤ n) && decide (n < z)) := by
  intro ce A2 E2 n z t u s2 m2 c hs hn hx2 hc hcell
  have lx : ∀ {Q : Value → Shared → Prop} {s3 : Shared}, s3.heap = s2.heap → Q (.int n t) s3 → wpAny (model prog w) A2 (eval (.Name x p2) ce) Q E2 s3 := fun {Q s3} e q =>
    wpAny_Name (wpAny_loadName_local (by rw [hs]; exact hk) (show ce.scope.names.lookup x = _ by rw [hs]; exact hx) (by rw [e]; exact hn) hx2 q) dx
  have ly : ∀ {Q : Value → Shared → Prop} {s3 : Shared}, s3.heap = s2.heap → Q (.int z u) s3 → wpAny (model prog w) A2 (eval (.Name y p3) ce) Q E2 s3 := fun {Q s3} e q =>
    wpAny_Name (wpAny_loadName_free (by rw [hs]; exact hk) (show ce.scope.names.lookup y = _ by rw [hs]; exact hy) hc (by rw [e]; exact hcell) q cy) dy
  refine Compare_chain (wpAny_Constant_int (chain_link (lx rfl (chain_int ?_)))) hm
  refine wpAny_truthy_bool ?_
  by_cases h0 : 0 ≤ n
  · rw [decide_eq_true h0]
    exact ite_tt (chain_last (ly rfl (lt_int ⟨by show _ = Value.bool (decide (0 ≤ n) && _); rw [decide_eq_true h0, Bool.true_and], keeps_tok s2 _⟩)))
  · rw [decide_eq_false h0]
    exact ite_ff ⟨by show _ = Value.bool (decide (0 ≤ n) && _); rw [decide_eq_false h0, Bool.false_and], keeps_tok s2 _⟩
/-- the test at place j -/
def trI (pb : Int → Bool) (l : List Int) (j : Nat) : Bool := ((l[j]?).map pb).getD false
theorem all_trI (l : List Int) (pb : Int → Bool) : (List.range l.length).all (trI pb l) = l.all pb := by
  refine Bool.eq_iff_iff.mpr ⟨fun h => List.all_eq_true.mpr fun b hb => ?_, fun h => List.all_eq_true.mpr fun j hj => ?_⟩
  · obtain ⟨j, hj, e⟩ := List.getElem_of_mem hb
    have q := List.all_eq_true.mp h j (List.mem_range.mpr hj)
    unfold trI at q
    rw [List.getElem?_eq_getElem hj, e] at q
    exact q
  · have hl := List.mem_range.mp hj
    unfold trI
    rw [List.getElem?_eq_getElem hl]
    exact List.all_eq_true.mp h _ (List.getElem_mem hl)
/-- the generator g over the ints ns, not yet walked -/
def ReadyZ (X : Cx) (pins : List (Addr × Obj)) (σ : L2.St) (H1 : Hp) (P : Addr) (ns : List Int) (pb : Int → Bool) (g : Addr) (s5 : Shared) : Prop :=
  ∃ (fp wr : List Addr) (G : Array GenState → Array GenState → Prop) (F : Nat → Value → Prop) (S : Nat → Shared → Prop), WalksS X.prog X.w X.A.in1 g fp wr G ns.length F S ∧ S 0 s5 ∧ TruthOf X.prog X.w X.A.in1 F (trI pb ns) ∧
    ∀ s6, Moved wr G s5 s6 → ∃ H2, Tabbed P H1 H2 ∧ Inv X pins σ H2 s6
section
variable {X : Cx} {pins : List (Addr × Obj)} {σ : L2.St} {H : Hp} {s : Shared}
theorem gen_ints {c P : Addr} {elt iter : Expr} {x y : Str} {px gp : Pos} {scope : Scope} {pb : Int → Int → Bool} {te : TE} {k i : Nat} {Q' : Value → Shared → Prop} {R : Int → List Int → Hp → Prop}
    (hr : Room k X.A) (TB : TabB X.base X.mg c P) (hco : X.env.code = .ref c) (S : GenS X.env scope x) (hi : PE X iter te) (hN : X.N[i]? = some y) (hy : X.env.scope.names.lookup y = some .cell)
    (hcl : ∀ cs : List (Str × Addr), (cloFrom cs scope.names []).lookup y = some ((cs.lookup y).getD 0)) (hel : EltZ X.prog X.w scope x y elt pb) (hs : ∀ v, genFold iter X.env v = pure v) (I : Inv X pins σ H s)
    (h : te σ H fun v H1 => ∃ (l : Addr) (ns : List Int) (z : Int), v = .ref l ∧ SqL X.K H1 l (ns.map V.int) ∧ TabG H1 P ∧ σ[i]? = some (some (.int z)) ∧ R z ns H1) (hQ : ∀ z ns H1 g s5, R z ns H1 → ReadyZ X pins σ H1 P ns (pb z) g s5 → Q' (.ref g) s5) :
    wpAny (model X.prog X.w) X.A (eval (.GeneratorExp elt [⟨.Name x px, iter, [], 0⟩] scope gp) X.env) Q' X.xe s := by
  refine wpAny_GeneratorExp_walksQ hr.hd S.co (closure_ok S.free) S.cell S.dot S.loc S.kind (Nat.lt_of_le_of_lt (Nat.le_refl _) hr.depth) (thn (hi.run pins s σ H _ I h) fun xv s1 ⟨v, H1, I1, r1, l, ns, z, ev, hl, ⟨ps, hP, ht⟩, hz, q1⟩ => ?_) hs
  subst ev
  cases r1
  obtain ⟨its, rv, hli, hsz⟩ := I1.list hl
  have isl := hli.isList
  have len : its.length = ns.length := by rw [← rv.length, List.length_map]
  -- the captured int's cell
  obtain ⟨m, _, look⟩ := id I1.loc
  obtain ⟨zv, rz, lk⟩ := look i y _ hN hz (.inr (.inl hy))
  obtain ⟨cc, ecc, icc, zt, ezv⟩ : ∃ cc, X.env.cells.lookup y = some cc ∧ s1.heap.IsCell cc (some zv) ∧ ∃ zt, zv = Value.int z zt := by
    rcases lk with ⟨e, _⟩ | ⟨_, cc, e1, e2⟩
    · have e' : X.env.scope.names.lookup y = some .local := e
      rw [hy] at e'
      cases e'
    · exact ⟨cc, e1, e2, rz⟩
  subst ezv
  have itm : ∀ (j : Nat) (v : Value), its.toArray[j]? = some v → ∃ (a : Int) (u : Tok), ns[j]? = some a ∧ v = .int a u := fun j v hv => by
    have hv2 : its[j]? = some v := by simpa using hv
    have hj2 : j < ns.length := by rw [← len]; exact (List.getElem?_eq_some_iff.mp hv2).1
    have hb : (ns.map V.int)[j]? = some (V.int ns[j]) := by rw [List.getElem?_map, List.getElem?_eq_getElem hj2]; rfl
    obtain ⟨u, hu, ru⟩ := rv.get hb
    rw [hv2] at hu
    cases hu
    obtain ⟨t, e⟩ := (show ∃ t, v = Value.int ns[j] t from ru)
    exact ⟨_, t, List.getElem?_eq_getElem hj2, e⟩
  refine wpAny_pyIter_list isl ?_
  generalize ho : ({ cls := .type "list_iterator", data := .fields #[.ref l, .int 0 0] } : Obj) = o
  have itr : (s1.heap.push o).IsListIter s1.heap.objs.size l 0 := by subst ho; exact ⟨_, Heap.get?_push_size _ rfl, rfl, rfl⟩
  have lsz : l < s1.heap.objs.size := let ⟨_, e, _⟩ := isl; Heap.lt_size e
  have Ps : s1.heap.get? P = some { cls := .none, data := .fields ps } := I1.hok P _ hP
  have Psz : P < s1.heap.objs.size := Heap.lt_size Ps
  have P2 : (s1.heap.push o).get? P = some { cls := .none, data := .fields ps } := Heap.get?_push_of_some _ Ps
  have cd : PySem.W.CodeHd (s1.heap.push o) c P := TB.code.keeps fun b u e => Heap.get?_push_of_some _ (I1.bk b u e)
  have lim : (s1.heap.push o).NoLimit := I1.nolimit.push o
  refine ⟨lim, wpAny_mono (Q := fun code s3 => ∃ (h3 : Heap) (tk : Nat) (ps3 : Array Value), s3 = { s1 with heap := h3, toks := tk } ∧ Heap.ExtBut P (s1.heap.push o) h3 ∧ (s1.heap.push o).objs.size ≤ h3.objs.size ∧
    h3.get? P = some { cls := .none, data := .fields ps3 } ∧ (∃ more, ps3 = ps ++ more) ∧ TriplesOk ps3.toList) ?_ (fun code s3 hs3 => ?_) fun _ _ e => e⟩
  · cases hf : codeAmong gp ps.toList with
    | some cv => exact wpAny_genexprCode_hit hco (cd.code P2 ht) hf ⟨s1.heap.push o, s1.toks, ps, rfl, Heap.ExtBut.refl _ _, Nat.le_refl _, P2, ⟨#[], by simp⟩, ht⟩
    | none =>
      refine wpAny_genexprCodeX hco (cd.code P2 ht) (cd.tab P2) hf fun c2 h3 tk hx hge hlt hco2 _ htab2 _ => ?_
      obtain ⟨o1, vs, f1, tf, fl, tg, inF, tx, tt, op, _, _, _, _, _, _, _, _, _, htr, _⟩ := hco2
      exact ⟨h3, tk, _, rfl, hx, Nat.le_trans hge (Nat.le_of_lt hlt), htab2.2, ⟨_, rfl⟩, htr⟩
  obtain ⟨h3, tk, ps3, rfl, hx, hge, hP3, hmore, ht3⟩ := hs3
  obtain ⟨bm, ob, e1, e2, e3, e4, e5, e6, e7, e8⟩ := TB.bm
  have cP : cStatics ≠ P := fun e => by
    obtain ⟨_, ⟨o2, es, ep, hb, hd, _⟩, _⟩ := I1.nolimit
    rw [e, Ps] at hb
    cases hb
    cases hd
  have csz : cStatics < s1.heap.objs.size := let ⟨_, hns, _⟩ := I1.nolimit; hns.lt
  have sz2 : (s1.heap.push o).objs.size = s1.heap.objs.size + 1 := Heap.size_push ..
  have kp3 : ∀ b u, b ≠ P → s1.heap.get? b = some u → h3.get? b = some u := fun b u hb e => hx b u hb (Heap.get?_push_of_some _ e)
  refine wpAny_builtinsFor (m := X.mg) (by rw [I1.ok.glob]; exact ((I1.mod.glob.keeps I1.bk).push o).extBut hx TB.gP) e1 e2 (kp3 _ _ e4 (I1.bk _ _ e5)) e6 e7 e8 ?_
  have lP : l ≠ P := fun z => by
    obtain ⟨_, e, hc1, _, hd1⟩ := id isl
    rw [z, Ps] at e
    cases e
    cases hd1
  have ccP : cc ≠ P := fun e => by
    obtain ⟨o2, hb, hd⟩ := icc
    rw [e, Ps] at hb
    cases hb
    cases hd
  obtain ⟨oc, goc, doc⟩ := id icc
  have csz2 : cc < s1.heap.objs.size := Heap.lt_size goc
  refine ⟨s1.heap.objs.size, [s1.heap.objs.size, l], [s1.heap.objs.size], its.toArray.size, (fun j v => its.toArray[j]? = some v), (fun j h => h.IsListIter s1.heap.objs.size l j ∧ h.IsList l its.toArray), (fun _ => true), (fun j r => ∃ a : Int, ns[j]? = some a ∧ r = .bool (pb z a)), rfl,
    (fun A2 hA => Walks.list hA _ _ (Nat.ne_of_lt lsz) _), ⟨itr.at fun u e => hx _ u (Nat.ne_of_gt Psz) e, let ⟨ob2, e, r⟩ := id isl; ⟨ob2, kp3 _ _ lP e, r⟩⟩, (fun b hb => ?_), lim.extBut hx cP, (fun e => ?_), (fun href kh => ⟨fun A2 E2 j v s2 m2 hA hv hn hm hk => ?_, fun A2 E2 j v s2 m2 hA hv hp hn hm hk => ?_⟩), fun g h5 tk5 gs hgb hag hsz5 hk5 W5 hat => ?_⟩
  · have hb2 : b = s1.heap.objs.size ∨ b = l := by simpa using hb
    show (b : Nat) < h3.objs.size
    rcases hb2 with e | e
    · rw [e]; exact Nat.lt_of_lt_of_le (Nat.lt_of_lt_of_eq (Nat.lt_succ_self _) sz2.symm) hge
    · rw [e]; exact Nat.lt_of_lt_of_le (Nat.lt_trans lsz (Nat.lt_of_lt_of_eq (Nat.lt_succ_self _) sz2.symm)) hge
  · have e2 : cStatics = s1.heap.objs.size := by simpa using e
    exact Nat.ne_of_lt csz e2
  · simp only [List.forIn_nil]
    exact wpAny_pure ⟨rfl, keeps_refl _⟩
  · obtain ⟨a, u, ha, rfl⟩ := itm j v hv
    have nw : cc ∉ [s1.heap.objs.size] := fun e => Nat.ne_of_lt csz2 (by simpa using e)
    have hcc : s2.heap.IsCell cc (some (.int z zt)) := ⟨oc, hk cc (List.mem_range.mpr (Nat.lt_of_lt_of_le (Nat.lt_trans csz2 (Nat.lt_of_lt_of_eq (Nat.lt_succ_self _) sz2.symm)) hge)) nw oc (kh cc oc (kp3 cc oc ccP goc)), doc⟩
    refine wpAny_mono (hel _ A2 E2 a z u zt s2 m2 cc rfl hn hm ?_ hcc) (fun r s3 q => ⟨⟨a, ha, q.1⟩, q.2⟩) fun _ _ e => e
    show (cloFrom X.env.cells scope.names []).lookup y = some cc
    rw [hcl, ecc]
    rfl
  · simp only [GxR.passing_true, List.length_range] at W5
    have n5 : its.toArray.size = ns.length := by rw [List.size_toArray, len]
    rw [n5] at W5 hat
    refine hQ z ns H1 g _ q1 ⟨_, _, _, _, _, W5.in4_1, hat, ?_, fun s6 hm => ?_⟩
    · intro j r sj Qj Ej hy2 hQj
      obtain ⟨i2, hij, a, ha, er⟩ := hy2
      obtain ⟨hj, ej⟩ := List.getElem?_eq_some_iff.mp hij
      rw [List.getElem_range] at ej
      subst ej er
      have hQ2 : Qj (trI (pb z) ns j) sj := hQj
      unfold trI at hQ2
      rw [ha] at hQ2
      exact wpAny_truthy_bool hQ2
    · obtain ⟨more, em⟩ := hmore
      have nwr : ∀ b u, s1.heap.get? b = some u → b ∉ h3.objs.size :: [s1.heap.objs.size] := fun b u e hb => by
        have hl2 := Heap.lt_size e
        have hb2 : b = h3.objs.size ∨ b = s1.heap.objs.size := by simpa using hb
        rcases hb2 with e2 | e2
        · rw [e2] at hl2
          exact absurd (Nat.lt_of_lt_of_le (Nat.lt_of_lt_of_eq (Nat.lt_succ_of_lt hl2) sz2.symm) hge) (Nat.lt_irrefl _)
        · rw [e2] at hl2
          exact Nat.lt_irrefl _ hl2
      have J := inv_tab (more := more) (h' := s6.heap) (g' := s6.gens) (d' := s6.drawn) (t' := s6.toks) I1 hP (fun b u hb e => hm.heap b u (nwr b u e) (hk5 b u (kp3 b u hb e))) (by rw [← em]; exact hm.heap P _ (nwr P _ Ps) (hk5 P _ hP3)) (AllBare.movedS (I1.bare.push hgb) hm)
      rw [sh_eta s1 s6 hm.os] at J
      exact ⟨_, ⟨⟨ps ++ more, upd_same, by rw [← em]; exact ht3⟩, fun b hb => upd_ne hb⟩, J⟩
/-- all(test for x in e), the test of slot i's int -/
def tAllZ (K : PySem.W.Frag) (P : Addr) (i : Nat) (pb : Int → Int → Bool) (te : TE) : TE := fun σ H Q => te σ H fun v H1 => ∃ (l : Addr) (ns : List Int) (z : Int), v = .ref l ∧ SqL K H1 l (ns.map V.int) ∧ TabG H1 P ∧ σ[i]? = some (some (.int z)) ∧ ∀ H2, Tabbed P H1 H2 → Q (.bl (ns.all (pb z))) H2
theorem pe_allZ {c P : Addr} {elt iter : Expr} {x y : Str} {px p pos gp : Pos} {scope : Scope} {pb : Int → Int → Bool} {te : TE} {k i : Nat}
    (hr : Room k X.A) (hg : Gl X "all") (hm : X.mg "all" = none) (hb : bootBuiltins "all" = some (.builtin "all")) (TB : TabB X.base X.mg c P) (hco : X.env.code = .ref c) (S : GenS X.env scope x) (hi : PE X iter te) (hN : X.N[i]? = some y) (hy : X.env.scope.names.lookup y = some .cell)
    (hcl : ∀ cs : List (Str × Addr), (cloFrom cs scope.names []).lookup y = some ((cs.lookup y).getD 0)) (hel : EltZ X.prog X.w scope x y elt pb) (hs : ∀ v, genFold iter X.env v = pure v)
    (he : starEach [.GeneratorExp elt [⟨.Name x px, iter, [], 0⟩] scope gp] X.env = (false, eval (.GeneratorExp elt [⟨.Name x px, iter, [], 0⟩] scope gp) X.env) :: starEach [] X.env := by rfl) :
    PE X (.Call (.Name "all" p) [.GeneratorExp elt [⟨.Name x px, iter, [], 0⟩] scope gp] [] pos) (tAllZ X.K P i pb te) := by
  refine ⟨fun pins s σ H Q I h => wpAny_Call_Name_kw (ld_blt I hg hm hb (PyProof.Rows.callWith_builtin1 ?_ he (by rfl)))⟩
  rw [he]
  show wpAny _ _ (spliced ((false, _) :: backTo pos (starEach [] X.env))) _ _ s
  refine Calls.spliced_cons (gen_ints (R := fun z ns H1 => ∀ H2, Tabbed P H1 H2 → Q (.bl (ns.all (pb z))) H2) hr TB hco S hi hN hy hcl hel hs I h fun z ns H1 g s5 hR hG => ?_)
  obtain ⟨fp, wr, G, F, S2, W, hst, htr, hI⟩ := hG
  refine Calls.spliced_nil (call_all_walkS (W.self 0 _ _ _ hst ⟨g, fp, wr, G, _, F, S2, _, rfl, W, hst, htr, fun s6 hmv => ?_⟩))
  obtain ⟨H2, hT, J⟩ := hI s6 hmv
  refine ⟨.bl _, H2, J, rfl, ?_⟩
  rw [all_trI ns (pb z)]
  exact hR H2 hT
end
end PG
namespace PG
open PySem PySem.Spec PyProof.Rows L2 GxR PL
set_option maxHeartbeats 4000000
/-! ### a def's table of code objects that stands sealed -/
def TabP (P : Addr) (p0 : Array Value) (h : Heap) : Prop := ∃ more : Array Value, h.get? P = some { cls := .none, data := .fields (p0 ++ more) } ∧ TriplesOk (p0 ++ more).toList
def TabS (P : Addr) (p0 : Array Value) : HO := .ext (TabP P p0)
section
variable {PR : Program} {w : World} {K : PySem.W.Frag} {mg : Str → Option Value} {base : Heap} {k : Nat} {f P : Addr} {fd : FuncData} {ps : List Str} {sp sp' : Sp}
theorem tabS_open {H : Hp} {h : Heap} {p0 : Array Value} (ok : HOk PR w H h) (e : H P = some (TabS P p0)) : ∃ more : Array Value, TriplesOk (p0 ++ more).toList ∧ HOk PR w (upd H P (.tbl (p0 ++ more))) h := by
  obtain ⟨⟨more, g, ht⟩, _, _⟩ : TabP P p0 h ∧ (∃ o, h.get? P = some o) ∧ _ := ok P _ e
  refine ⟨more, ht, fun a o ea => ?_⟩
  by_cases ha : a = P
  · subst ha
    rw [upd_same] at ea
    cases ea
    exact g
  · rw [upd_ne ha] at ea
    exact stay_upd (ok a o ea) (fun y q => by rw [e] at q; cases q) fun xs q => by rw [e] at q; cases q
theorem tabS_close {H : Hp} {h : Heap} {p0 more : Array Value} (ok : HOk PR w H h) (e : H P = some (.tbl (p0 ++ more))) (ht : TriplesOk (p0 ++ more).toList) : HOk PR w (upd H P (TabS P p0)) h := fun a o ea => by
  by_cases ha : a = P
  · subst ha
    rw [upd_same] at ea
    cases ea
    have g : h.get? a = some { cls := .none, data := .fields (p0 ++ more) } := ok a _ e
    exact ⟨⟨more, g, ht⟩, ⟨_, g⟩, fun h1 h2 ⟨m2, g2, t2⟩ hk => ⟨m2, hk _ g2, t2⟩⟩
  · rw [upd_ne ha] at ea
    exact stay_upd (ok a o ea) (fun y q => by rw [e] at q; cases q) fun xs q => by rw [e] at q; cases q
/-- a def whose body works on the table, called where it stands sealed -/
theorem fn_tab (P : Addr) (F : FnOk PR w K mg base CX0 k f fd ps sp) (len : ∀ vs H Q E, sp' vs H Q E → vs.length = ps.length)
    (h : ∀ vs H Q E, sp' vs H Q E → ∃ p0, H P = some (TabS P p0) ∧ ∀ p1, TriplesOk p1.toList → sp vs (upd H P (.tbl p1)) (fun v H' => TabG H' P ∧ Q v (upd H' P (TabS P p0))) E) : FnOk PR w K mg base CX0 k f fd ps sp' := by
  refine ⟨len, fun A outer s H args us vs Q E hr e0 hb hv hs => ?_⟩
  obtain ⟨p0, et, hx⟩ := h vs H Q E hs
  obtain ⟨more, ht, ok⟩ := tabS_open e0.hok et
  have nt : ∀ b, H b = none → b ≠ P := fun b q e => by rw [e, et] at q; cases q
  have e1 : Env0 PR w K mg base A outer s (upd H P (.tbl (p0 ++ more))) := ⟨e0.frames, e0.mod, fun b o q => ⟨(e0.bs b o q).1, by rw [upd_ne (nt b (e0.bs b o q).2)]; exact (e0.bs b o q).2⟩, e0.bsz, e0.funs, fun b q => by rw [upd_ne (nt b (e0.frf b q))]; exact e0.frf b q, ok, e0.bare⟩
  refine codeAny_mono (F.run A outer s _ args us vs _ E hr e1 hb hv (hx _ ht)) fun r s' hq => ?_
  cases r with
  | error e => exact hq
  | ok fl =>
    cases fl with
    | ret u =>
      obtain ⟨v, H', os, bare, un, hok, rv, ⟨p2, e2, t2⟩, q⟩ := hq
      obtain ⟨m3, e3⟩ := un.tbls P (p0 ++ more) upd_same
      have e4 : p2 = p0 ++ (more ++ m3) := by
        rw [e2] at e3
        have z : HO.tbl p2 = HO.tbl (p0 ++ more ++ m3) := Option.some.inj e3
        injection z with z
        rw [z, Array.append_assoc]
      subst e4
      have ne : ∀ {b o}, H b = some o → o ≠ TabS P p0 → b ≠ P := fun {b o} q n e => n (by rw [e, et] at q; exact (Option.some.inj q).symm)
      have nt2 : ∀ {b : Addr} {o : HO}, H' b = some o → (∀ z, o ≠ .tbl z) → b ≠ P := fun {b o} q n e => by
        rw [e, e2] at q
        exact n _ (Option.some.inj q).symm
      refine ⟨v, _, os, bare, ⟨fun b o q n => un.keep b o q (by rw [upd_ne (nt b n)]; exact n), fun b o q n => un.slot b o q (by rw [upd_ne (nt b n)]; exact n), fun b o q n hx => ?_, un.there, fun b xs q => ?_, fun b o u q => ?_, fun b qs q => ?_⟩, tabS_close hok e2 t2, rv, q⟩
      · rw [upd_ne (nt b n)]
        exact un.free b o q (by rw [upd_ne (nt b n)]; exact n) hx
      · have nb := ne q (fun z => by cases z)
        rw [upd_ne nb]
        exact un.tups b xs (by rw [upd_ne nb]; exact q)
      · have nb := ne q (fun z => by cases z)
        rw [upd_ne nb]
        exact un.frzs b o u (by rw [upd_ne nb]; exact q)
      · have nb := ne q (fun z => by cases z)
        rw [upd_ne nb]
        exact un.tbls b qs (by rw [upd_ne nb]; exact q)
    | next => exact False.elim hq
    | brk => exact False.elim hq
    | cont => exact False.elim hq
theorem trip0 : TriplesOk (#[] : Array Value).toList := trivial
/-- sealed at the door -/
theorem fn_tab0 (P : Addr) (F : FnOk PR w K mg base CX0 k f fd ps sp) (len : ∀ vs H Q E, sp' vs H Q E → vs.length = ps.length)
    (h : ∀ vs H Q E, sp' vs H Q E → H P = some (.tbl #[]) ∧ sp vs (upd H P (TabS P #[])) (fun v H' => H' P = some (TabS P #[]) ∧ ∀ p1, Q v (upd H' P (.tbl p1))) E) : FnOk PR w K mg base CX0 k f fd ps sp' := by
  refine ⟨len, fun A outer s H args us vs Q E hr e0 hb hv hs => ?_⟩
  obtain ⟨et, hx⟩ := h vs H Q E hs
  have nt : ∀ b, H b = none → b ≠ P := fun b q e => by rw [e, et] at q; cases q
  have em : (#[] : Array Value) ++ #[] = #[] := by simp
  have e1 : Env0 PR w K mg base A outer s (upd H P (TabS P #[])) := ⟨e0.frames, e0.mod, fun b o q => ⟨(e0.bs b o q).1, by rw [upd_ne (nt b (e0.bs b o q).2)]; exact (e0.bs b o q).2⟩, e0.bsz, e0.funs, fun b q => by rw [upd_ne (nt b (e0.frf b q))]; exact e0.frf b q,
    tabS_close (more := #[]) e0.hok (by rw [em]; exact et) (by rw [em]; exact trip0), e0.bare⟩
  refine codeAny_mono (F.run A outer s _ args us vs _ E hr e1 hb hv hx) fun r s' hq => ?_
  cases r with
  | error e => exact hq
  | ok fl =>
    cases fl with
    | ret u =>
      obtain ⟨v, H', os, bare, un, hok, rv, e2, q⟩ := hq
      obtain ⟨m3, t3, ok3⟩ := tabS_open hok e2
      have ne : ∀ {b o}, H b = some o → o ≠ .tbl #[] → b ≠ P := fun {b o} q n e => n (by rw [e, et] at q; exact (Option.some.inj q).symm)
      refine ⟨v, _, os, bare, ⟨fun b o q n => un.keep b o q (by rw [upd_ne (nt b n)]; exact n), fun b o q n => un.slot b o q (by rw [upd_ne (nt b n)]; exact n), fun b o q n hx => ?_, un.there, fun b xs q => ?_, fun b o u q => ?_, fun b qs qt => ?_⟩, ok3, rv, q _⟩
      · rw [upd_ne (nt b n)]
        exact un.free b o q (by rw [upd_ne (nt b n)]; exact n) hx
      · have nb := ne q (fun z => by cases z)
        rw [upd_ne nb]
        exact un.tups b xs (by rw [upd_ne nb]; exact q)
      · have nb := ne q (fun z => by cases z)
        rw [upd_ne nb]
        exact un.frzs b o u (by rw [upd_ne nb]; exact q)
      · by_cases nb : b = P
        · subst nb
          have z := et.symm.trans ‹H b = some (.tbl qs)›
          cases z
          exact ⟨m3, upd_same⟩
        · rw [upd_ne nb]
          exact un.tbls b qs (by rw [upd_ne nb]; exact qt)
    | next => exact False.elim hq
    | brk => exact False.elim hq
    | cont => exact False.elim hq
end
/-! ### a def whose code object is told -/
section
variable {PR : Program} {w : World} {K : PySem.W.Frag} {mg : Str → Option Value} {base : Heap}
theorem fun_okC {x qual : Str} {st : Stmt} {f c : Addr} {fd : FuncData} {N ps : List Str} {k : Nat} {sp : Sp} (F : Fun K x qual st f fd) (hc : fd.code = .ref c) (S : FnScope N ps (defScope st)) (len : ∀ vs H Q E, sp vs H Q E → vs.length = ps.length)
    (hbody : ∀ (A : Around) (outer : List Env) (s : Shared) (H : Hp) (vs : List V) (Q : VK) (E : XK), Room k (A.deeper (envOfC qual (defScope st) s.heap.objs.size f (.ref c))) → sp vs H Q E →
      ∃ t, PSs (cxOf CX0 PR w K mg base N qual (defScope st) f (.ref c) A outer s H E).nox (defBody st) t ∧ t { nx := fun _ H' => Q .non H', rt := Q } (start N vs) H) : FnOk PR w K mg base CX0 (k + 1) f fd ps sp := by
  obtain ⟨oc, od, kV, doc, pm, an, cdv, ct, osl, rfl, lk, hcd⟩ := F.ex
  obtain rfl : cdv = .ref c := hc
  refine fn_of lk hcd S len fun A outer s H vs Q E hr hsp => ?_
  obtain ⟨t, h, q⟩ := hbody A outer s H vs Q E hr hsp
  exact ⟨t, h.nox, q⟩
end
end PG
namespace PG
open PySem PySem.Spec PyProof.Rows L2
theorem genS_of {env : Env} {scope : Scope} {x : Str} {out : List (Str × NameKind)} (hk : scope.kind = .function) (hco : scope.isCoroutine = false) (hcell : ∀ y ∈ scope.names, y.2 ≠ .cell) (hdot : scope.names.lookup (".0" : Str) = some NameKind.local)
    (hloc : scope.names.lookup x = some .local) (hf : ∀ y ∈ scope.names, y.2 = .free → out.lookup y.1 = some .cell) (hc : ∀ x, out.lookup x = some .cell → ∃ c, env.cells.lookup x = some c) : GxR.GenS env scope x :=
  ⟨hk, hco, hcell, hdot, hloc, fun y hy e => hc y.1 (hf y hy e)⟩
end PG
namespace PO
open PySem PySem.Spec PyProof.Rows L2 PL
set_option maxHeartbeats 4000000
/-! ### sorted(d), d a dict whose keys are pairs of ints -/
def pairOf (H : Hp) (a : Addr) : Int × Int := match H a with
  | some (.tup [.int i, .int j]) => (i, j)
  | _ => (0, 0)
def addrOf : Value → Addr
  | .ref a => a
  | _ => 0
def keyPair : List Key → Int × Int
  | [.inl i, .inl j] => (i, j)
  | _ => (0, 0)
def LexLe (p q : Int × Int) : Prop := p.1 < q.1 ∨ (p.1 = q.1 ∧ p.2 ≤ q.2)
def rSortedDT : List V → Hp → VK → Prop := fun xs H Q => ∃ (d : Addr) (kvs : List (List Key × V)), xs = [.ref d] ∧ Rd H d (.dT kvs) ∧ (∀ kv ∈ kvs, ∃ i j : Int, kv.1 = [.inl i, .inl j]) ∧
  ∀ (p : Addr) (bs : List Addr) (L : List (Int × Int)), H p = none → L.Perm (kvs.map fun kv => keyPair kv.1) → L.Pairwise LexLe → bs.map (fun b => H b) = L.map (fun q => some (.tup [.int q.1, .int q.2])) → Q (.ref p) (upd H p (.lst (bs.map V.ref)))
theorem call_sortedDT {X : Cx} (hc : X.calm = true) : CallR X (.builtin "sorted") rSortedDT := by
  intro pins s σ H xs us Q I r h
  obtain ⟨d, kvs, rfl, hd, hks, q⟩ := h
  obtain ⟨u, rfl, rx⟩ := vals1 r
  cases rx
  obtain ⟨z, hs, ks, pr, o, es, ep, ho, hx, hdt, he, hn⟩ := (show ObjOk X.prog X.w H s.heap d (.dT kvs) from hd.ok I.hok)
  have l1 : es.size = ks.length := size_of_entries he
  have l2 : kvs.length = ks.length := Paired.length pr
  -- each key is a pair that is tracked
  have pk : ∀ x ∈ ks, H x.2.1 = some (.tup [.int (pairOf H x.2.1).1, .int (pairOf H x.2.1).2]) ∧ keyPair x.1 = pairOf H x.2.1 := by
    have gen : ∀ {l : List (List Key × V)} {m : List (List Key × Addr × Value)}, KT H l m → (∀ kv ∈ l, ∃ i j : Int, kv.1 = [.inl i, .inl j]) → ∀ x ∈ m, H x.2.1 = some (.tup [.int (pairOf H x.2.1).1, .int (pairOf H x.2.1).2]) ∧ keyPair x.1 = pairOf H x.2.1 := by
      intro l m t
      induction t with
      | nil => intro _ x hx; exact nomatch hx
      | @cons p2 q2 ps qs hq t ih =>
        intro hl x hx
        rcases List.mem_cons.mp hx with e | hx
        · subst e
          obtain ⟨i, j, e⟩ := hl p2 List.mem_cons_self
          have e2 : H x.2.1 = some (.tup [.int i, .int j]) := by rw [hq.2.1, e]; rfl
          have e3 : pairOf H x.2.1 = (i, j) := by unfold pairOf; rw [e2]
          rw [e3]
          exact ⟨e2, by rw [← hq.1, e]; rfl⟩
        · exact ih (fun kv hkv => hl kv (List.mem_cons_of_mem _ hkv)) x hx
    exact gen pr hks
  have ek : (kvs.map fun kv => keyPair kv.1) = ks.map fun x => pairOf H x.2.1 := by
    have gen : ∀ {l : List (List Key × V)} {m : List (List Key × Addr × Value)}, KT H l m → (l.map fun kv => keyPair kv.1) = m.map fun x => keyPair x.1 := by
      intro l m t
      induction t with
      | nil => rfl
      | @cons p2 q2 ps qs hq t ih => rw [List.map_cons, List.map_cons, ih, hq.1]
    rw [gen pr]
    exact List.map_congr_left fun x hx => (pk x hx).2
  refine Calls.call_function_entry PyProof.Rows.kind_sorted PyProof.Rows.plain_sorted PyProof.Rows.entry_sorted (PyProof.Rows.args_sorted1 _) ?_
  unfold Builtin.«sorted»
  refine wpAny_bind (m := checkCount "sorted" 1 1 _) (wpAny_pure (wpAny_bind (PySem.W.kdu_collect (A := X.A.in1) (kdl_raw hs hx hdt) (I.ok.hd hc) ho (by omega) fun h2 tk acc kp it => ?_)))
  have ea : acc.toList = ks.map fun x => Value.ref x.2.1 := by
    have hl : acc.toList.length = ks.length := by rw [Array.length_toList, it.1]; exact l1
    refine List.ext_getElem? fun j => ?_
    rw [List.getElem?_map]
    cases hj : acc.toList[j]? with
    | none =>
      rw [List.getElem?_eq_none_iff] at hj
      rw [List.getElem?_eq_none_iff.mpr (by omega)]
      rfl
    | some v =>
      obtain ⟨en, e1, e2⟩ := it.2 j v (by rw [← Array.getElem?_toList]; exact hj)
      have e3 : (ks.map (entryOfKey (tupleKind (mixKind X.prog X.w))))[j]? = some en := by rw [← he, Array.getElem?_toList]; exact e1
      rw [List.getElem?_map] at e3
      cases hk : ks[j]? with
      | none => rw [hk] at e3; cases e3
      | some x =>
        rw [hk] at e3
        cases e3
        rw [e2]
        rfl
  have J : Inv X pins σ H { s with heap := h2, toks := tk } := I.kept kp
  have hz : acc.toList.length ≤ sizeLine := by rw [ea, List.length_map, ← l2]; exact z
  refine wpAny_bind (wpAny_newList ?_ hz)
  have hoL : (h2.push (seqObj "list" acc.toList.toArray 0)).get? h2.objs.size = some (seqObj "list" acc.toList.toArray 0) := Heap.get?_push_size _ rfl
  have prs : ∀ v ∈ acc.toList, Srt.IsPair (h2.push (seqObj "list" acc.toList.toArray 0)) v (pairOf H (addrOf v)).1 (pairOf H (addrOf v)).2 := fun v hv => by
    rw [ea] at hv
    obtain ⟨x, hxk, rfl⟩ := List.mem_map.mp hv
    obtain ⟨_, its2, r2, o2, g1, g2, n2, g3⟩ := J.hok _ _ (pk x hxk).1
    obtain ⟨u1, u2, rfl, ri, rj⟩ := vals2 r2
    obtain ⟨t1, rfl⟩ := ri
    obtain ⟨t2, rfl⟩ := rj
    exact ⟨_, o2, t1, t2, n2, rfl, Heap.get?_push_of_some _ g1, g2, g3⟩
  show wpAny _ _ _ _ _ { s with heap := h2.push (seqObj "list" acc.toList.toArray 0), toks := tk }
  refine wpAny_bind (wpAny_holding (wpAny_call_entry PyProof.Rows.slot_list_sort ⟨_, hoL, rfl⟩ PyProof.Rows.entry_list_sort (SrtO.list_sort_ord (s := { s with heap := h2.push (seqObj "list" acc.toList.toArray 0), toks := tk }) (SrtO.swo_lex fun v => pairOf H (addrOf v)) hoL hz
    (fun g2 => SrtO.pairs_sortableO (s := { s with heap := h2.push (seqObj "list" acc.toList.toArray 0), toks := tk }) (by omega) prs fun ob e => ?_) fun out hso hst => ⟨_, rfl, ?_⟩) (PyProof.Rows.args_list_sort _)))
  · have e' : some ob = some (seqObj "list" acc.toList.toArray 0) := e.symm.trans hoL
    cases e'
    intro c
    exact absurd (Value.type.inj c) (by decide)
  have mem : ∀ v ∈ out, ∃ x ∈ ks, v = Value.ref x.2.1 := fun v hv => by
    have m := hst.perm.mem_iff.mp hv
    rw [ea] at m
    obtain ⟨x, h1, h2⟩ := List.mem_map.mp m
    exact ⟨x, h1, h2.symm⟩
  obtain ⟨n3, hn3⟩ := PyProof.Rows.sortedHeap_at (vs := acc.toList) (out := out.toArray) hoL
  have rel : Vals ((out.map addrOf).map V.ref) out := by
    have gen : ∀ l : List Value, (∀ v ∈ l, ∃ x ∈ ks, v = Value.ref x.2.1) → Vals ((l.map addrOf).map V.ref) l := fun l => by
      induction l with
      | nil => exact fun _ => .nil
      | cons v l ih =>
        intro hl
        obtain ⟨x, _, rfl⟩ := hl v List.mem_cons_self
        exact .cons rfl (ih fun w hw => hl w (List.mem_cons_of_mem _ hw))
    exact gen out mem
  refine wpAny_pure ⟨_, rfl, .ref h2.objs.size, upd H h2.objs.size (.lst ((out.map addrOf).map V.ref)), J.laid (t' := tk) (fun b u e => ?_) (Nat.le_refl _)
    (show ObjOk X.prog X.w _ _ _ (.lst ((out.map addrOf).map V.ref)) from ⟨by rw [List.length_map, List.length_map, hst.perm.length_eq]; exact hz, out, n3, rel, hn3⟩), rfl, q _ (out.map addrOf) ((out.map addrOf).map (pairOf H)) (J.hok.fresh (Nat.le_refl _)) ?_ ?_ ?_⟩
  · have hb : b < h2.objs.size := Heap.lt_size e
    rw [PyProof.Rows.sortedHeap_old (Nat.ne_of_lt hb) (Nat.lt_of_lt_of_eq (Nat.lt_succ_of_lt hb) (size_push' ..).symm)]
    exact Heap.get?_push_of_some _ e
  · rw [ek]
    have p2 := (hst.perm.map addrOf).map (pairOf H)
    rw [ea, List.map_map, List.map_map, List.map_map] at p2
    rw [List.map_map]
    exact p2
  · rw [List.map_map, List.pairwise_map]
    refine hso.imp fun {a b} hab => ?_
    have e := SrtO.lexB_no.mp hab
    show LexLe (pairOf H (addrOf a)) (pairOf H (addrOf b))
    unfold LexLe
    omega
  · rw [List.map_map, List.map_map, List.map_map]
    refine List.map_congr_left fun v hv => ?_
    obtain ⟨x, hxk, rfl⟩ := mem v hv
    exact (pk x hxk).1
end PO
namespace PL
open PySem PySem.Spec PyProof.Rows L2 Evl
set_option maxHeartbeats 4000000
/-! ### own classes: what is known of their defs -/
structure HasM (P : Program) (w : World) (K : PySem.W.Frag) (mg : Str → Option Value) (base : Heap) (C : Addr) (m : Str) (k : Nat) (sp : Sp) : Prop where
  ex : ∃ (f : Addr) (fd : FuncData) (ps : List Str), Meth K C m f ∧ Binds K fd ps [] ∧ FnOk P w K mg base CX0 k f fd ps sp
structure HasI (P : Program) (w : World) (K : PySem.W.Frag) (mg : Str → Option Value) (base : Heap) (C : Addr) (k : Nat) (sp : Sp) : Prop where
  ex : ∃ (f : Addr) (fd : FuncData) (ps : List Str), Mk K C f ∧ Binds K fd ps [] ∧ FnOk P w K mg base CX0 k f fd ps sp
structure HasP (P : Program) (w : World) (K : PySem.W.Frag) (mg : Str → Option Value) (base : Heap) (C : Addr) (n : Str) (k : Nat) (sp : Sp) : Prop where
  ex : ∃ (p g : Addr) (fd : FuncData) (ps : List Str), PropOf K C n p g ∧ Binds K fd ps [] ∧ FnOk P w K mg base CX0 k g fd ps sp
section
variable {X : Cx} {k : Nat} {C : Addr} {sp : Sp} {x m n : Str} {p pos apos : Pos} {o e : Expr} {es : List Expr} {ta : TE} {t : TA}
theorem pe_mH (h : HasM X.prog X.w X.K X.mg X.base C m k sp) (c : Cls X.K C) (hr : Room k X.A) {pl : Sem Bool} (he : PE X o ta) (ha : PA X (e :: es) t) (hst : starEach (e :: es) X.env = (false, eval e X.env) :: starEach es X.env := by rfl) (hpl : (backTo pos (starEach es X.env)).any (·.1) = false := by rfl)
    (ht : eval (.Call (.Attribute o m apos) (e :: es) [] pos) X.env = (do let ov ← eval o X.env; standAt apos.atName; let (f, first) ← holding [ov] (getMethod ov m pl); callWith pos f first (backTo pos (starEach (e :: es) X.env)) (backToKw pos (keywordEach [] X.env))) := by rfl) :
    PE X (.Call (.Attribute o m apos) (e :: es) [] pos) (tMeth C m sp [] E0 ta t) := by
  obtain ⟨f, fd, ps, h1, h2, h3⟩ := h.ex
  exact pe_meth (pl := pl) he c h1 h3 hr h2 .nil pass0 ha hst hpl ht
theorem pe_mH0 (h : HasM X.prog X.w X.K X.mg X.base C m k sp) (c : Cls X.K C) (hr : Room k X.A) {pl : Sem Bool} (he : PE X o ta)
    (ht : eval (.Call (.Attribute o m apos) [] [] pos) X.env = (do let ov ← eval o X.env; standAt apos.atName; let (f, first) ← holding [ov] (getMethod ov m pl); callWith pos f first (backTo pos (starEach [] X.env)) (backToKw pos (keywordEach [] X.env))) := by rfl) :
    PE X (.Call (.Attribute o m apos) [] [] pos) (tMeth C m sp [] E0 ta tNil) := by
  obtain ⟨f, fd, ps, h1, h2, h3⟩ := h.ex
  exact pe_meth0 (pl := pl) he c h1 h3 hr h2 .nil pass0 ht
theorem pe_iH (h : HasI X.prog X.w X.K X.mg X.base C k sp) (hm : X.mg x = some (.ref C)) (hr : Room (k + 1) X.A) (hg : Gl X x) (ha : PA X (e :: es) t) (hdb : (x == ("__debug__" : Str)) = false := by decide) (he : starEach (e :: es) X.env = (false, eval e X.env) :: starEach es X.env := by rfl)
    (hpl : (backTo pos (starEach es X.env)).any (·.1) = false := by rfl) : PE X (.Call (.Name x p) (e :: es) [] pos) (tMake C sp [] E0 t) := by
  obtain ⟨f, fd, ps, h1, h2, h3⟩ := h.ex
  exact pe_make h1 h3 hr hg hm h2 .nil pass0 ha hdb he hpl
theorem pe_pH (h : HasP X.prog X.w X.K X.mg X.base C n k sp) (c : Cls X.K C) (hr : Room (k + 1) X.A) (he : PE X e ta) (hab : attributeBase e n X.env (eval e X.env) = eval e X.env := by rfl) : PE X (.Attribute e n pos) (tProp C sp [] E0 ta) := by
  obtain ⟨q, g, fd, ps, h1, h2, h3⟩ := h.ex
  exact pe_prop he c h1 h3 hr h2 .nil pass0 hab
theorem fld_K (K : PySem.W.Frag) (he : PE X e ta) (h : X.K = K := by rfl) (hb : attributeBase e n X.env (eval e X.env) = eval e X.env := by rfl) : PE X (.Attribute e n pos) (tFld K ta n) := h ▸ pe_fld he hb
theorem pe_clsN (hm : X.mg x = some (.ref C)) (hg : Gl X x) (hd : (x == ("__debug__" : Str)) = false := by decide) : PE X (.Name x pos) (tC (.ref C)) := pe_glob hg hm rfl hd
end
/-! ### in, not in: a list or tuple of flat items, data of any depth, a dict -/
section
variable {X : Cx}
def rDIn (neg : Bool) : R2 := fun y x H Q => ∃ a o, x = .ref a ∧ DGet H a y o ∧ Q (.bl (if neg then !o.isSome else o.isSome)) H
theorem op_dIn (hu : X.A.units + 1 < cLine) : OpR X (compareOp .In) (rDIn false) := by
  intro pins s σ H y x iv u Q I ry rx h
  obtain ⟨a, ov, rfl, g, q⟩ := h
  cases rx
  exact d_in hu I g ry fun s3 I3 => ⟨.bl ov.isSome, H, I3, rfl, q⟩
theorem op_dNotIn (hu : X.A.units + 1 < cLine) : OpR X (compareOp .NotIn) (rDIn true) := by
  intro pins s σ H y x iv u Q I ry rx h
  obtain ⟨a, ov, rfl, g, q⟩ := h
  cases rx
  exact d_notIn hu I g ry fun s3 I3 => ⟨.bl (!ov.isSome), H, I3, rfl, q⟩
def rInA (K : PySem.W.Frag) : R2 := fun x y H Q => (rIn K false x y H Q ∨ rInD K x y H Q) ∨ rDIn false x y H Q
def rNiA (K : PySem.W.Frag) : R2 := fun x y H Q => (rIn K true x y H Q ∨ rNotInD K x y H Q) ∨ rDIn true x y H Q
theorem room65 {k : Nat} {A : Around} (r : Room k A) : A.units + 65 < cLine := by have := r.un; omega
theorem inA_K (K : PySem.W.Frag) {k : Nat} (hr : Room k X.A) (h : X.K = K := by rfl) : OpR X (compareOp .In) (rInA K) := h ▸ (op_in_seq.or (op_inD (room65 hr))).or (op_dIn (hu_of hr))
theorem niA_K (K : PySem.W.Frag) {k : Nat} (hr : Room k X.A) (h : X.K = K := by rfl) : OpR X (compareOp .NotIn) (rNiA K) := h ▸ (op_notIn_seq.or (op_notInD (room65 hr))).or (op_dNotIn (hu_of hr))
/-! .. is, is not: None, bools -/
def rIsA : R2 := fun x y H Q => (y = .non ∧ Q (.bl (decide (x = .non))) H) ∨ rIsB x y H Q
def rIsnA : R2 := fun x y H Q => (y = .non ∧ Q (.bl (!decide (x = .non))) H) ∨ rNotB x y H Q
theorem op_isA : OpR X (compareOp .Is) rIsA := op_isN.or op_isBl
theorem op_isnA : OpR X (compareOp .IsNot) rIsnA := op_notN.or op_notBl
/-! .. x[i]: a list, a tuple, a dict -/
def rIxD : R2 := fun x y H Q => ∃ a v, x = .ref a ∧ DGet H a y (some v) ∧ Q v H
theorem ix_dict (hu : X.A.units + 1 < cLine) : IxR X rIxD := by
  intro value slice pins s σ H x y v u Q I rx ry h hs
  obtain ⟨a, z, rfl, g, q⟩ := h
  cases rx
  have hT := dict_typeIs I g
  have fin : wpAny (model X.prog X.w) X.A (subscripted slice false (.ref a) u) (fun r s3 => wpAny (model X.prog X.w) X.A (letTemporaryGo value (.ref a) r >>= fun _ => pure r) (EP X pins σ Q) X.xe s3) X.xe s := by
    rw [hs]
    exact wpAny_operating (d_getItem hu I g ry fun w s3 I3 rw2 => wpAny_bind (wpAny_letTemporaryGo (wpAny_pure ⟨z, H, I3, rw2, q⟩)))
  unfold subscriptTail
  refine wpAny_bind (?_ : wpAny _ _ _ _ _ _)
  rw [getitemInPython_of_ne hT.not_modules]
  refine wpAny_bind (wpAny_specialOf hT PySem.F.slot_dict_getitem.lookup ?_)
  first | exact wpAny_pure (wpAny_bind fin) | exact wpAny_bind (wpAny_pure (wpAny_bind fin)) | exact wpAny_bind fin
def rIxA (K : PySem.W.Frag) : R2 := fun x y H Q => rIx K x y H Q ∨ rIxD x y H Q
theorem ixA_K (K : PySem.W.Frag) {k : Nat} (hr : Room k X.A) (h : X.K = K := by rfl) : IxR X (rIxA K) := h ▸ ix_seq.or (ix_dict (hu_of hr))
/-! .. x[i] = v: a list, a dict -/
def rSetD : V → V → V → Hp → (Hp → Prop) → Prop := fun o i v H Q => ∃ a H2, o = .ref a ∧ DPut H a i v H2 ∧ Q H2
theorem set_dict (hu : X.A.units + 1 < cLine) : PSet X rSetD := by
  intro pins s σ H o i v ov iv u Q I ro ri rv h
  obtain ⟨a, H2, rfl, g, q⟩ := h
  cases ro
  exact d_setItem hu I g ri rv fun s4 I4 => ⟨H2, I4, q⟩
def rSetA : V → V → V → Hp → (Hp → Prop) → Prop := fun o i v H Q => rSetL o i v H Q ∨ rSetD o i v H Q
theorem setA {k : Nat} (hr : Room k X.A) : PSet X rSetA := by
  intro pins s σ H o i v ov iv u Q I ro ri rv h
  rcases h with h | h
  · exact set_list pins s σ H o i v ov iv u Q I ro ri rv h
  · exact set_dict (hu_of hr) pins s σ H o i v ov iv u Q I ro ri rv h
/-! .. len: a list, a tuple, a dict -/
theorem get2_K {o e f : Expr} {apos cpos : Pos} {td ty tx : TE} {k : Nat} (hr : Room k X.A) (ho : PE X o td) (he : PE X e ty) (hf : PE X f tx) (m : M2 X o "get" apos e f cpos := by exact ⟨rfl, rfl, rfl, rfl⟩) : PE X (.Call (.Attribute o "get" apos) [e, f] [] cpos) (tDGet2 td ty tx) := pe_dget2 (hu_of hr) ho he hf m
theorem any_K (K : PySem.W.Frag) (hc : X.calm = true := by rfl) (h : X.K = K := by rfl) : CallR X (.builtin "any") (rAny K) := h ▸ cr_any hc
theorem all_K (K : PySem.W.Frag) (hc : X.calm = true := by rfl) (h : X.K = K := by rfl) : CallR X (.builtin "all") (rAll K) := h ▸ cr_all hc
theorem sfld_K (K : PySem.W.Frag) {o value : Expr} {f : Str} {pos pos' : Pos} {ta tv : TE} (ha : PE X o ta) (hv : PE X value tv) (h : X.K = K := by rfl) (hs : swapsWith value (some (.Attribute o f pos')) pos.line X.env = pure false := by rfl) : PS X (.Assign [.Attribute o f pos'] value pos) (sFld K ta tv f) := h ▸ ps_fld ha hv hs
theorem lenSet_K (K : PySem.W.Frag) {a : Expr} {ta : TE} {p p2 q pos : Pos} (hg : Gl X "len") (hm : X.mg "len" = none) (hg2 : Gl X "set") (hm2 : X.mg "set" = none) (ha : PE X a ta) (h : X.K = K := by rfl) (hc : X.calm = true := by rfl) (na : starEach [a] X.env = (false, eval a X.env) :: starEach [] X.env := by rfl) :
    PE X (.Call (.Name "len" p) [.Call (.Name "set" p2) [a] [] q] [] pos) (RZ.tLenSetI K ta) := h ▸ RZ.pe_lenSetI hg hm hg2 hm2 ha hc na
theorem allZ_K (K : PySem.W.Frag) {c P : Addr} {elt iter : Expr} {x y : Str} {px p pos gp : Pos} {scope : Scope} {pb : Int → Int → Bool} {te : TE} {k i : Nat} (hr : Room k X.A) (hg : Gl X "all") (hm : X.mg "all" = none) (hb : bootBuiltins "all" = some (.builtin "all")) (TB : GxR.TabB X.base X.mg c P) (hco : X.env.code = .ref c)
    (S : GxR.GenS X.env scope x) (hi : PE X iter te) (hN : X.N[i]? = some y) (hy : X.env.scope.names.lookup y = some .cell) (hcl : ∀ cs : List (Str × Addr), (cloFrom cs scope.names []).lookup y = some ((cs.lookup y).getD 0)) (hel : PG.EltZ X.prog X.w scope x y elt pb) (hs : ∀ v, genFold iter X.env v = pure v) (h : X.K = K := by rfl)
    (he : starEach [.GeneratorExp elt [⟨.Name x px, iter, [], 0⟩] scope gp] X.env = (false, eval (.GeneratorExp elt [⟨.Name x px, iter, [], 0⟩] scope gp) X.env) :: starEach [] X.env := by rfl) :
    PE X (.Call (.Name "all" p) [.GeneratorExp elt [⟨.Name x px, iter, [], 0⟩] scope gp] [] pos) (PG.tAllZ K P i pb te) := h ▸ PG.pe_allZ hr hg hm hb TB hco S hi hN hy hcl hel hs he
theorem idx_K (K : PySem.W.Frag) (h : X.K = K := by rfl) : MtR X "list.index" (rIndex K) := h ▸ mt_index
/-! a class's constant -/
theorem cval_K (K : PySem.W.Frag) {e : Expr} {f : Str} {pos : Pos} {ta : TE} (he : PE X e ta) (h : X.K = K := by rfl) (hb : attributeBase e f X.env (eval e X.env) = eval e X.env := by rfl) : PE X (.Attribute e f pos) (ClX.tCVal K ta f) := h ▸ ClX.pe_cval he hb
end
/-! ### steps -/
section
variable {K : PySem.W.Frag} {σ : L2.St} {H : Hp} {Q : VK} {ta tb te tc td tx : TE} {tv : TA} {v x y : V} {D : Ends} {i : Nat} {P : Bool → Hp → Prop}
def rFld (K : PySem.W.Frag) (f : Str) (Q : VK) (x : V) (H : Hp) : Prop := ∃ a C dx fs v, x = .ref a ∧ H a = some (.ins C dx fs) ∧ Cls K C ∧ NoAttr K C f ∧ fs.lookup f = some v ∧ Q v H
theorem w_fld {f : Str} (h : ta σ H fun x H1 => rFld K f Q x H1) : tFld K ta f σ H Q := h
theorem w_fldI {a C dx : Addr} {fs : List (Str × V)} {f : Str} (h : H a = some (.ins C dx fs)) (c : Cls K C) (n : NoAttr K C f) (l : fs.lookup f = some v) (k : Q v H) : rFld K f Q (.ref a) H := ⟨a, C, dx, fs, v, rfl, h, c, n, l, k⟩
def rsFld (K : PySem.W.Frag) (f : Str) (y : V) (R : Hp → Prop) (x : V) (H : Hp) : Prop := ∃ a C dx fs, x = .ref a ∧ H a = some (.ins C dx fs) ∧ Cls K C ∧ NoAttr K C f ∧ fs.length < 1000 ∧ R (upd H a (.ins C dx (putF f y fs)))
theorem w_sfld {f : Str} (h : tb σ H fun y H1 => ta σ H1 fun x H2 => rsFld K f y (D.nx σ) x H2) : sFld K ta tb f D σ H := h
theorem w_sfldI {a C dx : Addr} {fs fs2 : List (Str × V)} {f : Str} {R : Hp → Prop} (h : H a = some (.ins C dx fs)) (c : Cls K C) (n : NoAttr K C f) (l : putF f y fs = fs2) (z : fs.length < 1000) (k : ∀ H', Chg a H H' → H' a = some (.ins C dx fs2) → R H') : rsFld K f y R (.ref a) H :=
  ⟨a, C, dx, fs, rfl, h, c, n, z, by rw [l]; exact k _ chg_upd upd_same⟩
def rProp (C : Addr) (sp : Sp) (Q : VK) (x : V) (H : Hp) : Prop := ∃ a dx fs, x = .ref a ∧ H a = some (.ins C dx fs) ∧ sp [.ref a] H Q E0
theorem w_prop {C : Addr} {sp : Sp} (h : ta σ H fun x H1 => rProp C sp Q x H1) : tProp C sp [] E0 ta σ H Q := h
theorem w_propI {a C dx : Addr} {fs : List (Str × V)} {sp : Sp} (h : H a = some (.ins C dx fs)) (k : sp [.ref a] H Q E0) : rProp C sp Q (.ref a) H := ⟨a, dx, fs, rfl, h, k⟩
def rMeth (C : Addr) (m : Str) (sp : Sp) (tv : TA) (σ : L2.St) (Q : VK) (x : V) (H : Hp) : Prop := ∃ a dx fs, x = .ref a ∧ H a = some (.ins C dx fs) ∧ fs.lookup m = none ∧ tv σ H fun vs H2 => sp (x :: (vs ++ [])) H2 Q E0
theorem w_meth {C : Addr} {m : Str} {sp : Sp} (h : ta σ H fun x H1 => rMeth C m sp tv σ Q x H1) : tMeth C m sp [] E0 ta tv σ H Q := h
theorem w_methI {a C dx : Addr} {fs : List (Str × V)} {m : Str} {sp : Sp} (h : H a = some (.ins C dx fs)) (l : fs.lookup m = none) (k : tv σ H fun vs H2 => sp (.ref a :: (vs ++ [])) H2 Q E0) : rMeth C m sp tv σ Q (.ref a) H := ⟨a, dx, fs, rfl, h, l, k⟩
/-- a new instance, empty -/
def rMake (C : Addr) (sp : Sp) (Q : VK) (vs : List V) (H1 : Hp) : Prop := ∀ x dx, H1 x = none → H1 dx = none → dx ≠ x → sp (.ref x :: (vs ++ [])) (upd (upd H1 dx (.own x)) x (.ins C dx [])) (fun v H2 => v = .non ∧ Q (.ref x) H2) E0
theorem w_make {C : Addr} {sp : Sp} (h : tv σ H fun vs H1 => rMake C sp Q vs H1) : tMake C sp [] E0 tv σ H Q := h
theorem w_makeI {C : Addr} {sp : Sp} {vs : List V} (h : ∀ x dx H2, H x = none → Ex H H2 → H2 x = some (.ins C dx []) → sp (.ref x :: (vs ++ [])) H2 (fun v H3 => v = .non ∧ Q (.ref x) H3) E0) : rMake C sp Q vs H := fun x dx h1 h2 ne =>
  h x dx _ h1 (fun a o q => by rw [upd_ne (ne_of_none q h1), upd_ne (ne_of_none q h2)]; exact q) upd_same
theorem w_cval {f : Str} (h : ta σ H fun x H1 => ∃ C mc v u, x = .ref C ∧ ClX.CRead K C mc ∧ ClX.CVal K C mc f v u ∧ Q v H1) : ClX.tCVal K ta f σ H Q := h
theorem w_cvalI {C : Addr} {mc : Value} {f : Str} {A : V → Prop} (r : ClX.CRead K C mc) (c : ∃ u, ClX.CVal K C mc f v u) (h : A v) : ∃ D mc v u, V.ref C = .ref D ∧ ClX.CRead K D mc ∧ ClX.CVal K D mc f v u ∧ A v := let ⟨u, c⟩ := c; ⟨C, mc, v, u, rfl, r, c, h⟩
def rLenSet (K : PySem.W.Frag) (Q : VK) (x : V) (H : Hp) : Prop := ∃ (l : Addr) (ns : List Int), x = .ref l ∧ SqL K H l (ns.map V.int) ∧ ns.Nodup ∧ ns.length ≤ 4000 ∧ Q (.int (ns.length : Nat)) H
theorem w_lenSet (h : ta σ H fun x H1 => rLenSet K Q x H1) : RZ.tLenSetI K ta σ H Q := h
theorem w_lenSetI {l : Addr} {ns : List Int} (h : SqL K H l (ns.map V.int)) (n : ns.Nodup) (z : ns.length ≤ 4000) (k : Q (.int (ns.length : Nat)) H) : rLenSet K Q (.ref l) H := ⟨l, ns, rfl, h, n, z, k⟩
def rAllZ (K : PySem.W.Frag) (P : Addr) (i : Nat) (pb : Int → Int → Bool) (σ : L2.St) (Q : VK) (v : V) (H : Hp) : Prop := ∃ (l : Addr) (ns : List Int) (z : Int), v = .ref l ∧ SqL K H l (ns.map V.int) ∧ GxR.TabG H P ∧ σ[i]? = some (some (.int z)) ∧ ∀ H2, GxR.Tabbed P H H2 → Q (.bl (ns.all (pb z))) H2
theorem w_allZ {P : Addr} {pb : Int → Int → Bool} (h : ta σ H fun x H1 => rAllZ K P i pb σ Q x H1) : PG.tAllZ K P i pb ta σ H Q := h
theorem w_lenR {a : Addr} {xs : List V} (h : SqL K H a xs) (k : Q (.int (xs.length : Nat)) H) : rLen K [V.ref a] H Q := ⟨a, _, rfl, .inl h, k⟩
theorem w_dT (h : ∀ p H', H p = none → Ex H H' → H' p = some (.dT []) → Q (.ref p) H') : tDNewT σ H Q := fun p hp => h p _ hp (Ex.new hp) upd_same
theorem w_dK (h : ∀ p H', H p = none → Ex H H' → H' p = some (.dK []) → Q (.ref p) H') : tDNewK σ H Q := fun p hp => h p _ hp (Ex.new hp) upd_same
theorem w_never : tNever D σ H ↔ False := Iff.rfl
/-! lists, tuples, dicts by one subscript -/
theorem w_ixCA {a : Addr} {xs : List V} {i : Int} (h : SqL K H a xs) (hv : atI xs i = some v) (k : Q v H) : rIxA K (.ref a) (.int i) H Q := .inl (w_ixC h hv k)
theorem w_ixTA {a : Addr} {xs : List V} {i : Int} (h : SqT K H a xs) (hv : atI xs i = some v) (k : Q v H) : rIxA K (.ref a) (.int i) H Q := .inl (w_ixT h hv k)
theorem w_ixIA {a : Addr} {ns : List Int} {i : Int} (h : SqL K H a (ns.map V.int)) (h0 : 0 ≤ i) (h1 : i < ns.length) (k : ∀ n, ns[i.toNat]? = some n → Q (.int n) H) : rIxA K (.ref a) (.int i) H Q := .inl (w_ixI h h0 h1 k)
theorem w_ixTI {a : Addr} {ns : List Int} {i : Int} (h : SqT K H a (ns.map V.int)) (h0 : 0 ≤ i) (h1 : i < ns.length) (k : ∀ n ∈ ns, Q (.int n) H) : rIxA K (.ref a) (.int i) H Q := by
  have hl : i.toNat < ns.length := by omega
  refine w_ixTA h (v := .int ns[i.toNat]) (at_nat h0 ?_) (k _ (List.getElem_mem hl))
  rw [List.getElem?_map, List.getElem?_eq_getElem hl]
  rfl
theorem w_ixN {a : Addr} {xs : List V} {i : Int} (h : SqL K H a xs) (h0 : 0 ≤ i) (hv : xs[i.toNat]? = some v) (k : Q v H) : rIxA K (.ref a) (.int i) H Q := w_ixCA h (at_nat h0 hv) k
theorem w_ixDA {a : Addr} (g : DGet H a y (some v)) (k : Q v H) : rIxA K (.ref a) y H Q := .inr ⟨a, v, rfl, g, k⟩
theorem w_setCA {l : Addr} {xs : List V} {k : Int} {j : Nat} {R : Hp → Prop} (h : H l = some (.lst xs)) (hk : ixN xs.length k = some j) (q : ∀ H', Chg l H H' → H' l = some (.lst (xs.set j v)) → R H') : rSetA (.ref l) (.int k) v H R := .inl (w_setC h hk q)
theorem w_putK {a : Addr} {kvs : List (Key × V)} {k : Key} {R : Hp → Prop} (h : H a = some (.dK kvs)) (hl : kvs.length ≤ 100000) (q : ∀ H', Chg a H H' → H' a = some (.dK (putK kvs k v)) → R H') : rSetA (.ref a) (kV k) v H R :=
  .inr ⟨a, _, rfl, .k h (Nat.lt_of_le_of_lt hl (by decide)), q _ chg_upd upd_same⟩
theorem w_putT {a b : Addr} {kvs : List (List Key × V)} {k : List Key} {R : Hp → Prop} (h : H a = some (.dT kvs)) (hb : H b = some (.tup (k.map kV))) (hl : kvs.length ≤ 100000) (q : ∀ H', Chg a H H' → H' a = some (.dT (putK kvs k v)) → R H') : rSetA (.ref a) (.ref b) v H R :=
  .inr ⟨a, _, rfl, .t h hb (Nat.lt_of_le_of_lt hl (by decide)), q _ chg_upd upd_same⟩
/-! in -/
theorem inV_ints {ns : List Int} {i : Int} : inV (.int i) (ns.map V.int) = decide (i ∈ ns) := by
  induction ns with
  | nil => simp [inV]
  | cons n ns ih =>
    have e : inV (.int i) ((n :: ns).map V.int) = (eqV (.int n) (.int i) || inV (.int i) (ns.map V.int)) := rfl
    rw [e, ih]
    have e2 : eqV (.int n) (.int i) = decide (n = i) := by simp only [eqV]; exact Bool.eq_iff_iff.mpr (by simp)
    rw [e2]
    by_cases h : n = i
    · subst h; simp
    · have h2 : ¬ i = n := fun z => h z.symm
      simp [h, h2]
theorem flat_ints (ns : List Int) : (ns.map V.int).all flatV = true := List.all_eq_true.mpr fun x hx => by obtain ⟨n, _, rfl⟩ := List.mem_map.mp hx; rfl
theorem w_inI {a : Addr} {ns : List Int} {i : Int} (h : SqL K H a (ns.map V.int)) (k : Q (.bl (decide (i ∈ ns))) H) : rInA K (.int i) (.ref a) H Q := .inl (.inl ⟨a, _, rfl, .inl h, rfl, flat_ints ns, by rw [if_neg Bool.false_ne_true, inV_ints]; exact k⟩)
theorem w_niI {a : Addr} {ns : List Int} {i : Int} (h : SqL K H a (ns.map V.int)) (k : Q (.bl (!decide (i ∈ ns))) H) : rNiA K (.int i) (.ref a) H Q := .inl (.inl ⟨a, _, rfl, .inl h, rfl, flat_ints ns, by rw [if_pos rfl, inV_ints]; exact k⟩)
theorem w_inDA {a : Addr} {o : Option V} (g : DGet H a y o) (k : Q (.bl o.isSome) H) : rInA K y (.ref a) H Q := .inr ⟨a, o, rfl, g, by rw [if_neg Bool.false_ne_true]; exact k⟩
theorem w_niDA {a : Addr} {o : Option V} (g : DGet H a y o) (k : Q (.bl (!o.isSome)) H) : rNiA K y (.ref a) H Q := .inr ⟨a, o, rfl, g, by rw [if_pos rfl]; exact k⟩
theorem w_isN (k : Q (.bl (decide (x = .non))) H) : (fun (x y : V) (H : Hp) (Q : VK) => y = .non ∧ Q (.bl (decide (x = .non))) H) x .non H Q := ⟨rfl, k⟩
theorem w_eqS {a b : Str} (k : Q (.bl (decide (a = b))) H) : rEqA K (.str a) (.str b) H Q := .inl ⟨rfl, by
  have e : decide (V.str a = V.str b) = decide (a = b) := by simp
  rw [e]; exact k⟩
def rGet2 (ty tx : TE) (σ : L2.St) (Q : VK) (x : V) (H1 : Hp) : Prop := ∃ a, x = .ref a ∧ IsD H1 a ∧ ty σ H1 fun y H2 => tx σ H2 fun z H3 => ∃ o, DGet H3 a y o ∧ Q (o.getD z) H3
theorem w_dget2 {ty tx : TE} (h : td σ H fun x H1 => rGet2 ty tx σ Q x H1) : tDGet2 td ty tx σ H Q := h
theorem w_get2K {ty tx : TE} {a : Addr} {kvs : List (Key × V)} (h : H a = some (.dK kvs)) (k : ty σ H fun y H2 => tx σ H2 fun z H3 => ∃ o, DGet H3 a y o ∧ Q (o.getD z) H3) : rGet2 ty tx σ Q (.ref a) H := ⟨a, rfl, .inl ⟨kvs, .inl h⟩, k⟩
theorem w_gn {i : Nat} {R : L2.St → Hp → Prop} (h : R (σ.set i (some x)) H) : gName i x σ H R := h
theorem w_truLA {a : Addr} {xs : List V} {A : Bool → Prop} (s : SqL K H a xs) (h : A (!xs.isEmpty)) : ∃ k, TruV K (.ref a) H k ∧ A k := ⟨_, .inl ⟨xs, s, rfl⟩, h⟩
theorem map_erase {α β : Type} (f : α → β) : ∀ (l : List α) (i : Nat), (l.map f).eraseIdx i = (l.eraseIdx i).map f
  | [], _ => by simp
  | a :: l, 0 => rfl
  | a :: l, i + 1 => congrArg (f a :: ·) (map_erase f l i)
theorem perm_at {α : Type} : ∀ {l : List α} {i : Nat} (h : i < l.length), (l[i] :: l.eraseIdx i).Perm l
  | a :: l, 0, _ => List.Perm.refl _
  | a :: l, i + 1, h => (List.Perm.swap _ _ _).trans (List.Perm.cons a (perm_at (l := l) (i := i) (by simpa using h)))
theorem w_popAt {l : Addr} {ns : List Int} {d : Int} {y : Int} (h : H l = some (.lst (ns.map V.int))) (h0 : 0 ≤ d) (hy : ns[d.toNat]? = some y) (hs : d < 2 ^ 62) (k : ∀ H', Chg l H H' → H' l = some (.lst ((ns.eraseIdx d.toNat).map V.int)) → Q (.int y) H') : rPopAt (.ref l) [.int d] H Q := by
  have hl := (List.getElem?_eq_some_iff.mp hy).1
  have hz : d < (ns.length : Int) := by omega
  have e := k (upd H l (.lst ((ns.eraseIdx d.toNat).map V.int))) chg_upd upd_same
  by_cases big : d < 2 ^ 63
  · refine ⟨l, _, d, d.toNat, .int y, rfl, rfl, h, by omega, big, seqIndex_of h0 (by rw [List.length_map]; exact hz), by rw [List.getElem?_map, hy]; rfl, ?_⟩
    rw [map_erase]
    exact e
  · exact absurd hs (by omega)
/-! tests whose answer does not matter -/
def Tot (c : TT) (σ : L2.St) (H : Hp) : Prop := ∀ R : Bool → Hp → Prop, (∀ b, R b H) → c σ H R
theorem tot_eq {i : Nat} {k a : Int} (h : σ[i]? = some (some (.int k))) : Tot (tTest (tOp (rEqA K) (tVar i) (tC (.int a)))) σ H := fun R r => ⟨_, h, w_eqI ⟨_, rfl, r _⟩⟩
theorem tot_I {i : Nat} {k a : Int} {g : Int → Int → Bool} (h : σ[i]? = some (some (.int k))) : Tot (tTest (tOp (rI0 fun i j => .bl (g i j)) (tVar i) (tC (.int a)))) σ H := fun R r => ⟨_, h, ⟨_, _, rfl, rfl, ⟨_, rfl, r _⟩⟩⟩
theorem Tot.or {c d : TT} (h1 : Tot c σ H) (h2 : Tot d σ H) : Tot (tOr c d) σ H := fun R r => h1 _ fun b => by cases b with
  | true => exact iteT (r true)
  | false => exact iteF (h2 R r)
theorem Tot.and {c d : TT} (h1 : Tot c σ H) (h2 : Tot d σ H) : Tot (tAnd c d) σ H := fun R r => h1 _ fun b => by cases b with
  | true => exact iteT (h2 R r)
  | false => exact iteF (r false)
theorem w_ifAny {c : TT} {t u : TS} (h : Tot c σ H) (a : t D σ H) (b : u D σ H) : tIfS c t u D σ H := h _ fun k => by cases k with
  | true => exact iteT a
  | false => exact iteF b
/-! list(range(n)) -/
def rLrg (Q : VK) (x : V) (H1 : Hp) : Prop := ∃ n, x = .int n ∧ RgOk 0 n ∧ ∀ q, H1 q = none → Q (.ref q) (upd H1 q (.lst (rgV 0 n)))
theorem w_lrg (h : ta σ H fun x H1 => rLrg Q x H1) : tLstRg (tRg1 ta) σ H Q := h
def rangeI (n : Int) : List Int := (List.range n.toNat).map fun (k : Nat) => (k : Int)
theorem w_lrgI {n : Int} (h0 : 0 ≤ n) (h1 : n ≤ 100000) (k : ∀ p H', H p = none → Ex H H' → H' p = some (.lst ((rangeI n).map V.int)) → Q (.ref p) H') : rLrg Q (.int n) H :=
  ⟨n, rfl, .of_le (Int.le_refl _) (by omega) (by decide) h0, fun p hp => k p _ hp (Ex.new hp) (by
    rw [upd_same]
    unfold rgV rangeI
    rw [List.map_map, Int.sub_zero]
    exact congrArg (fun z => some (HO.lst z)) (List.map_congr_left fun i _ => congrArg V.int (Int.zero_add _)))⟩
/-! pairs compared -/
def pairD (q : Int × Int) : PyData := .tuple [.int q.1, .int q.2]
theorem dp_pair {t : Addr} {q : Int × Int} (h : H t = some (.tup [.int q.1, .int q.2])) : Dp K H (.ref t) (pairD q) := .tup (.inl (.inl h)) (.cons (.int _) (.cons (.int _) .nil))
theorem pairD_sh (q : Int × Int) : SeqAt.shaped (pairD q) = true := by
  show ((pairD q).canLay0 && decide ((pairD q).depth ≤ 64)) = true
  simp [pairD, PyData.canLay0, PyData.canLayAll0, PyData.depth, PyData.depthAll]
theorem pairsD_sh (L : List (Int × Int)) : SeqAt.shaped (.list (L.map pairD)) = true := by
  have h1 : PyData.canLayAll0 (L.map pairD) = true := by
    induction L with
    | nil => simp [PyData.canLayAll0]
    | cons q L ih => simp [PyData.canLayAll0, pairD, PyData.canLay0, ih]
  have h2 : PyData.depthAll (L.map pairD) ≤ 1 := by
    induction L with
    | nil => simp [PyData.depthAll]
    | cons q L ih =>
      have e : (pairD q).depth = 1 := by simp [pairD, PyData.depth, PyData.depthAll]
      have h3 : PyData.canLayAll0 (L.map pairD) = true := by simp [PyData.canLayAll0] at h1; exact h1.2
      have := ih h3
      simp only [List.map_cons, PyData.depthAll]
      omega
  show (PyData.canLay0 (.list (L.map pairD)) && decide (PyData.depth (.list (L.map pairD)) ≤ 64)) = true
  rw [Bool.and_eq_true]
  refine ⟨by simp only [PyData.canLay0]; exact h1, decide_eq_true ?_⟩
  simp only [PyData.depth]
  omega
theorem pairD_eqv (z w : Int × Int) : PyData.eqv (pairD z) (pairD w) = decide (z = w) := by
  obtain ⟨a, b⟩ := z
  obtain ⟨c, d⟩ := w
  have e : PyData.eqv (pairD (a, b)) (pairD (c, d)) = ((a == c) && ((b == d) && true)) := by simp only [pairD, PyData.eqv, PyData.eqvAll]
  rw [e, Bool.eq_iff_iff]
  simp
theorem any_pair (q : Int × Int) : ∀ L : List (Int × Int), ((L.map pairD).any fun z => PyData.eqv z (pairD q)) = decide (q ∈ L)
  | [] => by simp
  | z :: L => by
    rw [List.map_cons, List.any_cons, any_pair q L, pairD_eqv]
    by_cases h : z = q
    · rw [decide_eq_true h, Bool.true_or, decide_eq_true (h ▸ List.mem_cons_self)]
    · rw [decide_eq_false h, Bool.false_or]
      exact decide_eq_decide.mpr ⟨fun m => List.mem_cons_of_mem _ m, fun m => (List.mem_cons.mp m).resolve_left fun e => h e.symm⟩
/-! while -/
def WBody (W : Nat → L2.St → Hp → Prop) (m : Nat) (tb : TS) (D : Ends) (σ : L2.St) (H1 : Hp) : Prop := ∃ N : L2.St → Hp → Prop, (∀ σ' H', N σ' H' → ∃ m', m' < m ∧ W m' σ' H') ∧ tb { D with nx := N, ct := N, bk := D.nx } σ H1
theorem w_while {c : TT} {tb : TS} (W : Nat → L2.St → Hp → Prop) (m : Nat) (h0 : W m σ H) (hs : ∀ m σ H, W m σ H → c σ H fun b H1 => if b = true then WBody W m tb D σ H1 else D.nx σ H1) : tWhile c tb D σ H := ⟨W, ⟨m, h0⟩, hs⟩
theorem w_wbody {W : Nat → L2.St → Hp → Prop} {m : Nat} {tb : TS} (h : tb { D with nx := fun σ' H' => ∃ m', m' < m ∧ W m' σ' H', ct := fun σ' H' => ∃ m', m' < m ∧ W m' σ' H', bk := D.nx } σ H) : WBody W m tb D σ H := ⟨_, fun _ _ x => x, h⟩
theorem w_eqNI {i : Int} (k : Q (.bl false) H) : rEqA K .non (.int i) H Q := .inl ⟨rfl, (show decide (V.non = V.int i) = false from by simp) ▸ k⟩
theorem w_rep {l : Addr} {k : Int} {xs : List V} (h : H l = some (.lst xs)) (h0 : 0 ≤ k) (hz : xs.length * k.toNat ≤ 100000) (hk : k ≤ 100000) (q : ∀ p H', H p = none → Ex H H' → H' p = some (.lst (List.replicate k.toNat xs).flatten) → Q (.ref p) H') : rMulA (.ref l) (.int k) H Q :=
  .inr ⟨l, k, xs, rfl, rfl, h, by omega, by omega, Nat.le_trans hz (by decide), fun p hp => q p _ hp (Ex.new hp) upd_same⟩
/-! l.index(e) -/
/-- what stands ahead of the first e -/
def ahead (l : List Int) (e : Int) : List Int := l.takeWhile fun x => x != e
theorem ahead_take : ∀ (l : List Int) (e : Int), l.take (ahead l e).length = ahead l e
  | [], _ => rfl
  | a :: l, e => by
    unfold ahead
    rw [List.takeWhile_cons]
    by_cases h : (a != e) = true
    · rw [if_pos h, List.length_cons, List.take_succ_cons]
      exact congrArg (a :: ·) (ahead_take l e)
    · rw [if_neg h]
      rfl
theorem ahead_at : ∀ {l : List Int} {e : Int}, e ∈ l → l[(ahead l e).length]? = some e
  | a :: l, e, h => by
    unfold ahead
    rw [List.takeWhile_cons]
    by_cases q : (a != e) = true
    · rw [if_pos q, List.length_cons, List.getElem?_cons_succ]
      have ne : a ≠ e := by simpa using q
      exact ahead_at ((List.mem_cons.mp h).resolve_left fun z => ne z.symm)
    · rw [if_neg q]
      have e2 : a = e := by simpa using q
      rw [e2]
      rfl
theorem ahead_no : ∀ {l : List Int} {e : Int}, e ∉ ahead l e
  | [], e => by simp [ahead]
  | a :: l, e => by
    unfold ahead
    rw [List.takeWhile_cons]
    by_cases q : (a != e) = true
    · rw [if_pos q]
      intro h
      have ne : a ≠ e := by simpa using q
      exact ahead_no ((List.mem_cons.mp h).resolve_left fun z => ne z.symm)
    · rw [if_neg q]
      simp
theorem ahead_lt {l : List Int} {e : Int} (h : e ∈ l) : (ahead l e).length < l.length := (List.getElem?_eq_some_iff.mp (ahead_at h)).1
theorem w_indexI {a : Addr} {l : List Int} {e : Int} (h : SqL K H a (l.map V.int)) (he : e ∈ l) (k : Q (.int (ahead l e).length) H) : rIndex K (.ref a) [.int e] H Q := by
  refine ⟨a, _, _, (ahead l e).length, .int e, rfl, rfl, h, rfl, flat_ints l, ?_, ?_, fun m z hm hz => ?_, k⟩
  · rw [List.getElem?_map, ahead_at he]; rfl
  · simp [eqV]
  · rw [List.getElem?_map] at hz
    cases hq : l[m]? with
    | none => rw [hq] at hz; cases hz
    | some y =>
      rw [hq] at hz
      cases hz
      have m2 : y ∈ ahead l e := by
        rw [← ahead_take l e]
        exact List.mem_of_getElem? (i := m) (by rw [List.getElem?_take_of_lt hm]; exact hq)
      have ne : y ≠ e := fun z => ahead_no (z ▸ m2)
      simpa [eqV] using ne
/-! objects behind a list of addresses -/
def Objs (H : Hp) (ps : List Addr) (os : List HO) : Prop := ps.map (fun a => H a) = os.map some
theorem Objs.get {ps : List Addr} {os : List HO} (h : Objs H ps os) {i : Nat} {o : HO} (e : os[i]? = some o) : ∃ a, ps[i]? = some a ∧ H a = some o := by
  have q := congrArg (fun l => l[i]?) h
  simp only [List.getElem?_map, e] at q
  cases hp : ps[i]? with
  | none => rw [hp] at q; cases q
  | some a => rw [hp] at q; exact ⟨a, rfl, Option.some.inj q⟩
theorem Objs.back {ps : List Addr} {os : List HO} (h : Objs H ps os) {i : Nat} {a : Addr} (e : ps[i]? = some a) : ∃ o, os[i]? = some o ∧ H a = some o := by
  have q := congrArg (fun l => l[i]?) h
  simp only [List.getElem?_map, e] at q
  cases hp : os[i]? with
  | none => rw [hp] at q; cases q
  | some o => rw [hp] at q; exact ⟨o, rfl, Option.some.inj q⟩
theorem Objs.len {ps : List Addr} {os : List HO} (h : Objs H ps os) : ps.length = os.length := by
  have q := congrArg List.length h
  rw [List.length_map, List.length_map] at q
  exact q
theorem Objs.nil : Objs H [] [] := rfl
theorem Objs.app {ps qs : List Addr} {os us : List HO} (h : Objs H ps os) (h2 : Objs H qs us) : Objs H (ps ++ qs) (os ++ us) := by
  unfold Objs at *
  rw [List.map_append, List.map_append, h, h2]
theorem Objs.one {a : Addr} {o : HO} (h : H a = some o) : Objs H [a] [o] := by unfold Objs; rw [List.map_singleton, h]; rfl
theorem Objs.ex {H' : Hp} {ps : List Addr} {os : List HO} (h : Objs H ps os) (e : Ex H H') : Objs H' ps os := by
  unfold Objs at *
  rw [← h]
  refine List.map_congr_left fun a ha => ?_
  obtain ⟨i, hi⟩ := List.mem_iff_getElem?.mp ha
  obtain ⟨o, _, q⟩ := Objs.back (H := H) h hi
  rw [q, e _ _ q]
theorem Objs.at {ps : List Addr} {os : List HO} (h : Objs H ps os) {a : Addr} (m : a ∈ ps) : ∃ o, H a = some o := by
  obtain ⟨i, hi⟩ := List.mem_iff_getElem?.mp m
  obtain ⟨o, _, q⟩ := h.back hi
  exact ⟨o, q⟩
theorem Objs.chg {H' : Hp} {l : Addr} {ps : List Addr} {os : List HO} (h : Objs H ps os) (c : Chg l H H') (n : l ∉ ps) : Objs H' ps os := by
  unfold Objs at *
  rw [← h]
  exact List.map_congr_left fun a ha => c a fun e => n (e ▸ ha)
theorem w_listR {a : Addr} {xs : List V} (h : SqL K H a xs) (k : ∀ p H', H p = none → Ex H H' → H' p = some (.lst xs) → Q (.ref p) H') : rLst K [V.ref a] H Q := ⟨a, _, rfl, .inl h, fun p hp => k p _ hp (Ex.new hp) upd_same⟩
theorem take_succ {α : Type} {xs : List α} {i : Nat} {x : α} (h : xs[i]? = some x) : xs.take (i + 1) = xs.take i ++ [x] := by rw [List.take_add_one, h]; rfl
theorem dp_pairs {ps : List Addr} : ∀ {L : List (Int × Int)}, Objs H ps (L.map fun q => .tup [.int q.1, .int q.2]) → DpAll K H (ps.map V.ref) (L.map pairD) := by
  induction ps with
  | nil =>
    intro L h
    cases L with
    | nil => exact .nil
    | cons q L => cases h
  | cons a ps ih =>
    intro L h
    cases L with
    | nil => cases h
    | cons q L =>
      have e : H a = some (.tup [.int q.1, .int q.2]) := (List.cons.inj h).1
      exact .cons (dp_pair e) (ih (L := L) (List.cons.inj h).2)
theorem w_inP {t p : Addr} {q : Int × Int} {L : List (Int × Int)} {ps : List Addr} (ht : H t = some (.tup [.int q.1, .int q.2])) (hp : H p = some (.lst (ps.map V.ref))) (ho : Objs H ps (L.map fun q => .tup [.int q.1, .int q.2])) (k : Q (.bl (decide (q ∈ L))) H) : rInA K (.ref t) (.ref p) H Q :=
  .inl (.inr ⟨pairD q, L.map pairD, dp_pair ht, .lst (.inl (.inl hp)) (dp_pairs ho), pairD_sh q, pairsD_sh L, by rw [any_pair]; exact k⟩)
theorem refs_get {ps : List Addr} {i : Nat} {a : Addr} (h : ps[i]? = some a) : (ps.map V.ref)[i]? = some (.ref a) := by rw [List.getElem?_map, h]; rfl
end
end PL
namespace PE
open PySem PySem.Spec PyProof.Rows L2
/-- the code tables of the module's own defs are empty where the law starts -/
def TabOf (q : Program) (K : PySem.W.Frag) (h : Heap) : Prop := ∀ (x : Str) (f c P : Addr) (o : Obj) (fd : FuncData) (e : Value) (dd : Option Addr) (vs : Array Value) (sl : Array (Option Value)), ((recsOf q).any fun e => e.name == x) = true → PySem.W.nsIn K mainGlobals x = some (some (.ref f)) → K.lookup f = some o → o.data = .func fd → fd.code = .ref c → K.lookup c = some ⟨e, dd, .fields vs, sl⟩ → vs[11]? = some (.ref P) →
  PySem.W.CodeHd h c P ∧ h.get? P = some { cls := .none, data := .fields #[] }
theorem no_tab {K : PySem.W.Frag} {h : Heap} {P : Addr} (X : K.In h) (hK : PySem.W.noTabs K = true) (hP : h.get? P = some { cls := .none, data := .fields #[] }) : K.lookup P = none := by
  cases e : K.lookup P with
  | none => rfl
  | some o =>
    have e1 := X _ _ e
    rw [hP] at e1
    cases e1
    have h2 := List.all_eq_true.mp hK (P, _) (PySem.W.mem_of_lookupK e)
    exact absurd (show false = true from h2) Bool.false_ne_true
theorem walk_tabs {l : PySem.W.OpenLaw} {n k : Nat} {q : Program} {loose : List Str} {XP : (Str → Option Value) → Heap → Prop} {YP : World → Heap → Prop} {d : DefRec} {K : Params → PySem.W.Frag} {CX : World → CXT} {x : Str}
    (hn : l.most = some n) (hn2 : n ≤ sizeLine) (hdf : d.params.defaults = []) (hr : Room k callerA) (hY : ∀ (w : World) (h : Heap), YP w h → (K w.params).In h)
    (F : ∀ (w : World) (mg : Str → Option Value) (fa : Addr) (h : Heap), (K w.params).In h → h.Ns mainGlobals mg → mg d.name = some (.ref fa) → TabOf q (K w.params) h → LamX.LawAtS l w (K w.params) (CX w) k n x mg fa h)
    (hCX : ∀ (w : World) (H : Hp) (s : Shared) (e : Value) (s' : Shared), CX w [] H s (fun _ _ _ => False) e s' → False) :
    PySem.W.WalkO q loose XP YP l.row.toRowW d [] (fun f vs => PySem.call f vs) := by
  refine Att.attach_callB hn hdf fun w s₀ s₁ mg mb fa o pm cd doc a vs ns G Y ho hd hcd hmg hobj hints hlen hbits hg => ?_
  have KX := hY w _ Y
  have own : TabOf q (K w.params) s₁.heap := fun x f c P o1 fd1 e dd vs1 sl hrec hx k1 k2 k3 k4 k5 => by
    obtain ⟨dL, hm, hn1⟩ := List.any_eq_true.mp hrec
    have hn2 : dL.name = x := beq_iff_eq.mp hn1
    obtain ⟨a', o', fd', c', P', h1, h2, h3, h4, h5, h6⟩ := G.T.tab dL hm
    rw [hn2, PySem.W.mg_of KX G.T.g hx] at h1
    cases h1
    have g1 := KX _ _ k1
    rw [g1] at h2
    cases h2
    rw [k2] at h3
    cases h3
    rw [k3] at h4
    cases h4
    have h6' := h6
    obtain ⟨⟨oc, vc, e1, _, e3, e4⟩, hP⟩ := h6'
    have g2 := KX _ _ k4
    rw [g2] at e1
    cases e1
    cases e3
    rw [k5] at e4
    cases e4
    exact ⟨PySem.W.CodeHd.of h5 h6, hP⟩
  obtain ⟨fd, cs, sp, hT, nT, C, hb, hsp, hF⟩ := F w mg fa _ KX G.T.g hmg own
  exact LamX.law_callTs KX G.T.g G.T.b G.T.builtins G.T.nolimit hg hT nT C G.T.bmain hobj hints (Nat.le_trans hlen hn2) hr hF hb (fun H hH hS => hsp H a ns hlen hbits hH hS) fun H e s' => hCX w H s₁ e s'
end PE
/-! the walk's own tactics -/
local macro_rules | `(tactic| walk_at "ex") => `(tactic| first | assumption | exact Evl.Ex.refl _ | exact Evl.Ex.trans ?_ (by assumption))
local macro_rules | `(tactic| walk_at "at") => `(tactic| first
  | assumption
  | exact (by assumption : Evl.Ex _ _) _ _ (by walk_at "at"))
local macro_rules | `(tactic| walk_at "sq") => `(tactic| first
  | assumption
  | exact Evl.sq_of (by assumption)
  | exact Evl.ex_l (by assumption) (by walk_at "sq")
  | exact PL.Chg.sq (by assumption) (by first | assumption | exact L2.ne_of_none (by assumption) (by assumption) | exact (L2.ne_of_none (by assumption) (by assumption)).symm) (by walk_at "sq"))
local macro_rules | `(tactic| walk_at "st") => `(tactic| first
  | assumption
  | exact L2.SqT.of (by assumption)
  | exact Evl.ex_t (by assumption) (by walk_at "st"))
local macro_rules | `(tactic| walk_at "side") => `(tactic| first
  | assumption
  | omega
  | decide
  | exact Or.inr ⟨by decide, by decide⟩
  | exact Or.inl ⟨by decide, by decide⟩
  | exact Or.inr ⟨by omega, by omega⟩
  | exact Or.inl ⟨by omega, by omega⟩
  | exact ⟨by decide, by decide, by decide⟩
  | (simp only [List.length_map, List.length_cons, List.length_nil, List.length_append, List.length_take, List.length_drop]; omega))
local macro_rules | `(tactic| walk_at "w3") => `(tactic| first
  | ((with_reducible refine PL.w_mulI ?c ?_); (case c => walk_at "side"))
  | ((with_reducible refine PL.w_divI ?c ?d ?_); (case c => walk_at "side"); (case d => walk_at "side"))
  | ((with_reducible refine PL.w_modI ?c ?_); (case c => walk_at "side"))
  | ((with_reducible refine PL.w_powI ?c ?_); (case c => walk_at "side"))
  | ((with_reducible refine PL.w_ixC (xs := ?x) (v := ?y) ?c ?d ?_); (case c => walk_at "sq"); (case d => rfl))
  | ((with_reducible refine PL.w_lenI (ns := ?x) ?c ?_); (case c => walk_at "sq"))
  | ((with_reducible refine PL.w_lenT (xs := ?x) ?c ?_); (case c => walk_at "st"))
  | ((with_reducible refine PL.w_ixT (xs := ?x) (v := ?y) ?c ?d ?_); (case c => walk_at "st"); (case d => rfl))
  | ((with_reducible refine PL.w_truL (xs := ?x) ?c ?_); (case c => walk_at "sq"))
  | (with_reducible refine PL.w_isi_ii ?_)
  | (with_reducible refine PL.w_isi_ib ?_)
  | ((with_reducible refine PL.w_isi_ll (xs := ?x) ?c ?_); (case c => walk_at "sq"))
  | ((with_reducible refine PL.w_isi_tt (xs := ?x) ?c ?_); (case c => walk_at "at"))
  | ((with_reducible refine PL.w_ty (xs := ?x) ?c ?_); (case c => walk_at "sq"))
  | ((with_reducible refine PL.w_rng ?c ?d ?_); (case c => walk_at "side"); (case d => walk_at "side"))
  | ((with_reducible refine PL.w_rng2 ?c ?d ?e ?f ?_); (case c => walk_at "side"); (case d => walk_at "side"); (case e => walk_at "side"); (case f => walk_at "side"))
  | ((with_reducible refine PL.w_lstI (xs := ?x) ?c ?_); (case c => walk_at "sq"))
  | ((with_reducible refine PL.w_enu (xs := ?x) ?c ?_); (case c => walk_at "sq")))
local macro_rules | `(tactic| walk_at "wv") => `(tactic| ((with_reducible refine PL.w_var (v := ?v) ?e ?_); (case e => rfl)))
local macro_rules | `(tactic| walk_at "w0") => `(tactic| repeat (first
  | (with_reducible first
  | refine PL.w_seq ?_ | refine PL.w_asg ?_ | refine PL.w_ret ?_ | refine PL.w_if ?_ | refine PL.w_drop ?_ | refine PL.w_next ?_ | refine PL.w_brk ?_ | refine PL.w_cont ?_
  | refine PL.w_c ?_ | refine PL.w_op ?_ | refine PL.w_un ?_ | refine PL.w_test ?_ | refine PL.w_and ?_ | refine PL.w_or ?_ | refine PL.w_not ?_ | refine PL.w_andV ?_ | refine PL.w_orV ?_ | refine PL.w_notV ?_ | refine PL.w_ifE ?_
  | refine PL.w_nil ?_ | refine PL.w_cons ?_ | refine PL.w_call ?_ | refine PL.w_cb ?_ | refine PL.w_lst ?_ | refine PL.w_tup ?_ | refine PL.w_sl ?_ | refine PL.w_noPart ?_ | refine PL.w_part ?_ | refine PL.w_chain ?_
  | refine PL.w_bm ?_ | refine PL.w_bm0 ?_ | refine PL.w_sub ?_ | refine PL.w_for ?_ | refine PL.w_iR1 ?_ | refine PL.w_iR2 ?_ | refine PL.w_iL ?_ | refine PL.w_iE ?_ | refine PL.w_lc ?_ | refine PL.w_tru ?_ | refine PL.w_lc2 ?_ | refine PL.w_yes ?_)
  | (first
  | walk_at "wv"
  | with_reducible refine PL.w_bl0 ?_ | with_reducible refine PL.w_some0 ?_ | with_reducible refine PL.w_truB0 ?_ | with_reducible refine PL.w_truI ?_
  | with_reducible refine PL.w_I0 ?_ | with_reducible refine PL.w_neg ?_ | with_reducible refine PL.w_addI ?_ | with_reducible refine PL.w_eqI ?_ | with_reducible refine PL.w_neI ?_ | with_reducible refine PL.w_int1 ?_
  | with_reducible refine PL.w_true ?_ | with_reducible refine PL.w_false ?_ | with_reducible refine PL.w_notT ?_ | with_reducible refine PL.w_notF ?_)
  | walk_at "w3"))
local macro_rules | `(tactic| walk_at "w") => `(tactic| ((try with_reducible conv => whnf); (walk_at "w0"); (try with_reducible conv => whnf)))
/-! the walk's own tactics: objects -/
local macro_rules | `(tactic| walk_at "o3") => `(tactic| first
  | ((with_reducible refine PL.w_fldI (C := ?z) (dx := ?w) (fs := ?x) (v := ?y) ?c ?d ?e ?f ?_); (case c => walk_at "at"); (case d => assumption); (case e => assumption); (case f => rfl))
  | ((with_reducible refine PL.w_propI (dx := ?w) (fs := ?x) ?c ?_); (case c => walk_at "at"))
  | ((with_reducible refine PL.w_methI (dx := ?w) (fs := ?x) ?c ?d ?_); (case c => walk_at "at"); (case d => rfl))
  | ((with_reducible refine PL.w_cvalI (mc := ?x) (v := ?y) ?c ?d ?_); (case c => assumption); (case d => assumption))
  | ((with_reducible refine PL.w_ixCA (xs := ?x) (v := ?y) ?c ?d ?_); (case c => walk_at "sq"); (case d => rfl))
  | ((with_reducible refine PL.w_ixTA (xs := ?x) (v := ?y) ?c ?d ?_); (case c => walk_at "st"); (case d => rfl))
  | ((with_reducible refine PL.w_inI (ns := ?x) ?c ?_); (case c => walk_at "sq"))
  | ((with_reducible refine PL.w_niI (ns := ?x) ?c ?_); (case c => walk_at "sq"))
  | (with_reducible refine PL.w_eqS ?_))
local macro_rules | `(tactic| walk_at "w0") => `(tactic| repeat (first
  | (with_reducible first
  | refine PL.w_seq ?_ | refine PL.w_asg ?_ | refine PL.w_ret ?_ | refine PL.w_if ?_ | refine PL.w_drop ?_ | refine PL.w_next ?_ | refine PL.w_brk ?_ | refine PL.w_cont ?_
  | refine PL.w_c ?_ | refine PL.w_op ?_ | refine PL.w_un ?_ | refine PL.w_test ?_ | refine PL.w_and ?_ | refine PL.w_or ?_ | refine PL.w_not ?_ | refine PL.w_andV ?_ | refine PL.w_orV ?_ | refine PL.w_notV ?_ | refine PL.w_ifE ?_
  | refine PL.w_nil ?_ | refine PL.w_cons ?_ | refine PL.w_call ?_ | refine PL.w_cb ?_ | refine PL.w_lst ?_ | refine PL.w_tup ?_ | refine PL.w_sl ?_ | refine PL.w_noPart ?_ | refine PL.w_part ?_ | refine PL.w_chain ?_
  | refine PL.w_bm ?_ | refine PL.w_bm0 ?_ | refine PL.w_sub ?_ | refine PL.w_for ?_ | refine PL.w_iR1 ?_ | refine PL.w_iR2 ?_ | refine PL.w_iL ?_ | refine PL.w_iE ?_ | refine PL.w_lc ?_ | refine PL.w_tru ?_ | refine PL.w_lc2 ?_ | refine PL.w_yes ?_
  | refine PL.w_fld ?_ | refine PL.w_sfld ?_ | refine PL.w_prop ?_ | refine PL.w_meth ?_ | refine PL.w_make ?_ | refine PL.w_cval ?_ | refine PL.w_lenSet ?_ | refine PL.w_lrg ?_ | refine PL.w_gn ?_ | refine PL.w_dget2 ?_ | refine PL.w_allZ ?_)
  | (first
  | walk_at "wv"
  | with_reducible refine PL.w_bl0 ?_ | with_reducible refine PL.w_some0 ?_ | with_reducible refine PL.w_truB0 ?_ | with_reducible refine PL.w_truI ?_
  | with_reducible refine PL.w_I0 ?_ | with_reducible refine PL.w_neg ?_ | with_reducible refine PL.w_addI ?_ | with_reducible refine PL.w_eqI ?_ | with_reducible refine PL.w_neI ?_ | with_reducible refine PL.w_int1 ?_
  | with_reducible refine PL.w_true ?_ | with_reducible refine PL.w_false ?_ | with_reducible refine PL.w_notT ?_ | with_reducible refine PL.w_notF ?_)
  | walk_at "w3"
  | walk_at "o3"))
namespace Pr
open PySem PySem.Spec PyProof.Rows L2 Evl PL
def topS (i : Nat) : Stmt := PySem.Challenge.pw_pullstore_k51_pulls_carry.main.body.getD i (.Pass ⟨0, 0, 0, 0⟩)
abbrev Frg := PySem.W.Frag
structure Ad where
  Cluster : Addr
  Net : Addr
  c__is_log : Addr
  t__is_log : Addr
/-! ### nets, clusters, logs in the heap -/
def LexLt (p q : Int × Int) : Prop := p.1 < q.1 ∨ (p.1 = q.1 ∧ p.2 < q.2)
def pk (q : Int × Int) : List Key := [.inl q.1, .inl q.2]
def pairO (q : Int × Int) : HO := .tup [.int q.1, .int q.2]
theorem pk_inj {a b : Int × Int} (h : pk a = pk b) : a = b := by
  obtain ⟨a1, a2⟩ := a
  obtain ⟨b1, b2⟩ := b
  unfold pk at h
  simp at h
  rw [h.1, h.2]
theorem pk_pair (q : Int × Int) : PO.keyPair (pk q) = q := rfl
theorem pk_tup (q : Int × Int) : (.tup ((pk q).map kV) : HO) = pairO q := rfl
def ExB (s : Addr) (H H' : Hp) : Prop := ∀ b o, b ≠ s → H b = some o → H' b = some o
theorem ExB.refl (s : Addr) (H : Hp) : ExB s H H := fun _ _ _ q => q
theorem ExB.ex {s : Addr} {H0 H H' : Hp} (h : ExB s H H') (e : Ex H0 H) (n : H0 s = none) : Ex H0 H' := fun b o q => h b o (ne_of_none q n) (e b o q)
theorem ExB.ofEx {s : Addr} {H H' : Hp} (e : Ex H H') : ExB s H H' := fun b o _ q => e b o q
theorem ExB.trans {s : Addr} {H0 H H' : Hp} (a : ExB s H0 H) (b : ExB s H H') : ExB s H0 H' := fun x o n q => b x o n (a x o n q)
theorem ExB.chg {s : Addr} {H H' : Hp} (c : Chg s H H') : ExB s H H' := fun b o n q => (c b n).trans q
/-- at p a list of pairs -/
def Prs (H : Hp) (p : Addr) (L : List (Int × Int)) : Prop := ∃ ps : List Addr, H p = some (.lst (ps.map V.ref)) ∧ Objs H ps (L.map pairO)
theorem Prs.ex {H H' : Hp} {p : Addr} {L : List (Int × Int)} (h : Prs H p L) (e : Ex H H') : Prs H' p L := let ⟨ps, a, b⟩ := h; ⟨ps, e _ _ a, b.ex e⟩
/-- at p a list of lists of ints -/
def LLs (H : Hp) (p : Addr) (xs : List (List Int)) : Prop := ∃ ps : List Addr, H p = some (.lst (ps.map V.ref)) ∧ Objs H ps (xs.map fun l => .lst (l.map V.int))
theorem LLs.ex {H H' : Hp} {p : Addr} {xs : List (List Int)} (h : LLs H p xs) (e : Ex H H') : LLs H' p xs := let ⟨ps, a, b⟩ := h; ⟨ps, e _ _ a, b.ex e⟩
abbrev lstO (l : List Int) : HO := .lst (l.map V.int)
/-- .. all of them new since H -/
def LLf (H H' : Hp) (r : Addr) (xs : List (List Int)) : Prop := ∃ ps : List Addr, H' r = some (.lst (ps.map V.ref)) ∧ Objs H' ps (xs.map lstO) ∧ H r = none ∧ (∀ a ∈ ps, H a = none) ∧ ps.Nodup ∧ r ∉ ps
theorem LLf.ll {H H' : Hp} {r : Addr} {xs : List (List Int)} (h : LLf H H' r xs) : LLs H' r xs := let ⟨ps, a, b, _⟩ := h; ⟨ps, a, b⟩
def NetP (D : Ad) (H : Hp) (a : Addr) (n : Int) (L : List (Int × Int)) : Prop := ∃ (dx d l : Addr) (kvs : List (List Key × V)) (ks : List (Int × Int)), H a = some (.ins D.Net dx [("count", .int n), ("_linked", .ref d), ("_links", .ref l)]) ∧
  H d = some (.dT kvs) ∧ kvs.map (·.1) = ks.map pk ∧ (∀ q, q ∈ ks ↔ q ∈ L) ∧ Prs H l L
theorem NetP.ex {D : Ad} {H H' : Hp} {a : Addr} {n : Int} {L : List (Int × Int)} (h : NetP D H a n L) (e : Ex H H') : NetP D H' a n L :=
  let ⟨dx, d, l, kvs, ks, h1, h2, h3, h4, h5⟩ := h; ⟨dx, d, l, kvs, ks, e _ _ h1, e _ _ h2, h3, h4, h5.ex e⟩
def ClP (D : Ad) (H : Hp) (c : Addr) (n : Int) (L : List (Int × Int)) (hs : List Int) : Prop := ∃ dx nt h : Addr, H c = some (.ins D.Cluster dx [("net", .ref nt), ("size", .int hs.length), ("_homes", .ref h)]) ∧ H h = some (.lst (hs.map V.int)) ∧ NetP D H nt n L
theorem ClP.ex {D : Ad} {H H' : Hp} {c : Addr} {n : Int} {L : List (Int × Int)} {hs : List Int} (h : ClP D H c n L hs) (e : Ex H H') : ClP D H' c n L hs :=
  let ⟨dx, nt, g, h1, h2, h3⟩ := h; ⟨dx, nt, g, e _ _ h1, e _ _ h2, h3.ex e⟩
/-- keys of a dict under a put -/
theorem keys_put {kvs : List (List Key × V)} {ks : List (Int × Int)} {q : Int × Int} {v : V} (h : kvs.map (·.1) = ks.map pk) : (putK kvs (pk q) v).map (·.1) = (if q ∈ ks then ks else ks ++ [q]).map pk := by
  have iff : (kvs.any fun kv => decide (kv.1 = pk q)) = decide (q ∈ ks) := by
    rw [Bool.eq_iff_iff, List.any_eq_true, decide_eq_true_eq]
    constructor
    · rintro ⟨kv, hm, e⟩
      have m : kv.1 ∈ ks.map pk := by rw [← h]; exact List.mem_map.mpr ⟨kv, hm, rfl⟩
      obtain ⟨r, hr, er⟩ := List.mem_map.mp m
      rw [of_decide_eq_true e] at er
      rw [← pk_inj er]
      exact hr
    · intro hm
      have m : pk q ∈ kvs.map (·.1) := by rw [h]; exact List.mem_map.mpr ⟨q, hm, rfl⟩
      obtain ⟨kv, hk, e⟩ := List.mem_map.mp m
      exact ⟨kv, hk, decide_eq_true e⟩
  unfold putK
  by_cases hq : q ∈ ks
  · rw [if_pos hq, if_pos (by rw [iff]; exact decide_eq_true hq), List.map_map, ← h]
    refine List.map_congr_left fun kv _ => ?_
    show (if kv.1 = pk q then (kv.1, v) else kv).1 = kv.1
    by_cases e : kv.1 = pk q
    · rw [if_pos e]
    · rw [if_neg e]
  · rw [if_neg hq, if_neg (by rw [iff]; simpa using hq), List.map_append, List.map_append, h]
    rfl
theorem val_some {kvs : List (List Key × V)} {ks : List (Int × Int)} {q : Int × Int} (h : kvs.map (·.1) = ks.map pk) : (valV kvs (pk q)).isSome = decide (q ∈ ks) := by
  rw [← valV_any, Bool.eq_iff_iff, List.any_eq_true, decide_eq_true_eq]
  constructor
  · rintro ⟨kv, hm, e⟩
    have m : kv.1 ∈ ks.map pk := by rw [← h]; exact List.mem_map.mpr ⟨kv, hm, rfl⟩
    obtain ⟨r, hr, er⟩ := List.mem_map.mp m
    rw [of_decide_eq_true e] at er
    rw [← pk_inj er]
    exact hr
  · intro hm
    have m : pk q ∈ kvs.map (·.1) := by rw [h]; exact List.mem_map.mpr ⟨q, hm, rfl⟩
    obtain ⟨kv, hk, e⟩ := List.mem_map.mp m
    exact ⟨kv, hk, decide_eq_true e⟩
/-- two strictly rising lists with the same members are one -/
theorem lex_uniq : ∀ {L M : List (Int × Int)}, L.Pairwise LexLt → M.Pairwise LexLt → (∀ q, q ∈ L ↔ q ∈ M) → L = M
  | [], [], _, _, _ => rfl
  | [], b :: M, _, _, h => absurd ((h b).mpr List.mem_cons_self) (by simp)
  | a :: L, [], _, _, h => absurd ((h a).mp List.mem_cons_self) (by simp)
  | a :: L, b :: M, hl, hm, h => by
    obtain ⟨l1, l2⟩ := List.pairwise_cons.mp hl
    obtain ⟨m1, m2⟩ := List.pairwise_cons.mp hm
    have irr : ∀ {x y : Int × Int}, LexLt x y → LexLt y x → False := fun {x y} p q => by unfold LexLt at p q; omega
    have e : a = b := by
      rcases List.mem_cons.mp ((h a).mp List.mem_cons_self) with e | m
      · exact e
      rcases List.mem_cons.mp ((h b).mpr List.mem_cons_self) with e | m'
      · exact e.symm
      · exact (irr (l1 b m') (m1 a m)).elim
    subst e
    rw [lex_uniq l2 m2 fun q => ⟨fun p => ?_, fun p => ?_⟩]
    · rcases List.mem_cons.mp ((h q).mp (List.mem_cons_of_mem _ p)) with e | m
      · rw [e] at p
        exact (irr (l1 a p) (l1 a p)).elim
      · exact m
    · rcases List.mem_cons.mp ((h q).mpr (List.mem_cons_of_mem _ p)) with e | m
      · rw [e] at p
        exact (irr (m1 a p) (m1 a p)).elim
      · exact m
theorem lex_strict {L : List (Int × Int)} (h : L.Pairwise PO.LexLe) (n : L.Nodup) : L.Pairwise LexLt := by
  refine (h.and n).imp fun {a b} hab => ?_
  obtain ⟨h1, h2⟩ := hab
  unfold PO.LexLe at h1
  unfold LexLt
  rcases h1 with h1 | ⟨h1, h3⟩
  · exact .inl h1
  · refine .inr ⟨h1, ?_⟩
    rcases Int.lt_or_eq_of_le h3 with z | z
    · exact z
    · exact absurd (Prod.ext h1 z) h2
/-! ### carrying -/
def holdN (xs : List (List Int)) (e : Int) (i : Nat) : List Int := ((List.range i).filter fun j => (xs[j]?.map fun l => decide (e ∈ l)).getD false).map fun (j : Nat) => (j : Int)
theorem holdN_yes {xs : List (List Int)} {e : Int} {i : Nat} {l : List Int} (h : xs[i]? = some l) (m : e ∈ l) : holdN xs e (i + 1) = holdN xs e i ++ [(i : Int)] := by
  unfold holdN
  rw [List.range_succ, List.filter_append, List.map_append, List.filter_cons_of_pos (by rw [h]; exact decide_eq_true m)]
  rfl
theorem holdN_no {xs : List (List Int)} {e : Int} {i : Nat} {l : List Int} (h : xs[i]? = some l) (m : e ∉ l) : holdN xs e (i + 1) = holdN xs e i := by
  unfold holdN
  rw [List.range_succ, List.filter_append, List.map_append, List.filter_cons_of_neg (by rw [h]; simpa using m)]
  exact List.append_nil _
/-- who holds e -/
def hold (xs : List (List Int)) (e : Int) : List Int := holdN xs e xs.length
def pos (l : List Int) (e : Int) : Option Nat := if e ∈ l then some (ahead l e).length else none
/-- at d the places of l -/
def IdxD (H : Hp) (d : Addr) (l : List Int) : Prop := ∃ kvs, H d = some (.dK kvs) ∧ ∀ e : Int, valV kvs (.inl e) = (pos l e).map fun n : Nat => V.int (n : Int)
theorem IdxD.ex {H H' : Hp} {d : Addr} {l : List Int} (h : IdxD H d l) (e : Ex H H') : IdxD H' d l := let ⟨k, a, b⟩ := h; ⟨k, e _ _ a, b⟩
def Idxs (H : Hp) (r : Addr) (xs : List (List Int)) : Prop := ∃ ds : List Addr, H r = some (.lst (ds.map V.ref)) ∧ ds.length = xs.length ∧ ∀ (i : Nat) d l, ds[i]? = some d → xs[i]? = some l → IdxD H d l
theorem Idxs.ex {H H' : Hp} {r : Addr} {xs : List (List Int)} (h : Idxs H r xs) (e : Ex H H') : Idxs H' r xs := let ⟨k, a, b, c⟩ := h; ⟨k, e _ _ a, b, fun i d l h1 h2 => (c i d l h1 h2).ex e⟩
/-- what stands ahead of e in the first log and not ahead of e in the second -/
def blk (ls lr : List Int) (e : Int) : Option Int := (ahead ls e).find? fun a => decide (a ∉ ahead lr e)
def optI : Option Int → V
  | none => .non
  | some i => .int i
def carB (ls lr : List Int) (e : Int) : Bool := decide (e ∈ ls) && (decide (e ∈ lr) && (blk ls lr e).isNone)
def logAt (xs : List (List Int)) (i : Int) : List Int := (xs[i.toNat]?).getD []
def carL (L : List (Int × Int)) (xs : List (List Int)) (e : Int) : List (Int × Int) := L.filter fun q => carB (logAt xs q.1) (logAt xs q.2) e
def rootsF (hs : List Int) (st gl : List (List Int)) (e : Int) : List Int := if hold st e = [] then (if e ∈ logAt gl ((hs[e.toNat]?).getD 0) then [(hs[e.toNat]?).getD 0] else []) else hold st e
/-- steps: how far along carrying links -/
abbrev Sts := List (Option Nat)
def optV : Option Nat → V
  | none => .non
  | some k => .int k
def sw1 (d : Nat) (st : Sts) (q : Int × Int) : Sts := if st[q.1.toNat]? = some (some d) ∧ st[q.2.toNat]? = some none then st.set q.2.toNat (some (d + 1)) else st
def sweep (d : Nat) (st : Sts) (L : List (Int × Int)) : Sts := L.foldl (sw1 d) st
def runS : Nat → Nat → Sts → List (Int × Int) → Sts
  | 0, _, st, _ => st
  | k + 1, d, st, L => runS k (d + 1) (sweep d st L) L
def st0 (n : Nat) (rs : List Int) : Sts := rs.foldl (fun st r => st.set r.toNat (some 0)) (List.replicate n none)
theorem pos_some {l : List Int} {e : Int} (h : e ∈ l) : pos l e = some (ahead l e).length := if_pos h
theorem pos_none {l : List Int} {e : Int} (h : e ∉ l) : pos l e = none := if_neg h
/-- in a list without repeats an item stands ahead of e where its place is smaller -/
theorem ahead_iff {l : List Int} {e a : Int} (he : e ∈ l) : (∃ k, pos l a = some k ∧ k < (ahead l e).length) ↔ a ∈ ahead l e := by
  constructor
  · rintro ⟨k, hk, hl⟩
    have ha : a ∈ l := by
      by_cases h : a ∈ l
      · exact h
      · rw [pos_none h] at hk; cases hk
    rw [pos_some ha] at hk
    cases hk
    have q : (ahead l e)[(ahead l a).length]? = some a := by
      rw [← ahead_take l e, List.getElem?_take_of_lt hl]
      exact ahead_at ha
    exact List.mem_of_getElem? q
  · intro ha
    have hl : a ∈ l := by
      rw [← ahead_take l e] at ha
      exact List.mem_of_mem_take ha
    refine ⟨_, pos_some hl, ?_⟩
    obtain ⟨i, hi⟩ := List.mem_iff_getElem?.mp ha
    have hi1 := (List.getElem?_eq_some_iff.mp hi).1
    have hi2 : l[i]? = some a := by
      rw [← ahead_take l e] at hi
      rw [List.getElem?_take_of_lt hi1] at hi
      exact hi
    -- the first place of a is not behind i
    rcases Nat.lt_or_ge i (ahead l a).length with z | z
    · have q : a ∈ ahead l a := by
        rw [← ahead_take l a]
        exact List.mem_of_getElem? (i := i) (by rw [List.getElem?_take_of_lt z]; exact hi2)
      exact absurd q ahead_no
    · omega
theorem ahead_append {l m : List Int} {e : Int} (h : e ∈ l) : ahead (l ++ m) e = ahead l e := by
  induction l with
  | nil => cases h
  | cons a l ih =>
    unfold ahead
    rw [List.cons_append, List.takeWhile_cons, List.takeWhile_cons]
    by_cases q : (a != e) = true
    · rw [if_pos q, if_pos q]
      have ne : a ≠ e := by simpa using q
      exact congrArg (a :: ·) (ih ((List.mem_cons.mp h).resolve_left fun z => ne z.symm))
    · rw [if_neg q, if_neg q]
theorem ahead_snoc {l : List Int} {e : Int} (h : e ∉ l) : ahead (l ++ [e]) e = l := by
  induction l with
  | nil => simp [ahead]
  | cons a l ih =>
    unfold ahead
    have ne : a ≠ e := fun z => h (z ▸ List.mem_cons_self)
    rw [List.cons_append, List.takeWhile_cons, if_pos (by simpa using ne)]
    exact congrArg (a :: ·) (ih fun m => h (List.mem_cons_of_mem _ m))
theorem pos_snoc_self {l : List Int} {e : Int} (h : e ∉ l) : pos (l ++ [e]) e = some l.length := by rw [pos_some (by simp), ahead_snoc h]
theorem pos_snoc_ne {l : List Int} {e a : Int} (h : e ≠ a) : pos (l ++ [a]) e = pos l e := by
  by_cases m : e ∈ l
  · rw [pos_some m, pos_some (List.mem_append_left _ m), ahead_append m]
  · rw [pos_none m, pos_none fun z => (List.mem_append.mp z).elim m fun y => h (List.mem_singleton.mp y)]
theorem blk_at {ls lt : List Int} {e b : Int} {i : Nat} (pr : ∀ c ∈ (ahead ls e).take i, c ∈ ahead lt e) (hb : (ahead ls e)[i]? = some b) (hm : b ∉ ahead lt e) : blk ls lt e = some b := by
  unfold blk
  have hl := (List.getElem?_eq_some_iff.mp hb).1
  have sp : ahead ls e = (ahead ls e).take i ++ b :: (ahead ls e).drop (i + 1) := by
    have e1 : (ahead ls e)[i] = b := (List.getElem?_eq_some_iff.mp hb).2
    rw [← e1, List.getElem_cons_drop]
    exact (List.take_append_drop i _).symm
  rw [sp, List.find?_append]
  have n : ((ahead ls e).take i).find? (fun a => decide (a ∉ ahead lt e)) = none := List.find?_eq_none.mpr fun c hc => by simpa using pr c hc
  rw [n, List.find?_cons_of_pos (by simpa using hm)]
  rfl
/-! the sweeps -/
def nones (st : Sts) : Nat := st.countP fun o => o.isNone
theorem nones_set : ∀ {st : Sts} {t : Nat} {v : Nat}, st[t]? = some none → nones (st.set t (some v)) + 1 = nones st
  | [], t, v, h => by simp at h
  | a :: st, 0, v, h => by
    have e : a = none := Option.some.inj h
    subst e
    unfold nones
    simp
  | a :: st, t + 1, v, h => by
    have ih := nones_set (st := st) (t := t) (v := v) (by simpa using h)
    unfold nones at *
    rw [List.set_cons_succ, List.countP_cons, List.countP_cons]
    omega
theorem sw1_len {d : Nat} {st : Sts} {q : Int × Int} : (sw1 d st q).length = st.length := by
  unfold sw1
  split
  · exact List.length_set
  · rfl
theorem sweep_len {d : Nat} : ∀ {L : List (Int × Int)} {st : Sts}, (sweep d st L).length = st.length
  | [], st => rfl
  | q :: L, st => by
    unfold sweep
    rw [List.foldl_cons]
    exact (sweep_len (L := L)).trans sw1_len
theorem run_len {L : List (Int × Int)} : ∀ {k d : Nat} {st : Sts}, (runS k d st L).length = st.length
  | 0, _, _ => rfl
  | k + 1, d, st => (run_len (k := k)).trans sweep_len
theorem run_snoc {L : List (Int × Int)} : ∀ {k d : Nat} {st : Sts}, runS (k + 1) d st L = sweep (d + k) (runS k d st L) L
  | 0, d, st => rfl
  | k + 1, d, st => by
    show runS (k + 1) (d + 1) (sweep d st L) L = _
    rw [run_snoc (k := k)]
    show sweep (d + 1 + k) _ L = sweep (d + (k + 1)) _ L
    rw [show d + 1 + k = d + (k + 1) by omega]
    rfl
theorem run_add {L : List (Int × Int)} {d : Nat} {st : Sts} {a : Nat} : ∀ {b : Nat}, runS (a + b) d st L = runS b (d + a) (runS a d st L) L
  | 0 => rfl
  | b + 1 => by
    rw [show a + (b + 1) = a + b + 1 by omega, run_snoc, run_snoc, run_add (b := b), show d + (a + b) = d + a + b by omega]
/-- no d among the values: the sweep changes nothing -/
theorem sweep_no {d : Nat} {st : Sts} (h : ∀ i : Nat, st[i]? ≠ some (some d)) : ∀ {L : List (Int × Int)}, sweep d st L = st
  | [] => rfl
  | q :: L => by
    unfold sweep
    rw [List.foldl_cons]
    have e : sw1 d st q = st := if_neg fun z => h _ z.1
    rw [e]
    exact sweep_no h
theorem run_no {L : List (Int × Int)} {st : Sts} : ∀ {k d : Nat}, (∀ (i v : Nat), st[i]? = some (some v) → v < d) → runS k d st L = st
  | 0, _, _ => rfl
  | k + 1, d, h => by
    show runS k (d + 1) (sweep d st L) L = st
    rw [sweep_no fun i z => Nat.lt_irrefl d (h i d z)]
    exact run_no fun i v z => Nat.lt_succ_of_lt (h i v z)
/-- the state within a sweep: front the readers that were met -/
structure SwI (k : Nat) (st st' : Sts) (fl : List Int) : Prop where
  len : st'.length = st.length
  cnt : nones st' + fl.length = nones st
  hit : fl ≠ [] ↔ ∃ i : Nat, st'[i]? = some (some (k + 1))
  le : ∀ (i v : Nat), st'[i]? = some (some v) → v ≤ k + 1
theorem SwI.start {k : Nat} {st : Sts} (h : ∀ (i v : Nat), st[i]? = some (some v) → v ≤ k) : SwI k st st [] :=
  ⟨rfl, rfl, ⟨fun z => absurd rfl z, fun ⟨i, z⟩ => absurd (h i _ z) (by omega)⟩, fun i v z => Nat.le_succ_of_le (h i v z)⟩
theorem SwI.step {k : Nat} {st st' : Sts} {fl : List Int} {t : Nat} {x : Int} (h : SwI k st st' fl) (ht : st'[t]? = some none) : SwI k st (st'.set t (some (k + 1))) (fl ++ [x]) := by
  have tl := (List.getElem?_eq_some_iff.mp ht).1
  refine ⟨List.length_set.trans h.len, ?_, ⟨fun _ => ⟨t, ?_⟩, fun _ => by simp⟩, fun i v z => ?_⟩
  · have := nones_set (v := k + 1) ht
    rw [List.length_append]
    have := h.cnt
    simp
    omega
  · rw [List.getElem?_set_self tl]
  · by_cases e : i = t
    · subst e
      rw [List.getElem?_set_self tl] at z
      cases z
      exact Nat.le_refl _
    · rw [List.getElem?_set_ne (Ne.symm e)] at z
      exact h.le i v z
/-- the state at the top of the while: k sweeps done -/
structure WhI (n k : Nat) (s0 st : Sts) (L : List (Int × Int)) (fl : List Int) : Prop where
  eq : st = runS k 0 s0 L
  len : st.length = n
  hit : fl ≠ [] ↔ ∃ i : Nat, st[i]? = some (some k)
  le : ∀ (i v : Nat), st[i]? = some (some v) → v ≤ k
  kn : k ≤ n
  cnt : fl ≠ [] → nones st + k + 1 ≤ n
theorem WhI.next {n k : Nat} {s0 st st' : Sts} {L : List (Int × Int)} {fl fl' : List Int} (h : WhI n k s0 st L fl) (f : fl ≠ []) (w : SwI k st st' fl') (e : st' = sweep k st L) : WhI n (k + 1) s0 st' L fl' := by
  have c := h.cnt f
  refine ⟨?_, w.len.trans h.len, w.hit, w.le, by omega, fun f' => ?_⟩
  · rw [run_snoc, Nat.zero_add, ← h.eq, e]
  · have := w.cnt
    have : 0 < fl'.length := List.length_pos_iff.mpr f'
    omega
theorem WhI.done {n k : Nat} {s0 st : Sts} {L : List (Int × Int)} (h : WhI n k s0 st L []) : st = runS n 0 s0 L := by
  have no : ∀ (i v : Nat), st[i]? = some (some v) → v < k := fun i v z => by
    have := h.le i v z
    rcases Nat.lt_or_eq_of_le this with q | q
    · exact q
    · subst q
      exact absurd (h.hit.mpr ⟨i, z⟩) (by simp)
  obtain ⟨b, hb⟩ : ∃ b, n = k + b := ⟨n - k, by have := h.kn; omega⟩
  rw [hb, run_add, Nat.zero_add, ← h.eq, run_no no]
def stepsF (n : Nat) (L : List (Int × Int)) (rs : List Int) : Sts := runS n 0 (st0 n rs) L
theorem st0_snoc {n : Nat} {rs : List Int} {r : Int} : st0 n (rs ++ [r]) = (st0 n rs).set r.toNat (some 0) := by unfold st0; rw [List.foldl_append]; rfl
theorem st0_len {n : Nat} {rs : List Int} : (st0 n rs).length = n := by
  unfold st0
  have gen : ∀ (rs : List Int) (st : Sts), (rs.foldl (fun st r => st.set r.toNat (some 0)) st).length = st.length := fun rs => by
    induction rs with
    | nil => exact fun _ => rfl
    | cons r rs ih => exact fun st => (ih _).trans List.length_set
  rw [gen, List.length_replicate]
theorem st0_le {n : Nat} {rs : List Int} : ∀ (i v : Nat), (st0 n rs)[i]? = some (some v) → v ≤ 0 := by
  unfold st0
  have gen : ∀ (rs : List Int) (st : Sts), (∀ (i v : Nat), st[i]? = some (some v) → v ≤ 0) → ∀ (i v : Nat), (rs.foldl (fun st r => st.set r.toNat (some 0)) st)[i]? = some (some v) → v ≤ 0 := fun rs => by
    induction rs with
    | nil => exact fun _ h => h
    | cons r rs ih =>
      refine fun st h => ih _ fun i v z => ?_
      rw [List.getElem?_set] at z
      split at z
      · split at z
        · cases z; exact Nat.le_refl _
        · cases z
      · exact h i v z
  refine gen rs _ fun i v z => ?_
  rw [List.getElem?_replicate] at z
  split at z <;> cases z
/-- an item of the list is set, whatever comes behind -/
theorem st0_mem {n : Nat} {rs : List Int} {r : Int} (h : r ∈ rs) (hr : r.toNat < n) : (st0 n rs)[r.toNat]? = some (some 0) := by
  unfold st0
  have keep : ∀ (rs : List Int) (st : Sts) (i : Nat), st[i]? = some (some 0) → (rs.foldl (fun st r => st.set r.toNat (some 0)) st)[i]? = some (some 0) := fun rs => by
    induction rs with
    | nil => exact fun _ _ h => h
    | cons r rs ih =>
      refine fun st i h => ih _ i ?_
      rw [List.getElem?_set]
      split
      · rename_i e
        subst e
        rw [if_pos (List.getElem?_eq_some_iff.mp h).1]
      · exact h
  have gen : ∀ (rs : List Int) (st : Sts), st.length = n → r ∈ rs → (rs.foldl (fun st r => st.set r.toNat (some 0)) st)[r.toNat]? = some (some 0) := fun rs => by
    induction rs with
    | nil => exact fun _ _ h => by cases h
    | cons a rs ih =>
      refine fun st hl h => ?_
      rcases List.mem_cons.mp h with e | h
      · subst e
        exact keep rs _ _ (List.getElem?_set_self (by omega))
      · exact ih _ (List.length_set.trans hl) h
  exact gen rs _ List.length_replicate h
theorem st0_some {n : Nat} : ∀ {rs : List Int} {i : Nat}, (st0 n rs)[i]? = some (some 0) → ∃ r ∈ rs, r.toNat = i := by
  intro rs
  unfold st0
  have gen : ∀ (rs : List Int) (st : Sts) (i : Nat), (rs.foldl (fun st r => st.set r.toNat (some 0)) st)[i]? = some (some 0) → (∃ r ∈ rs, r.toNat = i) ∨ st[i]? = some (some 0) := fun rs => by
    induction rs with
    | nil => exact fun _ _ h => .inr h
    | cons a rs ih =>
      refine fun st i h => ?_
      rcases ih _ i h with ⟨r, hr, e⟩ | h
      · exact .inl ⟨r, List.mem_cons_of_mem _ hr, e⟩
      · rw [List.getElem?_set] at h
        split at h
        · rename_i e
          exact .inl ⟨a, List.mem_cons_self, e⟩
        · exact .inr h
  intro i h
  rcases gen rs _ i h with h | h
  · exact h
  · rw [List.getElem?_replicate] at h
    split at h <;> cases h
theorem whI_start {n : Nat} {rs : List Int} {L : List (Int × Int)} (h : ∀ r ∈ rs, 0 ≤ r ∧ r < (n : Int)) : WhI n 0 (st0 n rs) (st0 n rs) L rs := by
  refine ⟨rfl, st0_len, ⟨fun ne => ?_, fun ⟨i, hi⟩ => ?_⟩, st0_le, Nat.zero_le _, fun ne => ?_⟩
  · obtain ⟨r, hr⟩ := List.exists_mem_of_ne_nil _ ne
    have := h r hr
    exact ⟨r.toNat, st0_mem hr (by omega)⟩
  · obtain ⟨r, hr, _⟩ := st0_some hi
    exact List.ne_nil_of_mem hr
  · obtain ⟨r, hr⟩ := List.exists_mem_of_ne_nil _ ne
    have b := h r hr
    have m := st0_mem hr (show r.toNat < n by omega)
    have lt : nones (st0 n rs) < (st0 n rs).length := by
      unfold nones
      refine Nat.lt_of_le_of_ne List.countP_le_length fun e => ?_
      have := List.countP_eq_length.mp e _ (List.mem_of_getElem? m)
      simp at this
    rw [st0_len] at lt
    omega
/-! ### promises -/
def sp__check_count (_ : Frg) (_ : Ad) : Sp := Sp1 fun a H Q => ∃ n : Int, a = .int n ∧ 1 ≤ n ∧ n ≤ 24 ∧ Q .non H
def sp__is_below (_ : Frg) (_ : Ad) : Sp := Sp2 fun a b H Q => ∃ i n : Int, a = .int i ∧ b = .int n ∧ Q (.bl (decide (0 ≤ i ∧ i < n))) H
def LinkOk (n : Int) (q : Int × Int) : Prop := q.1 ≠ q.2 ∧ 0 ≤ q.1 ∧ q.1 < n ∧ 0 ≤ q.2 ∧ q.2 < n
def sp_Net___init__ (_ : Frg) (D : Ad) : Sp := Sp3 fun a b c H Q => ∃ (s dx p : Addr) (n : Int) (L : List (Int × Int)), a = .ref s ∧ b = .int n ∧ c = .ref p ∧ H s = some (.ins D.Net dx []) ∧ Prs H p L ∧ 1 ≤ n ∧ n ≤ 24 ∧ (∀ q ∈ L, LinkOk n q) ∧ L.length ≤ 10000 ∧
  ∀ H' Ls, ExB s H H' → NetP D H' s n Ls → Ls.Pairwise LexLt → (∀ q, q ∈ Ls ↔ q ∈ L) → Q .non H'
def sp_Net_links (_ : Frg) (D : Ad) : Sp := Sp1 fun a H Q => ∃ (s : Addr) (n : Int) (L : List (Int × Int)), a = .ref s ∧ NetP D H s n L ∧ ∀ p H', H p = none → Ex H H' → Prs H' p L → Q (.ref p) H'
def sp_Net_has_link (_ : Frg) (D : Ad) : Sp := Sp3 fun a b c H Q => ∃ (s : Addr) (n : Int) (L : List (Int × Int)) (i j : Int), a = .ref s ∧ b = .int i ∧ c = .int j ∧ NetP D H s n L ∧ ∀ H', Ex H H' → Q (.bl (decide ((i, j) ∈ L))) H'
def sp_Cluster___init__ (_ : Frg) (D : Ad) : Sp := Sp3 fun a b c H Q => ∃ (s dx nt p : Addr) (n : Int) (L : List (Int × Int)) (hs : List Int), a = .ref s ∧ b = .ref nt ∧ c = .ref p ∧ H s = some (.ins D.Cluster dx []) ∧ NetP D H nt n L ∧ H p = some (.lst (hs.map V.int)) ∧
  (∀ h ∈ hs, 0 ≤ h ∧ h < n) ∧ hs.length ≤ 60 ∧ ∀ H', ExB s H H' → ClP D H' s n L hs → Q .non H'
def sp_check_replica (_ : Frg) (D : Ad) : Sp := Sp2 fun a b H Q => ∃ (s : Addr) (n : Int) (L : List (Int × Int)) (i : Int), a = .ref s ∧ b = .int i ∧ NetP D H s n L ∧ 0 ≤ i ∧ i < n ∧ Q .non H
def sp_check_entry (_ : Frg) (D : Ad) : Sp := Sp2 fun a b H Q => ∃ (c : Addr) (n : Int) (L : List (Int × Int)) (hs : List Int) (e : Int), a = .ref c ∧ b = .int e ∧ ClP D H c n L hs ∧ 0 ≤ e ∧ e < hs.length ∧ Q .non H
def sp_copy_logs (_ : Frg) (_ : Ad) : Sp := Sp1 fun a H Q => ∃ (p : Addr) (xs : List (List Int)), a = .ref p ∧ LLs H p xs ∧ xs.length ≤ 1000 ∧ ∀ r H', Ex H H' → LLf H H' r xs → Q (.ref r) H'
/-- the def's table stands sealed -/
def TabH (D : Ad) (H : Hp) : Prop := ∃ p0, H D.t__is_log = some (PG.TabS D.t__is_log p0)
theorem TabH.ex {D : Ad} {H H' : Hp} (h : TabH D H) (e : Ex H H') : TabH D H' := let ⟨p, a⟩ := h; ⟨p, e _ _ a⟩
/-- a log: entries below the size, none twice -/
def LogOk (z : Nat) (l : List Int) : Prop := l.Nodup ∧ (∀ e ∈ l, 0 ≤ e ∧ e < (z : Int)) ∧ l.length ≤ 1000
def LogsOk (n : Int) (z : Nat) (xs : List (List Int)) : Prop := (xs.length : Int) = n ∧ xs.length ≤ 1000 ∧ ∀ l ∈ xs, LogOk z l
def low__is_log (K : Frg) (D : Ad) : Sp := Sp2 fun a b H Q => ∃ (p : Addr) (z : Nat) (l : List Int), a = .int z ∧ b = .ref p ∧ SqL K H p (l.map V.int) ∧ LogOk z l ∧ GxR.TabG H D.t__is_log ∧ ∀ H', GxR.Tabbed D.t__is_log H H' → Q (.bl true) H'
def sp__is_log (K : Frg) (D : Ad) : Sp := Sp2 fun a b H Q => ∃ (p : Addr) (z : Nat) (l : List Int), a = .int z ∧ b = .ref p ∧ H p = some (lstO l) ∧ LogOk z l ∧ TabH D H ∧ Q (.bl true) H
def sp_check_logs (_ : Frg) (D : Ad) : Sp := Sp2 fun a b H Q => ∃ (c p : Addr) (n : Int) (L : List (Int × Int)) (hs : List Int) (xs : List (List Int)), a = .ref c ∧ b = .ref p ∧ ClP D H c n L hs ∧ LLs H p xs ∧ LogsOk n hs.length xs ∧ TabH D H ∧
  ∀ r H', Ex H H' → LLf H H' r xs → Q (.ref r) H'
def RetI (ns : List Int) (H : Hp) (Q : VK) : Prop := ∀ p H', H p = none → Ex H H' → H' p = some (lstO ns) → Q (.ref p) H'
def sp_holders_of (_ : Frg) (D : Ad) : Sp := Sp3 fun a b d H Q => ∃ (c p : Addr) (n : Int) (L : List (Int × Int)) (hs : List Int) (xs : List (List Int)) (e : Int), a = .ref c ∧ b = .ref p ∧ d = .int e ∧ ClP D H c n L hs ∧ LLs H p xs ∧ LogsOk n hs.length xs ∧ TabH D H ∧
  0 ≤ e ∧ e < hs.length ∧ RetI (hold xs e) H Q
def sp_ahead_of (_ : Frg) (D : Ad) : Sp := Sp4 fun a b d f H Q => ∃ (c p : Addr) (n : Int) (L : List (Int × Int)) (hs : List Int) (xs : List (List Int)) (i : Nat) (e : Int) (l : List Int), a = .ref c ∧ b = .ref p ∧ d = .int i ∧ f = .int e ∧ ClP D H c n L hs ∧ LLs H p xs ∧
  LogsOk n hs.length xs ∧ TabH D H ∧ xs[i]? = some l ∧ e ∈ l ∧ RetI (ahead l e) H Q
def sp_prefix_fault (_ : Frg) (_ : Ad) : Sp := Sp2 fun a b H Q => ∃ (p r : Addr) (xs ys : List (List Int)), a = .ref p ∧ b = .ref r ∧ LLs H p xs ∧ LLs H r ys ∧ xs.length = ys.length ∧ (∀ (i : Nat) (l m : List Int), xs[i]? = some l → ys[i]? = some m → m.take l.length = l) ∧ (∀ l ∈ xs, l.length ≤ 1000) ∧ ∀ H', Ex H H' → Q .non H'
def sp_places_of (_ : Frg) (_ : Ad) : Sp := Sp1 fun a H Q => ∃ (p : Addr) (xs : List (List Int)), a = .ref p ∧ LLs H p xs ∧ xs.length ≤ 1000 ∧ (∀ l ∈ xs, l.Nodup ∧ l.length ≤ 1000) ∧ ∀ r H', Ex H H' → Idxs H' r xs → Q (.ref r) H'
def sp_blocker_of (_ : Frg) (_ : Ad) : Sp := Sp5 fun a b c d f H Q => ∃ (p r : Addr) (xs : List (List Int)) (s t : Nat) (e : Int) (ls lt : List Int), a = .ref p ∧ b = .ref r ∧ c = .int s ∧ d = .int t ∧ f = .int e ∧ LLs H p xs ∧ Idxs H r xs ∧ xs[s]? = some ls ∧ xs[t]? = some lt ∧
  e ∈ ls ∧ e ∈ lt ∧ ∀ H', Ex H H' → Q (optI (blk ls lt e)) H'
def sp__link_carries (_ : Frg) (_ : Ad) : Sp := Sp5 fun a b c d f H Q => ∃ (p r : Addr) (xs : List (List Int)) (s t : Nat) (e : Int) (ls lt : List Int), a = .ref p ∧ b = .ref r ∧ c = .int s ∧ d = .int t ∧ f = .int e ∧ LLs H p xs ∧ Idxs H r xs ∧ xs[s]? = some ls ∧ xs[t]? = some lt ∧
  ∀ H', Ex H H' → Q (.bl (carB ls lt e)) H'
def LinksOk (n : Int) (L : List (Int × Int)) : Prop := (∀ q ∈ L, LinkOk n q) ∧ L.length ≤ 1000
def sp_carry_links (_ : Frg) (D : Ad) : Sp := Sp3 fun a b d H Q => ∃ (c p : Addr) (n : Int) (L : List (Int × Int)) (hs : List Int) (xs : List (List Int)) (e : Int), a = .ref c ∧ b = .ref p ∧ d = .int e ∧ ClP D H c n L hs ∧ LLs H p xs ∧ LogsOk n hs.length xs ∧ LinksOk n L ∧
  ∀ r H', Ex H H' → Prs H' r (carL L xs e) → Q (.ref r) H'
def sp_entry_roots (_ : Frg) (D : Ad) : Sp := Sp4 fun a b d f H Q => ∃ (c p r : Addr) (n : Int) (L : List (Int × Int)) (hs : List Int) (st gl : List (List Int)) (e : Int), a = .ref c ∧ b = .ref p ∧ d = .ref r ∧ f = .int e ∧ ClP D H c n L hs ∧ LLs H p st ∧ LLs H r gl ∧ LogsOk n hs.length st ∧ LogsOk n hs.length gl ∧
  (∀ h ∈ hs, 0 ≤ h ∧ h < n) ∧ 0 ≤ e ∧ e < hs.length ∧ RetI (rootsF hs st gl e) H Q
def StR (st : Sts) (H : Hp) (Q : VK) : Prop := ∀ r H', H r = none → Ex H H' → H' r = some (.lst (st.map optV)) → Q (.ref r) H'
/-- a world: cluster, logs at the start, logs now -/
structure Qst (D : Ad) (H : Hp) (c p r : Addr) (n : Int) (L : List (Int × Int)) (hs : List Int) (st gl : List (List Int)) (e : Int) : Prop where
  cl : ClP D H c n L hs
  xs : LLs H p st
  xg : LLs H r gl
  so : LogsOk n hs.length st
  go : LogsOk n hs.length gl
  lo : LinksOk n L
  ho : ∀ h ∈ hs, 0 ≤ h ∧ h < n
  e0 : 0 ≤ e
  e1 : e < hs.length
theorem Qst.ex {D : Ad} {H H' : Hp} {c p r : Addr} {n : Int} {L : List (Int × Int)} {hs : List Int} {st gl : List (List Int)} {e : Int} (h : Qst D H c p r n L hs st gl e) (x : Ex H H') : Qst D H' c p r n L hs st gl e :=
  ⟨h.cl.ex x, h.xs.ex x, h.xg.ex x, h.so, h.go, h.lo, h.ho, h.e0, h.e1⟩
def sp_carry_steps (_ : Frg) (D : Ad) : Sp := Sp4 fun a b d f H Q => ∃ (c p r : Addr) (n : Int) (L : List (Int × Int)) (hs : List Int) (st gl : List (List Int)) (e : Int), a = .ref c ∧ b = .ref p ∧ d = .ref r ∧ f = .int e ∧ Qst D H c p r n L hs st gl e ∧
  StR (stepsF gl.length (carL L gl e) (rootsF hs st gl e)) H Q
def PreOk (st gl : List (List Int)) : Prop := ∀ (i : Nat) (l m : List Int), st[i]? = some l → gl[i]? = some m → m.take l.length = l
def sp__check_question (_ : Frg) (D : Ad) : Sp := Sp4 fun a b d f H Q => ∃ (c p r : Addr) (n : Int) (L : List (Int × Int)) (hs : List Int) (st gl : List (List Int)) (e : Int), a = .ref c ∧ b = .ref p ∧ d = .ref r ∧ f = .int e ∧ Qst D H c p r n L hs st gl e ∧ TabH D H ∧ PreOk st gl ∧
  ∀ H', Ex H H' → Q .non H'
def sp_carry_distances (_ : Frg) (D : Ad) : Sp := Sp4 fun a b d f H Q => ∃ (c p r : Addr) (n : Int) (L : List (Int × Int)) (hs : List Int) (st gl : List (List Int)) (e : Int), a = .ref c ∧ b = .ref p ∧ d = .ref r ∧ f = .int e ∧ Qst D H c p r n L hs st gl e ∧ TabH D H ∧ PreOk st gl ∧
  StR (stepsF gl.length (carL L gl e) (rootsF hs st gl e)) H Q
theorem rep_one {k : Nat} : (List.replicate k [V.non]).flatten = (List.replicate k (none : Option Nat)).map optV := by
  induction k with
  | zero => rfl
  | succ k ih => rw [List.replicate_succ, List.flatten_cons, ih, List.replicate_succ]; rfl
theorem hold_lt {st : List (List Int)} {e r : Int} (h : r ∈ hold st e) : 0 ≤ r ∧ r < (st.length : Int) := by
  unfold hold holdN at h
  obtain ⟨j, hj, rfl⟩ := List.mem_map.mp h
  have := List.mem_range.mp (List.mem_filter.mp hj).1
  omega
theorem roots_ok {D : Ad} {H : Hp} {c p r : Addr} {n : Int} {L : List (Int × Int)} {hs : List Int} {st gl : List (List Int)} {e : Int} (w : Qst D H c p r n L hs st gl e) : ∀ x ∈ rootsF hs st gl e, 0 ≤ x ∧ x < (gl.length : Int) := by
  intro x hx
  have g1 := w.go.1
  have s1 := w.so.1
  unfold rootsF at hx
  split at hx
  · split at hx
    · have he : e.toNat < hs.length := by have := w.e0; have := w.e1; omega
      rw [List.mem_singleton.mp hx, List.getElem?_eq_getElem he]
      have := w.ho _ (List.getElem_mem he)
      show 0 ≤ hs[e.toNat] ∧ hs[e.toNat] < _
      omega
    · cases hx
  · have := hold_lt hx
    omega
theorem ixN_nat {n : Nat} {i : Int} (h0 : 0 ≤ i) (h1 : i < (n : Int)) : ixN n i = some i.toNat := by
  unfold ixN
  rw [if_pos h0, if_pos h1]
theorem no_zero {D : Ad} {H : Hp} {c p r : Addr} {n : Int} {L : List (Int × Int)} {hs : List Int} {st gl : List (List Int)} {e : Int} (w : Qst D H c p r n L hs st gl e) (z : gl.length = 0) : False := by
  have he : e.toNat < hs.length := by have := w.e0; have := w.e1; omega
  have := w.ho _ (List.getElem_mem he)
  have := w.go.1
  omega
def someIx (st : Sts) (i : Nat) : List Int := ((List.range i).filter fun j => (st[j]?.map fun o => o.isSome).getD false).map fun (j : Nat) => (j : Int)
theorem someIx_yes {st : Sts} {i v : Nat} (h : st[i]? = some (some v)) : someIx st (i + 1) = someIx st i ++ [(i : Int)] := by
  unfold someIx
  rw [List.range_succ, List.filter_append, List.map_append, List.filter_cons_of_pos (by rw [h]; rfl)]
  rfl
theorem someIx_no {st : Sts} {i : Nat} (h : st[i]? = some none) : someIx st (i + 1) = someIx st i := by
  unfold someIx
  rw [List.range_succ, List.filter_append, List.map_append, List.filter_cons_of_neg (by rw [h]; exact Bool.false_ne_true)]
  exact List.append_nil _
def sp_carried_to (_ : Frg) (D : Ad) : Sp := Sp4 fun a b d f H Q => ∃ (c p r : Addr) (n : Int) (L : List (Int × Int)) (hs : List Int) (st gl : List (List Int)) (e : Int), a = .ref c ∧ b = .ref p ∧ d = .ref r ∧ f = .int e ∧ Qst D H c p r n L hs st gl e ∧ TabH D H ∧ PreOk st gl ∧
  RetI (someIx (stepsF gl.length (carL L gl e) (rootsF hs st gl e)) gl.length) H Q
def sp_carries (_ : Frg) (D : Ad) : Sp := Sp5 fun a b d f g H Q => ∃ (c r : Addr) (n : Int) (L : List (Int × Int)) (hs : List Int) (gl : List (List Int)) (s t e : Int), a = .ref c ∧ b = .ref r ∧ d = .int s ∧ f = .int t ∧ g = .int e ∧ ClP D H c n L hs ∧ LLs H r gl ∧ LogsOk n hs.length gl ∧
  TabH D H ∧ LinkOk n (s, t) ∧ (s, t) ∈ L ∧ 0 ≤ e ∧ e < hs.length ∧ ∀ H', Ex H H' → Q (.bl (carB (logAt gl s) (logAt gl t) e)) H'
/-! the law's own: the box of draws, sealed -/
def TG (n : Addr) (xs : List V) : Prop := ∃ pl he co : Int, xs = [.ref n, .int pl, .int he, .int co] ∧ 0 ≤ pl
def Tape (H : Hp) (t : Addr) : Prop := ∃ (n : Addr) (ns : List Int), H t = some (Sealed t (TG n)) ∧ H n = some (.lst (ns.map V.int))
theorem Tape.ex {H H' : Hp} {t : Addr} (h : Tape H t) (e : Ex H H') : Tape H' t := let ⟨n, ns, a, b⟩ := h; ⟨n, ns, e _ _ a, e _ _ b⟩
theorem tg_ne {H : Hp} {t n : Addr} {xs : List V} {ns : List Int} (h : H t = some (.lst xs)) (g : TG n xs) (h' : H n = some (.lst (ns.map V.int))) : n ≠ t := by
  rintro rfl
  obtain ⟨pl, he, co, rfl, _⟩ := g
  rw [h] at h'
  cases ns with
  | nil => cases h'
  | cons a r => cases h'
def low__law_take (_ : Frg) (_ : Ad) : Sp := Sp2 fun a b H Q => ∃ (t n : Addr) (ns : List Int) (xs : List V) (m : Int), a = .ref t ∧ b = .int m ∧ H t = some (.lst xs) ∧ TG n xs ∧ H n = some (.lst (ns.map V.int)) ∧ 0 < m ∧ m ≤ 1000000 ∧
  ∀ d H' ys, 0 ≤ d → d < m → Chg t H H' → H' t = some (.lst ys) → TG n ys → Q (.int d) H'
def mid__law_take (_ : Frg) (_ : Ad) : Sp := Sp2 fun a b H Q => ∃ (t n : Addr) (ns : List Int) (xs : List V) (m : Int), a = .ref t ∧ b = .int m ∧ H t = some (.lst xs) ∧ TG n xs ∧ H n = some (.lst (ns.map V.int)) ∧ 0 < m ∧ m ≤ 1000000 ∧
  ∀ d, 0 ≤ d → d < m → Q (.int d) (upd H t (Sealed t (TG n)))
def sp__law_take (_ : Frg) (_ : Ad) : Sp := Sp2 fun a b H Q => ∃ (t : Addr) (m : Int), a = .ref t ∧ b = .int m ∧ Tape H t ∧ 0 < m ∧ m ≤ 1000000 ∧ ∀ d, 0 ≤ d → d < m → Q (.int d) H
theorem up__law_take {P : Program} {w : World} {K : PySem.W.Frag} {mg : Str → Option Value} {base : Heap} {D : Ad} {k : Nat} {f : Addr} {fd : FuncData} {p1 p2 : Str} (F : FnOk P w K mg base CX0 k f fd [p1, p2] (low__law_take K D)) : FnOk P w K mg base CX0 k f fd [p1, p2] (sp__law_take K D) := by
  have F2 : FnOk P w K mg base CX0 k f fd [p1, p2] (mid__law_take K D) := fn_seal F (fun _ _ _ _ h => len2 h) fun vs H Q E h => by
    obtain ⟨a, b, rfl, t, n, ns, xs, m, rfl, rfl, h1, h2, h3, h4, h5, q⟩ := h
    refine ⟨_, _, rfl, t, n, ns, xs, m, rfl, rfl, h1, h2, h3, h4, h5, fun d H' ys d0 d1 c e g => ⟨t, ys, TG n, e, g, ?_⟩⟩
    have eq : upd H' t (Sealed t (TG n)) = upd H t (Sealed t (TG n)) := by
      funext x
      by_cases hx : x = t
      · rw [hx, upd_same, upd_same]
      · rw [upd_ne hx, upd_ne hx, c x hx]
    rw [eq]
    exact q d d0 d1
  refine fn_unseal F2 (fun _ _ _ _ h => len2 h) fun vs H Q E h => ?_
  obtain ⟨a, b, rfl, t, m, rfl, rfl, ⟨n, ns, h1, h2⟩, h4, h5, q⟩ := h
  have nt : n ≠ t := ne_of h2 h1 (by intro z; cases z)
  refine ⟨t, TG n, h1, fun xs g => ⟨_, _, rfl, t, n, ns, xs, m, rfl, rfl, upd_same, g, by rw [upd_ne nt]; exact h2, h4, h5, fun d d0 d1 => ?_⟩⟩
  have eq : upd (upd H t (.lst xs)) t (Sealed t (TG n)) = H := by
    rw [upd_upd]
    funext x
    by_cases hx : x = t
    · rw [hx, upd_same, h1]
    · rw [upd_ne hx]
  rw [eq]
  exact q d d0 d1
def low__law_box (K : Frg) (_ : Ad) : Sp := Sp1 fun a H Q => ∃ (p : Addr) (ns : List Int), a = .ref p ∧ SqL K H p (ns.map V.int) ∧ ns.length ≤ 63 ∧
  ∀ (t n : Addr) (xs : List V) (ms : List Int) (H' : Hp), H t = none → Ex H H' → H' t = some (.lst xs) → TG n xs → H' n = some (.lst (ms.map V.int)) → Q (.ref t) H'
def sp__law_box (K : Frg) (_ : Ad) : Sp := Sp1 fun a H Q => ∃ (p : Addr) (ns : List Int), a = .ref p ∧ SqL K H p (ns.map V.int) ∧ ns.length ≤ 63 ∧ ∀ t H', Ex H H' → Tape H' t → Q (.ref t) H'
theorem up__law_box {P : Program} {w : World} {K : PySem.W.Frag} {mg : Str → Option Value} {base : Heap} {D : Ad} {k : Nat} {f : Addr} {fd : FuncData} {p1 : Str} (F : FnOk P w K mg base CX0 k f fd [p1] (low__law_box K D)) : FnOk P w K mg base CX0 k f fd [p1] (sp__law_box K D) :=
  fn_seal F (fun _ _ _ _ h => len1 h) fun vs H Q E h => by
    obtain ⟨a, rfl, p, ns, rfl, h1, h2, q⟩ := h
    refine ⟨_, rfl, p, ns, rfl, h1, h2, fun t n xs ms H' ht e hx g hn => ⟨t, xs, TG n, hx, g, q t _ (Ex.mut e ht) ⟨n, ms, upd_same, ?_⟩⟩⟩
    rw [upd_ne (tg_ne hx g hn)]
    exact hn
def sp__law_shuffled (K : Frg) (_ : Ad) : Sp := Sp2 fun a b H Q => ∃ (t p : Addr) (ns : List Int), a = .ref t ∧ b = .ref p ∧ Tape H t ∧ SqL K H p (ns.map V.int) ∧ ns.length ≤ 1000 ∧ ∀ r H' (ms : List Int), H r = none → Ex H H' → H' r = some (lstO ms) → ms.Perm ns → Q (.ref r) H'
def WLinks (n : Int) (L : List (Int × Int)) : Prop := (∀ q ∈ L, LinkOk n q) ∧ L.Pairwise LexLt ∧ L.length ≤ 1000
def sp__law_all_links (_ : Frg) (_ : Ad) : Sp := Sp1 fun a H Q => ∃ n : Int, a = .int n ∧ 0 ≤ n ∧ n ≤ 24 ∧ ∀ r H' L, H r = none → Ex H H' → Prs H' r L → WLinks n L → Q (.ref r) H'
def PrsR (H : Hp) (r : Addr) (L : List (Int × Int)) : Prop := ∃ ps : List Addr, H r = some (.lst (ps.map V.ref)) ∧ Objs H ps (L.map pairO) ∧ r ∉ ps
theorem PrsR.add {H H4 H5 : Hp} {r t : Addr} {L : List (Int × Int)} {q : Int × Int} {ps : List Addr} (hp : H r = some (.lst (ps.map V.ref))) (ho : Objs H ps (L.map pairO)) (rn : r ∉ ps) (e4 : Ex H H4) (nt : H t = none) (ht : H4 t = some (pairO q)) (c5 : Chg r H4 H5) (hr5 : H5 r = some (.lst (ps.map V.ref ++ [.ref t]))) :
    PrsR H5 r (L ++ [q]) := by
  have tr : t ≠ r := (ne_of_none hp nt).symm
  refine ⟨ps ++ [t], by rw [hr5, List.map_append]; rfl, ?_, fun m => ?_⟩
  · rw [List.map_append]
    exact ((ho.ex e4).chg c5 rn).app (Objs.one ((c5 t tr).trans ht))
  · rcases List.mem_append.mp m with m | m
    · exact rn m
    · exact tr (List.mem_singleton.mp m).symm
theorem PrsR.ex {H H' : Hp} {r : Addr} {L : List (Int × Int)} (h : PrsR H r L) (e : Ex H H') : PrsR H' r L := let ⟨ps, a, b, c⟩ := h; ⟨ps, e _ _ a, b.ex e, c⟩
/-- all pairs up to row i, place j -/
structure AllI (n : Int) (i j : Nat) (L : List (Int × Int)) : Prop where
  ok : ∀ q ∈ L, q.1 ≠ q.2 ∧ 0 ≤ q.1 ∧ 0 ≤ q.2 ∧ q.2 < n ∧ (q.1 < i ∨ (q.1 = i ∧ q.2 < j))
  pw : L.Pairwise LexLt
  len : L.length ≤ i * 24 + j
theorem AllI.start {n : Int} : AllI n 0 0 [] := ⟨by simp, List.Pairwise.nil, Nat.zero_le _⟩
theorem AllI.skip {n : Int} {i j : Nat} {L : List (Int × Int)} (h : AllI n i j L) : AllI n i (j + 1) L := ⟨fun q m => by have := h.ok q m; omega, h.pw, Nat.le_succ_of_le h.len⟩
theorem AllI.row {n : Int} {i j : Nat} {L : List (Int × Int)} (h : AllI n i j L) (z : j ≤ 24) : AllI n (i + 1) 0 L := ⟨fun q m => by have := h.ok q m; omega, h.pw, by have := h.len; omega⟩
theorem AllI.add {n : Int} {i j : Nat} {L : List (Int × Int)} (h : AllI n i j L) (ne : (i : Int) ≠ j) (h1 : (i : Int) < n) (h2 : (j : Int) < n) : AllI n i (j + 1) (L ++ [((i : Int), (j : Int))]) := by
  refine ⟨fun q m => ?_, ?_, ?_⟩
  · rcases List.mem_append.mp m with m | m
    · have := h.ok q m; omega
    · rw [List.mem_singleton.mp m]
      show (i : Int) ≠ j ∧ 0 ≤ (i : Int) ∧ 0 ≤ (j : Int) ∧ (j : Int) < n ∧ ((i : Int) < i ∨ ((i : Int) = i ∧ (j : Int) < (j + 1 : Nat)))
      omega
  · refine List.pairwise_append.mpr ⟨h.pw, List.pairwise_singleton _ _, fun a ha b hb => ?_⟩
    rw [List.mem_singleton.mp hb]
    have := h.ok a ha
    show a.1 < (i : Int) ∨ (a.1 = (i : Int) ∧ a.2 < (j : Int))
    omega
  · rw [List.length_append]
    have := h.len
    show _ + 1 ≤ _
    omega
theorem AllI.small {n : Int} {i j : Nat} {l : Nat} (h1 : n ≤ 24) (hi : i < n.toNat) (hj : j < n.toNat) (z : l ≤ i * 24 + j) : l ≤ 100000 := by omega
theorem AllI.done {n : Int} {L : List (Int × Int)} (h : AllI n n.toNat 0 L) (h0 : 0 ≤ n) (h1 : n ≤ 24) : WLinks n L := by
  refine ⟨fun q m => ?_, h.pw, by have := h.len; omega⟩
  obtain ⟨a, b, c, d, e⟩ := h.ok q m
  exact ⟨a, b, by omega, c, d⟩
theorem perm_erase {rs : List Int} {d : Nat} (h : d < rs.length) : ([rs[d]] ++ rs.eraseIdx d).Perm rs := perm_at h
def sp__law_net_links (_ : Frg) (_ : Ad) : Sp := Sp2 fun a b H Q => ∃ (t : Addr) (n : Int), a = .ref t ∧ b = .int n ∧ Tape H t ∧ 1 ≤ n ∧ n ≤ 24 ∧ ∀ r H' L, Ex H H' → Prs H' r L → WLinks n L → Q (.ref r) H'
/-- a world: how many, links, homes -/
structure WdP (H : Hp) (a : Addr) (n : Int) (L : List (Int × Int)) (hs : List Int) : Prop where
  ob : ∃ l h : Addr, H a = some (.lst [.int n, .ref l, .ref h]) ∧ Prs H l L ∧ H h = some (lstO hs)
  n1 : 1 ≤ n
  n2 : n ≤ 24
  lo : WLinks n L
  ho : ∀ h ∈ hs, 0 ≤ h ∧ h < n
  hl : hs.length ≤ 60
theorem WdP.ex {H H' : Hp} {a : Addr} {n : Int} {L : List (Int × Int)} {hs : List Int} (h : WdP H a n L hs) (e : Ex H H') : WdP H' a n L hs :=
  let ⟨⟨l, g, a1, a2, a3⟩, b, c, d, f, i⟩ := h; ⟨⟨l, g, e _ _ a1, a2.ex e, e _ _ a3⟩, b, c, d, f, i⟩
def sp__law_world (_ : Frg) (_ : Ad) : Sp := Sp1 fun a H Q => ∃ t : Addr, a = .ref t ∧ Tape H t ∧ ∀ r H' n L hs, Ex H H' → WdP H' r n L hs → Q (.ref r) H'
abbrev sp__law_copy (K : Frg) (D : Ad) : Sp := sp_copy_logs K D
theorem find_at {ls lr : List Int} {b : Int} {i : Nat} (pr : ∀ c ∈ ls.take i, c ∈ lr) (hb : ls[i]? = some b) (hm : b ∉ lr) : ls.find? (fun a => decide (a ∉ lr)) = some b := by
  have hl := (List.getElem?_eq_some_iff.mp hb).1
  have sp : ls = ls.take i ++ b :: ls.drop (i + 1) := by
    have e1 : ls[i] = b := (List.getElem?_eq_some_iff.mp hb).2
    rw [← e1, List.getElem_cons_drop]
    exact (List.take_append_drop i _).symm
  rw [sp, List.find?_append]
  have n : (ls.take i).find? (fun a => decide (a ∉ lr)) = none := List.find?_eq_none.mpr fun c hc => by simpa using pr c hc
  rw [n, List.find?_cons_of_pos (by simpa using hm)]
  rfl
def firstF (ls lr : List Int) : Int := (ls.find? fun a => decide (a ∉ lr)).getD (-1)
def sp__law_first (K : Frg) (_ : Ad) : Sp := Sp2 fun a b H Q => ∃ (p r : Addr) (ls lr : List Int), a = .ref p ∧ b = .ref r ∧ SqL K H p (ls.map V.int) ∧ SqL K H r (lr.map V.int) ∧ Q (.int (firstF ls lr)) H
inductive Act where
  | wr (e : Nat)
  | pu (s r : Int) (e : Int)
def Act.ent : Act → Int
  | .wr e => e
  | .pu _ _ e => e
def actO : Act → HO
  | .wr e => .tup [.str "write", .int e]
  | .pu s r e => .tup [.str "pull", .int s, .int r, .int e]
def placeF (hs : List Int) : Act → Int
  | .wr e => (hs[e]?).getD 0
  | .pu _ r _ => r
def wrF (xs : List (List Int)) (i : Nat) : List Act := ((List.range i).filter fun (e : Nat) => !(xs.any fun l => decide ((e : Int) ∈ l))).map Act.wr
def puF (xs : List (List Int)) (L : List (Int × Int)) : List Act := L.filterMap fun q => if 0 ≤ firstF (logAt xs q.1) (logAt xs q.2) then some (.pu q.1 q.2 (firstF (logAt xs q.1) (logAt xs q.2))) else none
def allF (xs : List (List Int)) (L : List (Int × Int)) (z : Nat) : List Act := wrF xs z ++ puF xs L
def ActsL (H : Hp) (p : Addr) (tr : List Act) : Prop := ∃ ps : List Addr, H p = some (.lst (ps.map V.ref)) ∧ Objs H ps (tr.map actO)
theorem ActsL.ex {H H' : Hp} {p : Addr} {tr : List Act} (h : ActsL H p tr) (e : Ex H H') : ActsL H' p tr := let ⟨k, a, b⟩ := h; ⟨k, e _ _ a, b.ex e⟩
def ActR (H : Hp) (r : Addr) (L : List Act) : Prop := ∃ ps : List Addr, H r = some (.lst (ps.map V.ref)) ∧ Objs H ps (L.map actO) ∧ r ∉ ps
theorem ActR.add {H H4 H5 : Hp} {r t : Addr} {L : List Act} {q : Act} {ps : List Addr} (hp : H r = some (.lst (ps.map V.ref))) (ho : Objs H ps (L.map actO)) (rn : r ∉ ps) (e4 : Ex H H4) (nt : H t = none) (ht : H4 t = some (actO q)) (c5 : Chg r H4 H5) (hr5 : H5 r = some (.lst (ps.map V.ref ++ [.ref t]))) :
    ActR H5 r (L ++ [q]) := by
  have tr : t ≠ r := (ne_of_none hp nt).symm
  refine ⟨ps ++ [t], by rw [hr5, List.map_append]; rfl, ?_, fun m => ?_⟩
  · rw [List.map_append]
    exact ((ho.ex e4).chg c5 rn).app (Objs.one ((c5 t tr).trans ht))
  · rcases List.mem_append.mp m with m | m
    · exact rn m
    · exact tr (List.mem_singleton.mp m).symm
theorem ActR.ex {H H' : Hp} {r : Addr} {L : List Act} (h : ActR H r L) (e : Ex H H') : ActR H' r L := let ⟨ps, a, b, c⟩ := h; ⟨ps, e _ _ a, b.ex e, c⟩
theorem any_bl (xs : List (List Int)) (e : Int) : (xs.map fun l => decide (e ∈ l)).any id = xs.any fun l => decide (e ∈ l) := by rw [List.any_map]; rfl
theorem wrF_yes {xs : List (List Int)} {i : Nat} (h : (xs.any fun l => decide ((i : Int) ∈ l)) = false) : wrF xs (i + 1) = wrF xs i ++ [.wr i] := by
  unfold wrF
  rw [List.range_succ, List.filter_append, List.map_append, List.filter_cons_of_pos (by rw [h]; rfl)]
  rfl
theorem wrF_no {xs : List (List Int)} {i : Nat} (h : (xs.any fun l => decide ((i : Int) ∈ l)) = true) : wrF xs (i + 1) = wrF xs i := by
  unfold wrF
  rw [List.range_succ, List.filter_append, List.map_append, List.filter_cons_of_neg (by rw [h]; exact Bool.false_ne_true)]
  exact List.append_nil _
theorem wrF_len {xs : List (List Int)} {i : Nat} : (wrF xs i).length ≤ i := by
  unfold wrF
  rw [List.length_map]
  exact Nat.le_trans (List.length_filter_le _ _) (Nat.le_of_eq List.length_range)
theorem puF_len {xs : List (List Int)} {L : List (Int × Int)} : (puF xs L).length ≤ L.length := List.length_filterMap_le _ _
theorem puF_snoc {xs : List (List Int)} {L : List (Int × Int)} {q : Int × Int} : puF xs (L ++ [q]) = puF xs L ++ (if 0 ≤ firstF (logAt xs q.1) (logAt xs q.2) then [.pu q.1 q.2 (firstF (logAt xs q.1) (logAt xs q.2))] else []) := by
  unfold puF
  rw [List.filterMap_append, List.filterMap_cons]
  split <;> rename_i h
  · rw [if_neg (by intro z; rw [if_pos z] at h; cases h)]
    rfl
  · split at h
    · rename_i g
      cases h
      rw [if_pos g]
      rfl
    · cases h
def sp__law_allowed (_ : Frg) (_ : Ad) : Sp := Sp2 fun a b H Q => ∃ (w p : Addr) (n : Int) (L : List (Int × Int)) (hs : List Int) (xs : List (List Int)), a = .ref w ∧ b = .ref p ∧ WdP H w n L hs ∧ LLs H p xs ∧ LogsOk n hs.length xs ∧ ∀ r H', H r = none → Ex H H' → ActsL H' r (allF xs L hs.length) → Q (.ref r) H'
def ActOk (n : Int) (z : Nat) : Act → Prop
  | .wr e => e < z
  | .pu s r e => 0 ≤ s ∧ s < n ∧ 0 ≤ r ∧ r < n ∧ 0 ≤ e ∧ e < z
def sp__law_place (_ : Frg) (_ : Ad) : Sp := Sp2 fun a b H Q => ∃ (w t : Addr) (n : Int) (L : List (Int × Int)) (hs : List Int) (ac : Act), a = .ref w ∧ b = .ref t ∧ WdP H w n L hs ∧ H t = some (actO ac) ∧ ActOk n hs.length ac ∧ Q (.int (placeF hs ac)) H
def addAt (xs : List (List Int)) (i : Nat) (e : Int) : List (List Int) := xs.set i ((xs[i]?).getD [] ++ [e])
def afterF (hs : List Int) (xs : List (List Int)) (ac : Act) : List (List Int) := addAt xs (placeF hs ac).toNat ac.ent
theorem place_ok {n : Int} {hs : List Int} {ac : Act} (ok : ActOk n hs.length ac) (ho : ∀ h ∈ hs, 0 ≤ h ∧ h < n) : 0 ≤ placeF hs ac ∧ placeF hs ac < n := by
  cases ac with
  | wr e =>
    have he : e < hs.length := ok
    show 0 ≤ (hs[e]?).getD 0 ∧ (hs[e]?).getD 0 < n
    rw [List.getElem?_eq_getElem he]
    exact ho _ (List.getElem_mem he)
  | pu s r e => exact ⟨ok.2.2.1, ok.2.2.2.1⟩
theorem objs_set {H H' : Hp} {qs : List Addr} {os : List HO} {i : Nat} {a : Addr} {o : HO} (h : Objs H qs os) (ha : qs[i]? = some a) (c : Chg a H H') (e : H' a = some o) (nd : qs.Nodup) : Objs H' qs (os.set i o) := by
  unfold Objs at *
  refine List.ext_getElem? fun j => ?_
  have hj := congrArg (fun l => l[j]?) h
  simp only [List.getElem?_map] at hj ⊢
  rw [List.getElem?_set]
  by_cases hij : i = j
  · subst hij
    have il : i < os.length := by
      have := congrArg List.length h
      rw [List.length_map, List.length_map] at this
      rw [← this]
      exact (List.getElem?_eq_some_iff.mp ha).1
    rw [if_pos rfl, if_pos il, ha]
    exact congrArg some e
  · rw [if_neg hij, ← hj]
    cases hq : qs[j]? with
    | none => rfl
    | some b =>
      have nb : b ≠ a := fun z => hij (nd_ix nd ha (z ▸ hq))
      exact congrArg some (c b nb)
def sp__law_after (_ : Frg) (_ : Ad) : Sp := Sp3 fun a b c H Q => ∃ (w p t : Addr) (n : Int) (L : List (Int × Int)) (hs : List Int) (xs : List (List Int)) (ac : Act), a = .ref w ∧ b = .ref p ∧ c = .ref t ∧ WdP H w n L hs ∧ LLs H p xs ∧ LogsOk n hs.length xs ∧ H t = some (actO ac) ∧ ActOk n hs.length ac ∧
  ∀ r H', Ex H H' → LLf H H' r (afterF hs xs ac) → Q (.ref r) H'
/-! ### runs -/
theorem allF_ok {n : Int} {z : Nat} {xs : List (List Int)} {L : List (Int × Int)} {ac : Act} (hx : LogsOk n z xs) (hl : ∀ q ∈ L, LinkOk n q) (h : ac ∈ allF xs L z) : ActOk n z ac := by
  rcases List.mem_append.mp h with h | h
  · unfold wrF at h
    obtain ⟨e, he, rfl⟩ := List.mem_map.mp h
    exact List.mem_range.mp (List.mem_filter.mp he).1
  · unfold puF at h
    obtain ⟨q, hq, e⟩ := List.mem_filterMap.mp h
    split at e
    · rename_i g
      cases e
      obtain ⟨_, k2, k3, k4, k5⟩ := hl q hq
      refine ⟨k2, k3, k4, k5, g, ?_⟩
      unfold firstF at g ⊢
      cases hf : (logAt xs q.1).find? fun a => decide (a ∉ logAt xs q.2) with
      | none => rw [hf] at g; exact absurd g (by decide)
      | some a =>
        have m := List.mem_of_find?_eq_some hf
        have il : q.1.toNat < xs.length := by have := hx.1; omega
        have e2 : xs[q.1.toNat]? = some (logAt xs q.1) := by unfold logAt; rw [List.getElem?_eq_getElem il]; rfl
        exact ((hx.2.2 _ (List.mem_of_getElem? e2)).2.1 a m).2
    · cases e
/-- what an allowed action appends is not there yet -/
theorem allF_new {n : Int} {hs : List Int} {xs : List (List Int)} {L : List (Int × Int)} {ac : Act} {l : List Int} (h : ac ∈ allF xs L hs.length) (hl : xs[(placeF hs ac).toNat]? = some l) : ac.ent ∉ l := by
  rcases List.mem_append.mp h with h | h
  · unfold wrF at h
    obtain ⟨e, he, rfl⟩ := List.mem_map.mp h
    have q := (List.mem_filter.mp he).2
    intro m
    have : (xs.any fun l => decide ((e : Int) ∈ l)) = true := List.any_eq_true.mpr ⟨l, List.mem_of_getElem? hl, decide_eq_true m⟩
    rw [this] at q
    cases q
  · unfold puF at h
    obtain ⟨q, hq, e⟩ := List.mem_filterMap.mp h
    split at e
    · rename_i g
      cases e
      have e2 : logAt xs q.2 = l := by
        unfold logAt
        have hl' : xs[q.2.toNat]? = some l := hl
        rw [hl']
        rfl
      show firstF _ _ ∉ l
      rw [← e2]
      unfold firstF at g ⊢
      cases hf : (logAt xs q.1).find? fun a => decide (a ∉ logAt xs q.2) with
      | none => rw [hf] at g; exact absurd g (by decide)
      | some a =>
        have z := List.find?_some hf
        simpa using z
    · cases e
theorem nodup_le : ∀ {z : Nat} {l : List Int}, l.Nodup → (∀ e ∈ l, 0 ≤ e ∧ e < (z : Int)) → l.length ≤ z
  | 0, [], _, _ => Nat.le_refl _
  | 0, a :: l, _, b => by have := b a List.mem_cons_self; omega
  | z + 1, l, h, b => by
    have ih := nodup_le (z := z) (l := l.erase (z : Int)) (h.erase _) fun e m => by
      have m2 := h.mem_erase_iff.mp m
      have := b e m2.2
      have := m2.1
      omega
    rw [List.length_erase] at ih
    split at ih <;> omega
theorem after_ok {n : Int} {hs : List Int} {xs : List (List Int)} {L : List (Int × Int)} {ac : Act} (hz : hs.length ≤ 60) (ho : ∀ h ∈ hs, 0 ≤ h ∧ h < n) (hx : LogsOk n hs.length xs) (hl : ∀ q ∈ L, LinkOk n q) (h : ac ∈ allF xs L hs.length) : LogsOk n hs.length (afterF hs xs ac) := by
  have ok := allF_ok hx hl h
  obtain ⟨p0, p1⟩ := place_ok ok ho
  have il : (placeF hs ac).toNat < xs.length := by have := hx.1; omega
  obtain ⟨lg, hlg⟩ : ∃ lg, xs[(placeF hs ac).toNat]? = some lg := ⟨_, List.getElem?_eq_getElem il⟩
  have nw := allF_new (n := n) h hlg
  have okl := hx.2.2 lg (List.mem_of_getElem? hlg)
  unfold afterF addAt
  rw [hlg]
  refine ⟨by rw [List.length_set]; exact hx.1, by rw [List.length_set]; exact hx.2.1, fun l m => ?_⟩
  rcases List.mem_or_eq_of_mem_set m with m | eq
  · exact hx.2.2 l m
  · rw [eq]
    have nd : (lg ++ [ac.ent]).Nodup := nd_snoc okl.1 nw
    have bd : ∀ e ∈ lg ++ [ac.ent], 0 ≤ e ∧ e < (hs.length : Int) := fun e m => by
      rcases List.mem_append.mp m with m | m
      · exact okl.2.1 e m
      · rw [List.mem_singleton.mp m]
        cases ac with
        | wr e => have : e < hs.length := ok; exact ⟨by show 0 ≤ (e : Int); omega, by show (e : Int) < _; omega⟩
        | pu s r e => exact ⟨ok.2.2.2.2.1, ok.2.2.2.2.2⟩
    exact ⟨nd, bd, by have := nodup_le nd bd; show (lg ++ [ac.ent]).length ≤ 1000; omega⟩
structure RunP (hs : List Int) (L : List (Int × Int)) (st : List (List Int)) (tr : List Act) (ss : List (List (List Int))) : Prop where
  len : ss.length = tr.length + 1
  h0 : ss[0]? = some st
  nx : ∀ (k : Nat) ac, tr[k]? = some ac → ∃ xs, ss[k]? = some xs ∧ ac ∈ allF xs L hs.length ∧ ss[k + 1]? = some (afterF hs xs ac)
theorem RunP.start {hs : List Int} {L : List (Int × Int)} {st : List (List Int)} : RunP hs L st [] [st] := ⟨rfl, rfl, fun k ac h => by cases h⟩
theorem RunP.add {hs : List Int} {L : List (Int × Int)} {st xs : List (List Int)} {tr : List Act} {ss : List (List (List Int))} {ac : Act} (h : RunP hs L st tr ss) (hl : ss[tr.length]? = some xs) (ha : ac ∈ allF xs L hs.length) : RunP hs L st (tr ++ [ac]) (ss ++ [afterF hs xs ac]) := by
  have sl : tr.length < ss.length := by rw [h.len]; exact Nat.lt_succ_self _
  refine ⟨by rw [List.length_append, List.length_append, h.len]; rfl, by rw [List.getElem?_append_left (by omega)]; exact h.h0, fun k a hk => ?_⟩
  rcases Nat.lt_or_ge k tr.length with lt | ge
  · rw [List.getElem?_append_left lt] at hk
    obtain ⟨ys, h1, h2, h3⟩ := h.nx k a hk
    exact ⟨ys, by rw [List.getElem?_append_left (by omega)]; exact h1, h2, by rw [List.getElem?_append_left (by rw [h.len]; omega)]; exact h3⟩
  · rw [List.getElem?_append_right ge] at hk
    obtain rfl : k = tr.length := by
      have := (List.getElem?_eq_some_iff.mp hk).1
      simp at this
      omega
    rw [Nat.sub_self] at hk
    cases hk
    exact ⟨xs, by rw [List.getElem?_append_left sl]; exact hl, ha, by rw [List.getElem?_append_right (by rw [h.len]; exact Nat.le_refl _), h.len, Nat.sub_self]; rfl⟩
/-- at p a list of logs -/
def StsP (H : Hp) (p : Addr) (ss : List (List (List Int))) : Prop := ∃ qs : List Addr, H p = some (.lst (qs.map V.ref)) ∧ qs.length = ss.length ∧ ∀ (i : Nat) a xs, qs[i]? = some a → ss[i]? = some xs → LLs H a xs
theorem StsP.ex {H H' : Hp} {p : Addr} {ss : List (List (List Int))} (h : StsP H p ss) (e : Ex H H') : StsP H' p ss := let ⟨k, a, b, c⟩ := h; ⟨k, e _ _ a, b, fun i d l h1 h2 => (c i d l h1 h2).ex e⟩
/-! the heap without two objects -/
def dd (t s : Addr) (H : Hp) : Hp := del t (del s H)
theorem dd_ex {t s : Addr} {H : Hp} : Ex (dd t s H) H := del_ex.trans del_ex
theorem dd_ne {t s a : Addr} {H : Hp} (h1 : a ≠ t) (h2 : a ≠ s) : dd t s H a = H a := (del_ne h1).trans (del_ne h2)
theorem dd_mono {t s : Addr} {H H' : Hp} (e : Ex H H') : Ex (dd t s H) (dd t s H') := fun a o q => by
  have h1 : a ≠ t := fun z => by unfold dd at q; rw [z, del_self] at q; cases q
  have h2 : a ≠ s := fun z => by unfold dd at q; rw [del_ne h1, z, del_self] at q; cases q
  rw [dd_ne h1 h2] at q ⊢
  exact e _ _ q
theorem dd_chg1 {t s : Addr} {H H' : Hp} (c : Chg t H H') : Ex (dd t s H) (dd t s H') := fun a o q => by
  have h1 : a ≠ t := fun z => by unfold dd at q; rw [z, del_self] at q; cases q
  have h2 : a ≠ s := fun z => by unfold dd at q; rw [del_ne h1, z, del_self] at q; cases q
  rw [dd_ne h1 h2] at q ⊢
  rw [c a h1]
  exact q
theorem dd_chg2 {t s : Addr} {H H' : Hp} (c : Chg s H H') : Ex (dd t s H) (dd t s H') := fun a o q => by
  have h1 : a ≠ t := fun z => by unfold dd at q; rw [z, del_self] at q; cases q
  have h2 : a ≠ s := fun z => by unfold dd at q; rw [del_ne h1, z, del_self] at q; cases q
  rw [dd_ne h1 h2] at q ⊢
  rw [c a h2]
  exact q
theorem LLf.dd {Hb H' : Hp} {r t s : Addr} {xs : List (List Int)} (h : LLf Hb H' r xs) (ht : Hb t ≠ none) (hs : Hb s ≠ none) : LLs (dd t s H') r xs := by
  obtain ⟨ps, a, b, f1, f2, f3, f4⟩ := h
  have n : ∀ x, Hb x = none → x ≠ t ∧ x ≠ s := fun x z => ⟨fun e => ht (e ▸ z), fun e => hs (e ▸ z)⟩
  refine ⟨ps, (dd_ne (n r f1).1 (n r f1).2).trans a, ?_⟩
  unfold Objs at *
  rw [← b]
  exact List.map_congr_left fun x hx => dd_ne (n x (f2 x hx)).1 (n x (f2 x hx)).2
/-! an empty list of actions -/
def actD : Act → PyData
  | .wr e => .tuple [.str "write", .int e]
  | .pu s r e => .tuple [.str "pull", .int s, .int r, .int e]
theorem dp_act {K : PySem.W.Frag} {H : Hp} {a : Addr} {ac : Act} (h : H a = some (actO ac)) : Dp K H (.ref a) (actD ac) := by
  cases ac with
  | wr e => exact .tup (.inl (.inl h)) (.cons (.str _) (.cons (.int _) .nil))
  | pu s r e => exact .tup (.inl (.inl h)) (.cons (.str _) (.cons (.int _) (.cons (.int _) (.cons (.int _) .nil))))
theorem dp_acts {K : PySem.W.Frag} {H : Hp} {ps : List Addr} : ∀ {L : List Act}, Objs H ps (L.map actO) → DpAll K H (ps.map V.ref) (L.map actD) := by
  induction ps with
  | nil =>
    intro L h
    cases L with
    | nil => exact .nil
    | cons q L => cases h
  | cons a ps ih =>
    intro L h
    cases L with
    | nil => cases h
    | cons q L => exact .cons (dp_act (List.cons.inj h).1) (ih (L := L) (List.cons.inj h).2)
theorem acts_sh (L : List Act) : SeqAt.shaped (.list (L.map actD)) = true := by
  have h1 : PyData.canLayAll0 (L.map actD) = true := by
    induction L with
    | nil => simp [PyData.canLayAll0]
    | cons q L ih => cases q <;> simp [PyData.canLayAll0, actD, PyData.canLay0, ih] <;> decide +kernel
  have h2 : ∀ L : List Act, PyData.depthAll (L.map actD) ≤ 1 := fun L => by
    induction L with
    | nil => simp [PyData.depthAll]
    | cons q L ih =>
      have e : (actD q).depth = 1 := by cases q <;> simp [actD, PyData.depth, PyData.depthAll]
      simp only [List.map_cons, PyData.depthAll]
      omega
  show (PyData.canLay0 (.list (L.map actD)) && decide (PyData.depth (.list (L.map actD)) ≤ 64)) = true
  rw [Bool.and_eq_true]
  refine ⟨by simp only [PyData.canLay0]; exact h1, decide_eq_true ?_⟩
  have := h2 L
  simp only [PyData.depth]
  omega
theorem w_eqAct {K : PySem.W.Frag} {H : Hp} {Q : VK} {p e : Addr} {L : List Act} (h : ActsL H p L) (he : H e = some (.lst [])) (k : Q (.bl (decide (L = []))) H) : rEqA K (.ref p) (.ref e) H Q := by
  obtain ⟨ps, a, b⟩ := h
  refine .inr ⟨.list (L.map actD), .list [], .lst (.inl (.inl a)) (dp_acts b), .lst (.inl (.inl he)) .nil, acts_sh L, by decide, ?_⟩
  have eq : PyData.eqv (.list (L.map actD)) (.list []) = decide (L = []) := by
    cases L with
    | nil => simp [PyData.eqv, PyData.eqvAll]
    | cons a l => simp [PyData.eqv, PyData.eqvAll]
  rw [eq]
  exact k
def sp__law_run (_ : Frg) (_ : Ad) : Sp := Sp4 fun a b c d H Q => ∃ (t w p : Addr) (n : Int) (L : List (Int × Int)) (hs : List Int) (st : List (List Int)) (m : Int), a = .ref t ∧ b = .ref w ∧ c = .ref p ∧ d = .int m ∧ Tape H t ∧ WdP H w n L hs ∧ LLs H p st ∧ LogsOk n hs.length st ∧ 0 ≤ m ∧ m ≤ 100 ∧
  ∀ (r u s : Addr) H' tr ss, H r = none → Ex H H' → H' r = some (.lst [.ref u, .ref s]) → ActsL H' u tr → StsP H' s ss → RunP hs L st tr ss → tr.length ≤ 100 → (∀ xs ∈ ss, LogsOk n hs.length xs) → Q (.ref r) H'
theorem range_nodup {n : Int} : (rangeI n).Nodup := by
  unfold rangeI
  exact List.pairwise_map.mpr (List.nodup_range.imp fun h z => h (Int.ofNat.inj z))
theorem at_last {xs : List V} {k : Nat} {v : V} (h : xs.length = k + 1) (hv : xs[k]? = some v) : atI xs (-1) = some v := by
  have e : xs = xs.take k ++ [v] := by
    have := List.take_append_drop k xs
    have hk : k < xs.length := by omega
    rw [List.drop_eq_getElem_cons hk, List.drop_of_length_le (by omega)] at this
    rw [← (List.getElem?_eq_some_iff.mp hv).2]
    exact this.symm
  rw [e]
  exact atI_last _ _
def sp__law_most (_ : Frg) (_ : Ad) : Sp := Sp1 fun a H Q => ∃ t : Addr, a = .ref t ∧ Tape H t ∧ ∀ m, 0 ≤ m → m ≤ 42 → Q (.int m) H
def sp__law_empty (_ : Frg) (_ : Ad) : Sp := Sp1 fun a H Q => ∃ (w : Addr) (n : Int) (L : List (Int × Int)) (hs : List Int), a = .ref w ∧ WdP H w n L hs ∧ ∀ r H' xs, Ex H H' → LLs H' r xs → LogsOk n hs.length xs → Q (.ref r) H'
def sp__law_any_logs (_ : Frg) (_ : Ad) : Sp := Sp2 fun a b H Q => ∃ (t w : Addr) (n : Int) (L : List (Int × Int)) (hs : List Int), a = .ref t ∧ b = .ref w ∧ Tape H t ∧ WdP H w n L hs ∧ ∀ r H' xs, Ex H H' → LLs H' r xs → LogsOk n hs.length xs → Q (.ref r) H'
def sp__law_start (_ : Frg) (_ : Ad) : Sp := Sp2 fun a b H Q => ∃ (t w : Addr) (n : Int) (L : List (Int × Int)) (hs : List Int), a = .ref t ∧ b = .ref w ∧ Tape H t ∧ WdP H w n L hs ∧ ∀ r H' xs, Ex H H' → LLs H' r xs → LogsOk n hs.length xs → Q (.ref r) H'
def sp__law_whole (_ : Frg) (_ : Ad) : Sp := Sp1 fun a H Q => ∃ i : Int, a = .int i ∧ Q (.bl true) H
def sp__law_same_list (K : Frg) (_ : Ad) : Sp := Sp2 fun a b H Q => ∃ (p r : Addr) (ns : List Int), a = .ref p ∧ b = .ref r ∧ SqL K H p (ns.map V.int) ∧ SqL K H r (ns.map V.int) ∧ ns.length ≤ 1000 ∧ ∀ H', Ex H H' → Q (.bl true) H'
def sp__law_truth (_ : Frg) (_ : Ad) : Sp := Sp2 fun a b H Q => ∃ k : Bool, a = .bl k ∧ b = .bl k ∧ Q (.bl true) H
def sp__law_carrying (_ : Frg) (_ : Ad) : Sp := Sp3 fun a b c H Q => ∃ (w p : Addr) (n : Int) (L : List (Int × Int)) (hs : List Int) (xs : List (List Int)) (e : Int), a = .ref w ∧ b = .ref p ∧ c = .int e ∧ WdP H w n L hs ∧ LLs H p xs ∧ LogsOk n hs.length xs ∧ ∀ r H', H r = none → Ex H H' → Prs H' r (carL L xs e) → Q (.ref r) H'
theorem carB_all (ls lr : List Int) (e : Int) : carB ls lr e = (decide (e ∈ ls) && (decide (e ∈ lr) && (ahead ls e).all fun a => decide (a ∈ ahead lr e))) := by
  unfold carB
  congr 2
  unfold blk
  rw [Bool.eq_iff_iff, Option.isNone_iff_eq_none, List.find?_eq_none, List.all_eq_true]
  exact ⟨fun h x m => by simpa using h x m, fun h x m => by simpa using h x m⟩
theorem exch_perm {l : List Int} {k : Nat} {e b : Int} (h0 : 0 < k) (he : l[k]? = some e) (hb : l[k - 1]? = some b) : (l.take (k - 1) ++ [e, b] ++ l.drop (k + 1)).Perm l := by
  have hk := (List.getElem?_eq_some_iff.mp he).1
  have e1 : l[k] = e := (List.getElem?_eq_some_iff.mp he).2
  have e2 : l[k - 1]'(by omega) = b := (List.getElem?_eq_some_iff.mp hb).2
  have d1 : l.drop k = e :: l.drop (k + 1) := by rw [List.drop_eq_getElem_cons hk, e1]
  have d2 : l.drop (k - 1) = b :: l.drop k := by rw [List.drop_eq_getElem_cons (by omega), e2, show k - 1 + 1 = k by omega]
  have sp : l = l.take (k - 1) ++ (b :: e :: l.drop (k + 1)) := by rw [← d1, ← d2, List.take_append_drop]
  rw [List.append_assoc]
  exact ((List.Perm.swap b e _).append_left _).trans (List.Perm.of_eq sp.symm)
theorem logOk_perm {z : Nat} {l m : List Int} (h : m.Perm l) (ok : LogOk z l) : LogOk z m := ⟨h.nodup_iff.mpr ok.1, fun e he => ok.2.1 e (h.mem_iff.mp he), by rw [h.length_eq]; exact ok.2.2⟩
def sp__law_exchanged (_ : Frg) (_ : Ad) : Sp := Sp3 fun a b c H Q => ∃ (p : Addr) (n : Int) (z : Nat) (xs : List (List Int)) (i : Nat) (l : List Int) (e : Int), a = .ref p ∧ b = .int i ∧ c = .int e ∧ LLs H p xs ∧ LogsOk n z xs ∧ xs[i]? = some l ∧ e ∈ l ∧ ∀ r H' ys, Ex H H' → LLs H' r ys → LogsOk n z ys → Q (.ref r) H'
def sp_Cluster_home_of (_ : Frg) (D : Ad) : Sp := Sp2 fun a b H Q => ∃ (c : Addr) (n : Int) (L : List (Int × Int)) (hs : List Int) (e : Nat) (h : Int), a = .ref c ∧ b = .int e ∧ ClP D H c n L hs ∧ hs[e]? = some h ∧ Q (.int h) H
def sp__law_distances (_ : Frg) (_ : Ad) : Sp := Sp4 fun a b c d H Q => ∃ (w p r : Addr) (n : Int) (L : List (Int × Int)) (hs : List Int) (st gl : List (List Int)) (e : Int), a = .ref w ∧ b = .ref p ∧ c = .ref r ∧ d = .int e ∧ WdP H w n L hs ∧ LLs H p st ∧ LLs H r gl ∧ LogsOk n hs.length st ∧ LogsOk n hs.length gl ∧ 0 ≤ e ∧ e < hs.length ∧
  StR (stepsF gl.length (carL L gl e) (rootsF hs st gl e)) H Q
/-! ### what stays along a run -/
theorem at_log {n : Int} {z : Nat} {xs : List (List Int)} {x : Int} (hx : LogsOk n z xs) (h0 : 0 ≤ x) (h1 : x < n) : xs[x.toNat]? = some (logAt xs x) := by
  have hl : x.toNat < xs.length := by have := hx.1; omega
  unfold logAt
  rw [List.getElem?_eq_getElem hl]
  rfl
structure RunC (n : Int) (L : List (Int × Int)) (hs : List Int) (st : List (List Int)) (tr : List Act) (ss : List (List (List Int))) : Prop where
  rp : RunP hs L st tr ss
  ok : ∀ xs ∈ ss, LogsOk n hs.length xs
  lo : ∀ q ∈ L, LinkOk n q
  ho : ∀ h ∈ hs, 0 ≤ h ∧ h < n
section
variable {n : Int} {L : List (Int × Int)} {hs : List Int} {st : List (List Int)} {tr : List Act} {ss : List (List (List Int))}
theorem after_at {xs : List (List Int)} {ac : Act} {x : Int} (hx : LogsOk n hs.length xs) (p0 : 0 ≤ placeF hs ac) (p1 : placeF hs ac < n) (x0 : 0 ≤ x) : logAt (afterF hs xs ac) x = if x = placeF hs ac then logAt xs x ++ [ac.ent] else logAt xs x := by
  unfold afterF addAt
  have hl : (placeF hs ac).toNat < xs.length := by have := hx.1; omega
  by_cases e : x = placeF hs ac
  · rw [if_pos e, e]
    unfold logAt
    rw [List.getElem?_set_self hl]
    rfl
  · rw [if_neg e]
    unfold logAt
    rw [List.getElem?_set_ne (by omega)]
/-- the action at k: the logs before it -/
theorem RunC.act (r : RunC n L hs st tr ss) {k : Nat} {ac : Act} (h : tr[k]? = some ac) : ∃ xs, ss[k]? = some xs ∧ ac ∈ allF xs L hs.length ∧ ss[k + 1]? = some (afterF hs xs ac) ∧ LogsOk n hs.length xs ∧ ActOk n hs.length ac ∧ 0 ≤ placeF hs ac ∧ placeF hs ac < n := by
  obtain ⟨xs, h1, h2, h3⟩ := r.rp.nx k ac h
  have ok := r.ok xs (List.mem_of_getElem? h1)
  have oa := allF_ok ok r.lo h2
  have pl := place_ok oa r.ho
  exact ⟨xs, h1, h2, h3, ok, oa, pl.1, pl.2⟩
theorem RunC.grow (r : RunC n L hs st tr ss) {x : Int} (x0 : 0 ≤ x) {j : Nat} {xs : List (List Int)} (hj : ss[j]? = some xs) : ∀ (d : Nat) {ys : List (List Int)}, ss[j + d]? = some ys → ∃ m, logAt ys x = logAt xs x ++ m
  | 0, ys, h => by
    rw [Nat.add_zero] at h
    have e := hj.symm.trans h
    cases e
    exact ⟨[], (List.append_nil _).symm⟩
  | d + 1, ys, h => by
    have lt := (List.getElem?_eq_some_iff.mp h).1
    have ln := r.rp.len
    have lt2 : j + d < tr.length := by omega
    obtain ⟨zs, h1, _, h3, ok, oa, p0, p1⟩ := r.act (List.getElem?_eq_getElem lt2)
    obtain ⟨m, hm⟩ := r.grow x0 hj d h1
    rw [show j + (d + 1) = j + d + 1 by omega, h3] at h
    cases h
    rw [after_at ok p0 p1 x0]
    split
    · exact ⟨m ++ [_], by rw [hm, List.append_assoc]⟩
    · exact ⟨m, hm⟩
theorem RunC.grow' (r : RunC n L hs st tr ss) {x : Int} (x0 : 0 ≤ x) {j k : Nat} {xs ys : List (List Int)} (hj : ss[j]? = some xs) (hk : ss[k]? = some ys) (le : j ≤ k) : ∃ m, logAt ys x = logAt xs x ++ m :=
  r.grow x0 hj (k - j) (by rw [show j + (k - j) = k by omega]; exact hk)
theorem RunC.keep (r : RunC n L hs st tr ss) {x e : Int} (x0 : 0 ≤ x) {j k : Nat} {xs ys : List (List Int)} (hj : ss[j]? = some xs) (hk : ss[k]? = some ys) (le : j ≤ k) (m : e ∈ logAt xs x) : e ∈ logAt ys x := by
  obtain ⟨z, hz⟩ := r.grow' x0 hj hk le
  rw [hz]
  exact List.mem_append_left _ m
/-- the entry of an action is not there before it -/
theorem RunC.new (r : RunC n L hs st tr ss) {k : Nat} {ac : Act} {xs : List (List Int)} (h : tr[k]? = some ac) (hk : ss[k]? = some xs) : ac.ent ∉ logAt xs (placeF hs ac) := by
  obtain ⟨zs, h1, h2, h3, ok, oa, p0, p1⟩ := r.act h
  have e := hk.symm.trans h1
  cases e
  exact allF_new (n := n) h2 (at_log ok p0 p1)
/-- what stands ahead of it later is the log before it -/
theorem RunC.ahead (r : RunC n L hs st tr ss) {k j : Nat} {ac : Act} {xs ys : List (List Int)} (h : tr[k]? = some ac) (hk : ss[k]? = some xs) (hj : ss[j]? = some ys) (lt : k < j) : ac.ent ∈ logAt ys (placeF hs ac) ∧ ahead (logAt ys (placeF hs ac)) ac.ent = logAt xs (placeF hs ac) := by
  have nw := r.new h hk
  obtain ⟨zs, h1, h2, h3, ok, oa, p0, p1⟩ := r.act h
  have e := hk.symm.trans h1
  cases e
  obtain ⟨m, hm⟩ := r.grow' p0 h3 hj lt
  rw [after_at ok p0 p1 p0, if_pos rfl] at hm
  rw [hm]
  exact ⟨by simp, by rw [ahead_append (by simp), ahead_snoc nw]⟩
/-- ahead of the first that lacks nothing lacks -/
theorem first_ahead {lr : List Int} {e : Int} : ∀ {ls : List Int}, ls.find? (fun a => decide (a ∉ lr)) = some e → ∀ a ∈ ahead ls e, a ∈ lr
  | [], h, a, m => by cases m
  | b :: ls, h, a, m => by
    have ne : e ∉ lr := by simpa using List.find?_some h
    rw [List.find?_cons] at h
    by_cases hb : b ∈ lr
    · rw [decide_eq_false (fun z => z hb)] at h
      have be : b ≠ e := fun z => ne (z ▸ hb)
      unfold PL.ahead at m
      rw [List.takeWhile_cons, if_pos (by simpa using be)] at m
      rcases List.mem_cons.mp m with z | m
      · rw [z]; exact hb
      · exact first_ahead h a m
    · rw [decide_eq_true hb] at h
      cases h
      unfold PL.ahead at m
      rw [List.takeWhile_cons, if_neg (by simp)] at m
      cases m
theorem pu_of {xs : List (List Int)} {z : Nat} {s t e : Int} (h : Act.pu s t e ∈ allF xs L z) : (s, t) ∈ L ∧ (logAt xs s).find? (fun a => decide (a ∉ logAt xs t)) = some e := by
  rcases List.mem_append.mp h with h | h
  · unfold wrF at h
    obtain ⟨k, _, hk⟩ := List.mem_map.mp h
    cases hk
  · unfold puF at h
    obtain ⟨q, hq, g⟩ := List.mem_filterMap.mp h
    split at g
    · rename_i g0
      cases g
      refine ⟨hq, ?_⟩
      unfold firstF at g0 ⊢
      cases hf : (logAt xs q.1).find? fun a => decide (a ∉ logAt xs q.2) with
      | none => rw [hf] at g0; exact absurd g0 (by decide)
      | some a => rfl
    · cases g
theorem wr_of {xs : List (List Int)} {z e : Nat} (h : Act.wr e ∈ allF xs L z) : e < z ∧ ∀ l ∈ xs, (e : Int) ∉ l := by
  rcases List.mem_append.mp h with h | h
  · unfold wrF at h
    obtain ⟨k, hk, ek⟩ := List.mem_map.mp h
    cases ek
    obtain ⟨a, b⟩ := List.mem_filter.mp hk
    refine ⟨List.mem_range.mp a, fun l hl m => ?_⟩
    have : (xs.any fun l => decide ((e : Int) ∈ l)) = true := List.any_eq_true.mpr ⟨l, hl, decide_eq_true m⟩
    rw [this] at b
    cases b
  · unfold puF at h
    obtain ⟨q, hq, g⟩ := List.mem_filterMap.mp h
    split at g <;> cases g
/-- before a pull its link does not carry -/
theorem RunC.carB0 (r : RunC n L hs st tr ss) {k : Nat} {s t e : Int} {xs : List (List Int)} (h : tr[k]? = some (.pu s t e)) (hk : ss[k]? = some xs) : carB (logAt xs s) (logAt xs t) e = false := by
  have nw : e ∉ logAt xs t := r.new h hk
  unfold carB
  rw [decide_eq_false nw, Bool.false_and, Bool.and_false]
/-- later it does -/
theorem RunC.carB1 (r : RunC n L hs st tr ss) {k j : Nat} {s t e : Int} {xs ys : List (List Int)} (h : tr[k]? = some (.pu s t e)) (hk : ss[k]? = some xs) (hj : ss[j]? = some ys) (lt : k < j) : carB (logAt ys s) (logAt ys t) e = true := by
  obtain ⟨a1, a2⟩ := r.ahead h hk hj lt
  obtain ⟨zs, h1, h2, h3, ok, oa, p0, p1⟩ := r.act h
  have eq := hk.symm.trans h1
  cases eq
  obtain ⟨ql, qf⟩ := pu_of h2
  have s0 : 0 ≤ s := (r.lo _ ql).2.1
  obtain ⟨m, hm⟩ := r.grow' s0 hk hj (Nat.le_of_lt lt)
  have es : e ∈ logAt xs s := List.mem_of_find?_eq_some qf
  have a1' : e ∈ logAt ys t := a1
  have a2' : PL.ahead (logAt ys t) e = logAt xs t := a2
  unfold carB blk
  rw [decide_eq_true a1', decide_eq_true (hm ▸ List.mem_append_left m es : e ∈ logAt ys s), Bool.true_and, Bool.true_and, hm, ahead_append es, a2']
  rw [List.find?_eq_none.mpr fun a ha => by simpa using first_ahead qf a ha]
  rfl
/-! hops -/
abbrev Hop := Int → Int → Option Nat
def hop0 (st : List (List Int)) : Hop := fun x e => if e ∈ logAt st x then some 0 else none
def hopPut (h : Hop) (x e : Int) (v : Option Nat) : Hop := fun y f => if y = x ∧ f = e then v else h y f
def hopA (hs : List Int) (h : Hop) : Act → Hop
  | .wr e => hopPut h ((hs[e]?).getD 0) e (some 0)
  | .pu s r e => hopPut h r e ((h s e).map (· + 1))
def hopF (hs : List Int) (st : List (List Int)) (tr : List Act) : Hop := tr.foldl (hopA hs) (hop0 st)
theorem hopF_snoc {tr : List Act} {ac : Act} : hopF hs st (tr ++ [ac]) = hopA hs (hopF hs st tr) ac := by unfold hopF; rw [List.foldl_append]; rfl
theorem RunC.hop_some (r : RunC n L hs st tr ss) {x e : Int} (x0 : 0 ≤ x) : ∀ {k : Nat} {xs : List (List Int)}, ss[k]? = some xs → (hopF hs st (tr.take k) x e).isSome = decide (e ∈ logAt xs x)
  | 0, xs, h => by
    have eq := r.rp.h0.symm.trans h
    cases eq
    show (hop0 st x e).isSome = _
    unfold hop0
    by_cases m : e ∈ logAt st x
    · rw [if_pos m, decide_eq_true m]; rfl
    · rw [if_neg m, decide_eq_false m]; rfl
  | k + 1, xs, h => by
    have lt := (List.getElem?_eq_some_iff.mp h).1
    have ln := r.rp.len
    have lt2 : k < tr.length := by omega
    have hac := List.getElem?_eq_getElem lt2
    obtain ⟨zs, h1, h2, h3, ok, oa, p0, p1⟩ := r.act hac
    have eq := h3.symm.trans h
    cases eq
    rw [PL.take_succ hac, hopF_snoc, after_at ok p0 p1 x0]
    have ih := fun {x e : Int} (x0 : 0 ≤ x) => r.hop_some (x := x) (e := e) x0 h1
    generalize tr[k] = ac at *
    have put : ∀ v : Option Nat, v.isSome = true → (hopPut (hopF hs st (tr.take k)) (placeF hs ac) ac.ent v x e).isSome = decide (e ∈ if x = placeF hs ac then logAt zs x ++ [ac.ent] else logAt zs x) := fun v hv => by
      unfold hopPut
      by_cases q : x = placeF hs ac ∧ e = ac.ent
      · rw [if_pos q, if_pos q.1, hv, decide_eq_true (by rw [q.2]; simp)]
      · rw [if_neg q, ih x0]
        by_cases q1 : x = placeF hs ac
        · rw [if_pos q1]
          have q2 : e ≠ ac.ent := fun z => q ⟨q1, z⟩
          congr 1
          simp [q2]
        · rw [if_neg q1]
    cases ac with
    | wr e0 => exact put _ rfl
    | pu s t e0 =>
      refine put _ ?_
      obtain ⟨ql, qf⟩ := pu_of h2
      rw [Option.isSome_map, ih (r.lo _ ql).2.1]
      exact decide_eq_true (List.mem_of_find?_eq_some qf)
end
/-! ### steps -/
theorem sw1_keep {d : Nat} {st : Sts} {q : Int × Int} {i v : Nat} (h : st[i]? = some (some v)) : (sw1 d st q)[i]? = some (some v) := by
  unfold sw1
  split
  · rename_i c
    rw [List.getElem?_set_ne (fun e => by rw [← e, c.2] at h; cases h)]
    exact h
  · exact h
theorem sweep_keep {d : Nat} {i v : Nat} : ∀ {L : List (Int × Int)} {st : Sts}, st[i]? = some (some v) → (sweep d st L)[i]? = some (some v)
  | [], st, h => h
  | q :: L, st, h => by
    unfold sweep
    rw [List.foldl_cons]
    exact sweep_keep (L := L) (sw1_keep h)
theorem run_keep {L : List (Int × Int)} {i v : Nat} : ∀ {k d : Nat} {st : Sts}, st[i]? = some (some v) → (runS k d st L)[i]? = some (some v)
  | 0, _, _, h => h
  | k + 1, d, st, h => run_keep (k := k) (sweep_keep h)
theorem sw1_inv {d : Nat} {st : Sts} {q : Int × Int} {i v : Nat} (h : (sw1 d st q)[i]? = some (some v)) : st[i]? = some (some v) ∨ (v = d + 1 ∧ i = q.2.toNat) := by
  unfold sw1 at h
  split at h
  · rw [List.getElem?_set] at h
    split at h
    · rename_i e
      split at h
      · cases h; exact .inr ⟨rfl, e.symm⟩
      · cases h
    · exact .inl h
  · exact .inl h
theorem sweep_inv {d : Nat} {i v : Nat} : ∀ {L : List (Int × Int)} {st : Sts}, (sweep d st L)[i]? = some (some v) → st[i]? = some (some v) ∨ (v = d + 1 ∧ ∃ q ∈ L, i = q.2.toNat)
  | [], st, h => .inl h
  | q :: L, st, h => by
    unfold sweep at h
    rw [List.foldl_cons] at h
    rcases sweep_inv (L := L) h with h | ⟨h, z, hz, e⟩
    · rcases sw1_inv h with h | ⟨h, e⟩
      · exact .inl h
      · exact .inr ⟨h, q, List.mem_cons_self, e⟩
    · exact .inr ⟨h, z, List.mem_cons_of_mem _ hz, e⟩
/-- all that is reached has the mark of the roots and of the links' ends -/
theorem run_all {L : List (Int × Int)} {P : Nat → Prop} (hl : ∀ q ∈ L, P q.2.toNat) : ∀ {k d : Nat} {st : Sts}, (∀ (i v : Nat), st[i]? = some (some v) → P i) → ∀ (i v : Nat), (runS k d st L)[i]? = some (some v) → P i
  | 0, _, _, h, i, v, z => h i v z
  | k + 1, d, st, h, i, v, z => run_all hl (k := k) (fun i v z => by
      rcases sweep_inv z with z | ⟨_, q, hq, e⟩
      · exact h i v z
      · rw [e]; exact hl q hq) i v z
/-- a value v was there after v sweeps -/
theorem run_age {L : List (Int × Int)} {s0 : Sts} (h0 : ∀ (i v : Nat), s0[i]? = some (some v) → v ≤ 0) {i v : Nat} : ∀ {k : Nat}, (runS k 0 s0 L)[i]? = some (some v) → v ≤ k ∧ (runS v 0 s0 L)[i]? = some (some v)
  | 0, h => by
    have := h0 i v h
    obtain rfl : v = 0 := by omega
    exact ⟨Nat.le_refl _, h⟩
  | k + 1, h => by
    have h' := h
    rw [run_snoc, Nat.zero_add] at h
    rcases sweep_inv h with h | ⟨e, _⟩
    · have := run_age h0 h
      exact ⟨Nat.le_succ_of_le this.1, this.2⟩
    · subst e
      exact ⟨Nat.le_refl _, h'⟩
theorem sweep_link {k : Nat} {s t : Int} : ∀ {L : List (Int × Int)} {st : Sts}, (∀ (i v : Nat), st[i]? = some (some v) → v ≤ k + 1) → (s, t) ∈ L → st[s.toNat]? = some (some k) → t.toNat < st.length → ∃ u, (sweep k st L)[t.toNat]? = some (some u) ∧ u ≤ k + 1
  | [], st, _, m, _, _ => by cases m
  | q :: L, st, hv, m, hs, ht => by
    unfold sweep
    rw [List.foldl_cons]
    by_cases e : q = (s, t)
    · subst e
      obtain ⟨o, ho⟩ : ∃ o, st[t.toNat]? = some o := ⟨_, List.getElem?_eq_getElem ht⟩
      cases o with
      | none =>
        have w : sw1 k st (s, t) = st.set t.toNat (some (k + 1)) := if_pos ⟨hs, ho⟩
        rw [w]
        exact ⟨k + 1, sweep_keep (L := L) (List.getElem?_set_self ht), Nat.le_refl _⟩
      | some u => exact ⟨u, sweep_keep (L := L) (sw1_keep ho), hv _ _ ho⟩
    · refine sweep_link (L := L) (fun i v z => ?_) ((List.mem_cons.mp m).resolve_left fun z => e z.symm) (sw1_keep hs) (by rw [sw1_len]; exact ht)
      rcases sw1_inv z with z | ⟨z, _⟩
      · exact hv i v z
      · omega
theorem sweep_SwI {k : Nat} {s0 : Sts} : ∀ {L : List (Int × Int)} {st : Sts} {fl : List Int}, SwI k s0 st fl → ∃ fl', SwI k s0 (sweep k st L) fl'
  | [], st, fl, h => ⟨fl, h⟩
  | q :: L, st, fl, h => by
    unfold sweep
    rw [List.foldl_cons]
    unfold sw1
    split
    · rename_i c
      exact sweep_SwI (L := L) (h.step (x := 0) c.2)
    · exact sweep_SwI (L := L) h
theorem run_lt {N : Nat} {L : List (Int × Int)} {rs : List Int} (hr : ∀ r ∈ rs, 0 ≤ r ∧ r < (N : Int)) : ∀ k : Nat, ∃ j fl, j ≤ k ∧ (fl ≠ [] → j = k) ∧ WhI N j (st0 N rs) (runS k 0 (st0 N rs) L) L fl
  | 0 => ⟨0, rs, Nat.le_refl _, fun _ => rfl, whI_start hr⟩
  | k + 1 => by
    obtain ⟨j, fl, jk, hf, w⟩ := run_lt hr (L := L) k
    by_cases f : fl = []
    · subst f
      refine ⟨j, [], Nat.le_succ_of_le jk, fun z => absurd rfl z, ?_⟩
      have no : sweep k (runS k 0 (st0 N rs) L) L = runS k 0 (st0 N rs) L := sweep_no fun i z => by
        have le := w.le i k z
        have ej : j = k := by omega
        subst ej
        exact absurd (w.hit.mpr ⟨i, z⟩) (by simp)
      rw [run_snoc, Nat.zero_add, no]
      exact w
    · have ej := hf f
      subst ej
      obtain ⟨fl', sw⟩ := sweep_SwI (L := L) (SwI.start w.le)
      refine ⟨j + 1, fl', Nat.le_refl _, fun _ => rfl, ?_⟩
      rw [run_snoc, Nat.zero_add]
      exact w.next f sw rfl
theorem steps_lt {N : Nat} {L : List (Int × Int)} {rs : List Int} (hr : ∀ r ∈ rs, 0 ≤ r ∧ r < (N : Int)) {i v : Nat} (h : (stepsF N L rs)[i]? = some (some v)) : v < N := by
  obtain ⟨j, fl, jk, hf, w⟩ := run_lt hr (L := L) N
  have le := w.le i v h
  by_cases f : fl = []
  · subst f
    rcases Nat.lt_or_eq_of_le le with z | z
    · omega
    · subst z
      exact absurd (w.hit.mpr ⟨i, h⟩) (by simp)
  · have := w.cnt f
    omega
theorem steps_link {N : Nat} {L : List (Int × Int)} {rs : List Int} (hr : ∀ r ∈ rs, 0 ≤ r ∧ r < (N : Int)) {s t : Int} {v : Nat} (m : (s, t) ∈ L) (ht : t.toNat < N) (h : (stepsF N L rs)[s.toNat]? = some (some v)) : ∃ u, (stepsF N L rs)[t.toNat]? = some (some u) ∧ u ≤ v + 1 := by
  have lt := steps_lt hr h
  unfold stepsF at h ⊢
  have ag := (run_age st0_le h).2
  have len : (runS v 0 (st0 N rs) L).length = N := run_len.trans st0_len
  obtain ⟨u, hu, le⟩ := sweep_link (L := L) (fun i w z => Nat.le_succ_of_le (run_age st0_le z).1) m ag (by rw [len]; exact ht)
  refine ⟨u, ?_, le⟩
  rw [show N = (v + 1) + (N - (v + 1)) by omega, run_add (a := v + 1) (b := N - (v + 1))]
  refine run_keep ?_
  rw [← show N = (v + 1) + (N - (v + 1)) by omega, run_snoc, Nat.zero_add]
  exact hu
section
variable {n : Int} {L : List (Int × Int)} {hs : List Int} {st : List (List Int)} {tr : List Act} {ss : List (List (List Int))}
theorem mem_hold {xs : List (List Int)} {z : Nat} {e x : Int} (hx : LogsOk n z xs) : x ∈ hold xs e ↔ 0 ≤ x ∧ x < n ∧ e ∈ logAt xs x := by
  have hn := hx.1
  unfold hold holdN
  constructor
  · intro h
    obtain ⟨j, hj, rfl⟩ := List.mem_map.mp h
    obtain ⟨h1, h2⟩ := List.mem_filter.mp hj
    have h1 := List.mem_range.mp h1
    rw [List.getElem?_eq_getElem h1] at h2
    refine ⟨Int.natCast_nonneg _, by omega, ?_⟩
    unfold logAt
    rw [Int.toNat_natCast, List.getElem?_eq_getElem h1]
    exact of_decide_eq_true h2
  · rintro ⟨h0, h1, h2⟩
    refine List.mem_map.mpr ⟨x.toNat, List.mem_filter.mpr ⟨List.mem_range.mpr (by omega), ?_⟩, Int.toNat_of_nonneg h0⟩
    rw [at_log hx h0 h1]
    exact decide_eq_true h2
theorem roots_rng {gl : List (List Int)} {e : Int} (so : LogsOk n hs.length st) (go : LogsOk n hs.length gl) (ho : ∀ h ∈ hs, 0 ≤ h ∧ h < n) (e0 : 0 ≤ e) (e1 : e < hs.length) : ∀ r ∈ rootsF hs st gl e, 0 ≤ r ∧ r < (gl.length : Int) := fun r h => by
  have gn := go.1
  unfold rootsF at h
  split at h
  · split at h
    · rw [List.mem_singleton.mp h]
      have he : e.toNat < hs.length := by omega
      have m : (hs[e.toNat]?).getD 0 ∈ hs := by rw [List.getElem?_eq_getElem he]; exact List.getElem_mem he
      have := ho _ m
      omega
    · cases h
  · have := (mem_hold so).mp h
    omega
theorem RunC.hop_le (r : RunC n L hs st tr ss) {gl : List (List Int)} (hg : ss[tr.length]? = some gl) {e : Int} (e0 : 0 ≤ e) (e1 : e < hs.length) : ∀ {k : Nat}, k ≤ tr.length → ∀ {x : Int} {v : Nat}, 0 ≤ x → x < n → hopF hs st (tr.take k) x e = some v → ∃ u, (stepsF gl.length (carL L gl e) (rootsF hs st gl e))[x.toNat]? = some (some u) ∧ u ≤ v
  | 0, _, x, v, x0, x1, h => by
    have so := r.ok st (List.mem_of_getElem? r.rp.h0)
    have go := r.ok gl (List.mem_of_getElem? hg)
    have h' : hop0 st x e = some v := h
    unfold hop0 at h'
    split at h'
    · rename_i m
      have mh : x ∈ hold st e := (mem_hold so).mpr ⟨x0, x1, m⟩
      have rt : rootsF hs st gl e = hold st e := if_neg (List.ne_nil_of_mem mh)
      refine ⟨0, ?_, Nat.zero_le _⟩
      rw [rt]
      exact run_keep (st0_mem mh (by have := go.1; omega))
    · cases h'
  | k + 1, lk, x, v, x0, x1, h => by
    have so := r.ok st (List.mem_of_getElem? r.rp.h0)
    have go := r.ok gl (List.mem_of_getElem? hg)
    have gn := go.1
    have lt2 : k < tr.length := by omega
    have hac := List.getElem?_eq_getElem lt2
    obtain ⟨zs, h1, h2, h3, ok, oa, p0, p1⟩ := r.act hac
    rw [PL.take_succ hac, hopF_snoc] at h
    have ih := fun {x : Int} {v : Nat} => r.hop_le hg e0 e1 (k := k) (by omega) (x := x) (v := v)
    generalize tr[k] = ac at *
    cases ac with
    | wr f =>
      replace h : (if x = (hs[f]?).getD 0 ∧ e = (f : Int) then some 0 else hopF hs st (tr.take k) x e) = some v := h
      split at h
      · rename_i q
        cases h
        obtain ⟨q1, q2⟩ := q
        obtain ⟨f1, f2⟩ := wr_of h2
        have em : hold st e = [] := List.eq_nil_iff_forall_not_mem.mpr fun y hy => by
          obtain ⟨y0, y1, hy⟩ := (mem_hold so).mp hy
          have hk := r.keep y0 r.rp.h0 h1 (Nat.zero_le _) hy
          rw [q2] at hk
          exact f2 _ (List.mem_of_getElem? (at_log ok y0 y1)) hk
        have inn := (r.ahead hac h1 hg lt2).1
        have hm : (hs[e.toNat]?).getD 0 = x := by rw [q1, q2, Int.toNat_natCast]
        have inn' : e ∈ logAt gl x := by rw [q1, q2]; exact inn
        have rt : rootsF hs st gl e = [x] := by
          unfold rootsF
          rw [if_pos em, hm, if_pos inn']
        refine ⟨0, ?_, Nat.le_refl _⟩
        rw [rt]
        exact run_keep (st0_mem (List.mem_singleton.mpr rfl) (by omega))
      · exact ih x0 x1 h
    | pu s t f =>
      replace h : (if x = t ∧ e = f then (hopF hs st (tr.take k) s f).map (· + 1) else hopF hs st (tr.take k) x e) = some v := h
      split at h
      · rename_i q
        obtain ⟨q1, q2⟩ := q
        subst q1 q2
        obtain ⟨v', hv, rfl⟩ := Option.map_eq_some_iff.mp h
        obtain ⟨ql, qf⟩ := pu_of h2
        obtain ⟨_, k2, k3, k4, k5⟩ := r.lo _ ql
        obtain ⟨u', hu', le'⟩ := ih k2 k3 hv
        have cm : (s, x) ∈ carL L gl e := List.mem_filter.mpr ⟨ql, r.carB1 hac h1 hg lt2⟩
        obtain ⟨u, hu, le⟩ := steps_link (roots_rng so go r.ho e0 e1) cm (by omega) hu'
        exact ⟨u, hu, by omega⟩
      · exact ih x0 x1 h
theorem RunC.steps_some (r : RunC n L hs st tr ss) {gl : List (List Int)} (hg : ss[tr.length]? = some gl) {e : Int} (e0 : 0 ≤ e) (e1 : e < hs.length) {x : Int} (x0 : 0 ≤ x) (x1 : x < n) {o : Option Nat} (h : (stepsF gl.length (carL L gl e) (rootsF hs st gl e))[x.toNat]? = some o) : o.isSome = decide (e ∈ logAt gl x) := by
  have so := r.ok st (List.mem_of_getElem? r.rp.h0)
  have go := r.ok gl (List.mem_of_getElem? hg)
  have gn := go.1
  by_cases m : e ∈ logAt gl x
  · rw [decide_eq_true m]
    have hs := r.hop_some (e := e) x0 hg
    rw [decide_eq_true m] at hs
    obtain ⟨v, hv⟩ := Option.isSome_iff_exists.mp hs
    obtain ⟨u, hu, _⟩ := r.hop_le hg e0 e1 (Nat.le_refl _) x0 x1 hv
    rw [hu] at h
    cases h
    rfl
  · rw [decide_eq_false m]
    cases o with
    | none => rfl
    | some v =>
      refine absurd ?_ m
      have all := run_all (P := fun i => e ∈ logAt gl i) (L := carL L gl e) (fun q hq => by
        obtain ⟨ql, qc⟩ := List.mem_filter.mp hq
        have k4 := (r.lo _ ql).2.2.2.1
        unfold carB at qc
        rw [Bool.and_eq_true, Bool.and_eq_true] at qc
        show e ∈ logAt gl (q.2.toNat : Nat)
        rw [Int.toNat_of_nonneg k4]
        exact of_decide_eq_true qc.2.1) (k := gl.length) (d := 0) (st := st0 gl.length (rootsF hs st gl e)) (fun i v z => by
        have v0 := st0_le i v z
        obtain rfl : v = 0 := by omega
        obtain ⟨y, hy, rfl⟩ := st0_some z
        have yr := roots_rng so go r.ho e0 e1 y hy
        show e ∈ logAt gl (y.toNat : Nat)
        rw [Int.toNat_of_nonneg yr.1]
        unfold rootsF at hy
        split at hy
        · split at hy
          · rename_i mm
            rw [List.mem_singleton.mp hy]
            exact mm
          · cases hy
        · obtain ⟨y0, y1, my⟩ := (mem_hold so).mp hy
          exact r.keep y0 r.rp.h0 hg (Nat.zero_le _) my) x.toNat v h
      have all' : e ∈ logAt gl (x.toNat : Nat) := all
      rw [Int.toNat_of_nonneg x0] at all'
      exact all'
/-- the holders are those that the steps reach -/
theorem RunC.steps_hold (r : RunC n L hs st tr ss) {gl : List (List Int)} (hg : ss[tr.length]? = some gl) {e : Int} (e0 : 0 ≤ e) (e1 : e < hs.length) : someIx (stepsF gl.length (carL L gl e) (rootsF hs st gl e)) gl.length = hold gl e := by
  have go := r.ok gl (List.mem_of_getElem? hg)
  have gn := go.1
  unfold someIx hold holdN
  congr 1
  refine List.filter_congr fun j hj => ?_
  have hj := List.mem_range.mp hj
  have len : (stepsF gl.length (carL L gl e) (rootsF hs st gl e)).length = gl.length := run_len.trans st0_len
  obtain ⟨o, ho⟩ : ∃ o, (stepsF gl.length (carL L gl e) (rootsF hs st gl e))[j]? = some o := ⟨_, List.getElem?_eq_getElem (by omega)⟩
  have s := r.steps_some hg e0 e1 (x := (j : Int)) (by omega) (by omega) (by rw [Int.toNat_natCast]; exact ho)
  have l := at_log go (x := (j : Int)) (by omega) (by omega)
  rw [Int.toNat_natCast] at l
  rw [ho, l]
  exact s
end
def HopD (H : Hp) (d : Addr) (n : Int) (h : Hop) : Prop := ∃ kvs, H d = some (.dT kvs) ∧ ∀ x e : Int, 0 ≤ x → x < n → valV kvs (pk (x, e)) = (h x e).map fun v : Nat => V.int v
theorem HopD.ex {H H' : Hp} {d : Addr} {n : Int} {h : Hop} (k : HopD H d n h) (e : Ex H H') : HopD H' d n h := let ⟨kvs, a, b⟩ := k; ⟨kvs, e _ _ a, b⟩
def sp__law_hops (_ : Frg) (_ : Ad) : Sp := Sp3 fun a b c H Q => ∃ (w p t : Addr) (n : Int) (L : List (Int × Int)) (hs : List Int) (st : List (List Int)) (tr : List Act) (ss : List (List (List Int))), a = .ref w ∧ b = .ref p ∧ c = .ref t ∧ WdP H w n L hs ∧ LLs H p st ∧ ActsL H t tr ∧ RunC n L hs st tr ss ∧ tr.length ≤ 1000 ∧
  ∀ d H', Ex H H' → HopD H' d n (hopF hs st tr) → Q (.ref d) H'
/-- what is asked of an action and later logs -/
structure Stays (hs : List Int) (L : List (Int × Int)) (xs ys : List (List Int)) (ac : Act) : Prop where
  inn : ac.ent ∈ logAt ys (placeF hs ac)
  ah : ahead (logAt ys (placeF hs ac)) ac.ent = logAt xs (placeF hs ac)
  pu : ∀ s t e, ac = .pu s t e → (s, t) ∈ L ∧ carB (logAt xs s) (logAt xs t) e = false ∧ carB (logAt ys s) (logAt ys t) e = true
theorem RunC.stays {n : Int} {L : List (Int × Int)} {hs : List Int} {st : List (List Int)} {tr : List Act} {ss : List (List (List Int))} (r : RunC n L hs st tr ss) {k j : Nat} {ac : Act} {xs ys : List (List Int)} (h : tr[k]? = some ac) (hk : ss[k]? = some xs) (hj : ss[j]? = some ys) (lt : k < j) : Stays hs L xs ys ac :=
  ⟨(r.ahead h hk hj lt).1, (r.ahead h hk hj lt).2, fun s t e q => by
    subst q
    obtain ⟨zs, h1, h2, _⟩ := r.act h
    exact ⟨(pu_of h2).1, r.carB0 h hk, r.carB1 h hk hj lt⟩⟩
theorem carL_mem {L : List (Int × Int)} {xs : List (List Int)} {e s t : Int} (h : (s, t) ∈ L) : decide ((s, t) ∈ carL L xs e) = carB (logAt xs s) (logAt xs t) e := by
  unfold carL
  rw [Bool.eq_iff_iff, decide_eq_true_eq, List.mem_filter]
  exact ⟨fun z => z.2, fun z => ⟨h, z⟩⟩
def sp__law_action_stays (_ : Frg) (D : Ad) : Sp := Sp5 fun a b c d f H Q => ∃ (cl w p t r : Addr) (n : Int) (L : List (Int × Int)) (hs : List Int) (xs ys : List (List Int)) (ac : Act), a = .ref cl ∧ b = .ref w ∧ c = .ref p ∧ d = .ref t ∧ f = .ref r ∧ ClP D H cl n L hs ∧ WdP H w n L hs ∧ LLs H p xs ∧ H t = some (actO ac) ∧ LLs H r ys ∧
  LogsOk n hs.length xs ∧ LogsOk n hs.length ys ∧ TabH D H ∧ ActOk n hs.length ac ∧ Stays hs L xs ys ac ∧ ∀ H', Ex H H' → Q (.bl true) H'
def sp__law_links_agree (_ : Frg) (D : Ad) : Sp := Sp4 fun a b c d H Q => ∃ (cl w p : Addr) (n : Int) (L : List (Int × Int)) (hs : List Int) (xs : List (List Int)) (e : Int), a = .ref cl ∧ b = .ref w ∧ c = .ref p ∧ d = .int e ∧ ClP D H cl n L hs ∧ WdP H w n L hs ∧ LLs H p xs ∧ LogsOk n hs.length xs ∧ TabH D H ∧ 0 ≤ e ∧ e < hs.length ∧ ∀ H', Ex H H' → Q (.bl true) H'
/-! ### compared in depth -/
theorem eqvAll_map {α : Type} {f : α → PyData} (h : ∀ x, PyData.eqv (f x) (f x) = true) : ∀ xs : List α, PyData.eqvAll (xs.map f) (xs.map f) = true
  | [] => by simp [PyData.eqvAll]
  | x :: xs => by simp [PyData.eqvAll, h x, eqvAll_map h xs]
theorem layAll_map {α : Type} {f : α → PyData} (h : ∀ x, (f x).canLay0 = true) : ∀ xs : List α, PyData.canLayAll0 (xs.map f) = true
  | [] => by simp [PyData.canLayAll0]
  | x :: xs => by simp [PyData.canLayAll0, h x, layAll_map h xs]
theorem depAll_map {α : Type} {f : α → PyData} {k : Nat} (h : ∀ x, (f x).depth ≤ k) : ∀ xs : List α, PyData.depthAll (xs.map f) ≤ k
  | [] => by simp [PyData.depthAll]
  | x :: xs => by
    have := h x
    have := depAll_map h xs
    simp only [List.map_cons, PyData.depthAll]
    omega
def optD : Option Nat → PyData
  | none => .none
  | some k => .int k
def dL1 (l : List Int) : PyData := .list (l.map .int)
def dL2 (xs : List (List Int)) : PyData := .list (xs.map dL1)
def dL3 (ss : List (List (List Int))) : PyData := .list (ss.map dL2)
theorem optD_eq (o : Option Nat) : PyData.eqv (optD o) (optD o) = true := by cases o <;> simp [optD, PyData.eqv]
theorem optD_lay (o : Option Nat) : (optD o).canLay0 = true := by cases o <;> simp [optD, PyData.canLay0]
theorem optD_dep (o : Option Nat) : (optD o).depth ≤ 0 := by cases o <;> simp [optD, PyData.depth]
theorem dL1_eq (l : List Int) : PyData.eqv (dL1 l) (dL1 l) = true := by unfold dL1; rw [PyData.eqv]; exact eqvAll_map (fun x => by simp [PyData.eqv]) l
theorem dL1_lay (l : List Int) : (dL1 l).canLay0 = true := by unfold dL1; rw [PyData.canLay0]; exact layAll_map (fun x => by simp [PyData.canLay0]) l
theorem dL1_dep (l : List Int) : (dL1 l).depth ≤ 1 := by unfold dL1; rw [PyData.depth]; have := depAll_map (f := PyData.int) (k := 0) (fun x => by simp [PyData.depth]) l; omega
theorem dL2_eq (l : List (List Int)) : PyData.eqv (dL2 l) (dL2 l) = true := by unfold dL2; rw [PyData.eqv]; exact eqvAll_map dL1_eq l
theorem dL2_lay (l : List (List Int)) : (dL2 l).canLay0 = true := by unfold dL2; rw [PyData.canLay0]; exact layAll_map dL1_lay l
theorem dL2_dep (l : List (List Int)) : (dL2 l).depth ≤ 2 := by unfold dL2; rw [PyData.depth]; have := depAll_map dL1_dep l; omega
theorem dL3_eq (l : List (List (List Int))) : PyData.eqv (dL3 l) (dL3 l) = true := by unfold dL3; rw [PyData.eqv]; exact eqvAll_map dL2_eq l
theorem dL3_lay (l : List (List (List Int))) : (dL3 l).canLay0 = true := by unfold dL3; rw [PyData.canLay0]; exact layAll_map dL2_lay l
theorem dL3_dep (l : List (List (List Int))) : (dL3 l).depth ≤ 3 := by unfold dL3; rw [PyData.depth]; have := depAll_map dL2_dep l; omega
theorem shaped_of {d : PyData} (h1 : d.canLay0 = true) (h2 : d.depth ≤ 64) : SeqAt.shaped d = true := by
  show (PyData.canLay0 d && decide (PyData.depth d ≤ 64)) = true
  rw [h1, decide_eq_true h2]
  rfl
theorem dpAll_map {K : PySem.W.Frag} {H : Hp} {α : Type} {g : α → V} {f : α → PyData} (h : ∀ x, Dp K H (g x) (f x)) : ∀ xs : List α, DpAll K H (xs.map g) (xs.map f)
  | [] => .nil
  | x :: xs => .cons (h x) (dpAll_map h xs)
theorem dpAll_at {K : PySem.W.Frag} {H : Hp} {α : Type} {f : α → PyData} : ∀ {ps : List Addr} {xs : List α}, ps.length = xs.length → (∀ (i : Nat) a x, ps[i]? = some a → xs[i]? = some x → Dp K H (.ref a) (f x)) → DpAll K H (ps.map V.ref) (xs.map f)
  | [], [], _, _ => .nil
  | [], _ :: _, h, _ => by cases h
  | _ :: _, [], h, _ => by cases h
  | a :: ps, x :: xs, h, g => .cons (g 0 a x rfl rfl) (dpAll_at (Nat.succ.inj h) fun i b y h1 h2 => g (i + 1) b y h1 h2)
theorem dp_L1 {K : PySem.W.Frag} {H : Hp} {a : Addr} {l : List Int} (h : H a = some (lstO l)) : Dp K H (.ref a) (dL1 l) := .lst (.inl (.inl h)) (dpAll_map (fun x => .int x) l)
theorem dp_L2 {K : PySem.W.Frag} {H : Hp} {a : Addr} {xs : List (List Int)} (h : LLs H a xs) : Dp K H (.ref a) (dL2 xs) := by
  obtain ⟨ps, h1, h2⟩ := h
  have len : ps.length = xs.length := by rw [h2.len, List.length_map]
  refine .lst (.inl (.inl h1)) (dpAll_at len fun i b l hb hl => dp_L1 ?_)
  obtain ⟨b2, hb2, hh⟩ := h2.get (i := i) (o := lstO l) (by rw [List.getElem?_map, hl]; rfl)
  have e := hb.symm.trans hb2
  cases e
  exact hh
theorem dp_L3 {K : PySem.W.Frag} {H : Hp} {a : Addr} {ss : List (List (List Int))} (h : StsP H a ss) : Dp K H (.ref a) (dL3 ss) := by
  obtain ⟨qs, h1, h2, h3⟩ := h
  exact .lst (.inl (.inl h1)) (dpAll_at h2 fun i b xs hb hx => dp_L2 (h3 i b xs hb hx))
theorem w_eqL2 {K : PySem.W.Frag} {H : Hp} {Q : VK} {p r : Addr} {xs : List (List Int)} (h : LLs H p xs) (h' : LLs H r xs) (k : Q (.bl true) H) : rEqA K (.ref p) (.ref r) H Q :=
  .inr ⟨_, _, dp_L2 h, dp_L2 h', shaped_of (dL2_lay xs) (Nat.le_trans (dL2_dep xs) (by decide)), shaped_of (dL2_lay xs) (Nat.le_trans (dL2_dep xs) (by decide)), by rw [dL2_eq]; exact k⟩
theorem w_eqL3 {K : PySem.W.Frag} {H : Hp} {Q : VK} {p r : Addr} {ss : List (List (List Int))} (h : StsP H p ss) (h' : StsP H r ss) (k : Q (.bl true) H) : rEqA K (.ref p) (.ref r) H Q :=
  .inr ⟨_, _, dp_L3 h, dp_L3 h', shaped_of (dL3_lay ss) (Nat.le_trans (dL3_dep ss) (by decide)), shaped_of (dL3_lay ss) (Nat.le_trans (dL3_dep ss) (by decide)), by rw [dL3_eq]; exact k⟩
theorem dp_opt {K : PySem.W.Frag} {H : Hp} (o : Option Nat) : Dp K H (optV o) (optD o) := by
  cases o with
  | none => exact .non
  | some v => exact .int v
theorem w_neSts {K : PySem.W.Frag} {H : Hp} {Q : VK} {p r : Addr} {st : Sts} (h : H p = some (.lst (st.map optV))) (h' : H r = some (.lst (st.map optV))) (k : Q (.bl false) H) : rNeA K (.ref p) (.ref r) H Q := by
  have d1 : (PyData.list (st.map optD)).canLay0 = true := by rw [PyData.canLay0]; exact layAll_map optD_lay st
  have d2 : (PyData.list (st.map optD)).depth ≤ 64 := by rw [PyData.depth]; have := depAll_map optD_dep st; omega
  refine .inr ⟨.list (st.map optD), .list (st.map optD), .lst (.inl (.inl h)) (dpAll_map dp_opt st), .lst (.inl (.inl h')) (dpAll_map dp_opt st), shaped_of d1 d2, shaped_of d1 d2, ?_⟩
  rw [show PyData.eqv (.list (st.map optD)) (.list (st.map optD)) = true by rw [PyData.eqv]; exact eqvAll_map optD_eq st]
  exact k
theorem w_neB {K : PySem.W.Frag} {H : Hp} {Q : VK} {a b : Bool} (k : Q (.bl (!decide (a = b))) H) : rNeA K (.bl a) (.bl b) H Q := .inl ⟨rfl, by
  have e : decide (V.bl a = V.bl b) = decide (a = b) := by simp
  rw [e]; exact k⟩
def Sp6 (R : V → V → V → V → V → V → Hp → VK → Prop) : Sp := fun vs H Q _ => ∃ a b c d e f, vs = [a, b, c, d, e, f] ∧ R a b c d e f H Q
theorem len6 {R : V → V → V → V → V → V → Hp → VK → Prop} {vs : List V} {H : Hp} {Q : VK} {E : XK} (h : Sp6 R vs H Q E) : vs.length = 6 := by obtain ⟨_, _, _, _, _, _, rfl, _⟩ := h; rfl
theorem RunC.pre {n : Int} {L : List (Int × Int)} {hs : List Int} {st gl : List (List Int)} {tr : List Act} {ss : List (List (List Int))} (r : RunC n L hs st tr ss) {k : Nat} (hg : ss[k]? = some gl) : PreOk st gl := fun i l m h1 h2 => by
  obtain ⟨z, hz⟩ := r.grow' (x := (i : Int)) (Int.natCast_nonneg i) r.rp.h0 hg (Nat.zero_le _)
  unfold logAt at hz
  rw [Int.toNat_natCast, h1, h2] at hz
  have e : m = l ++ z := hz
  rw [e, List.take_append_of_le_length (Nat.le_refl _), List.take_length]
def sp__law_carried_to_holders (_ : Frg) (D : Ad) : Sp := Sp6 fun a b c d f g H Q => ∃ (cl w p r hd : Addr) (n : Int) (L : List (Int × Int)) (hs : List Int) (st gl : List (List Int)) (tr : List Act) (ss : List (List (List Int))) (e : Int), a = .ref cl ∧ b = .ref w ∧ c = .ref p ∧ d = .ref r ∧ f = .int e ∧ g = .ref hd ∧ ClP D H cl n L hs ∧ WdP H w n L hs ∧ LLs H p st ∧ LLs H r gl ∧
  TabH D H ∧ HopD H hd n (hopF hs st tr) ∧ RunC n L hs st tr ss ∧ ss[tr.length]? = some gl ∧ 0 ≤ e ∧ e < hs.length ∧ ∀ H', Ex H H' → Q (.bl true) H'
theorem LLf.del {H H' : Hp} {r D : Addr} {xs : List (List Int)} (h : LLf H H' r xs) (hD : H D ≠ none) : LLs (del D H') r xs := by
  obtain ⟨ps, a, b, f1, f2, f3, f4⟩ := h
  have n : ∀ x, H x = none → x ≠ D := fun x z e => hD (e ▸ z)
  refine ⟨ps, (del_ne (n r f1)).trans a, ?_⟩
  unfold Objs at *
  rw [← b]
  exact List.map_congr_left fun x hx => del_ne (n x (f2 x hx))
def sp_law (K : Frg) (D : Ad) : Sp := Sp1 fun a H Q => ∃ (p : Addr) (ns : List Int), a = .ref p ∧ SqL K H p (ns.map V.int) ∧ ns.length ≤ 63 ∧ ∃ p0, H D.t__is_log = some (PG.TabS D.t__is_log p0) ∧ ∀ H', H' D.t__is_log = some (PG.TabS D.t__is_log p0) → Q (.bl true) H'
abbrev s_check_replica : Stmt := topS 12
theorem sc_check_replica : FnScope ["net", "replica"] ["net", "replica"] (defScope s_check_replica) := ⟨rfl, rfl, rfl, by decide +kernel, rfl, by decide +kernel, by decide +kernel⟩
abbrev s_check_entry : Stmt := topS 13
theorem sc_check_entry : FnScope ["cluster", "entry"] ["cluster", "entry"] (defScope s_check_entry) := ⟨rfl, rfl, rfl, by decide +kernel, rfl, by decide +kernel, by decide +kernel⟩
abbrev s_copy_logs : Stmt := topS 14
theorem sc_copy_logs : FnScope ["logs", "log"] ["logs"] (defScope s_copy_logs) := ⟨rfl, rfl, rfl, by decide +kernel, rfl, by decide +kernel, by decide +kernel⟩
abbrev s_check_logs : Stmt := topS 15
theorem sc_check_logs : FnScope ["cluster", "logs", "replica", "log"] ["cluster", "logs"] (defScope s_check_logs) := ⟨rfl, rfl, rfl, by decide +kernel, rfl, by decide +kernel, by decide +kernel⟩
abbrev s_holders_of : Stmt := topS 16
theorem sc_holders_of : FnScope ["cluster", "logs", "entry", "checked", "replica", "log"] ["cluster", "logs", "entry"] (defScope s_holders_of) := ⟨rfl, rfl, rfl, by decide +kernel, rfl, by decide +kernel, by decide +kernel⟩
abbrev s_ahead_of : Stmt := topS 17
theorem sc_ahead_of : FnScope ["cluster", "logs", "replica", "entry", "checked", "log"] ["cluster", "logs", "replica", "entry"] (defScope s_ahead_of) := ⟨rfl, rfl, rfl, by decide +kernel, rfl, by decide +kernel, by decide +kernel⟩
abbrev s_prefix_fault : Stmt := topS 18
theorem sc_prefix_fault : FnScope ["start", "goal", "replica", "log"] ["start", "goal"] (defScope s_prefix_fault) := ⟨rfl, rfl, rfl, by decide +kernel, rfl, by decide +kernel, by decide +kernel⟩
abbrev s_places_of : Stmt := topS 19
theorem sc_places_of : FnScope ["logs", "places", "log", "index_of", "index", "entry"] ["logs"] (defScope s_places_of) := ⟨rfl, rfl, rfl, by decide +kernel, rfl, by decide +kernel, by decide +kernel⟩
abbrev s__is_log : Stmt := topS 20
theorem sc__is_log : FnScope ["size", "log", "entry"] ["size", "log"] (defScope s__is_log) := ⟨rfl, rfl, rfl, by decide +kernel, rfl, by decide +kernel, by decide +kernel⟩
abbrev s_blocker_of : Stmt := topS 22
theorem sc_blocker_of : FnScope ["goal", "places", "source", "reader", "entry", "limit", "ahead"] ["goal", "places", "source", "reader", "entry"] (defScope s_blocker_of) := ⟨rfl, rfl, rfl, by decide +kernel, rfl, by decide +kernel, by decide +kernel⟩
abbrev s__link_carries : Stmt := topS 23
theorem sc__link_carries : FnScope ["goal", "places", "source", "reader", "entry"] ["goal", "places", "source", "reader", "entry"] (defScope s__link_carries) := ⟨rfl, rfl, rfl, by decide +kernel, rfl, by decide +kernel, by decide +kernel⟩
abbrev s_carry_links : Stmt := topS 24
theorem sc_carry_links : FnScope ["cluster", "goal", "entry", "places", "source", "reader"] ["cluster", "goal", "entry"] (defScope s_carry_links) := ⟨rfl, rfl, rfl, by decide +kernel, rfl, by decide +kernel, by decide +kernel⟩
abbrev s_entry_roots : Stmt := topS 25
theorem sc_entry_roots : FnScope ["cluster", "start", "goal", "entry", "holders", "home", "replica", "log"] ["cluster", "start", "goal", "entry"] (defScope s_entry_roots) := ⟨rfl, rfl, rfl, by decide +kernel, rfl, by decide +kernel, by decide +kernel⟩
abbrev s_carry_steps : Stmt := topS 26
theorem sc_carry_steps : FnScope ["cluster", "start", "goal", "entry", "steps", "front", "replica", "carrying", "distance", "source", "reader"] ["cluster", "start", "goal", "entry"] (defScope s_carry_steps) := ⟨rfl, rfl, rfl, by decide +kernel, rfl, by decide +kernel, by decide +kernel⟩
abbrev s__check_question : Stmt := topS 27
theorem sc__check_question : FnScope ["cluster", "start", "goal", "entry", "replica"] ["cluster", "start", "goal", "entry"] (defScope s__check_question) := ⟨rfl, rfl, rfl, by decide +kernel, rfl, by decide +kernel, by decide +kernel⟩
abbrev s_carries : Stmt := topS 28
theorem sc_carries : FnScope ["cluster", "goal", "source", "reader", "entry"] ["cluster", "goal", "source", "reader", "entry"] (defScope s_carries) := ⟨rfl, rfl, rfl, by decide +kernel, rfl, by decide +kernel, by decide +kernel⟩
abbrev s_carry_distances : Stmt := topS 29
theorem sc_carry_distances : FnScope ["cluster", "start", "goal", "entry"] ["cluster", "start", "goal", "entry"] (defScope s_carry_distances) := ⟨rfl, rfl, rfl, by decide +kernel, rfl, by decide +kernel, by decide +kernel⟩
abbrev s_carried_to : Stmt := topS 30
theorem sc_carried_to : FnScope ["cluster", "start", "goal", "entry", "steps", "replica", "distance"] ["cluster", "start", "goal", "entry"] (defScope s_carried_to) := ⟨rfl, rfl, rfl, by decide +kernel, rfl, by decide +kernel, by decide +kernel⟩
abbrev s_Cluster___init__ : Stmt := inClass (topS 32) 1
theorem sc_Cluster___init__ : FnScope ["self", "net", "homes", "entry", "home"] ["self", "net", "homes"] (defScope s_Cluster___init__) := ⟨rfl, rfl, rfl, by decide +kernel, rfl, by decide +kernel, by decide +kernel⟩
abbrev s_Cluster_home_of : Stmt := inClass (topS 32) 3
theorem sc_Cluster_home_of : FnScope ["self", "entry"] ["self", "entry"] (defScope s_Cluster_home_of) := ⟨rfl, rfl, rfl, by decide +kernel, rfl, by decide +kernel, by decide +kernel⟩
abbrev s_Net___init__ : Stmt := inClass (topS 34) 1
theorem sc_Net___init__ : FnScope ["self", "count", "links", "linked", "source", "reader"] ["self", "count", "links"] (defScope s_Net___init__) := ⟨rfl, rfl, rfl, by decide +kernel, rfl, by decide +kernel, by decide +kernel⟩
abbrev s_Net_links : Stmt := inClass (topS 34) 7
theorem sc_Net_links : FnScope ["self"] ["self"] (defScope s_Net_links) := ⟨rfl, rfl, rfl, by decide +kernel, rfl, by decide +kernel, by decide +kernel⟩
abbrev s_Net_has_link : Stmt := inClass (topS 34) 10
theorem sc_Net_has_link : FnScope ["self", "source", "reader"] ["self", "source", "reader"] (defScope s_Net_has_link) := ⟨rfl, rfl, rfl, by decide +kernel, rfl, by decide +kernel, by decide +kernel⟩
abbrev s__check_count : Stmt := topS 35
theorem sc__check_count : FnScope ["count"] ["count"] (defScope s__check_count) := ⟨rfl, rfl, rfl, by decide +kernel, rfl, by decide +kernel, by decide +kernel⟩
abbrev s__is_below : Stmt := topS 36
theorem sc__is_below : FnScope ["number", "count"] ["number", "count"] (defScope s__is_below) := ⟨rfl, rfl, rfl, by decide +kernel, rfl, by decide +kernel, by decide +kernel⟩
abbrev s__law_box : Stmt := topS 38
theorem sc__law_box : FnScope ["_law_script", "_law_cell"] ["_law_script"] (defScope s__law_box) := ⟨rfl, rfl, rfl, by decide +kernel, rfl, by decide +kernel, by decide +kernel⟩
abbrev s__law_take : Stmt := topS 39
theorem sc__law_take : FnScope ["_law_box_here", "_law_size", "_law_digit", "_law_cell"] ["_law_box_here", "_law_size"] (defScope s__law_take) := ⟨rfl, rfl, rfl, by decide +kernel, rfl, by decide +kernel, by decide +kernel⟩
abbrev s__law_shuffled : Stmt := topS 40
theorem sc__law_shuffled : FnScope ["_law_box_here", "_law_items", "_law_rest", "_law_found", "_law_turn"] ["_law_box_here", "_law_items"] (defScope s__law_shuffled) := ⟨rfl, rfl, rfl, by decide +kernel, rfl, by decide +kernel, by decide +kernel⟩
abbrev s__law_all_links : Stmt := topS 41
theorem sc__law_all_links : FnScope ["_law_count", "_law_found", "_law_source", "_law_reader"] ["_law_count"] (defScope s__law_all_links) := ⟨rfl, rfl, rfl, by decide +kernel, rfl, by decide +kernel, by decide +kernel⟩
abbrev s__law_net_links : Stmt := topS 42
theorem sc__law_net_links : FnScope ["_law_box_here", "_law_count", "_law_kind", "_law_names", "_law_found", "_law_k", "_law_parent", "_law_way", "_law_every", "_law_link"] ["_law_box_here", "_law_count"] (defScope s__law_net_links) := ⟨rfl, rfl, rfl, by decide +kernel, rfl, by decide +kernel, by decide +kernel⟩
abbrev s__law_world : Stmt := topS 43
theorem sc__law_world : FnScope ["_law_box_here", "_law_count", "_law_links", "_law_size", "_law_homes", "_law_k"] ["_law_box_here"] (defScope s__law_world) := ⟨rfl, rfl, rfl, by decide +kernel, rfl, by decide +kernel, by decide +kernel⟩
abbrev s__law_copy : Stmt := topS 44
theorem sc__law_copy : FnScope ["_law_logs", "_law_log"] ["_law_logs"] (defScope s__law_copy) := ⟨rfl, rfl, rfl, by decide +kernel, rfl, by decide +kernel, by decide +kernel⟩
abbrev s__law_first : Stmt := topS 45
theorem sc__law_first : FnScope ["_law_source_log", "_law_reader_log", "_law_entry"] ["_law_source_log", "_law_reader_log"] (defScope s__law_first) := ⟨rfl, rfl, rfl, by decide +kernel, rfl, by decide +kernel, by decide +kernel⟩
abbrev s__law_allowed : Stmt := topS 46
theorem sc__law_allowed : FnScope ["_law_world_here", "_law_logs", "_law_found", "_law_entry", "_law_link", "_law_log"] ["_law_world_here", "_law_logs"] (defScope s__law_allowed) := ⟨rfl, rfl, rfl, by decide +kernel, rfl, by decide +kernel, by decide +kernel⟩
abbrev s__law_place : Stmt := topS 47
theorem sc__law_place : FnScope ["_law_world_here", "_law_action"] ["_law_world_here", "_law_action"] (defScope s__law_place) := ⟨rfl, rfl, rfl, by decide +kernel, rfl, by decide +kernel, by decide +kernel⟩
abbrev s__law_after : Stmt := topS 48
theorem sc__law_after : FnScope ["_law_world_here", "_law_logs", "_law_action", "_law_found"] ["_law_world_here", "_law_logs", "_law_action"] (defScope s__law_after) := ⟨rfl, rfl, rfl, by decide +kernel, rfl, by decide +kernel, by decide +kernel⟩
abbrev s__law_run : Stmt := topS 49
theorem sc__law_run : FnScope ["_law_box_here", "_law_world_here", "_law_start_here", "_law_most_here", "_law_trace", "_law_states", "_law_turn", "_law_ways"] ["_law_box_here", "_law_world_here", "_law_start_here", "_law_most_here"] (defScope s__law_run) := ⟨rfl, rfl, rfl, by decide +kernel, rfl, by decide +kernel, by decide +kernel⟩
abbrev s__law_most : Stmt := topS 50
theorem sc__law_most : FnScope ["_law_box_here"] ["_law_box_here"] (defScope s__law_most) := ⟨rfl, rfl, rfl, by decide +kernel, rfl, by decide +kernel, by decide +kernel⟩
abbrev s__law_empty : Stmt := topS 51
theorem sc__law_empty : FnScope ["_law_world_here", "_law_x"] ["_law_world_here"] (defScope s__law_empty) := ⟨rfl, rfl, rfl, by decide +kernel, rfl, by decide +kernel, by decide +kernel⟩
abbrev s__law_any_logs : Stmt := topS 52
theorem sc__law_any_logs : FnScope ["_law_box_here", "_law_world_here", "_law_found", "_law_k", "_law_names"] ["_law_box_here", "_law_world_here"] (defScope s__law_any_logs) := ⟨rfl, rfl, rfl, by decide +kernel, rfl, by decide +kernel, by decide +kernel⟩
abbrev s__law_start : Stmt := topS 53
theorem sc__law_start : FnScope ["_law_box_here", "_law_world_here", "_law_kind"] ["_law_box_here", "_law_world_here"] (defScope s__law_start) := ⟨rfl, rfl, rfl, by decide +kernel, rfl, by decide +kernel, by decide +kernel⟩
abbrev s__law_whole : Stmt := topS 54
theorem sc__law_whole : FnScope ["_law_told"] ["_law_told"] (defScope s__law_whole) := ⟨rfl, rfl, rfl, by decide +kernel, rfl, by decide +kernel, by decide +kernel⟩
abbrev s__law_same_list : Stmt := topS 55
theorem sc__law_same_list : FnScope ["_law_told", "_law_due", "_law_part"] ["_law_told", "_law_due"] (defScope s__law_same_list) := ⟨rfl, rfl, rfl, by decide +kernel, rfl, by decide +kernel, by decide +kernel⟩
abbrev s__law_truth : Stmt := topS 56
theorem sc__law_truth : FnScope ["_law_told", "_law_due"] ["_law_told", "_law_due"] (defScope s__law_truth) := ⟨rfl, rfl, rfl, by decide +kernel, rfl, by decide +kernel, by decide +kernel⟩
abbrev s__law_carrying : Stmt := topS 57
theorem sc__law_carrying : FnScope ["_law_world_here", "_law_logs", "_law_entry", "_law_found", "_law_link", "_law_source", "_law_reader", "_law_ahead", "_law_other"] ["_law_world_here", "_law_logs", "_law_entry"] (defScope s__law_carrying) := ⟨rfl, rfl, rfl, by decide +kernel, rfl, by decide +kernel, by decide +kernel⟩
abbrev s__law_distances : Stmt := topS 58
theorem sc__law_distances : FnScope ["_law_world_here", "_law_start_here", "_law_target", "_law_entry", "_law_found", "_law_roots", "_law_x", "_law_links", "_law_step", "_law_link", "_law_log"] ["_law_world_here", "_law_start_here", "_law_target", "_law_entry"] (defScope s__law_distances) := ⟨rfl, rfl, rfl, by decide +kernel, rfl, by decide +kernel, by decide +kernel⟩
abbrev s__law_hops : Stmt := topS 59
theorem sc__law_hops : FnScope ["_law_world_here", "_law_start_here", "_law_trace", "_law_hops_here", "_law_x", "_law_entry", "_law_action"] ["_law_world_here", "_law_start_here", "_law_trace"] (defScope s__law_hops) := ⟨rfl, rfl, rfl, by decide +kernel, rfl, by decide +kernel, by decide +kernel⟩
abbrev s__law_exchanged : Stmt := topS 60
theorem sc__law_exchanged : FnScope ["_law_logs", "_law_place_here", "_law_entry", "_law_at", "_law_bent"] ["_law_logs", "_law_place_here", "_law_entry"] (defScope s__law_exchanged) := ⟨rfl, rfl, rfl, by decide +kernel, rfl, by decide +kernel, by decide +kernel⟩
abbrev s__law_action_stays : Stmt := topS 61
theorem sc__law_action_stays : FnScope ["_law_cluster", "_law_world_here", "_law_before", "_law_action", "_law_logs", "_law_place_here", "_law_entry", "_law_bent", "_law_due"] ["_law_cluster", "_law_world_here", "_law_before", "_law_action", "_law_logs"] (defScope s__law_action_stays) := ⟨rfl, rfl, rfl, by decide +kernel, rfl, by decide +kernel, by decide +kernel⟩
abbrev s__law_carried_to_holders : Stmt := topS 62
theorem sc__law_carried_to_holders : FnScope ["_law_cluster", "_law_world_here", "_law_start_here", "_law_logs", "_law_entry", "_law_hops_here", "_law_holders", "_law_steps", "_law_told", "_law_x", "_law_step"] ["_law_cluster", "_law_world_here", "_law_start_here", "_law_logs", "_law_entry", "_law_hops_here"] (defScope s__law_carried_to_holders) := ⟨rfl, rfl, rfl, by decide +kernel, rfl, by decide +kernel, by decide +kernel⟩
abbrev s__law_links_agree : Stmt := topS 63
theorem sc__law_links_agree : FnScope ["_law_cluster", "_law_world_here", "_law_logs", "_law_entry", "_law_due", "_law_link"] ["_law_cluster", "_law_world_here", "_law_logs", "_law_entry"] (defScope s__law_links_agree) := ⟨rfl, rfl, rfl, by decide +kernel, rfl, by decide +kernel, by decide +kernel⟩
abbrev s_law : Stmt := topS 64
theorem sc_law : FnScope ["_law_script", "_law_box_here", "_law_world_here", "_law_size", "_law_start_here", "_law_run_here", "_law_trace", "_law_states", "_law_kept", "_law_homes", "_law_cluster", "_law_k", "_law_later", "_law_hops_here", "_law_entry", "_law_logs"] ["_law_script"] (defScope s_law) := ⟨rfl, rfl, rfl, by decide +kernel, rfl, by decide +kernel, by decide +kernel⟩
structure Glo (K : Frg) (mg : Str → Option Value) (D : Ad) : Prop where
  m_Cluster : mg "Cluster" = some (.ref D.Cluster)
  c_Cluster : Cls K D.Cluster
  m_Net : mg "Net" = some (.ref D.Net)
  c_Net : Cls K D.Net
  n_Cluster__homes : NoAttr K D.Cluster "_homes"
  n_Cluster_net : NoAttr K D.Cluster "net"
  n_Cluster_size : NoAttr K D.Cluster "size"
  n_Net__linked : NoAttr K D.Net "_linked"
  n_Net__links : NoAttr K D.Net "_links"
  n_Net_count : NoAttr K D.Net "count"
  r_Cluster : ClX.CRead K D.Cluster (.type "type")
  r_Net : ClX.CRead K D.Net (.type "type")
  v_Cluster_MOST : ∃ u, ClX.CVal K D.Cluster (.type "type") "MOST" (.int 60) u
  v_Net_MOST : ∃ u, ClX.CVal K D.Net (.type "type") "MOST" (.int 24) u
  g_all : mg "all" = none
  g_any : mg "any" = none
  g_bool : mg "bool" = none
  g_enumerate : mg "enumerate" = none
  g_int : mg "int" = none
  g_isinstance : mg "isinstance" = none
  g_len : mg "len" = none
  g_list : mg "list" = none
  g_range : mg "range" = none
  g_set : mg "set" = none
  g_sorted : mg "sorted" = none
section
variable {P : Program} {w : World} {K : PySem.W.Frag} {mg : Str → Option Value} {base : Heap} {D : Ad}
theorem ok__check_count (G : Glo K mg D) {f : Addr} {fd : FuncData} (F : Fun K "_check_count" "_check_count" s__check_count f fd) : FnOk P w K mg base CX0 1 f fd ["count"] (sp__check_count K D) := by
  refine F.ok sc__check_count (fun vs H Q E h => len1 h) (fun cdv A outer s H vs Q E hr h => ?_)
  obtain ⟨v0, rfl, h⟩ := h
  have c_Cluster := G.c_Cluster
  have c_Net := G.c_Net
  have n_Cluster__homes := G.n_Cluster__homes
  have n_Cluster_net := G.n_Cluster_net
  have n_Cluster_size := G.n_Cluster_size
  have n_Net__linked := G.n_Net__linked
  have n_Net__links := G.n_Net__links
  have n_Net_count := G.n_Net_count
  have r_Cluster := G.r_Cluster
  have r_Net := G.r_Net
  have v_Cluster_MOST := G.v_Cluster_MOST
  have v_Net_MOST := G.v_Net_MOST
  refine ⟨_, (pss_one (ps_if (PW.pt (pw_or (pt_cmpR (op_lt) (pv 0) pe_int (nomark _)) (pw_or1 (pt_cmpR (op_gt) (pv 0) (cval_K K (pe_clsN G.m_Net (by rfl))) (nomark _))))) (pss_one ps_never) pss_nil)), ?_⟩
  rw [show L2.start ["count"] [v0] = [some v0] from rfl]
  obtain ⟨n, rfl, h1, h2, q⟩ := h
  walk_at "w"
  refine w_ite (fun z => absurd z (by omega)) fun _ => ?_
  walk_at "w"
  refine w_ite (fun z => absurd z (by omega)) fun _ => ?_
  walk_at "w"
  exact q
theorem ok__is_below (G : Glo K mg D) {f : Addr} {fd : FuncData} (F : Fun K "_is_below" "_is_below" s__is_below f fd) : FnOk P w K mg base CX0 1 f fd ["number", "count"] (sp__is_below K D) := by
  refine F.ok sc__is_below (fun vs H Q E h => len2 h) (fun cdv A outer s H vs Q E hr h => ?_)
  obtain ⟨v0, v1, rfl, h⟩ := h
  have c_Cluster := G.c_Cluster
  have c_Net := G.c_Net
  have n_Cluster__homes := G.n_Cluster__homes
  have n_Cluster_net := G.n_Cluster_net
  have n_Cluster_size := G.n_Cluster_size
  have n_Net__linked := G.n_Net__linked
  have n_Net__links := G.n_Net__links
  have n_Net_count := G.n_Net_count
  have r_Cluster := G.r_Cluster
  have r_Net := G.r_Net
  have v_Cluster_MOST := G.v_Cluster_MOST
  have v_Net_MOST := G.v_Net_MOST
  refine ⟨_, (pss_one (ps_ret (pe_chain (op_le) (op_lt) pe_int (pv 0) (pv 1)))), ?_⟩
  rw [show L2.start ["number", "count"] [v0, v1] = [some v0, some v1] from rfl]
  obtain ⟨i, n, rfl, rfl, q⟩ := h
  walk_at "w"
  refine w_ite (fun h0 => ?_) fun h0 => ?_
  · walk_at "w"
    have e : decide (0 ≤ i ∧ i < n) = decide (i < n) := decide_eq_decide.mpr ⟨fun z => z.2, fun z => ⟨h0, z⟩⟩
    rw [e] at q
    exact q
  · have e : decide (0 ≤ i ∧ i < n) = false := decide_eq_false fun z => h0 z.1
    rw [e] at q
    exact q
theorem ok_Net___init__ (G : Glo K mg D) {f : Addr} {fd : FuncData} (F : Fun K "__init__" "Net.__init__" s_Net___init__ f fd) (h__check_count : Has P w K mg base "_check_count" 1 (sp__check_count K D)) (h__is_below : Has P w K mg base "_is_below" 1 (sp__is_below K D)) : FnOk P w K mg base CX0 2 f fd ["self", "count", "links"] (sp_Net___init__ K D) := by
  refine F.ok sc_Net___init__ (fun vs H Q E h => len3 h) (fun cdv A outer s H vs Q E hr h => ?_)
  obtain ⟨v0, v1, v2, rfl, h⟩ := h
  have c_Cluster := G.c_Cluster
  have c_Net := G.c_Net
  have n_Cluster__homes := G.n_Cluster__homes
  have n_Cluster_net := G.n_Cluster_net
  have n_Cluster_size := G.n_Cluster_size
  have n_Net__linked := G.n_Net__linked
  have n_Net__links := G.n_Net__links
  have n_Net_count := G.n_Net_count
  have r_Cluster := G.r_Cluster
  have r_Net := G.r_Net
  have v_Cluster_MOST := G.v_Cluster_MOST
  have v_Net_MOST := G.v_Net_MOST
  refine ⟨_, (pss_cons (ps_expr (pe_fn h__check_count (hr.mono (by decide)) (by rfl) (pa_cons (pv 1) pa_nil)))
  (pss_cons (ps_set (i := 3) sc_Net___init__.nd rfl (.inl rfl) pe_dnewT)
  (pss_cons (ps_for PassesOwn.never rfl (pi_lstK K (pv 2)) (pg_tupK K (n := 2) rfl (pgs_cons (pg_name (i := 4) (by exact sc_Net___init__.nd) rfl (.inl rfl)) (pgs_cons (pg_name (i := 5) (by exact sc_Net___init__.nd) rfl (.inl rfl)) pgs_nil))) (pss_cons (ps_if (PW.pt (pw_or (pt_cmpR (eq_K K hr.units) (pv 4) (pv 5) (nomark _)) (pw_or (pt_not (tru_K K (pe_fn h__is_below (hr.mono (by decide)) (by rfl) (pa_cons (pv 4) (pa_cons (pv 1) pa_nil))) (by intro _; rfl))) (pw_or1 (pt_not (tru_K K (pe_fn h__is_below (hr.mono (by decide)) (by rfl) (pa_cons (pv 5) (pa_cons (pv 1) pa_nil))) (by intro _; rfl))))))) (pss_one ps_never) pss_nil)
  (pss_one (ps_asg pe_bl (pg_sub (pv 3) (pe_tup (pa_cons (pv 4) (pa_cons (pv 5) pa_nil))) (setA hr))))))
  (pss_cons (sfld_K K (pv 0) (pv 1))
  (pss_cons (sfld_K K (pv 0) (pv 3))
  (pss_one (sfld_K K (pv 0) (pe_callB (PO.call_sortedDT rfl) (by rfl) G.g_sorted (by decide +kernel) (pa_cons (pv 3) pa_nil))))))))), ?_⟩
  rw [show L2.start ["self", "count", "links", "linked", "source", "reader"] [v0, v1, v2] = [some v0, some v1, some v2, none, none, none] from rfl]
  obtain ⟨s, dx, p, n, L, rfl, rfl, rfl, hs, ⟨ps, hp, ho⟩, h1, h2, ok, hl, q⟩ := h
  walk_at "w"
  refine ⟨_, rfl, n, rfl, h1, h2, ?_⟩
  walk_at "w"
  refine w_dT fun d H1 nd e1 hd => ?_
  walk_at "w"
  refine w_loop (walk_list (K := K) (a := p) (xs := ps.map V.ref)) (fun i σ H' => ∃ x y kvs ks, σ = [some (.ref s), some (.int n), some (.ref p), some (.ref d), x, y] ∧ Ex H H' ∧ H' d = some (.dT kvs) ∧ kvs.map (·.1) = ks.map pk ∧ ks.Nodup ∧ (∀ q, q ∈ ks ↔ q ∈ L.take i) ∧ kvs.length ≤ i)
    ⟨_, _, [], [], rfl, e1, hd, rfl, List.nodup_nil, by simp, Nat.le_refl _⟩ (fun i σ H' _ ⟨x, y, kvs, ks, _, e, _⟩ => ex_l e (sq_of hp)) ?_ ?_
  · rintro i x σ H2 H2' hi ⟨x1, y1, kvs, ks, rfl, e2, hd2, m1, m2, m3, m4⟩ ⟨rfl, hx⟩
    rw [List.length_map, ho.len, List.length_map] at hi
    obtain ⟨lk, hlk⟩ : ∃ lk, L[i]? = some lk := ⟨_, List.getElem?_eq_getElem hi⟩
    obtain ⟨a, ha, hta⟩ := ho.get (o := pairO lk) (by rw [List.getElem?_map, hlk]; rfl)
    rw [refs_get ha] at hx
    cases hx
    obtain ⟨k1, k2, k3, k4, k5⟩ := ok lk (List.mem_of_getElem? hlk)
    refine w_gt2 (SqT.of (e2 _ _ hta)) ?_
    walk_at "w"
    refine w_ite (fun z => absurd z k1) fun _ => ?_
    walk_at "w"
    refine ⟨_, _, rfl, _, _, rfl, rfl, ?_⟩
    rw [decide_eq_true (⟨k2, k3⟩ : 0 ≤ lk.1 ∧ lk.1 < n)]
    walk_at "w"
    refine ⟨_, _, rfl, _, _, rfl, rfl, ?_⟩
    rw [decide_eq_true (⟨k4, k5⟩ : 0 ≤ lk.2 ∧ lk.2 < n)]
    walk_at "w"
    (refine w_newXT (le_line (by walk_at "side")) (fun t H3 nt e3 ht EE_ => ?_); (try rw [← EE_]); clear EE_)
    walk_at "w"
    refine w_putT (k := pk lk) (e3 _ _ hd2) ht (by omega) fun H4 c4 hd4 => ?_
    walk_at "w"
    have e4 : Ex H H4 := c4.ex (e2.trans e3) nd
    refine ⟨_, _, _, _, rfl, e4, hd4, keys_put m1, ?_, ?_, ?_⟩
    · by_cases hm : lk ∈ ks
      · rw [if_pos hm]; exact m2
      · rw [if_neg hm]; exact nd_snoc m2 hm
    · intro z
      rw [take_succ hlk, List.mem_append, List.mem_singleton, ← m3]
      by_cases hm : lk ∈ ks
      · rw [if_pos hm]
        exact ⟨.inl, fun o => o.elim id fun e => e ▸ hm⟩
      · rw [if_neg hm, List.mem_append, List.mem_singleton]
    · exact Nat.le_trans (length_putK ..) (Nat.succ_le_succ m4)
  · rintro σ H2 ⟨x1, y1, kvs, ks, rfl, e2, hd2, m1, m2, m3, m4⟩
    rw [List.length_map, ho.len, List.length_map, List.take_length] at m3
    have ds : d ≠ s := (ne_of_none hs nd).symm
    walk_at "w"
    refine w_sfldI (e2 _ _ hs) c_Net n_Net_count rfl (by decide) fun H3 c3 hs3 => ?_
    walk_at "w"
    refine w_sfldI hs3 c_Net n_Net__linked rfl (by show (1 : Nat) < 1000; decide) fun H4 c4 hs4 => ?_
    have hd4 : H4 d = some (.dT kvs) := (c4 d ds).trans ((c3 d ds).trans hd2)
    walk_at "w"
    refine ⟨d, kvs, rfl, .inl hd4, fun kv hkv => ?_, fun l bs L2 nl pm pw hb => ?_⟩
    · have m : kv.1 ∈ ks.map pk := by rw [← m1]; exact List.mem_map.mpr ⟨kv, hkv, rfl⟩
      obtain ⟨r, _, er⟩ := List.mem_map.mp m
      exact ⟨r.1, r.2, er.symm⟩
    have ek : (kvs.map fun kv => PO.keyPair kv.1) = ks := by
      have e := congrArg (List.map PO.keyPair) m1
      rw [List.map_map, List.map_map] at e
      exact e.trans (List.map_id ks)
    rw [ek] at pm
    have ls : l ≠ s := (ne_of_none hs4 nl).symm
    have e5 : Ex H4 (upd H4 l (.lst (bs.map V.ref))) := Ex.new nl
    walk_at "w"
    refine w_sfldI (e5 _ _ hs4) c_Net n_Net__links rfl (by show (2 : Nat) < 1000; decide) fun H6 c6 hs6 => ?_
    walk_at "w"
    refine q H6 L2 ?_ ⟨_, d, l, kvs, ks, hs6, (c6 d ds).trans (e5 _ _ hd4), m1, fun z => pm.mem_iff.symm, bs, (c6 l ls).trans upd_same, ?_⟩ (lex_strict pw (pm.nodup_iff.mpr m2)) fun z => pm.mem_iff.trans (m3 z)
    · exact (((ExB.ofEx e2).trans (.chg c3)).trans (.chg c4)).trans ((ExB.ofEx e5).trans (.chg c6))
    · have ob : Objs H4 bs (L2.map pairO) := by unfold Objs; rw [hb, List.map_map]; rfl
      refine (ob.ex e5).chg c6 fun m => ?_
      obtain ⟨i, hi⟩ := List.mem_iff_getElem?.mp m
      obtain ⟨o, ho2, ho3⟩ := ob.back hi
      rw [List.getElem?_map] at ho2
      cases hz : L2[i]? with
      | none => rw [hz] at ho2; cases ho2
      | some z =>
        rw [hz] at ho2
        cases ho2
        rw [hs4] at ho3
        cases ho3
theorem ok_Net_links (G : Glo K mg D) {f : Addr} {fd : FuncData} (F : Fun K "links" "Net.links" s_Net_links f fd) : FnOk P w K mg base CX0 1 f fd ["self"] (sp_Net_links K D) := by
  refine F.ok sc_Net_links (fun vs H Q E h => len1 h) (fun cdv A outer s H vs Q E hr h => ?_)
  obtain ⟨v0, rfl, h⟩ := h
  have c_Cluster := G.c_Cluster
  have c_Net := G.c_Net
  have n_Cluster__homes := G.n_Cluster__homes
  have n_Cluster_net := G.n_Cluster_net
  have n_Cluster_size := G.n_Cluster_size
  have n_Net__linked := G.n_Net__linked
  have n_Net__links := G.n_Net__links
  have n_Net_count := G.n_Net_count
  have r_Cluster := G.r_Cluster
  have r_Net := G.r_Net
  have v_Cluster_MOST := G.v_Cluster_MOST
  have v_Net_MOST := G.v_Net_MOST
  refine ⟨_, (pss_one (ps_ret (pe_callTy (lst_K K) (by rfl) G.g_list (by decide +kernel) (pa_cons (fld_K K (pv 0)) pa_nil)))), ?_⟩
  rw [show L2.start ["self"] [v0] = [some v0] from rfl]
  obtain ⟨s, n, L, rfl, ⟨dx, d, l, kvs, ks, g1, g2, g3, g4, ps, g5, g6⟩, q⟩ := h
  walk_at "w"
  refine w_listR (by walk_at "sq") fun p H1 np e1 hp => ?_
  exact q p H1 np e1 ⟨ps, hp, g6.ex e1⟩
theorem ok_Net_has_link (G : Glo K mg D) {f : Addr} {fd : FuncData} (F : Fun K "has_link" "Net.has_link" s_Net_has_link f fd) : FnOk P w K mg base CX0 1 f fd ["self", "source", "reader"] (sp_Net_has_link K D) := by
  refine F.ok sc_Net_has_link (fun vs H Q E h => len3 h) (fun cdv A outer s H vs Q E hr h => ?_)
  obtain ⟨v0, v1, v2, rfl, h⟩ := h
  have c_Cluster := G.c_Cluster
  have c_Net := G.c_Net
  have n_Cluster__homes := G.n_Cluster__homes
  have n_Cluster_net := G.n_Cluster_net
  have n_Cluster_size := G.n_Cluster_size
  have n_Net__linked := G.n_Net__linked
  have n_Net__links := G.n_Net__links
  have n_Net_count := G.n_Net_count
  have r_Cluster := G.r_Cluster
  have r_Net := G.r_Net
  have v_Cluster_MOST := G.v_Cluster_MOST
  have v_Net_MOST := G.v_Net_MOST
  refine ⟨_, (pss_one (ps_ret (pe_cmpR (inA_K K hr) (pe_tup (pa_cons (pv 1) (pa_cons (pv 2) pa_nil))) (fld_K K (pv 0)) (by rfl)))), ?_⟩
  rw [show L2.start ["self", "source", "reader"] [v0, v1, v2] = [some v0, some v1, some v2] from rfl]
  obtain ⟨s, n, L, i, j, rfl, rfl, rfl, ⟨dx, d, l, kvs, ks, g1, g2, g3, g4, ps, g5, g6⟩, q⟩ := h
  walk_at "w"
  (refine w_newXT (le_line (by walk_at "side")) (fun t H1 nt e1 ht EE_ => ?_); (try rw [← EE_]); clear EE_)
  walk_at "w"
  refine w_inDA (DGet.t (k := pk (i, j)) (by walk_at "at") ht) ?_
  rw [val_some g3, decide_eq_decide.mpr (g4 (i, j))]
  exact q H1 e1
theorem ok_Cluster___init__ (G : Glo K mg D) {f : Addr} {fd : FuncData} (F : Fun K "__init__" "Cluster.__init__" s_Cluster___init__ f fd) : FnOk P w K mg base CX0 1 f fd ["self", "net", "homes"] (sp_Cluster___init__ K D) := by
  refine F.ok sc_Cluster___init__ (fun vs H Q E h => len3 h) (fun cdv A outer s H vs Q E hr h => ?_)
  obtain ⟨v0, v1, v2, rfl, h⟩ := h
  have c_Cluster := G.c_Cluster
  have c_Net := G.c_Net
  have n_Cluster__homes := G.n_Cluster__homes
  have n_Cluster_net := G.n_Cluster_net
  have n_Cluster_size := G.n_Cluster_size
  have n_Net__linked := G.n_Net__linked
  have n_Net__links := G.n_Net__links
  have n_Net_count := G.n_Net_count
  have r_Cluster := G.r_Cluster
  have r_Net := G.r_Net
  have v_Cluster_MOST := G.v_Cluster_MOST
  have v_Net_MOST := G.v_Net_MOST
  refine ⟨_, (pss_cons (ps_if (pt_cmpR (op_gt) (pe_callB (len_K K) (by rfl) G.g_len (by decide +kernel) (pa_cons (pv 2) pa_nil)) (cval_K K (pe_clsN G.m_Cluster (by rfl))) (nomark _)) (pss_one ps_never) pss_nil)
  (pss_cons (ps_for PassesOwn.never rfl (pi_enumK K (by rfl) G.g_enumerate (pa_cons (pv 2) pa_nil)) (pg_tupK K (n := 2) rfl (pgs_cons (pg_name (i := 3) (by exact sc_Cluster___init__.nd) rfl (.inl rfl)) (pgs_cons (pg_name (i := 4) (by exact sc_Cluster___init__.nd) rfl (.inl rfl)) pgs_nil))) (pss_one (ps_if (PW.pt (pw_or (pt_cmpR (op_lt) (pv 4) pe_int (nomark _)) (pw_or1 (pt_cmpR (op_ge) (pv 4) (fld_K K (pv 1)) (nomark _))))) (pss_one ps_never) pss_nil)))
  (pss_cons (sfld_K K (pv 0) (pv 1))
  (pss_cons (sfld_K K (pv 0) (pe_callB (len_K K) (by rfl) G.g_len (by decide +kernel) (pa_cons (pv 2) pa_nil)))
  (pss_one (sfld_K K (pv 0) (pe_callTy (lst_K K) (by rfl) G.g_list (by decide +kernel) (pa_cons (pv 2) pa_nil)))))))), ?_⟩
  rw [show L2.start ["self", "net", "homes", "entry", "home"] [v0, v1, v2] = [some v0, some v1, some v2, none, none] from rfl]
  obtain ⟨s, dx, nt, p, n, L, hs, rfl, rfl, rfl, hx, ⟨ndx, d, l, kvs, ks, g1, g2, g3, g4, g5⟩, hp, ok, hl, q⟩ := h
  have ls : l ≠ s := by
    obtain ⟨ps, a, b⟩ := g5
    exact ne_of a hx (by intro z; cases z)
  walk_at "w"
  refine w_ite (fun z => absurd z (by omega)) fun _ => ?_
  walk_at "w"
  refine w_loop (walk_enum (K := K) (a := p) (xs := hs.map V.int)) (fun i σ H' => ∃ x y, σ = [some (.ref s), some (.ref nt), some (.ref p), x, y] ∧ Ex H H') ⟨_, _, rfl, Ex.refl H⟩ (fun i σ H' _ ⟨x, y, _, e⟩ => ex_l e (sq_of hp)) ?_ ?_
  · rintro i x σ H2 H2' hi ⟨x1, y1, rfl, e2⟩ ⟨T, a1, b1, z1, nT, z2, h1, h2⟩
    subst z1 z2
    cases h1
    obtain ⟨h, hh, rfl⟩ := get_map h2
    have e3 : Ex H2 (upd H2 T (.tup [.int i, .int h])) := Ex.new nT
    refine w_gt2 (.of upd_same) ?_
    have b := ok h (List.mem_of_getElem? hh)
    walk_at "w"
    refine w_ite (fun z => absurd z (by omega)) fun _ => ?_
    walk_at "w"
    refine w_ite (fun z => absurd z (by omega)) fun _ => ?_
    walk_at "w"
    exact ⟨_, _, rfl, e2.trans e3⟩
  · rintro σ H2 ⟨x1, y1, rfl, e2⟩
    walk_at "w"
    refine w_sfldI (e2 _ _ hx) c_Cluster n_Cluster_net rfl (by decide) fun H3 c3 hs3 => ?_
    have pe : p ≠ s := ne_of hp hx (by intro z; cases z)
    have hp3 : SqL K H3 p (hs.map V.int) := .inl (.inl ((c3 p pe).trans (e2 _ _ hp)))
    walk_at "w"
    refine w_sfldI hs3 c_Cluster n_Cluster_size rfl (by show (1 : Nat) < 1000; decide) fun H4 c4 hs4 => ?_
    have hp4 : H4 p = some (.lst (hs.map V.int)) := (c4 p pe).trans ((c3 p pe).trans (e2 _ _ hp))
    walk_at "w"
    refine w_listI (.inl (.inl hp4)) fun r H5 nr e5 hr => ?_
    walk_at "w"
    have rs : r ≠ s := (ne_of_none hs4 nr).symm
    refine w_sfldI (e5 _ _ hs4) c_Cluster n_Cluster__homes rfl (by show (2 : Nat) < 1000; decide) fun H6 c6 hs6 => ?_
    walk_at "w"
    have eb : ExB s H H6 := (((ExB.ofEx e2).trans (.chg c3)).trans (.chg c4)).trans ((ExB.ofEx e5).trans (.chg c6))
    refine q H6 eb ⟨dx, nt, r, hs6, (c6 r rs).trans hr, ndx, d, l, kvs, ks, eb _ _ (ne_of g1 hx (by intro z; injection z with _ _ z; cases z)) g1, eb _ _ (ne_of g2 hx (by intro z; cases z)) g2, g3, g4, ?_⟩
    obtain ⟨ps, a, b⟩ := g5
    refine ⟨ps, eb _ _ ls a, ?_⟩
    unfold Objs at *
    rw [← b]
    refine List.map_congr_left fun v hv => ?_
    obtain ⟨i, hi⟩ := List.mem_iff_getElem?.mp hv
    obtain ⟨o, ho2, ho3⟩ := Objs.back (H := H) b hi
    rw [ho3, eb _ _ ?_ ho3]
    rintro rfl
    rw [hx] at ho3
    cases ho3
    rw [List.getElem?_map] at ho2
    cases hz : L[i]? with
    | none => rw [hz] at ho2; cases ho2
    | some z => rw [hz] at ho2; cases ho2
theorem ok_Cluster_home_of (G : Glo K mg D) {f : Addr} {fd : FuncData} (F : Fun K "home_of" "Cluster.home_of" s_Cluster_home_of f fd) : FnOk P w K mg base CX0 1 f fd ["self", "entry"] (sp_Cluster_home_of K D) := by
  refine F.ok sc_Cluster_home_of (fun vs H Q E h => len2 h) (fun cdv A outer s H vs Q E hr h => ?_)
  obtain ⟨v0, v1, rfl, h⟩ := h
  have c_Cluster := G.c_Cluster
  have c_Net := G.c_Net
  have n_Cluster__homes := G.n_Cluster__homes
  have n_Cluster_net := G.n_Cluster_net
  have n_Cluster_size := G.n_Cluster_size
  have n_Net__linked := G.n_Net__linked
  have n_Net__links := G.n_Net__links
  have n_Net_count := G.n_Net_count
  have r_Cluster := G.r_Cluster
  have r_Net := G.r_Net
  have v_Cluster_MOST := G.v_Cluster_MOST
  have v_Net_MOST := G.v_Net_MOST
  refine ⟨_, (pss_cons (ps_if (PW.pt (pw_or (pt_cmpR (op_lt) (pv 1) pe_int (nomark _)) (pw_or1 (pt_cmpR (op_ge) (pv 1) (fld_K K (pv 0)) (nomark _))))) (pss_one ps_never) pss_nil)
  (pss_one (ps_ret (pe_ix (ixA_K K hr) (fld_K K (pv 0)) (pv 1) (fun _ _ => rfl))))), ?_⟩
  rw [show L2.start ["self", "entry"] [v0, v1] = [some v0, some v1] from rfl]
  obtain ⟨c, n, L, hs, e, h, rfl, rfl, ⟨dx, nt, g, g1, g2, g3⟩, he, q⟩ := h
  have hl := (List.getElem?_eq_some_iff.mp he).1
  walk_at "w"
  refine w_ite (fun z => absurd z (by omega)) fun _ => ?_
  walk_at "w"
  refine w_ite (fun z => absurd z (by omega)) fun _ => ?_
  walk_at "w"
  refine w_ixIA (by walk_at "sq") (by omega) (by omega) fun z hz => ?_
  rw [Int.toNat_natCast, he] at hz
  cases hz
  exact q
theorem ok_check_replica (G : Glo K mg D) {f : Addr} {fd : FuncData} (F : Fun K "check_replica" "check_replica" s_check_replica f fd) : FnOk P w K mg base CX0 1 f fd ["net", "replica"] (sp_check_replica K D) := by
  refine F.ok sc_check_replica (fun vs H Q E h => len2 h) (fun cdv A outer s H vs Q E hr h => ?_)
  obtain ⟨v0, v1, rfl, h⟩ := h
  have c_Cluster := G.c_Cluster
  have c_Net := G.c_Net
  have n_Cluster__homes := G.n_Cluster__homes
  have n_Cluster_net := G.n_Cluster_net
  have n_Cluster_size := G.n_Cluster_size
  have n_Net__linked := G.n_Net__linked
  have n_Net__links := G.n_Net__links
  have n_Net_count := G.n_Net_count
  have r_Cluster := G.r_Cluster
  have r_Net := G.r_Net
  have v_Cluster_MOST := G.v_Cluster_MOST
  have v_Net_MOST := G.v_Net_MOST
  refine ⟨_, (pss_one (ps_if (PW.pt (pw_or (pt_cmpR (op_lt) (pv 1) pe_int (nomark _)) (pw_or1 (pt_cmpR (op_ge) (pv 1) (fld_K K (pv 0)) (nomark _))))) (pss_one ps_never) pss_nil)), ?_⟩
  rw [show L2.start ["net", "replica"] [v0, v1] = [some v0, some v1] from rfl]
  obtain ⟨s, n, L, i, rfl, rfl, ⟨dx, d, l, kvs, ks, g1, g2, g3, g4, ps, g5, g6⟩, h0, h1, q⟩ := h
  walk_at "w"
  refine w_ite (fun z => absurd z (by omega)) fun _ => ?_
  walk_at "w"
  refine w_ite (fun z => absurd z (by omega)) fun _ => ?_
  walk_at "w"
  exact q
theorem ok_check_entry (G : Glo K mg D) {f : Addr} {fd : FuncData} (F : Fun K "check_entry" "check_entry" s_check_entry f fd) : FnOk P w K mg base CX0 1 f fd ["cluster", "entry"] (sp_check_entry K D) := by
  refine F.ok sc_check_entry (fun vs H Q E h => len2 h) (fun cdv A outer s H vs Q E hr h => ?_)
  obtain ⟨v0, v1, rfl, h⟩ := h
  have c_Cluster := G.c_Cluster
  have c_Net := G.c_Net
  have n_Cluster__homes := G.n_Cluster__homes
  have n_Cluster_net := G.n_Cluster_net
  have n_Cluster_size := G.n_Cluster_size
  have n_Net__linked := G.n_Net__linked
  have n_Net__links := G.n_Net__links
  have n_Net_count := G.n_Net_count
  have r_Cluster := G.r_Cluster
  have r_Net := G.r_Net
  have v_Cluster_MOST := G.v_Cluster_MOST
  have v_Net_MOST := G.v_Net_MOST
  refine ⟨_, (pss_one (ps_if (PW.pt (pw_or (pt_cmpR (op_lt) (pv 1) pe_int (nomark _)) (pw_or1 (pt_cmpR (op_ge) (pv 1) (fld_K K (pv 0)) (nomark _))))) (pss_one ps_never) pss_nil)), ?_⟩
  rw [show L2.start ["cluster", "entry"] [v0, v1] = [some v0, some v1] from rfl]
  obtain ⟨c, n, L, hs, e, rfl, rfl, ⟨dx, nt, g, g1, g2, g3⟩, h0, h1, q⟩ := h
  walk_at "w"
  refine w_ite (fun z => absurd z (by omega)) fun _ => ?_
  walk_at "w"
  refine w_ite (fun z => absurd z (by omega)) fun _ => ?_
  walk_at "w"
  exact q
theorem ok_copy_logs (G : Glo K mg D) {f : Addr} {fd : FuncData} (F : Fun K "copy_logs" "copy_logs" s_copy_logs f fd) : FnOk P w K mg base CX0 1 f fd ["logs"] (sp_copy_logs K D) := by
  refine F.ok sc_copy_logs (fun vs H Q E h => len1 h) (fun cdv A outer s H vs Q E hr h => ?_)
  obtain ⟨v0, rfl, h⟩ := h
  have c_Cluster := G.c_Cluster
  have c_Net := G.c_Net
  have n_Cluster__homes := G.n_Cluster__homes
  have n_Cluster_net := G.n_Cluster_net
  have n_Cluster_size := G.n_Cluster_size
  have n_Net__linked := G.n_Net__linked
  have n_Net__links := G.n_Net__links
  have n_Net_count := G.n_Net_count
  have r_Cluster := G.r_Cluster
  have r_Net := G.r_Net
  have v_Cluster_MOST := G.v_Cluster_MOST
  have v_Net_MOST := G.v_Net_MOST
  refine ⟨_, (pss_one (ps_ret (pe_lc (own := [("log", 1)]) (by rfl) sc_copy_logs.nd (pi_lstK K (pv 0)) (blkOk_by (own := [("log", 1)]) (N := ["logs", "log"]) (sc := defScope s_copy_logs) (by decide +kernel)) (fun _ _ _ _ _ => (pg_name (i := 1) (by exact sc_copy_logs.nd) rfl (.inl rfl))) (fun _ _ _ _ _ => pts_nil) (fun _ _ _ _ _ => (pe_callTy (lst_K K) (by rfl) G.g_list (by decide +kernel) (pa_cons (pv 1) pa_nil)))))), ?_⟩
  rw [show L2.start ["logs", "log"] [v0] = [some v0, none] from rfl]
  obtain ⟨p, xs, rfl, ⟨ps, hp, ho⟩, hl, q⟩ := h
  walk_at "w"
  refine w_comp (walk_list (xs := ps.map V.ref)) (fun i vs B => ∃ qs : List Addr, vs = qs.map V.ref ∧ Objs B qs ((xs.take i).map lstO) ∧ (∀ a ∈ qs, H a = none) ∧ qs.Nodup) yAt (fun H' e => ex_l e (sq_of hp)) ⟨[], rfl, rfl, by simp, List.nodup_nil⟩ ?_ ?_
  · rintro i x acc D B H1 H2 hi eB ⟨qs, rfl, o1, f1, n1⟩ bD eB1 hx hD ⟨rfl, hy⟩ -
    rw [List.length_map, ho.len, List.length_map] at hi
    obtain ⟨lg, hlg⟩ : ∃ lg, xs[i]? = some lg := ⟨_, List.getElem?_eq_getElem hi⟩
    obtain ⟨a, ha, hta⟩ := ho.get (o := lstO lg) (by rw [List.getElem?_map, hlg]; rfl)
    rw [refs_get ha] at hy
    cases hy
    refine ⟨rfl, ?_⟩
    walk_at "w"
    refine w_listI (.inl (.inl ((eB.trans eB1) _ _ hta))) fun r H3 nr e3 hr => ?_
    have rD : r ≠ D := (ne_of_none hx nr).symm
    have lq : qs.length = i := by rw [o1.len, List.length_map, List.length_take]; omega
    refine cyes hD (eB.trans eB1) hx (by rw [List.length_map]; omega) e3 ⟨qs ++ [r], by rw [List.map_append]; rfl, ?_, ?_, ?_⟩
    · rw [take_succ hlg, List.map_append]
      exact (o1.ex (ex_del (eB1.trans e3) bD)).app (Objs.one ((del_ne rD).trans hr))
    · intro b hb
      rcases List.mem_append.mp hb with hb | hb
      · exact f1 b hb
      · rw [List.mem_singleton.mp hb]
        exact fresh_back (eB.trans eB1) nr
    · refine List.nodup_append.mpr ⟨n1, by simp, fun b hb c hc => ?_⟩
      rw [List.mem_singleton.mp hc]
      obtain ⟨o, ob⟩ := o1.at hb
      exact ne_of_none (eB1 _ _ ob) nr
  · rintro D B H1 acc hD eB eB1 bD hx ⟨qs, rfl, o1, f1, n1⟩
    rw [List.length_map, ho.len, List.length_map, List.take_length] at o1
    exact q D H1 (eB.trans eB1) ⟨qs, hx, o1.ex eB1, hD, f1, n1, fun m => by obtain ⟨o, ob⟩ := o1.at m; rw [bD] at ob; cases ob⟩
theorem ok__is_log (G : Glo K mg D) {f : Addr} {fd : FuncData} (F : Fun K "_is_log" "_is_log" s__is_log f fd) (hcd : fd.code = .ref D.c__is_log) (TB : GxR.TabB base mg D.c__is_log D.t__is_log) : FnOk P w K mg base CX0 1 f fd ["size", "log"] (low__is_log K D) := by
  refine PG.fun_okC F hcd sc__is_log (fun vs H Q E h => len2 h) (fun A outer s H vs Q E hr h => ?_)
  obtain ⟨v0, v1, rfl, h⟩ := h
  have c_Cluster := G.c_Cluster
  have c_Net := G.c_Net
  have n_Cluster__homes := G.n_Cluster__homes
  have n_Cluster_net := G.n_Cluster_net
  have n_Cluster_size := G.n_Cluster_size
  have n_Net__linked := G.n_Net__linked
  have n_Net__links := G.n_Net__links
  have n_Net_count := G.n_Net_count
  have r_Cluster := G.r_Cluster
  have r_Net := G.r_Net
  have v_Cluster_MOST := G.v_Cluster_MOST
  have v_Net_MOST := G.v_Net_MOST
  refine ⟨_, (pss_cons (ps_if (pt_cmpR (ne_K K hr.units) (lenSet_K K (by rfl) G.g_len (by rfl) G.g_set (pv 1)) (pe_callB (len_K K) (by rfl) G.g_len (by decide +kernel) (pa_cons (pv 1) pa_nil)) (nomark _)) (pss_one (ps_ret pe_bl)) pss_nil)
  (pss_one (ps_ret (allZ_K K (i := 0) hr (by rfl) G.g_all (by decide +kernel) TB rfl (PG.genS_of rfl rfl (by decide +kernel) rfl rfl (by decide +kernel) (fun _ h => cell_has h)) (pv 1) rfl rfl (fun _ => rfl) (PG.elt_in rfl rfl rfl) (fun _ => rfl))))), ?_⟩
  rw [show L2.start ["size", "log", "entry"] [v0, v1] = [some v0, some v1, none] from rfl]
  obtain ⟨p, z, l, rfl, rfl, hp, ⟨l1, l2, l3⟩, ht, q⟩ := h
  walk_at "w"
  refine w_lenSetI (by walk_at "sq") l1 (by omega) ?_
  walk_at "w"
  refine w_iteN (fun z => absurd rfl z) fun _ => ?_
  walk_at "w"
  refine ⟨p, l, z, rfl, hp, ht, rfl, fun H2 t2 => ?_⟩
  have e : (l.all fun n => decide (0 ≤ n) && decide (n < (z : Int))) = true := List.all_eq_true.mpr fun e he => by
    obtain ⟨a, b⟩ := l2 e he
    rw [decide_eq_true a, decide_eq_true b]
    rfl
  rw [e]
  exact q H2 t2
theorem up__is_log {f : Addr} {fd : FuncData} {k : Nat} {p1 p2 : Str} (F : FnOk P w K mg base CX0 k f fd [p1, p2] (low__is_log K D)) : FnOk P w K mg base CX0 k f fd [p1, p2] (sp__is_log K D) := by
  refine PG.fn_tab D.t__is_log F (fun _ _ _ _ h => len2 h) fun vs H Q E h => ?_
  obtain ⟨a, b, rfl, p, z, l, rfl, rfl, hp, hl, ⟨p0, ht⟩, q⟩ := h
  have nt : p ≠ D.t__is_log := ne_of hp ht (by intro z; cases z)
  refine ⟨p0, ht, fun p1 t1 => ⟨_, _, rfl, p, z, l, rfl, rfl, .inl (.inl ((upd_ne nt).trans hp)), hl, ⟨p1, upd_same, t1⟩, fun H' t2 => ⟨t2.1, ?_⟩⟩⟩
  have e : upd H' D.t__is_log (PG.TabS D.t__is_log p0) = H := by
    funext x
    by_cases hx : x = D.t__is_log
    · rw [hx, upd_same, ht]
    · rw [upd_ne hx, t2.2 x hx, upd_ne hx]
  rw [e]
  exact q
theorem ok_check_logs (G : Glo K mg D) {f : Addr} {fd : FuncData} (F : Fun K "check_logs" "check_logs" s_check_logs f fd) (h__is_log : Has P w K mg base "_is_log" 1 (sp__is_log K D)) (h_copy_logs : Has P w K mg base "copy_logs" 1 (sp_copy_logs K D)) : FnOk P w K mg base CX0 2 f fd ["cluster", "logs"] (sp_check_logs K D) := by
  refine F.ok sc_check_logs (fun vs H Q E h => len2 h) (fun cdv A outer s H vs Q E hr h => ?_)
  obtain ⟨v0, v1, rfl, h⟩ := h
  have c_Cluster := G.c_Cluster
  have c_Net := G.c_Net
  have n_Cluster__homes := G.n_Cluster__homes
  have n_Cluster_net := G.n_Cluster_net
  have n_Cluster_size := G.n_Cluster_size
  have n_Net__linked := G.n_Net__linked
  have n_Net__links := G.n_Net__links
  have n_Net_count := G.n_Net_count
  have r_Cluster := G.r_Cluster
  have r_Net := G.r_Net
  have v_Cluster_MOST := G.v_Cluster_MOST
  have v_Net_MOST := G.v_Net_MOST
  refine ⟨_, (pss_cons (ps_if (pt_cmpR (ne_K K hr.units) (pe_callB (len_K K) (by rfl) G.g_len (by decide +kernel) (pa_cons (pv 1) pa_nil)) (fld_K K (fld_K K (pv 0))) (nomark _)) (pss_one ps_never) pss_nil)
  (pss_cons (ps_for PassesOwn.never rfl (pi_enumK K (by rfl) G.g_enumerate (pa_cons (pv 1) pa_nil)) (pg_tupK K (n := 2) rfl (pgs_cons (pg_name (i := 2) (by exact sc_check_logs.nd) rfl (.inl rfl)) (pgs_cons (pg_name (i := 3) (by exact sc_check_logs.nd) rfl (.inl rfl)) pgs_nil))) (pss_one (ps_if (pt_not (tru_K K (pe_fn h__is_log (hr.mono (by decide)) (by rfl) (pa_cons (fld_K K (pv 0)) (pa_cons (pv 3) pa_nil))) (by intro _; rfl))) (pss_one ps_never) pss_nil)))
  (pss_one (ps_ret (pe_fn h_copy_logs (hr.mono (by decide)) (by rfl) (pa_cons (pv 1) pa_nil)))))), ?_⟩
  rw [show L2.start ["cluster", "logs", "replica", "log"] [v0, v1] = [some v0, some v1, none, none] from rfl]
  obtain ⟨c, p, n, L, hs, xs, rfl, rfl, ⟨dx, nt, g, g1, g2, ⟨ndx, d, l, kvs, ks, g3, g4⟩⟩, ⟨ps, hp, ho⟩, ⟨z1, z2, z3⟩, ht, q⟩ := h
  walk_at "w"
  refine w_lenR (by walk_at "sq") ?_
  walk_at "w"
  rw [List.length_map, ho.len, List.length_map]
  refine w_iteN (fun z => absurd z1 z) fun _ => ?_
  walk_at "w"
  refine w_loop (walk_enum (K := K) (a := p) (xs := ps.map V.ref)) (fun i σ H' => ∃ x y, σ = [some (.ref c), some (.ref p), x, y] ∧ Ex H H') ⟨_, _, rfl, Ex.refl H⟩ (fun i σ H' _ ⟨x, y, _, e⟩ => ex_l e (sq_of hp)) ?_ ?_
  · rintro i x σ H2 H2' hi ⟨x1, y1, rfl, e2⟩ ⟨T, a1, b1, z1, nT, z2, h1, h2⟩
    subst z1 z2
    cases h1
    rw [List.length_map, ho.len, List.length_map] at hi
    obtain ⟨lg, hlg⟩ : ∃ lg, xs[i]? = some lg := ⟨_, List.getElem?_eq_getElem hi⟩
    obtain ⟨a, ha, hta⟩ := ho.get (o := lstO lg) (by rw [List.getElem?_map, hlg]; rfl)
    have h3 := (refs_get ha).symm.trans h2
    cases h3
    have e3 : Ex H2 (upd H2 T (.tup [.int i, .ref a])) := Ex.new nT
    refine w_gt2 (.of upd_same) ?_
    walk_at "w"
    refine ⟨_, _, rfl, a, hs.length, lg, rfl, rfl, (e2.trans e3) _ _ hta, z3 lg (List.mem_of_getElem? hlg), ht.ex (e2.trans e3), ?_⟩
    walk_at "w"
    exact ⟨_, _, rfl, e2.trans e3⟩
  · rintro σ H2 ⟨x1, y1, rfl, e2⟩
    walk_at "w"
    exact ⟨_, rfl, p, xs, rfl, ⟨ps, e2 _ _ hp, ho.ex e2⟩, z2, fun r H3 e3 ⟨qs, f1, f2, f3, f4, f5⟩ => q r H3 (e2.trans e3) ⟨qs, f1, f2, fresh_back e2 f3, fun a m => fresh_back e2 (f4 a m), f5⟩⟩
theorem ok_holders_of (G : Glo K mg D) {f : Addr} {fd : FuncData} (F : Fun K "holders_of" "holders_of" s_holders_of f fd) (h_check_logs : Has P w K mg base "check_logs" 2 (sp_check_logs K D)) (h_check_entry : Has P w K mg base "check_entry" 1 (sp_check_entry K D)) : FnOk P w K mg base CX0 3 f fd ["cluster", "logs", "entry"] (sp_holders_of K D) := by
  refine F.ok sc_holders_of (fun vs H Q E h => len3 h) (fun cdv A outer s H vs Q E hr h => ?_)
  obtain ⟨v0, v1, v2, rfl, h⟩ := h
  have c_Cluster := G.c_Cluster
  have c_Net := G.c_Net
  have n_Cluster__homes := G.n_Cluster__homes
  have n_Cluster_net := G.n_Cluster_net
  have n_Cluster_size := G.n_Cluster_size
  have n_Net__linked := G.n_Net__linked
  have n_Net__links := G.n_Net__links
  have n_Net_count := G.n_Net_count
  have r_Cluster := G.r_Cluster
  have r_Net := G.r_Net
  have v_Cluster_MOST := G.v_Cluster_MOST
  have v_Net_MOST := G.v_Net_MOST
  refine ⟨_, (pss_cons (ps_set (i := 3) sc_holders_of.nd rfl (.inl rfl) (pe_fn h_check_logs (hr.mono (by decide)) (by rfl) (pa_cons (pv 0) (pa_cons (pv 1) pa_nil))))
  (pss_cons (ps_expr (pe_fn h_check_entry (hr.mono (by decide)) (by rfl) (pa_cons (pv 0) (pa_cons (pv 2) pa_nil))))
  (pss_one (ps_ret (pe_lc (own := [("replica", 4), ("log", 5)]) (by rfl) sc_holders_of.nd (pi_enumK K (by rfl) G.g_enumerate (pa_cons (pv 3) pa_nil)) (blkOk_by (own := [("replica", 4), ("log", 5)]) (N := ["cluster", "logs", "entry", "checked", "replica", "log"]) (sc := defScope s_holders_of) (by decide +kernel)) (fun _ _ _ _ _ => (pg_tupK K (n := 2) rfl (pgs_cons (pg_name (i := 4) (by exact sc_holders_of.nd) rfl (.inl rfl)) (pgs_cons (pg_name (i := 5) (by exact sc_holders_of.nd) rfl (.inl rfl)) pgs_nil)))) (fun _ _ _ _ _ => (pts_one (pt_cmpR (inA_K K hr) (pv 2) (pv 5) (by rfl)))) (fun _ _ _ _ _ => (pv 4))))))), ?_⟩
  rw [show L2.start ["cluster", "logs", "entry", "checked", "replica", "log"] [v0, v1, v2] = [some v0, some v1, some v2, none, none, none] from rfl]
  obtain ⟨c, p, n, L, hs, xs, e, rfl, rfl, rfl, hC, hX, hok, ht, h0, h1, q⟩ := h
  walk_at "w"
  refine ⟨_, _, rfl, c, p, n, L, hs, xs, rfl, rfl, hC, hX, hok, ht, fun r H1 e1 ⟨qs, f1, f2, f3, f4, f5⟩ => ?_⟩
  walk_at "w"
  refine ⟨_, _, rfl, c, n, L, hs, e, rfl, rfl, hC.ex e1, h0, h1, ?_⟩
  walk_at "w"
  refine w_compI (walk_enum (xs := qs.map V.ref)) (fun i acc => acc = holdN xs e i) yPair (fun H' e => ex_l e (sq_of f1)) rfl ?_ ?_
  · rintro i x acc D2 H2 H3 hi rfl hal e2 hx hD ⟨T, a1, b1, z1, nT, z2, h1, h2⟩ e3
    subst z1 z2
    cases h1
    rw [List.length_map, f2.len, List.length_map] at hi
    obtain ⟨lg, hlg⟩ : ∃ lg, xs[i]? = some lg := ⟨_, List.getElem?_eq_getElem hi⟩
    obtain ⟨a, ha, hta⟩ := f2.get (o := lstO lg) (by rw [List.getElem?_map, hlg]; rfl)
    have h3 := (refs_get ha).symm.trans h2
    cases h3
    refine w_gt2 (.of upd_same) ⟨rfl, ?_⟩
    have hl : SqL K (upd H2 T (.tup [.int i, .ref a])) a (lg.map V.int) := .inl (.inl (e3 _ _ (e2 _ _ hta)))
    walk_at "w"
    refine w_iteB (fun m => ?_) fun m => ?_
    · walk_at "w"
      exact cyI hD e2 hx hal (by have := hok.2.1; omega) e3 (holdN_yes hlg (of_decide_eq_true m)).symm
    · exact cnI hD e2 hx hal e3 (holdN_no hlg (of_decide_eq_false m)).symm
  · rintro D2 H2 acc hD e2 hx rfl hal
    rw [List.length_map, f2.len, List.length_map] at hx
    exact q D2 H2 (fresh_back e1 hD) (e1.trans e2) hx
theorem ok_ahead_of (G : Glo K mg D) {f : Addr} {fd : FuncData} (F : Fun K "ahead_of" "ahead_of" s_ahead_of f fd) (h_check_logs : Has P w K mg base "check_logs" 2 (sp_check_logs K D)) (h_check_replica : Has P w K mg base "check_replica" 1 (sp_check_replica K D)) (h_check_entry : Has P w K mg base "check_entry" 1 (sp_check_entry K D)) : FnOk P w K mg base CX0 3 f fd ["cluster", "logs", "replica", "entry"] (sp_ahead_of K D) := by
  refine F.ok sc_ahead_of (fun vs H Q E h => len4 h) (fun cdv A outer s H vs Q E hr h => ?_)
  obtain ⟨v0, v1, v2, v3, rfl, h⟩ := h
  have c_Cluster := G.c_Cluster
  have c_Net := G.c_Net
  have n_Cluster__homes := G.n_Cluster__homes
  have n_Cluster_net := G.n_Cluster_net
  have n_Cluster_size := G.n_Cluster_size
  have n_Net__linked := G.n_Net__linked
  have n_Net__links := G.n_Net__links
  have n_Net_count := G.n_Net_count
  have r_Cluster := G.r_Cluster
  have r_Net := G.r_Net
  have v_Cluster_MOST := G.v_Cluster_MOST
  have v_Net_MOST := G.v_Net_MOST
  refine ⟨_, (pss_cons (ps_set (i := 4) sc_ahead_of.nd rfl (.inl rfl) (pe_fn h_check_logs (hr.mono (by decide)) (by rfl) (pa_cons (pv 0) (pa_cons (pv 1) pa_nil))))
  (pss_cons (ps_expr (pe_fn h_check_replica (hr.mono (by decide)) (by rfl) (pa_cons (fld_K K (pv 0)) (pa_cons (pv 2) pa_nil))))
  (pss_cons (ps_expr (pe_fn h_check_entry (hr.mono (by decide)) (by rfl) (pa_cons (pv 0) (pa_cons (pv 3) pa_nil))))
  (pss_cons (ps_set (i := 5) sc_ahead_of.nd rfl (.inl rfl) (pe_ix (ixA_K K hr) (pv 4) (pv 2) (fun _ _ => rfl)))
  (pss_cons (ps_if (pt_cmpR (niA_K K hr) (pv 3) (pv 5) (by rfl)) (pss_one ps_never) pss_nil)
  (pss_one (ps_ret (pe_slice (sl_K K) (pv 5) po_none (po_some (bm_K K PySem.F.plainAttrs_list PySem.F.slot_list_index PySem.F.type_list_index (idx_K K) (pv 5) (pa_cons (pv 3) pa_nil))))))))))), ?_⟩
  rw [show L2.start ["cluster", "logs", "replica", "entry", "checked", "log"] [v0, v1, v2, v3] = [some v0, some v1, some v2, some v3, none, none] from rfl]
  obtain ⟨c, p, n, L, hs, xs, i, e, l, rfl, rfl, rfl, rfl, hC, hX, hok, ht, hi, he, q⟩ := h
  obtain ⟨dx, nt, g, g1, g2, g3⟩ := id hC
  obtain ⟨z1, z2, z3⟩ := hok
  have hil := (List.getElem?_eq_some_iff.mp hi).1
  have ok := z3 l (List.mem_of_getElem? hi)
  walk_at "w"
  refine ⟨_, _, rfl, c, p, n, L, hs, xs, rfl, rfl, hC, hX, ⟨z1, z2, z3⟩, ht, fun r H1 e1 ⟨qs, f1, f2, f3, f4, f5⟩ => ?_⟩
  walk_at "w"
  refine ⟨_, _, rfl, nt, n, L, i, rfl, rfl, g3.ex e1, by omega, by omega, ?_⟩
  walk_at "w"
  refine ⟨_, _, rfl, c, n, L, hs, e, rfl, rfl, hC.ex e1, (ok.2.1 e he).1, (ok.2.1 e he).2, ?_⟩
  obtain ⟨a, ha, hta⟩ := f2.get (o := lstO l) (by rw [List.getElem?_map, hi]; rfl)
  have hq : SqL K H1 a (l.map V.int) := .inl (.inl hta)
  walk_at "w"
  refine w_ixCA (.inl (.inl f1)) (atI_nat (refs_get ha)) ?_
  walk_at "w"
  rw [decide_eq_true he]
  walk_at "w"
  refine w_indexI (by walk_at "sq") he ?_
  walk_at "w"
  refine w_slHi (by walk_at "sq") (by omega) fun r2 H2 n2 e2 h2 => ?_
  rw [Int.toNat_natCast, ahead_take] at h2
  exact q r2 H2 (fresh_back e1 n2) (e1.trans e2) h2
theorem ok_prefix_fault (G : Glo K mg D) {f : Addr} {fd : FuncData} (F : Fun K "prefix_fault" "prefix_fault" s_prefix_fault f fd) : FnOk P w K mg base CX0 1 f fd ["start", "goal"] (sp_prefix_fault K D) := by
  refine F.ok sc_prefix_fault (fun vs H Q E h => len2 h) (fun cdv A outer s H vs Q E hr h => ?_)
  obtain ⟨v0, v1, rfl, h⟩ := h
  have c_Cluster := G.c_Cluster
  have c_Net := G.c_Net
  have n_Cluster__homes := G.n_Cluster__homes
  have n_Cluster_net := G.n_Cluster_net
  have n_Cluster_size := G.n_Cluster_size
  have n_Net__linked := G.n_Net__linked
  have n_Net__links := G.n_Net__links
  have n_Net_count := G.n_Net_count
  have r_Cluster := G.r_Cluster
  have r_Net := G.r_Net
  have v_Cluster_MOST := G.v_Cluster_MOST
  have v_Net_MOST := G.v_Net_MOST
  refine ⟨_, (pss_cons (ps_for PassesOwn.never rfl (pi_enumK K (by rfl) G.g_enumerate (pa_cons (pv 0) pa_nil)) (pg_tupK K (n := 2) rfl (pgs_cons (pg_name (i := 2) (by exact sc_prefix_fault.nd) rfl (.inl rfl)) (pgs_cons (pg_name (i := 3) (by exact sc_prefix_fault.nd) rfl (.inl rfl)) pgs_nil))) (pss_one (ps_if (pt_cmpR (ne_K K hr.units) (pe_slice (sl_K K) (pe_ix (ixA_K K hr) (pv 1) (pv 2) (fun _ _ => rfl)) po_none (po_some (pe_callB (len_K K) (by rfl) G.g_len (by decide +kernel) (pa_cons (pv 3) pa_nil)))) (pv 3) (nomark _)) (pss_one (ps_ret (pv 2))) pss_nil)))
  (pss_one (ps_ret pe_non))), ?_⟩
  rw [show L2.start ["start", "goal", "replica", "log"] [v0, v1] = [some v0, some v1, none, none] from rfl]
  obtain ⟨p, r, xs, ys, rfl, rfl, ⟨ps, hp, ho⟩, ⟨qs, hq, hu⟩, hl, hx, h3, q⟩ := h
  walk_at "w"
  refine w_loop (walk_enum (K := K) (a := p) (xs := ps.map V.ref)) (fun i σ H' => ∃ x y, σ = [some (.ref p), some (.ref r), x, y] ∧ Ex H H') ⟨_, _, rfl, Ex.refl H⟩ (fun i σ H' _ ⟨x, y, _, e⟩ => ex_l e (sq_of hp)) ?_ ?_
  · rintro i x σ H2 H2' hi ⟨x1, y1, rfl, e2⟩ ⟨T, a1, b1, z1, nT, z2, h1, h2⟩
    subst z1 z2
    cases h1
    rw [List.length_map, ho.len, List.length_map] at hi
    obtain ⟨lg, hlg⟩ : ∃ lg, xs[i]? = some lg := ⟨_, List.getElem?_eq_getElem hi⟩
    obtain ⟨mg, hmg⟩ : ∃ mg, ys[i]? = some mg := ⟨_, List.getElem?_eq_getElem (hl ▸ hi)⟩
    obtain ⟨a, ha, hta⟩ := ho.get (o := lstO lg) (by rw [List.getElem?_map, hlg]; rfl)
    obtain ⟨b, hb, htb⟩ := hu.get (o := lstO mg) (by rw [List.getElem?_map, hmg]; rfl)
    have h4 := (refs_get ha).symm.trans h2
    cases h4
    have e3 : Ex H (upd H2 T (.tup [.int i, .ref a])) := e2.trans (Ex.new nT)
    refine w_gt2 (.of upd_same) ?_
    walk_at "w"
    refine w_ixCA (.inl (.inl (e3 _ _ hq))) (atI_nat (refs_get hb)) ?_
    have hta3 : SqL K (upd H2 T (.tup [.int i, .ref a])) a (lg.map V.int) := .inl (.inl (e3 _ _ hta))
    walk_at "w"
    refine w_slHi (.inl (.inl (e3 _ _ htb))) (by omega) fun r2 H3 n2 e4 h4 => ?_
    rw [Int.toNat_natCast, hx i lg mg hlg hmg] at h4
    walk_at "w"
    refine w_neL (.inl (.inl h4)) (.inl (.inl (e4 _ _ (e3 _ _ hta)))) ?_
    walk_at "w"
    refine w_iteN (fun z => absurd rfl z) fun _ => ?_
    walk_at "w"
    exact ⟨_, _, rfl, e3.trans e4⟩
  · rintro σ H2 ⟨x1, y1, rfl, e2⟩
    walk_at "w"
    exact q H2 e2
theorem ok_places_of (G : Glo K mg D) {f : Addr} {fd : FuncData} (F : Fun K "places_of" "places_of" s_places_of f fd) : FnOk P w K mg base CX0 1 f fd ["logs"] (sp_places_of K D) := by
  refine F.ok sc_places_of (fun vs H Q E h => len1 h) (fun cdv A outer s H vs Q E hr h => ?_)
  obtain ⟨v0, rfl, h⟩ := h
  have c_Cluster := G.c_Cluster
  have c_Net := G.c_Net
  have n_Cluster__homes := G.n_Cluster__homes
  have n_Cluster_net := G.n_Cluster_net
  have n_Cluster_size := G.n_Cluster_size
  have n_Net__linked := G.n_Net__linked
  have n_Net__links := G.n_Net__links
  have n_Net_count := G.n_Net_count
  have r_Cluster := G.r_Cluster
  have r_Net := G.r_Net
  have v_Cluster_MOST := G.v_Cluster_MOST
  have v_Net_MOST := G.v_Net_MOST
  refine ⟨_, (pss_cons (ps_set (i := 1) sc_places_of.nd rfl (.inl rfl) (pe_lst pa_nil))
  (pss_cons (ps_for PassesOwn.never rfl (pi_lstK K (pv 0)) (pg_name (i := 2) (by exact sc_places_of.nd) rfl (.inl rfl)) (pss_cons (ps_set (i := 3) sc_places_of.nd rfl (.inl rfl) pe_dnewK)
  (pss_cons (ps_for PassesOwn.never rfl (pi_enumK K (by rfl) G.g_enumerate (pa_cons (pv 2) pa_nil)) (pg_tupK K (n := 2) rfl (pgs_cons (pg_name (i := 4) (by exact sc_places_of.nd) rfl (.inl rfl)) (pgs_cons (pg_name (i := 5) (by exact sc_places_of.nd) rfl (.inl rfl)) pgs_nil))) (pss_one (ps_asg (pv 4) (pg_sub (pv 3) (pv 5) (setA hr)))))
  (pss_one (ps_expr (bm_K K PySem.F.plainAttrs_list PySem.F.slot_list_append PySem.F.type_list_append mt_append (pv 1) (pa_cons (pv 3) pa_nil)))))))
  (pss_one (ps_ret (pv 1))))), ?_⟩
  rw [show L2.start ["logs", "places", "log", "index_of", "index", "entry"] [v0] = [some v0, none, none, none, none, none] from rfl]
  obtain ⟨p, xs, rfl, ⟨ps, hp, ho⟩, hl, hok, q⟩ := h
  walk_at "w"
  (refine w_newXL (le_line (by walk_at "side")) (fun r H1 nr e1 hr EE_ => ?_); (try rw [← EE_]); clear EE_)
  walk_at "w"
  refine w_loop (walk_list (K := K) (a := p) (xs := ps.map V.ref)) (fun i σ H' => ∃ x y z w ds, σ = [some (.ref p), some (.ref r), x, y, z, w] ∧ Ex H H' ∧ H' r = some (.lst (ds.map V.ref)) ∧ ds.length = i ∧ r ∉ ds ∧ ∀ (j : Nat) d l, ds[j]? = some d → xs[j]? = some l → IdxD H' d l)
    ⟨_, _, _, _, [], rfl, e1, hr, rfl, by simp, by simp⟩ (fun i σ H' _ ⟨x, y, z, w, ds, _, e, _⟩ => ex_l e (sq_of hp)) ?_ ?_
  · rintro i x σ H2 H2' hi ⟨x1, y1, z1, w1, ds, rfl, e2, hr2, dl, rn, hd⟩ ⟨rfl, hx⟩
    rw [List.length_map, ho.len, List.length_map] at hi
    obtain ⟨lg, hlg⟩ : ∃ lg, xs[i]? = some lg := ⟨_, List.getElem?_eq_getElem hi⟩
    obtain ⟨a, ha, hta⟩ := ho.get (o := lstO lg) (by rw [List.getElem?_map, hlg]; rfl)
    have h4 := (refs_get ha).symm.trans hx
    cases h4
    obtain ⟨nd, ll⟩ := hok lg (List.mem_of_getElem? hlg)
    walk_at "w"
    refine w_dK fun d H3 ndd e3 hd3 => ?_
    have hta3 := e3 _ _ (e2 _ _ hta)
    walk_at "w"
    refine w_loop (walk_enum (K := K) (a := a) (xs := lg.map V.int)) (fun j σ H' => ∃ z w kvs, σ = [some (.ref p), some (.ref r), some (.ref a), some (.ref d), z, w] ∧ Ex H2' H' ∧ H' d = some (.dK kvs) ∧ kvs.length ≤ j ∧ ∀ e : Int, valV kvs (.inl e) = (pos (lg.take j) e).map fun n : Nat => V.int (n : Int))
      ⟨_, _, [], rfl, e3, hd3, Nat.le_refl _, fun e => by rw [List.take_zero, pos_none (by simp)]; rfl⟩ (fun j σ H' _ ⟨z, w, kvs, _, e, _⟩ => ex_l e (sq_of (e2 _ _ hta))) ?_ ?_
    · rintro j x σ H4 H4' hj ⟨z2, w2, kvs, rfl, e4, hd4, kl, kv⟩ ⟨T, a1, b1, s1, nT, s2, g1, g2⟩
      subst s1 s2
      cases g1
      obtain ⟨en, hen, rfl⟩ := get_map g2
      have e5 : Ex H4 (upd H4 T (.tup [.int j, .int en])) := Ex.new nT
      refine w_gt2 (.of upd_same) ?_
      walk_at "w"
      refine w_putK (k := .inl en) (e5 _ _ hd4) (by rw [List.length_map] at hj; omega) fun H6 c6 hd6 => ?_
      walk_at "w"
      refine ⟨_, _, _, rfl, c6.ex (e4.trans e5) ndd, hd6, Nat.le_trans (length_putK ..) (Nat.succ_le_succ kl), fun e => ?_⟩
      rw [valV_put, kv, take_succ hen]
      have nin : en ∉ lg.take j := fun m => by
        obtain ⟨i2, hi2⟩ := List.mem_iff_getElem?.mp m
        have lt2 := (List.getElem?_eq_some_iff.mp hi2).1
        rw [List.length_take] at lt2
        rw [List.getElem?_take_of_lt (by omega)] at hi2
        have := nd_ix nd hi2 hen
        omega
      by_cases he : e = en
      · subst he
        rw [if_pos rfl, pos_snoc_self nin, List.length_take, Nat.min_eq_left (by rw [List.length_map] at hj; omega)]
        rfl
      · rw [if_neg (by intro z; exact he (Sum.inl.inj z)), pos_snoc_ne he]
    · rintro σ H4 ⟨z2, w2, kvs, rfl, e4, hd4, kl, kv⟩
      rw [List.length_map] at kl
      rw [List.length_map, List.take_length] at kv
      have hr4 := e4 _ _ hr2
      walk_at "w"
      refine w_app hr4 (by rw [List.length_map]; omega) fun H5 c5 hr5 => ?_
      walk_at "w"
      have dr : d ≠ r := (ne_of_none hr2 ndd).symm
      refine ⟨_, _, _, _, ds ++ [d], rfl, c5.ex (e2.trans e4) nr, by rw [hr5, List.map_append]; rfl, by rw [List.length_append, dl]; rfl, ?_, fun j d' l h1 h2 => ?_⟩
      · intro m
        rcases List.mem_append.mp m with m | m
        · exact rn m
        · exact dr (List.mem_singleton.mp m).symm
      · rcases Nat.lt_or_ge j ds.length with lt | ge
        · rw [List.getElem?_append_left lt] at h1
          obtain ⟨k, k1, k2⟩ := hd j d' l h1 h2
          have dn : d' ≠ r := fun z => rn (z ▸ List.mem_of_getElem? h1)
          exact ⟨k, (c5 d' dn).trans (e4 _ _ k1), k2⟩
        · rw [List.getElem?_append_right ge] at h1
          obtain rfl : j = ds.length := by
            have := (List.getElem?_eq_some_iff.mp h1).1
            simp at this
            omega
          rw [Nat.sub_self] at h1
          cases h1
          rw [dl, hlg] at h2
          cases h2
          exact ⟨kvs, (c5 d dr).trans hd4, kv⟩
  · rintro σ H2 ⟨x1, y1, z1, w1, ds, rfl, e2, hr2, dl, rn, hd⟩
    rw [List.length_map, ho.len, List.length_map] at dl
    walk_at "w"
    exact q r H2 e2 ⟨ds, hr2, dl, hd⟩
theorem ok_blocker_of (G : Glo K mg D) {f : Addr} {fd : FuncData} (F : Fun K "blocker_of" "blocker_of" s_blocker_of f fd) : FnOk P w K mg base CX0 1 f fd ["goal", "places", "source", "reader", "entry"] (sp_blocker_of K D) := by
  refine F.ok sc_blocker_of (fun vs H Q E h => len5 h) (fun cdv A outer s H vs Q E hr h => ?_)
  obtain ⟨v0, v1, v2, v3, v4, rfl, h⟩ := h
  have c_Cluster := G.c_Cluster
  have c_Net := G.c_Net
  have n_Cluster__homes := G.n_Cluster__homes
  have n_Cluster_net := G.n_Cluster_net
  have n_Cluster_size := G.n_Cluster_size
  have n_Net__linked := G.n_Net__linked
  have n_Net__links := G.n_Net__links
  have n_Net_count := G.n_Net_count
  have r_Cluster := G.r_Cluster
  have r_Net := G.r_Net
  have v_Cluster_MOST := G.v_Cluster_MOST
  have v_Net_MOST := G.v_Net_MOST
  refine ⟨_, (pss_cons (ps_set (i := 5) sc_blocker_of.nd rfl (.inl rfl) (pe_ix (ixA_K K hr) (pe_ix (ixA_K K hr) (pv 1) (pv 3) (fun _ _ => rfl)) (pv 4) (fun _ _ => rfl)))
  (pss_cons (ps_for PassesOwn.never rfl (pi_lstK K (pe_slice (sl_K K) (pe_ix (ixA_K K hr) (pv 0) (pv 2) (fun _ _ => rfl)) po_none (po_some (pe_ix (ixA_K K hr) (pe_ix (ixA_K K hr) (pv 1) (pv 2) (fun _ _ => rfl)) (pv 4) (fun _ _ => rfl))))) (pg_name (i := 6) (by exact sc_blocker_of.nd) rfl (.inl rfl)) (pss_one (ps_if (pt_cmpR (op_ge) (get2_K hr (pe_ix (ixA_K K hr) (pv 1) (pv 3) (fun _ _ => rfl)) (pv 6) (pv 5)) (pv 5) (nomark _)) (pss_one (ps_ret (pv 6))) pss_nil)))
  (pss_one (ps_ret pe_non)))), ?_⟩
  rw [show L2.start ["goal", "places", "source", "reader", "entry", "limit", "ahead"] [v0, v1, v2, v3, v4] = [some v0, some v1, some v2, some v3, some v4, none, none] from rfl]
  obtain ⟨p, r, xs, s, t, e, ls, lt, rfl, rfl, rfl, rfl, rfl, ⟨ps, hp, ho⟩, ⟨ds, hd, hdl, hi⟩, hs, ht, es, et, q⟩ := h
  obtain ⟨a, ha, hta⟩ := ho.get (o := lstO ls) (by rw [List.getElem?_map, hs]; rfl)
  have sl := (List.getElem?_eq_some_iff.mp hs).1
  have tl := (List.getElem?_eq_some_iff.mp ht).1
  obtain ⟨d1, h1⟩ : ∃ d, ds[s]? = some d := ⟨_, List.getElem?_eq_getElem (hdl ▸ sl)⟩
  obtain ⟨d2, h2⟩ : ∃ d, ds[t]? = some d := ⟨_, List.getElem?_eq_getElem (hdl ▸ tl)⟩
  obtain ⟨k1, hk1, v1⟩ := hi s d1 ls h1 hs
  obtain ⟨k2, hk2, v2⟩ := hi t d2 lt h2 ht
  walk_at "w"
  refine w_ixCA (.inl (.inl hd)) (atI_nat (refs_get h2)) ?_
  walk_at "w"
  refine w_ixDA (v := .int (ahead lt e).length) (DGet.k (k := .inl e) hk2 |> fun g => by rw [v2, pos_some et] at g; exact g) ?_
  walk_at "w"
  refine w_ixCA (.inl (.inl hp)) (atI_nat (refs_get ha)) ?_
  walk_at "w"
  refine w_ixCA (.inl (.inl hd)) (atI_nat (refs_get h1)) ?_
  walk_at "w"
  refine w_ixDA (v := .int (ahead ls e).length) (DGet.k (k := .inl e) hk1 |> fun g => by rw [v1, pos_some es] at g; exact g) ?_
  walk_at "w"
  refine w_slHi (.inl (.inl hta)) (by omega) fun u H1 nu e1 hu => ?_
  rw [Int.toNat_natCast, ahead_take] at hu
  walk_at "w"
  refine w_loop (walk_list (K := K) (a := u) (xs := (ahead ls e).map V.int)) (fun i σ H' => ∃ x, σ = [some (.ref p), some (.ref r), some (.int s), some (.int t), some (.int e), some (.int (ahead lt e).length), x] ∧ H' = H1 ∧ ∀ b ∈ (ahead ls e).take i, b ∈ ahead lt e)
    ⟨_, rfl, rfl, by simp⟩ (fun i σ H' _ ⟨x, _, e, _⟩ => by rw [e]; exact sq_of hu) ?_ ?_
  · rintro i x σ H2 H2' hi2 ⟨x1, rfl, rfl, pr⟩ ⟨rfl, hx⟩
    obtain ⟨b, hb, rfl⟩ := get_map hx
    walk_at "w"
    refine w_ixCA (.inl (.inl (e1 _ _ hd))) (atI_nat (refs_get h2)) ?_
    walk_at "w"
    refine w_get2K (e1 _ _ hk2) ?_
    walk_at "w"
    refine ⟨_, DGet.k (k := .inl b) (e1 _ _ hk2), ?_⟩
    rw [v2]
    have iff := ahead_iff (a := b) et
    by_cases hm : b ∈ ahead lt e
    · obtain ⟨k, hk, kl⟩ := iff.mpr hm
      rw [hk]
      walk_at "w"
      show rI0 _ (V.int k) _ _ _
      walk_at "w"
      refine w_ite (fun z => absurd z (by omega)) fun _ => ?_
      walk_at "w"
      refine ⟨_, rfl, rfl, fun c hc => ?_⟩
      rw [take_succ hb] at hc
      rcases List.mem_append.mp hc with hc | hc
      · exact pr c hc
      · rw [List.mem_singleton.mp hc]; exact hm
    · have ge : ∀ k, pos lt b = some k → ¬ k < (ahead lt e).length := fun k hk kl => hm (iff.mp ⟨k, hk, kl⟩)
      have fin : blk ls lt e = some b := blk_at pr hb hm
      rw [fin] at q
      cases hk : pos lt b with
      | none =>
        walk_at "w"
        show rI0 _ (V.int (ahead lt e).length) _ _ _
        walk_at "w"
        refine w_ite (fun _ => ?_) fun z => absurd (Int.le_refl _) z
        walk_at "w"
        exact q H2' e1
      | some k =>
        have := ge k hk
        walk_at "w"
        show rI0 _ (V.int k) _ _ _
        walk_at "w"
        refine w_ite (fun _ => ?_) fun z => absurd z (by omega)
        walk_at "w"
        exact q H2' e1
  · rintro σ H2 ⟨x1, rfl, rfl, pr⟩
    rw [List.length_map, List.take_length] at pr
    have fin : blk ls lt e = none := List.find?_eq_none.mpr fun c hc => by simpa using pr c hc
    rw [fin] at q
    walk_at "w"
    exact q H2 e1
theorem ok__link_carries (G : Glo K mg D) {f : Addr} {fd : FuncData} (F : Fun K "_link_carries" "_link_carries" s__link_carries f fd) (h_blocker_of : Has P w K mg base "blocker_of" 1 (sp_blocker_of K D)) : FnOk P w K mg base CX0 2 f fd ["goal", "places", "source", "reader", "entry"] (sp__link_carries K D) := by
  refine F.ok sc__link_carries (fun vs H Q E h => len5 h) (fun cdv A outer s H vs Q E hr h => ?_)
  obtain ⟨v0, v1, v2, v3, v4, rfl, h⟩ := h
  have c_Cluster := G.c_Cluster
  have c_Net := G.c_Net
  have n_Cluster__homes := G.n_Cluster__homes
  have n_Cluster_net := G.n_Cluster_net
  have n_Cluster_size := G.n_Cluster_size
  have n_Net__linked := G.n_Net__linked
  have n_Net__links := G.n_Net__links
  have n_Net_count := G.n_Net_count
  have r_Cluster := G.r_Cluster
  have r_Net := G.r_Net
  have v_Cluster_MOST := G.v_Cluster_MOST
  have v_Net_MOST := G.v_Net_MOST
  refine ⟨_, (pss_cons (ps_if (PW.pt (pw_or (pt_cmpR (niA_K K hr) (pv 4) (pe_ix (ixA_K K hr) (pv 1) (pv 2) (fun _ _ => rfl)) (by rfl)) (pw_or1 (pt_cmpR (niA_K K hr) (pv 4) (pe_ix (ixA_K K hr) (pv 1) (pv 3) (fun _ _ => rfl)) (by rfl))))) (pss_one (ps_ret pe_bl)) pss_nil)
  (pss_one (ps_ret (pe_cmpR (op_isN) (pe_fn h_blocker_of (hr.mono (by decide)) (by rfl) (pa_cons (pv 0) (pa_cons (pv 1) (pa_cons (pv 2) (pa_cons (pv 3) (pa_cons (pv 4) pa_nil)))))) pe_non (nomark _))))), ?_⟩
  rw [show L2.start ["goal", "places", "source", "reader", "entry"] [v0, v1, v2, v3, v4] = [some v0, some v1, some v2, some v3, some v4] from rfl]
  obtain ⟨p, r, xs, s, t, e, ls, lt, rfl, rfl, rfl, rfl, rfl, hX, hI, hs, ht, q⟩ := h
  obtain ⟨ds, hd, hdl, hi⟩ := id hI
  have sl := (List.getElem?_eq_some_iff.mp hs).1
  have tl := (List.getElem?_eq_some_iff.mp ht).1
  obtain ⟨d1, h1⟩ : ∃ d, ds[s]? = some d := ⟨_, List.getElem?_eq_getElem (hdl ▸ sl)⟩
  obtain ⟨d2, h2⟩ : ∃ d, ds[t]? = some d := ⟨_, List.getElem?_eq_getElem (hdl ▸ tl)⟩
  obtain ⟨k1, hk1, v1⟩ := hi s d1 ls h1 hs
  obtain ⟨k2, hk2, v2⟩ := hi t d2 lt h2 ht
  have so : ∀ l : List Int, ((pos l e).map fun n : Nat => V.int (n : Int)).isSome = decide (e ∈ l) := fun l => by
    by_cases h : e ∈ l
    · rw [pos_some h, decide_eq_true h]; rfl
    · rw [pos_none h, decide_eq_false h]; rfl
  walk_at "w"
  refine w_ixCA (.inl (.inl hd)) (atI_nat (refs_get h1)) ?_
  walk_at "w"
  refine w_niDA (DGet.k (k := .inl e) hk1) ?_
  rw [v1, so]
  walk_at "w"
  refine w_iteN (fun m => ?_) fun m => ?_
  · walk_at "w"
    rw [show carB ls lt e = false by unfold carB; rw [decide_eq_false m]; rfl] at q
    exact q H (Ex.refl H)
  · walk_at "w"
    refine w_ixCA (.inl (.inl hd)) (atI_nat (refs_get h2)) ?_
    walk_at "w"
    refine w_niDA (DGet.k (k := .inl e) hk2) ?_
    rw [v2, so]
    walk_at "w"
    refine w_iteN (fun m2 => ?_) fun m2 => ?_
    · walk_at "w"
      rw [show carB ls lt e = false by unfold carB; rw [decide_eq_false m2, decide_eq_true m]; rfl] at q
      exact q H (Ex.refl H)
    · walk_at "w"
      refine ⟨_, _, _, _, _, rfl, p, r, xs, s, t, e, ls, lt, rfl, rfl, rfl, rfl, rfl, hX, hI, hs, ht, m, m2, fun H1 e1 => ?_⟩
      walk_at "w"
      refine ⟨rfl, ?_⟩
      rw [show carB ls lt e = decide (optI (blk ls lt e) = V.non) by
        unfold carB
        rw [decide_eq_true m, decide_eq_true m2]
        cases blk ls lt e <;> rfl] at q
      exact q H1 e1
theorem ok_carry_links (G : Glo K mg D) {f : Addr} {fd : FuncData} (F : Fun K "carry_links" "carry_links" s_carry_links f fd) (h_places_of : Has P w K mg base "places_of" 1 (sp_places_of K D)) (h_Net_links : HasP P w K mg base D.Net "links" 1 (sp_Net_links K D)) (h__link_carries : Has P w K mg base "_link_carries" 2 (sp__link_carries K D)) : FnOk P w K mg base CX0 3 f fd ["cluster", "goal", "entry"] (sp_carry_links K D) := by
  refine F.ok sc_carry_links (fun vs H Q E h => len3 h) (fun cdv A outer s H vs Q E hr h => ?_)
  obtain ⟨v0, v1, v2, rfl, h⟩ := h
  have c_Cluster := G.c_Cluster
  have c_Net := G.c_Net
  have n_Cluster__homes := G.n_Cluster__homes
  have n_Cluster_net := G.n_Cluster_net
  have n_Cluster_size := G.n_Cluster_size
  have n_Net__linked := G.n_Net__linked
  have n_Net__links := G.n_Net__links
  have n_Net_count := G.n_Net_count
  have r_Cluster := G.r_Cluster
  have r_Net := G.r_Net
  have v_Cluster_MOST := G.v_Cluster_MOST
  have v_Net_MOST := G.v_Net_MOST
  refine ⟨_, (pss_cons (ps_set (i := 3) sc_carry_links.nd rfl (.inr rfl) (pe_fn h_places_of (hr.mono (by decide)) (by rfl) (pa_cons (pv 1) pa_nil)))
  (pss_one (ps_ret (pe_lc (own := [("source", 4), ("reader", 5)]) (by rfl) sc_carry_links.nd (pi_lstK K (pe_pH h_Net_links G.c_Net (hr.mono (by decide)) (fld_K K (pv 0)))) (blkOk_by (own := [("source", 4), ("reader", 5)]) (N := ["cluster", "goal", "entry", "places", "source", "reader"]) (sc := defScope s_carry_links) (by decide +kernel)) (fun _ _ _ _ _ => (pg_tupK K (n := 2) rfl (pgs_cons (pg_name (i := 4) (by exact sc_carry_links.nd) rfl (.inl rfl)) (pgs_cons (pg_name (i := 5) (by exact sc_carry_links.nd) rfl (.inl rfl)) pgs_nil)))) (fun _ _ _ _ _ => (pts_one (tru_K K (pe_fn h__link_carries (hr.mono (by decide)) (by rfl) (pa_cons (pv 1) (pa_cons (pv 3) (pa_cons (pv 4) (pa_cons (pv 5) (pa_cons (pv 2) pa_nil)))))) (by intro _; rfl)))) (fun _ _ _ _ _ => (pe_tup (pa_cons (pv 4) (pa_cons (pv 5) pa_nil)))))))), ?_⟩
  rw [show L2.start ["cluster", "goal", "entry", "places", "source", "reader"] [v0, v1, v2] = [some v0, some v1, some v2, none, none, none] from rfl]
  obtain ⟨c, p, n, L, hs, xs, e, rfl, rfl, rfl, ⟨dx, nt, g, g1, g2, g3⟩, hX, ⟨z1, z2, z3⟩, ⟨lk1, lk2⟩, q⟩ := h
  obtain ⟨ndx, d, l, kvs, ks, g4, g5⟩ := id g3
  walk_at "w"
  refine ⟨_, rfl, p, xs, rfl, hX, z2, fun l m => ⟨(z3 l m).1, (z3 l m).2.2⟩, fun r H1 e1 hI => ?_⟩
  walk_at "w"
  refine ⟨_, rfl, nt, n, L, rfl, g3.ex e1, fun lp H2 nl e2 ⟨ps, hp, ho⟩ => ?_⟩
  walk_at "w"
  have eL : ∀ q ∈ L, xs[q.1.toNat]? = some (logAt xs q.1) ∧ xs[q.2.toNat]? = some (logAt xs q.2) := fun q m => by
    obtain ⟨_, a, b, c, d⟩ := lk1 q m
    have h1 : q.1.toNat < xs.length := by omega
    have h2 : q.2.toNat < xs.length := by omega
    unfold logAt
    rw [List.getElem?_eq_getElem h1, List.getElem?_eq_getElem h2]
    exact ⟨rfl, rfl⟩
  refine w_comp (walk_list (xs := ps.map V.ref)) (fun i vs B => ∃ qs : List Addr, vs = qs.map V.ref ∧ qs.length ≤ i ∧ Objs B qs ((carL (L.take i) xs e).map pairO)) yAt (fun H' e => ex_l e (sq_of hp)) ⟨[], rfl, Nat.le_refl _, rfl⟩ ?_ ?_
  · rintro i x acc D2 B H3 H4 hi eB ⟨qs, rfl, ql, o1⟩ bD eB1 hx hD ⟨rfl, hy⟩ -
    rw [List.length_map, ho.len, List.length_map] at hi
    obtain ⟨lk, hlk⟩ : ∃ lk, L[i]? = some lk := ⟨_, List.getElem?_eq_getElem hi⟩
    obtain ⟨a, ha, hta⟩ := ho.get (o := pairO lk) (by rw [List.getElem?_map, hlk]; rfl)
    have h4 := (refs_get ha).symm.trans hy
    cases h4
    have m := List.mem_of_getElem? hlk
    obtain ⟨_, k2, k3, k4, k5⟩ := lk1 lk m
    have e3 : Ex H2 H4 := eB.trans eB1
    refine w_gt2 (.of (e3 _ _ hta)) ⟨rfl, ?_⟩
    walk_at "w"
    refine ⟨_, _, _, _, _, rfl, p, r, xs, lk.1.toNat, lk.2.toNat, e, logAt xs lk.1, logAt xs lk.2, rfl, rfl, by rw [Int.toNat_of_nonneg k2], by rw [Int.toNat_of_nonneg k4], rfl, hX.ex ((e1.trans e2).trans e3), hI.ex (e2.trans e3), (eL lk m).1, (eL lk m).2, fun H5 e5 => ?_⟩
    walk_at "w"
    have tk : carL (L.take (i + 1)) xs e = carL (L.take i) xs e ++ (if carB (logAt xs lk.1) (logAt xs lk.2) e = true then [lk] else []) := by
      unfold carL
      rw [take_succ hlk, List.filter_append, List.filter_cons]
      rfl
    refine w_iteB (fun b => ?_) fun b => ?_
    · walk_at "w"
      (refine w_newXT (le_line (by walk_at "side")) (fun t H6 nt2 e6 ht EE_ => ?_); (try rw [← EE_]); clear EE_)
      have tD : t ≠ D2 := (ne_of_none (e5 _ _ hx) nt2).symm
      refine cyes hD e3 hx (by rw [List.length_map]; omega) (e5.trans e6) ⟨qs ++ [t], by rw [List.map_append]; rfl, by rw [List.length_append]; exact Nat.succ_le_succ ql, ?_⟩
      rw [tk, if_pos b, List.map_append]
      exact (o1.ex (ex_del (eB1.trans (e5.trans e6)) bD)).app (Objs.one ((del_ne tD).trans ht))
    · refine cno hD e3 hx e5 ⟨qs, rfl, Nat.le_succ_of_le ql, ?_⟩
      rw [tk, if_neg (by rw [b]; exact Bool.false_ne_true), List.append_nil]
      exact o1.ex (ex_del (eB1.trans e5) bD)
  · rintro D2 B H3 acc hD eB eB1 bD hx ⟨qs, rfl, ql, o1⟩
    rw [List.length_map, ho.len, List.length_map, List.take_length] at o1
    exact q D2 H3 ((e1.trans e2).trans (eB.trans eB1)) ⟨qs, hx, o1.ex eB1⟩
theorem ok_entry_roots (G : Glo K mg D) {f : Addr} {fd : FuncData} (F : Fun K "entry_roots" "entry_roots" s_entry_roots f fd) (h_Cluster_home_of : HasM P w K mg base D.Cluster "home_of" 1 (sp_Cluster_home_of K D)) : FnOk P w K mg base CX0 2 f fd ["cluster", "start", "goal", "entry"] (sp_entry_roots K D) := by
  refine F.ok sc_entry_roots (fun vs H Q E h => len4 h) (fun cdv A outer s H vs Q E hr h => ?_)
  obtain ⟨v0, v1, v2, v3, rfl, h⟩ := h
  have c_Cluster := G.c_Cluster
  have c_Net := G.c_Net
  have n_Cluster__homes := G.n_Cluster__homes
  have n_Cluster_net := G.n_Cluster_net
  have n_Cluster_size := G.n_Cluster_size
  have n_Net__linked := G.n_Net__linked
  have n_Net__links := G.n_Net__links
  have n_Net_count := G.n_Net_count
  have r_Cluster := G.r_Cluster
  have r_Net := G.r_Net
  have v_Cluster_MOST := G.v_Cluster_MOST
  have v_Net_MOST := G.v_Net_MOST
  refine ⟨_, (pss_cons (ps_setLc (i := 4) (own := [("replica", 6), ("log", 7)]) (by rfl) sc_entry_roots.nd rfl rfl (sw_true rfl rfl rfl (by decide +kernel)) (pi_enumK K (by rfl) G.g_enumerate (pa_cons (pv 1) pa_nil)) (blkOk_by (own := [("replica", 6), ("log", 7)]) (N := ["cluster", "start", "goal", "entry", "holders", "home", "replica", "log"]) (sc := defScope s_entry_roots) (by decide +kernel)) (fun _ _ _ _ _ => (pg_tupK K (n := 2) rfl (pgs_cons (pg_name (i := 6) (by exact sc_entry_roots.nd) rfl (.inl rfl)) (pgs_cons (pg_name (i := 7) (by exact sc_entry_roots.nd) rfl (.inl rfl)) pgs_nil)))) (fun _ _ _ _ _ => (pts_one (pt_cmpR (inA_K K hr) (pv 3) (pv 7) (by rfl)))) (fun _ _ _ _ _ => (pv 6)))
  (pss_cons (ps_if (tru_K K (pv 4) (by intro _; rfl)) (pss_one (ps_ret (pv 4))) pss_nil)
  (pss_cons (ps_set (i := 5) sc_entry_roots.nd rfl (.inl rfl) (pe_mH h_Cluster_home_of G.c_Cluster (hr.mono (by decide)) (pv 0) (pa_cons (pv 3) pa_nil)))
  (pss_cons (ps_if (pt_cmpR (inA_K K hr) (pv 3) (pe_ix (ixA_K K hr) (pv 2) (pv 5) (fun _ _ => rfl)) (by rfl)) (pss_one (ps_ret (pe_lst (pa_cons (pv 5) pa_nil)))) pss_nil)
  (pss_one (ps_ret (pe_lst pa_nil))))))), ?_⟩
  rw [show L2.start ["cluster", "start", "goal", "entry", "holders", "home", "replica", "log"] [v0, v1, v2, v3] = [some v0, some v1, some v2, some v3, none, none, none, none] from rfl]
  obtain ⟨c, p, r, n, L, hs, st, gl, e, rfl, rfl, rfl, rfl, hC, ⟨ps, hp, ho⟩, ⟨qs, hq, hu⟩, ⟨z1, z2, z3⟩, ⟨y1, y2, y3⟩, hh, e0, e1, q⟩ := h
  obtain ⟨cdx, cnt, cg, cg1, cg2, cg3⟩ := id hC
  walk_at "w"
  refine w_compI (walk_enum (xs := ps.map V.ref)) (fun i acc => acc = holdN st e i) yPair (fun H' e => ex_l e (sq_of hp)) rfl ?_ ?_
  · rintro i x acc D2 H2 H3 hi rfl hal e2 hx hD ⟨T, a1, b1, s1, nT, s2, h1, h2⟩ e3
    subst s1 s2
    cases h1
    rw [List.length_map, ho.len, List.length_map] at hi
    obtain ⟨lg, hlg⟩ : ∃ lg, st[i]? = some lg := ⟨_, List.getElem?_eq_getElem hi⟩
    obtain ⟨a, ha, hta⟩ := ho.get (o := lstO lg) (by rw [List.getElem?_map, hlg]; rfl)
    have h3 := (refs_get ha).symm.trans h2
    cases h3
    refine w_gt2 (.of upd_same) ⟨rfl, ?_⟩
    have hl : SqL K (upd H2 T (.tup [.int i, .ref a])) a (lg.map V.int) := .inl (.inl (e3 _ _ (e2 _ _ hta)))
    walk_at "w"
    refine w_iteB (fun m => ?_) fun m => ?_
    · walk_at "w"
      exact cyI hD e2 hx hal (by omega) e3 (holdN_yes hlg (of_decide_eq_true m)).symm
    · exact cnI hD e2 hx hal e3 (holdN_no hlg (of_decide_eq_false m)).symm
  · rintro D2 H2 acc hD e2 hx rfl hal
    rw [List.length_map, ho.len, List.length_map] at hx
    have hx' : H2 D2 = some (.lst ((hold st e).map V.int)) := hx
    walk_at "w"
    by_cases h0 : hold st e = []
    · rw [h0] at hx'
      refine w_truLA (xs := []) (.inl (.inl hx')) ?_
      rw [show (!([] : List V).isEmpty) = false from rfl]
      walk_at "w"
      have he : e.toNat < hs.length := by omega
      obtain ⟨h, hh2⟩ : ∃ h, hs[e.toNat]? = some h := ⟨_, List.getElem?_eq_getElem he⟩
      refine ⟨_, _, rfl, c, n, L, hs, e.toNat, h, rfl, by rw [Int.toNat_of_nonneg e0], hC.ex e2, hh2, ?_⟩
      obtain ⟨b1, b2⟩ := hh h (List.mem_of_getElem? hh2)
      have hl : h.toNat < gl.length := by omega
      obtain ⟨lg, hlg⟩ : ∃ lg, gl[h.toNat]? = some lg := ⟨_, List.getElem?_eq_getElem hl⟩
      obtain ⟨a, ha, hta⟩ := hu.get (o := lstO lg) (by rw [List.getElem?_map, hlg]; rfl)
      have hl2 : SqL K H2 a (lg.map V.int) := .inl (.inl (e2 _ _ hta))
      have eq : rootsF hs st gl e = if e ∈ lg then [h] else [] := by
        unfold rootsF logAt
        rw [if_pos h0, hh2]
        show (if e ∈ (gl[h.toNat]?).getD [] then _ else _) = _
        rw [hlg]
        rfl
      rw [eq] at q
      walk_at "w"
      refine w_ixN (.inl (.inl (e2 _ _ hq))) b1 (refs_get ha) ?_
      walk_at "w"
      refine w_ite (fun m => ?_) fun m => ?_
      · rw [if_pos m] at q
        walk_at "w"
        (refine w_newXL (le_line (by walk_at "side")) (fun u H3 nu e3 hu3 EE_ => ?_); (try rw [← EE_]); clear EE_)
        walk_at "w"
        exact q u H3 (fresh_back e2 nu) (e2.trans e3) hu3
      · rw [if_neg m] at q
        walk_at "w"
        (refine w_newXL (le_line (by walk_at "side")) (fun u H3 nu e3 hu3 EE_ => ?_); (try rw [← EE_]); clear EE_)
        walk_at "w"
        exact q u H3 (fresh_back e2 nu) (e2.trans e3) hu3
    · have em : ((hold st e).map V.int).isEmpty = false := by
        cases h : hold st e with
        | nil => exact absurd h h0
        | cons a l => rfl
      refine w_truLA (.inl (.inl hx')) ?_
      rw [em]
      walk_at "w"
      have eq : rootsF hs st gl e = hold st e := if_neg h0
      rw [eq] at q
      exact q D2 H2 hD e2 hx'
theorem ok__check_question (G : Glo K mg D) {f : Addr} {fd : FuncData} (F : Fun K "_check_question" "_check_question" s__check_question f fd) (h_check_logs : Has P w K mg base "check_logs" 2 (sp_check_logs K D)) (h_check_entry : Has P w K mg base "check_entry" 1 (sp_check_entry K D)) (h_prefix_fault : Has P w K mg base "prefix_fault" 1 (sp_prefix_fault K D)) : FnOk P w K mg base CX0 3 f fd ["cluster", "start", "goal", "entry"] (sp__check_question K D) := by
  refine F.ok sc__check_question (fun vs H Q E h => len4 h) (fun cdv A outer s H vs Q E hr h => ?_)
  obtain ⟨v0, v1, v2, v3, rfl, h⟩ := h
  have c_Cluster := G.c_Cluster
  have c_Net := G.c_Net
  have n_Cluster__homes := G.n_Cluster__homes
  have n_Cluster_net := G.n_Cluster_net
  have n_Cluster_size := G.n_Cluster_size
  have n_Net__linked := G.n_Net__linked
  have n_Net__links := G.n_Net__links
  have n_Net_count := G.n_Net_count
  have r_Cluster := G.r_Cluster
  have r_Net := G.r_Net
  have v_Cluster_MOST := G.v_Cluster_MOST
  have v_Net_MOST := G.v_Net_MOST
  refine ⟨_, (pss_cons (ps_expr (pe_fn h_check_logs (hr.mono (by decide)) (by rfl) (pa_cons (pv 0) (pa_cons (pv 1) pa_nil))))
  (pss_cons (ps_expr (pe_fn h_check_logs (hr.mono (by decide)) (by rfl) (pa_cons (pv 0) (pa_cons (pv 2) pa_nil))))
  (pss_cons (ps_expr (pe_fn h_check_entry (hr.mono (by decide)) (by rfl) (pa_cons (pv 0) (pa_cons (pv 3) pa_nil))))
  (pss_cons (ps_set (i := 4) sc__check_question.nd rfl (.inl rfl) (pe_fn h_prefix_fault (hr.mono (by decide)) (by rfl) (pa_cons (pv 1) (pa_cons (pv 2) pa_nil))))
  (pss_one (ps_if (pt_cmpR (op_notN) (pv 4) pe_non (nomark _)) (pss_one ps_never) pss_nil)))))), ?_⟩
  rw [show L2.start ["cluster", "start", "goal", "entry", "replica"] [v0, v1, v2, v3] = [some v0, some v1, some v2, some v3, none] from rfl]
  obtain ⟨c, p, r, n, L, hs, st, gl, e, rfl, rfl, rfl, rfl, w, ht, pr, q⟩ := h
  walk_at "w"
  refine ⟨_, _, rfl, c, p, n, L, hs, st, rfl, rfl, w.cl, w.xs, w.so, ht, fun u H1 e1 _ => ?_⟩
  walk_at "w"
  refine ⟨_, _, rfl, c, r, n, L, hs, gl, rfl, rfl, w.cl.ex e1, w.xg.ex e1, w.go, ht.ex e1, fun u2 H2 e2 _ => ?_⟩
  have w2 := w.ex (e1.trans e2)
  walk_at "w"
  refine ⟨_, _, rfl, c, n, L, hs, e, rfl, rfl, w2.cl, w2.e0, w2.e1, ?_⟩
  walk_at "w"
  refine ⟨_, _, rfl, p, r, st, gl, rfl, rfl, w2.xs, w2.xg, ?_, pr, fun l m => (w.so.2.2 l m).2.2, fun H3 e3 => ?_⟩
  · have := w.so.1
    have := w.go.1
    omega
  walk_at "w"
  refine ⟨rfl, ?_⟩
  walk_at "w"
  exact q H3 ((e1.trans e2).trans e3)
theorem ok_carry_distances (G : Glo K mg D) {f : Addr} {fd : FuncData} (F : Fun K "carry_distances" "carry_distances" s_carry_distances f fd) (h__check_question : Has P w K mg base "_check_question" 3 (sp__check_question K D)) (h_carry_steps : Has P w K mg base "carry_steps" 4 (sp_carry_steps K D)) : FnOk P w K mg base CX0 5 f fd ["cluster", "start", "goal", "entry"] (sp_carry_distances K D) := by
  refine F.ok sc_carry_distances (fun vs H Q E h => len4 h) (fun cdv A outer s H vs Q E hr h => ?_)
  obtain ⟨v0, v1, v2, v3, rfl, h⟩ := h
  have c_Cluster := G.c_Cluster
  have c_Net := G.c_Net
  have n_Cluster__homes := G.n_Cluster__homes
  have n_Cluster_net := G.n_Cluster_net
  have n_Cluster_size := G.n_Cluster_size
  have n_Net__linked := G.n_Net__linked
  have n_Net__links := G.n_Net__links
  have n_Net_count := G.n_Net_count
  have r_Cluster := G.r_Cluster
  have r_Net := G.r_Net
  have v_Cluster_MOST := G.v_Cluster_MOST
  have v_Net_MOST := G.v_Net_MOST
  refine ⟨_, (pss_cons (ps_expr (pe_fn h__check_question (hr.mono (by decide)) (by rfl) (pa_cons (pv 0) (pa_cons (pv 1) (pa_cons (pv 2) (pa_cons (pv 3) pa_nil))))))
  (pss_one (ps_ret (pe_fn h_carry_steps (hr.mono (by decide)) (by rfl) (pa_cons (pv 0) (pa_cons (pv 1) (pa_cons (pv 2) (pa_cons (pv 3) pa_nil)))))))), ?_⟩
  rw [show L2.start ["cluster", "start", "goal", "entry"] [v0, v1, v2, v3] = [some v0, some v1, some v2, some v3] from rfl]
  obtain ⟨c, p, r, n, L, hs, st, gl, e, rfl, rfl, rfl, rfl, w, ht, pr, q⟩ := h
  walk_at "w"
  refine ⟨_, _, _, _, rfl, c, p, r, n, L, hs, st, gl, e, rfl, rfl, rfl, rfl, w, ht, pr, fun H1 e1 => ?_⟩
  walk_at "w"
  exact ⟨_, _, _, _, rfl, c, p, r, n, L, hs, st, gl, e, rfl, rfl, rfl, rfl, w.ex e1, fun u H2 nu e2 hu => q u H2 (fresh_back e1 nu) (e1.trans e2) hu⟩
theorem ok_carries (G : Glo K mg D) {f : Addr} {fd : FuncData} (F : Fun K "carries" "carries" s_carries f fd) (h_check_logs : Has P w K mg base "check_logs" 2 (sp_check_logs K D)) (h_Net_has_link : HasM P w K mg base D.Net "has_link" 1 (sp_Net_has_link K D)) (h_check_entry : Has P w K mg base "check_entry" 1 (sp_check_entry K D)) (h__link_carries : Has P w K mg base "_link_carries" 2 (sp__link_carries K D)) (h_places_of : Has P w K mg base "places_of" 1 (sp_places_of K D)) : FnOk P w K mg base CX0 3 f fd ["cluster", "goal", "source", "reader", "entry"] (sp_carries K D) := by
  refine F.ok sc_carries (fun vs H Q E h => len5 h) (fun cdv A outer s H vs Q E hr h => ?_)
  obtain ⟨v0, v1, v2, v3, v4, rfl, h⟩ := h
  have c_Cluster := G.c_Cluster
  have c_Net := G.c_Net
  have n_Cluster__homes := G.n_Cluster__homes
  have n_Cluster_net := G.n_Cluster_net
  have n_Cluster_size := G.n_Cluster_size
  have n_Net__linked := G.n_Net__linked
  have n_Net__links := G.n_Net__links
  have n_Net_count := G.n_Net_count
  have r_Cluster := G.r_Cluster
  have r_Net := G.r_Net
  have v_Cluster_MOST := G.v_Cluster_MOST
  have v_Net_MOST := G.v_Net_MOST
  refine ⟨_, (pss_cons (ps_expr (pe_fn h_check_logs (hr.mono (by decide)) (by rfl) (pa_cons (pv 0) (pa_cons (pv 1) pa_nil))))
  (pss_cons (ps_if (pt_not (tru_K K (pe_mH h_Net_has_link G.c_Net (hr.mono (by decide)) (fld_K K (pv 0)) (pa_cons (pv 2) (pa_cons (pv 3) pa_nil))) (by intro _; rfl))) (pss_one ps_never) pss_nil)
  (pss_cons (ps_expr (pe_fn h_check_entry (hr.mono (by decide)) (by rfl) (pa_cons (pv 0) (pa_cons (pv 4) pa_nil))))
  (pss_one (ps_ret (pe_fn h__link_carries (hr.mono (by decide)) (by rfl) (pa_cons (pv 1) (pa_cons (pe_fn h_places_of (hr.mono (by decide)) (by rfl) (pa_cons (pv 1) pa_nil)) (pa_cons (pv 2) (pa_cons (pv 3) (pa_cons (pv 4) pa_nil))))))))))), ?_⟩
  rw [show L2.start ["cluster", "goal", "source", "reader", "entry"] [v0, v1, v2, v3, v4] = [some v0, some v1, some v2, some v3, some v4] from rfl]
  obtain ⟨c, r, n, L, hs, gl, s, t, e, rfl, rfl, rfl, rfl, rfl, hC, hX, hok, ht, lk, lm, e0, e1, q⟩ := h
  obtain ⟨dx, nt, g, g1, g2, g3⟩ := id hC
  obtain ⟨z1, z2, z3⟩ := id hok
  obtain ⟨k1, k2, k3, k4, k5⟩ := lk
  obtain ⟨ndx, d, l, kvs, ks, g4, g5⟩ := id g3
  walk_at "w"
  refine ⟨_, _, rfl, c, r, n, L, hs, gl, rfl, rfl, hC, hX, hok, ht, fun u H1 x1 _ => ?_⟩
  walk_at "w"
  refine ⟨_, _, _, rfl, nt, n, L, s, t, rfl, rfl, rfl, g3.ex x1, fun H2 x2 => ?_⟩
  rw [decide_eq_true lm]
  walk_at "w"
  refine ⟨_, _, rfl, c, n, L, hs, e, rfl, rfl, hC.ex (x1.trans x2), e0, e1, ?_⟩
  walk_at "w"
  refine ⟨_, rfl, r, gl, rfl, hX.ex (x1.trans x2), z2, fun l m => ⟨(z3 l m).1, (z3 l m).2.2⟩, fun v H3 x3 hI => ?_⟩
  walk_at "w"
  have h1 : s.toNat < gl.length := by omega
  have h2 : t.toNat < gl.length := by omega
  refine ⟨_, _, _, _, _, rfl, r, v, gl, s.toNat, t.toNat, e, logAt gl s, logAt gl t, rfl, rfl, by rw [Int.toNat_of_nonneg k2], by rw [Int.toNat_of_nonneg k4], rfl, hX.ex ((x1.trans x2).trans x3), hI, ?_, ?_, fun H4 x4 => q H4 (((x1.trans x2).trans x3).trans x4)⟩
  · unfold logAt; rw [List.getElem?_eq_getElem h1]; rfl
  · unfold logAt; rw [List.getElem?_eq_getElem h2]; rfl
theorem ok_carry_steps (G : Glo K mg D) {f : Addr} {fd : FuncData} (F : Fun K "carry_steps" "carry_steps" s_carry_steps f fd) (h_entry_roots : Has P w K mg base "entry_roots" 2 (sp_entry_roots K D)) (h_carry_links : Has P w K mg base "carry_links" 3 (sp_carry_links K D)) : FnOk P w K mg base CX0 4 f fd ["cluster", "start", "goal", "entry"] (sp_carry_steps K D) := by
  refine F.ok sc_carry_steps (fun vs H Q E h => len4 h) (fun cdv A outer s H vs Q E hr h => ?_)
  obtain ⟨v0, v1, v2, v3, rfl, h⟩ := h
  have c_Cluster := G.c_Cluster
  have c_Net := G.c_Net
  have n_Cluster__homes := G.n_Cluster__homes
  have n_Cluster_net := G.n_Cluster_net
  have n_Cluster_size := G.n_Cluster_size
  have n_Net__linked := G.n_Net__linked
  have n_Net__links := G.n_Net__links
  have n_Net_count := G.n_Net_count
  have r_Cluster := G.r_Cluster
  have r_Net := G.r_Net
  have v_Cluster_MOST := G.v_Cluster_MOST
  have v_Net_MOST := G.v_Net_MOST
  refine ⟨_, (pss_cons (ps_set (i := 4) sc_carry_steps.nd rfl (.inl rfl) (pe_op op_mulA (pe_lst (pa_cons pe_non pa_nil)) (pe_callB (len_K K) (by rfl) G.g_len (by decide +kernel) (pa_cons (pv 2) pa_nil))))
  (pss_cons (ps_set (i := 5) sc_carry_steps.nd rfl (.inl rfl) (pe_fn h_entry_roots (hr.mono (by decide)) (by rfl) (pa_cons (pv 0) (pa_cons (pv 1) (pa_cons (pv 2) (pa_cons (pv 3) pa_nil))))))
  (pss_cons (ps_for PassesOwn.never rfl (pi_lstK K (pv 5)) (pg_name (i := 6) (by exact sc_carry_steps.nd) rfl (.inl rfl)) (pss_one (ps_asg pe_int (pg_sub (pv 4) (pv 6) (setA hr)))))
  (pss_cons (ps_set (i := 7) sc_carry_steps.nd rfl (.inl rfl) (pe_fn h_carry_links (hr.mono (by decide)) (by rfl) (pa_cons (pv 0) (pa_cons (pv 2) (pa_cons (pv 3) pa_nil)))))
  (pss_cons (ps_set (i := 8) sc_carry_steps.nd rfl (.inl rfl) pe_int)
  (pss_cons (ps_while PassesOwn.never (tru_K K (pv 5) (by intro _; rfl)) (pss_cons (ps_set (i := 8) sc_carry_steps.nd rfl (.inl rfl) (pe_op op_addA (pv 8) pe_int))
  (pss_cons (ps_set (i := 5) sc_carry_steps.nd rfl (.inl rfl) (pe_lst pa_nil))
  (pss_one (ps_for PassesOwn.never rfl (pi_lstK K (pv 7)) (pg_tupK K (n := 2) rfl (pgs_cons (pg_name (i := 9) (by exact sc_carry_steps.nd) rfl (.inl rfl)) (pgs_cons (pg_name (i := 10) (by exact sc_carry_steps.nd) rfl (.inl rfl)) pgs_nil))) (pss_one (ps_if (PW.pt (pw_and (pt_cmpR (eq_K K hr.units) (pe_ix (ixA_K K hr) (pv 4) (pv 9) (fun _ _ => rfl)) (pe_op op_sub (pv 8) pe_int) (nomark _)) (pw_and1 (pt_cmpR (op_isN) (pe_ix (ixA_K K hr) (pv 4) (pv 10) (fun _ _ => rfl)) pe_non (nomark _))))) (pss_cons (ps_asg (pv 8) (pg_sub (pv 4) (pv 10) (setA hr)))
  (pss_one (ps_expr (bm_K K PySem.F.plainAttrs_list PySem.F.slot_list_append PySem.F.type_list_append mt_append (pv 5) (pa_cons (pv 10) pa_nil))))) pss_nil)))))))
  (pss_one (ps_ret (pv 4))))))))), ?_⟩
  rw [show L2.start ["cluster", "start", "goal", "entry", "steps", "front", "replica", "carrying", "distance", "source", "reader"] [v0, v1, v2, v3] = [some v0, some v1, some v2, some v3, none, none, none, none, none, none, none] from rfl]
  obtain ⟨c, p, r, n, L, hs, st, gl, e, rfl, rfl, rfl, rfl, w, q⟩ := h
  obtain ⟨rs, hr, hro⟩ := id w.xg
  have gz := w.go.1
  have gz2 := w.go.2.1
  walk_at "w"
  (refine w_newXL (le_line (by walk_at "side")) (fun u H1 nu e1 hu EE_ => ?_); (try rw [← EE_]); clear EE_)
  walk_at "w"
  refine w_lenR (.inl (.inl (e1 _ _ hr))) ?_
  rw [List.length_map, hro.len, List.length_map]
  refine w_rep hu (by omega) (by simp; omega) (by omega) fun s H2 ns e2 hs2 => ?_
  rw [Int.toNat_natCast, rep_one] at hs2
  walk_at "w"
  have w2 := w.ex (e1.trans e2)
  refine ⟨_, _, _, _, rfl, c, p, r, n, L, hs, st, gl, e, rfl, rfl, rfl, rfl, w2.cl, w2.xs, w2.xg, w2.so, w2.go, w2.ho, w2.e0, w2.e1, fun fr H3 nf e3 hf => ?_⟩
  have rb := roots_ok w
  have gz3 := rb
  generalize hR : rootsF hs st gl e = R at hf rb
  have sf : fr ≠ s := (ne_of_none hs2 nf).symm
  walk_at "w"
  refine w_loop (walk_list (K := K) (a := fr) (xs := R.map V.int)) (fun i σ H' => ∃ x, σ = [some (.ref c), some (.ref p), some (.ref r), some (.int e), some (.ref s), some (.ref fr), x, none, none, none, none] ∧ Ex H1 H' ∧ H' s = some (.lst ((st0 gl.length (R.take i)).map optV)) ∧ H' fr = some (lstO R))
    ⟨_, rfl, e2.trans e3, e3 _ _ hs2, hf⟩ (fun i σ H' _ ⟨x, _, _, _, e⟩ => sq_of e) ?_ ?_
  · rintro i x σ H4 H4' hi ⟨x1, rfl, e4, hs4, hf4⟩ ⟨rfl, hx⟩
    obtain ⟨a, ha, rfl⟩ := get_map hx
    obtain ⟨b1, b2⟩ := rb a (List.mem_of_getElem? ha)
    walk_at "w"
    refine w_setCA (j := a.toNat) hs4 (ixN_nat b1 (by rw [List.length_map, st0_len]; exact b2)) fun H5 c5 hs5 => ?_
    walk_at "w"
    refine ⟨_, rfl, c5.ex e4 ns, ?_, (c5 fr sf).trans hf4⟩
    rw [hs5, take_succ ha, st0_snoc, List.map_set]
    rfl
  · rintro σ H4 ⟨x1, rfl, e4, hs4, hf4⟩
    rw [List.length_map, List.take_length] at hs4
    have w4 := w.ex (e1.trans e4)
    walk_at "w"
    refine ⟨_, _, _, rfl, c, r, n, L, hs, gl, e, rfl, rfl, rfl, w4.cl, w4.xg, w4.go, w4.lo, fun cl H5 e5 ⟨ps, hp, ho⟩ => ?_⟩
    have hs5 := e5 _ _ hs4
    have cs : cl ≠ s := by
      rintro rfl
      rw [hs5] at hp
      have z : (st0 gl.length R).map optV = ps.map V.ref := by
        have z := Option.some.inj hp
        injection z
      cases hq : (st0 gl.length R) with
      | nil =>
        have sz := st0_len (n := gl.length) (rs := R)
        rw [hq] at sz
        exact no_zero w sz.symm
      | cons o l =>
        rw [hq] at z
        cases ps with
        | nil => cases z
        | cons a b => cases o <;> cases z
    have sp : s ∉ ps := fun m => by
      obtain ⟨i, hi⟩ := List.mem_iff_getElem?.mp m
      obtain ⟨o, ho2, ho3⟩ := ho.back hi
      rw [List.getElem?_map] at ho2
      rw [hs5] at ho3
      cases ho3
      cases hz : (carL L gl e)[i]? with
      | none => rw [hz] at ho2; cases ho2
      | some z => rw [hz] at ho2; cases ho2
    have hB : Prs (del s H5) cl (carL L gl e) := ⟨ps, (del_ne cs).trans hp, by
      unfold Objs at *
      rw [← ho]
      exact List.map_congr_left fun a ha => del_ne fun z => sp (z ▸ ha)⟩
    have cok : ∀ q ∈ carL L gl e, LinkOk n q := fun q m => w.lo.1 q (List.mem_filter.mp m).1
    have Hex : Ex H1 (del s H5) := ex_del (e4.trans e5) ns
    generalize hCL : carL L gl e = CL at hB cok
    rw [hR, hCL] at q
    clear hp ho sp
    walk_at "w"
    refine w_while (fun m σ H' => ∃ k stt fl f2 x6 x9 x10, σ = [some (.ref c), some (.ref p), some (.ref r), some (.int e), some (.ref s), some (.ref f2), x6, some (.ref cl), some (.int (k : Nat)), x9, x10] ∧ Ex (del s H5) H' ∧ H' s = some (.lst (stt.map optV)) ∧
      H' f2 = some (lstO fl) ∧ WhI gl.length k (st0 gl.length R) stt CL fl ∧ m = 2 * nones stt + (if fl = [] then 0 else 1)) _ ⟨0, _, R, fr, _, _, _, rfl, del_ex, hs5, e5 _ _ hf4, whI_start rb, rfl⟩ ?_
    rintro m σ H6 ⟨k, stt, fl, f2, x6, x9, x10, rfl, e6, hs6, hf6, wi, rfl⟩
    walk_at "w"
    refine w_truLA (.inl (.inl hf6)) ?_
    by_cases hfl : fl = []
    · subst hfl
      rw [show (!((([] : List Int).map V.int).isEmpty)) = false from rfl]
      walk_at "w"
      refine q s H6 (fresh_back e1 ns) (e1.trans (Hex.trans e6)) ?_
      rw [hs6, wi.done]
      rfl
    · have em : (!((fl.map V.int).isEmpty)) = true := by
        cases fl with
        | nil => exact absurd rfl hfl
        | cons a l => rfl
      rw [em]
      walk_at "w"
      refine w_wbody ?_
      walk_at "w"
      (refine w_newXL (le_line (by walk_at "side")) (fun f3 H7 n7 e7 hf7 EE_ => ?_); (try rw [← EE_]); clear EE_)
      have f3s : f3 ≠ s := (ne_of_none hs6 n7).symm
      have f3B : del s H5 f3 = none := fresh_back e6 n7
      walk_at "w"
      obtain ⟨ps, hp, ho⟩ := hB
      refine w_lstI (.inl (.inl (e7 _ _ (e6 _ _ hp)))) ?_
      refine w_loop (walk_list (K := K) (a := cl) (xs := ps.map V.ref)) (fun i σ H' => ∃ x9 x10 st' fl', σ = [some (.ref c), some (.ref p), some (.ref r), some (.int e), some (.ref s), some (.ref f3), x6, some (.ref cl), some (.int ((k : Int) + 1)), x9, x10] ∧ Ex (del s H5) H' ∧ H' s = some (.lst (st'.map optV)) ∧
        H' f3 = some (lstO fl') ∧ SwI k stt st' fl' ∧ st' = sweep k stt (CL.take i)) ⟨_, _, _, [], rfl, e6.trans e7, e7 _ _ hs6, hf7, .start wi.le, rfl⟩ (fun i σ H' _ ⟨_, _, _, _, _, e, _⟩ => sq_of (e _ _ hp)) ?_ ?_
      · rintro i x σ H8 H8' hi ⟨y9, y10, st', fl', rfl, e8, hs8, hf8, sw, es⟩ ⟨rfl, hy⟩
        rw [List.length_map, ho.len, List.length_map] at hi
        obtain ⟨lk, hlk⟩ : ∃ lk, CL[i]? = some lk := ⟨_, List.getElem?_eq_getElem hi⟩
        obtain ⟨a, ha, hta⟩ := ho.get (o := pairO lk) (by rw [List.getElem?_map, hlk]; rfl)
        have h4 := (refs_get ha).symm.trans hy
        cases h4
        obtain ⟨_, k2, k3, k4, k5⟩ := cok lk (List.mem_of_getElem? hlk)
        have sl : st'.length = gl.length := sw.len.trans wi.len
        obtain ⟨o1, ho1⟩ : ∃ o, st'[lk.1.toNat]? = some o := ⟨_, List.getElem?_eq_getElem (by omega)⟩
        obtain ⟨o2, ho2⟩ : ∃ o, st'[lk.2.toNat]? = some o := ⟨_, List.getElem?_eq_getElem (by omega)⟩
        have nxt : sweep k stt (CL.take (i + 1)) = sw1 k st' lk := by
          rw [take_succ hlk, es]
          unfold sweep
          rw [List.foldl_append]
          rfl
        have stay : ¬ (st'[lk.1.toNat]? = some (some k) ∧ st'[lk.2.toNat]? = some none) → st' = sweep k stt (CL.take (i + 1)) := fun z => by rw [nxt]; exact (if_neg z).symm
        refine w_gt2 (.of (e8 _ _ hta)) ?_
        walk_at "w"
        refine w_ixN (.inl (.inl hs8)) k2 (by rw [List.getElem?_map, ho1]; rfl) ?_
        walk_at "w"
        cases o1 with
        | none =>
          refine w_eqNI ?_
          walk_at "w"
          exact ⟨_, _, _, _, rfl, e8, hs8, hf8, sw, stay fun z => by rw [ho1] at z; cases z.1⟩
        | some v =>
          refine w_eqI ?_
          walk_at "w"
          refine w_ite (fun hv => ?_) fun hv => ?_
          · have hv2 : v = k := by omega
            subst hv2
            walk_at "w"
            refine w_ixN (.inl (.inl hs8)) k4 (by rw [List.getElem?_map, ho2]; rfl) ?_
            walk_at "w"
            refine ⟨rfl, ?_⟩
            walk_at "w"
            cases o2 with
            | none =>
              show if decide (V.non = V.non) = true then _ else _
              rw [decide_eq_true rfl]
              walk_at "w"
              refine w_setCA (j := lk.2.toNat) hs8 (ixN_nat k4 (by rw [List.length_map, sl]; omega)) fun H9 c9 hs9 => ?_
              have hf9 : H9 f3 = some (lstO fl') := (c9 f3 f3s).trans hf8
              have e9 : Ex (del s H5) H9 := c9.ex e8 del_self
              have fz := sw.cnt
              have nz : nones stt ≤ gl.length := by rw [← wi.len]; exact List.countP_le_length
              walk_at "w"
              refine w_appI hf9 (by omega) fun HA cA hfA => ?_
              walk_at "w"
              refine ⟨_, _, _, _, rfl, cA.ex e9 f3B, ?_, hfA, sw.step ho2, ?_⟩
              · rw [cA s f3s.symm, hs9, List.map_set]
                rfl
              · rw [nxt]
                exact (if_pos ⟨ho1, ho2⟩).symm
            | some v2 =>
              show if decide (V.int v2 = V.non) = true then _ else _
              rw [decide_eq_false (by intro z; cases z)]
              walk_at "w"
              exact ⟨_, _, _, _, rfl, e8, hs8, hf8, sw, stay fun z => by rw [ho2] at z; cases z.2⟩
          · exact ⟨_, _, _, _, rfl, e8, hs8, hf8, sw, stay fun z => hv (by rw [ho1] at z; have := z.1; cases this; omega)⟩
      · rintro σ H8 ⟨y9, y10, st', fl', rfl, e8, hs8, hf8, sw, es⟩
        rw [List.length_map, ho.len, List.length_map, List.take_length] at es
        walk_at "w"
        refine ⟨2 * nones st' + (if fl' = [] then 0 else 1), ?_, k + 1, st', fl', f3, _, _, _, rfl, e8, hs8, hf8, wi.next hfl sw es, rfl⟩
        rw [if_neg hfl]
        have := sw.cnt
        by_cases hf' : fl' = []
        · rw [if_pos hf']
          omega
        · rw [if_neg hf']
          have : 0 < fl'.length := List.length_pos_iff.mpr hf'
          omega
theorem ok_carried_to (G : Glo K mg D) {f : Addr} {fd : FuncData} (F : Fun K "carried_to" "carried_to" s_carried_to f fd) (h__check_question : Has P w K mg base "_check_question" 3 (sp__check_question K D)) (h_carry_steps : Has P w K mg base "carry_steps" 4 (sp_carry_steps K D)) : FnOk P w K mg base CX0 5 f fd ["cluster", "start", "goal", "entry"] (sp_carried_to K D) := by
  refine F.ok sc_carried_to (fun vs H Q E h => len4 h) (fun cdv A outer s H vs Q E hr h => ?_)
  obtain ⟨v0, v1, v2, v3, rfl, h⟩ := h
  have c_Cluster := G.c_Cluster
  have c_Net := G.c_Net
  have n_Cluster__homes := G.n_Cluster__homes
  have n_Cluster_net := G.n_Cluster_net
  have n_Cluster_size := G.n_Cluster_size
  have n_Net__linked := G.n_Net__linked
  have n_Net__links := G.n_Net__links
  have n_Net_count := G.n_Net_count
  have r_Cluster := G.r_Cluster
  have r_Net := G.r_Net
  have v_Cluster_MOST := G.v_Cluster_MOST
  have v_Net_MOST := G.v_Net_MOST
  refine ⟨_, (pss_cons (ps_expr (pe_fn h__check_question (hr.mono (by decide)) (by rfl) (pa_cons (pv 0) (pa_cons (pv 1) (pa_cons (pv 2) (pa_cons (pv 3) pa_nil))))))
  (pss_cons (ps_set (i := 4) sc_carried_to.nd rfl (.inl rfl) (pe_fn h_carry_steps (hr.mono (by decide)) (by rfl) (pa_cons (pv 0) (pa_cons (pv 1) (pa_cons (pv 2) (pa_cons (pv 3) pa_nil))))))
  (pss_one (ps_ret (pe_lc (own := [("replica", 5), ("distance", 6)]) (by rfl) sc_carried_to.nd (pi_enumK K (by rfl) G.g_enumerate (pa_cons (pv 4) pa_nil)) (blkOk_by (own := [("replica", 5), ("distance", 6)]) (N := ["cluster", "start", "goal", "entry", "steps", "replica", "distance"]) (sc := defScope s_carried_to) (by decide +kernel)) (fun _ _ _ _ _ => (pg_tupK K (n := 2) rfl (pgs_cons (pg_name (i := 5) (by exact sc_carried_to.nd) rfl (.inl rfl)) (pgs_cons (pg_name (i := 6) (by exact sc_carried_to.nd) rfl (.inl rfl)) pgs_nil)))) (fun _ _ _ _ _ => (pts_one (pt_cmpR (op_notN) (pv 6) pe_non (nomark _)))) (fun _ _ _ _ _ => (pv 5))))))), ?_⟩
  rw [show L2.start ["cluster", "start", "goal", "entry", "steps", "replica", "distance"] [v0, v1, v2, v3] = [some v0, some v1, some v2, some v3, none, none, none] from rfl]
  obtain ⟨c, p, r, n, L, hs, st, gl, e, rfl, rfl, rfl, rfl, w, ht, pr, q⟩ := h
  walk_at "w"
  refine ⟨_, _, _, _, rfl, c, p, r, n, L, hs, st, gl, e, rfl, rfl, rfl, rfl, w, ht, pr, fun H1 e1 => ?_⟩
  walk_at "w"
  refine ⟨_, _, _, _, rfl, c, p, r, n, L, hs, st, gl, e, rfl, rfl, rfl, rfl, w.ex e1, fun u H2 nu e2 hu => ?_⟩
  walk_at "w"
  generalize hS : stepsF gl.length (carL L gl e) (rootsF hs st gl e) = S at hu q
  have sl : S.length = gl.length := by rw [← hS]; exact run_len.trans st0_len
  have gz2 := w.go.2.1
  refine w_compI (walk_enum (xs := S.map optV)) (fun i acc => acc = someIx S i) yPair (fun H' e => ex_l e (sq_of hu)) rfl ?_ ?_
  · rintro i x acc D2 H3 H4 hi rfl hal e3 hx hD ⟨T, a1, b1, s1, nT, s2, h1, h2⟩ e4
    subst s1 s2
    cases h1
    rw [List.length_map] at hi
    obtain ⟨o, ho⟩ : ∃ o, S[i]? = some o := ⟨_, List.getElem?_eq_getElem hi⟩
    have h3 : (S.map optV)[i]? = some b1 := h2
    rw [List.getElem?_map, ho] at h3
    cases h3
    refine w_gt2 (.of upd_same) ⟨rfl, ?_⟩
    walk_at "w"
    refine ⟨rfl, ?_⟩
    walk_at "w"
    cases o with
    | none =>
      exact cnI hD e3 hx hal e4 (someIx_no ho).symm
    | some v =>
      refine w_iteN (fun _ => ?_) fun z => by cases z
      walk_at "w"
      exact cyI hD e3 hx hal (by omega) e4 (someIx_yes ho).symm
  · rintro D2 H3 acc hD e3 hx rfl hal
    rw [List.length_map, sl] at hx
    exact q D2 H3 (fresh_back (e1.trans e2) hD) ((e1.trans e2).trans e3) hx
theorem ok__law_box (G : Glo K mg D) {f : Addr} {fd : FuncData} (F : Fun K "_law_box" "_law_box" s__law_box f fd) : FnOk P w K mg base CX0 1 f fd ["_law_script"] (low__law_box K D) := by
  refine F.ok sc__law_box (fun vs H Q E h => len1 h) (fun cdv A outer s H vs Q E hr h => ?_)
  obtain ⟨v0, rfl, h⟩ := h
  have c_Cluster := G.c_Cluster
  have c_Net := G.c_Net
  have n_Cluster__homes := G.n_Cluster__homes
  have n_Cluster_net := G.n_Cluster_net
  have n_Cluster_size := G.n_Cluster_size
  have n_Net__linked := G.n_Net__linked
  have n_Net__links := G.n_Net__links
  have n_Net_count := G.n_Net_count
  have r_Cluster := G.r_Cluster
  have r_Net := G.r_Net
  have v_Cluster_MOST := G.v_Cluster_MOST
  have v_Net_MOST := G.v_Net_MOST
  refine ⟨_, (pss_one (ps_ret (pe_lst (pa_cons (pe_lc (own := [("_law_cell", 1)]) (by rfl) sc__law_box.nd (pi_lstK K (pe_slice (sl_K K) (pv 0) po_none (po_some pe_int))) (blkOk_by (own := [("_law_cell", 1)]) (N := ["_law_script", "_law_cell"]) (sc := defScope s__law_box) (by decide +kernel)) (fun _ _ _ _ _ => (pg_name (i := 1) (by exact sc__law_box.nd) rfl (.inl rfl))) (fun _ _ _ _ _ => pts_nil) (fun _ _ _ _ _ => (pe_callTy (int_K K) (by rfl) G.g_int (by decide +kernel) (pa_cons (pv 1) pa_nil)))) (pa_cons pe_int (pa_cons pe_int (pa_cons pe_int pa_nil))))))), ?_⟩
  rw [show L2.start ["_law_script", "_law_cell"] [v0] = [some v0, none] from rfl]
  obtain ⟨p, ns, rfl, hS, hl, q⟩ := h
  walk_at "w"
  refine w_slHi (by walk_at "sq") (by omega) fun p1 H1 n1 e1 h1 => ?_
  walk_at "w"
  refine w_compI (walk_list (xs := (ns.take (63 : Int).toNat).map V.int)) (fun _ _ => True) yAt (fun H' e => sq_of (e _ _ h1)) trivial ?_ ?_
  · rintro i x acc D H2 H3 hi - hal e2 hx hD ⟨rfl, hy⟩ -
    obtain ⟨z, hz, rfl⟩ := get_map hy
    refine ⟨rfl, ?_⟩
    walk_at "w"
    refine cyI hD e2 hx hal ?_ (Ex.refl _) trivial
    rw [List.length_map, List.length_take] at hi
    omega
  · rintro D H2 acc hD e2 hx - hal
    walk_at "w"
    (refine w_newXL (le_line (by walk_at "side")) (fun t H4 n4 e4 h4 EE_ => ?_); (try rw [← EE_]); clear EE_)
    exact q t D _ acc H4 (fresh_back (e1.trans e2) n4) ((e1.trans e2).trans e4) h4 ⟨_, _, _, rfl, by decide⟩ (e4 _ _ hx)
theorem ok__law_take (G : Glo K mg D) {f : Addr} {fd : FuncData} (F : Fun K "_law_take" "_law_take" s__law_take f fd) : FnOk P w K mg base CX0 1 f fd ["_law_box_here", "_law_size"] (low__law_take K D) := by
  refine F.ok sc__law_take (fun vs H Q E h => len2 h) (fun cdv A outer s H vs Q E hr h => ?_)
  obtain ⟨v0, v1, rfl, h⟩ := h
  have c_Cluster := G.c_Cluster
  have c_Net := G.c_Net
  have n_Cluster__homes := G.n_Cluster__homes
  have n_Cluster_net := G.n_Cluster_net
  have n_Cluster_size := G.n_Cluster_size
  have n_Net__linked := G.n_Net__linked
  have n_Net__links := G.n_Net__links
  have n_Net_count := G.n_Net_count
  have r_Cluster := G.r_Cluster
  have r_Net := G.r_Net
  have v_Cluster_MOST := G.v_Cluster_MOST
  have v_Net_MOST := G.v_Net_MOST
  refine ⟨_, (pss_cons (ps_if (pt_cmpR (op_gt) (pe_ix (ixA_K K hr) (pv 0) pe_int (fun _ _ => rfl)) pe_int (nomark _)) (pss_cons (ps_set (i := 2) sc__law_take.nd rfl (.inl rfl) (pe_op op_modA (pe_callTy (int_K K) (by rfl) G.g_int (by decide +kernel) (pa_cons (pe_ix (ixA_K K hr) (pv 0) pe_int (fun _ _ => rfl)) pa_nil)) (pv 1)))
  (pss_cons (ps_asg (pe_op op_fdivA (pe_ix (ixA_K K hr) (pv 0) pe_int (fun _ _ => rfl)) (pv 1)) (pg_sub (pv 0) pe_int (setA hr)))
  (pss_one (ps_ret (pv 2))))) pss_nil)
  (pss_cons (ps_set (i := 3) sc__law_take.nd rfl (.inl rfl) pe_int)
  (pss_cut (ps_if (pt_cmpR (op_lt) (pe_ix (ixA_K K hr) (pv 0) pe_int (fun _ _ => rfl)) (pe_callB (len_K K) (by rfl) G.g_len (by decide +kernel) (pa_cons (pe_ix (ixA_K K hr) (pv 0) pe_int (fun _ _ => rfl)) pa_nil)) (nomark _)) (pss_one (ps_set (i := 3) sc__law_take.nd rfl (.inl rfl) (pe_ix (ixA_K K hr) (pe_ix (ixA_K K hr) (pv 0) pe_int (fun _ _ => rfl)) (pe_ix (ixA_K K hr) (pv 0) pe_int (fun _ _ => rfl)) (fun _ _ => rfl)))) pss_nil)
  (pss_cons (ps_asg (pe_op op_addA (pe_ix (ixA_K K hr) (pv 0) pe_int (fun _ _ => rfl)) pe_int) (pg_sub (pv 0) pe_int (setA hr)))
  (pss_cons (ps_if (pt_cmpR (op_ge) (pv 3) (pe_powC (z := 1000000000000000000) (by decide +kernel) ⟨by decide, by decide, by decide⟩) (nomark _)) (pss_cons (ps_asg (pe_op op_fdivA (pv 3) (pv 1)) (pg_sub (pv 0) pe_int (setA hr)))
  (pss_one (ps_ret (pe_op op_modA (pe_callTy (int_K K) (by rfl) G.g_int (by decide +kernel) (pa_cons (pv 3) pa_nil)) (pv 1))))) pss_nil)
  (pss_cons (ps_asg (pe_op op_modA (pe_callTy (int_K K) (by rfl) G.g_int (by decide +kernel) (pa_cons (pe_op op_addA (pe_op op_addA (pe_op op_mulA (pe_ix (ixA_K K hr) (pv 0) pe_int (fun _ _ => rfl)) pe_int) (pe_op op_modA (pe_callTy (int_K K) (by rfl) G.g_int (by decide +kernel) (pa_cons (pv 3) pa_nil)) pe_int)) (pe_op op_mulA pe_int (pe_ix (ixA_K K hr) (pv 0) pe_int (fun _ _ => rfl)))) pa_nil)) pe_int) (pg_sub (pv 0) pe_int (setA hr)))
  (pss_one (ps_ret (pe_op op_modA (pe_callTy (int_K K) (by rfl) G.g_int (by decide +kernel) (pa_cons (pe_op op_fdivA (pe_op op_modA (pe_callTy (int_K K) (by rfl) G.g_int (by decide +kernel) (pa_cons (pe_op op_mulA (pe_ix (ixA_K K hr) (pv 0) pe_int (fun _ _ => rfl)) pe_int) pa_nil)) pe_int) pe_int) pa_nil)) (pv 1)))))))))), ?_⟩
  rw [show L2.start ["_law_box_here", "_law_size", "_law_digit", "_law_cell"] [v0, v1] = [some v0, some v1, none, none] from rfl]
  obtain ⟨t, n, ns, xs, m, rfl, rfl, h1, h2, h3, h4, h5, q⟩ := h
  have nt := tg_ne h1 h2 h3
  obtain ⟨pl, he, co, rfl, hpl⟩ := h2
  have lo : ∀ z : Int, 0 ≤ z % m := fun z => Int.emod_nonneg _ (by omega)
  have hi : ∀ z : Int, z % m < m := fun z => Int.emod_lt_of_pos _ h4
  have h3' := sq_of (K := K) h3
  walk_at "w"
  refine w_ite (fun hc => ?_) (fun hc => ?_)
  · walk_at "w"
    refine w_setCA h1 rfl fun H2 c2 g2 => ?_
    walk_at "w"
    exact q _ H2 _ (lo _) (hi _) c2 g2 ⟨_, _, _, rfl, hpl⟩
  · walk_at "w"
    refine w_cut (fun σ H' => ∃ z : Int, σ = [some (.ref t), some (.int m), none, some (.int z)] ∧ H' = H) ?_ ?_
    · walk_at "w"
      refine w_ite (fun hc => ?_) (fun hc => ?_)
      · walk_at "w"
        refine w_ixIA (by walk_at "sq") hpl (by omega) fun z hz => ?_
        walk_at "w"
        exact ⟨_, rfl, rfl⟩
      · walk_at "w"
        exact ⟨_, rfl, rfl⟩
    · rintro σ H1 ⟨z, rfl, rfl⟩
      walk_at "w"
      refine w_setCA h1 rfl fun H2 c2 g2 => ?_
      walk_at "w"
      refine w_ite (fun hc => ?_) (fun hc => ?_)
      · walk_at "w"
        refine w_setCA g2 rfl fun H3 c3 g3 => ?_
        walk_at "w"
        exact q _ H3 _ (lo _) (hi _) (c2.trans c3) g3 ⟨_, _, _, rfl, by omega⟩
      · walk_at "w"
        refine w_setCA g2 rfl fun H3 c3 g3 => ?_
        walk_at "w"
        exact q _ H3 _ (lo _) (hi _) (c2.trans c3) g3 ⟨_, _, _, rfl, by omega⟩
theorem ok__law_shuffled (G : Glo K mg D) {f : Addr} {fd : FuncData} (F : Fun K "_law_shuffled" "_law_shuffled" s__law_shuffled f fd) (h__law_take : Has P w K mg base "_law_take" 1 (sp__law_take K D)) : FnOk P w K mg base CX0 2 f fd ["_law_box_here", "_law_items"] (sp__law_shuffled K D) := by
  refine F.ok sc__law_shuffled (fun vs H Q E h => len2 h) (fun cdv A outer s H vs Q E hr h => ?_)
  obtain ⟨v0, v1, rfl, h⟩ := h
  have c_Cluster := G.c_Cluster
  have c_Net := G.c_Net
  have n_Cluster__homes := G.n_Cluster__homes
  have n_Cluster_net := G.n_Cluster_net
  have n_Cluster_size := G.n_Cluster_size
  have n_Net__linked := G.n_Net__linked
  have n_Net__links := G.n_Net__links
  have n_Net_count := G.n_Net_count
  have r_Cluster := G.r_Cluster
  have r_Net := G.r_Net
  have v_Cluster_MOST := G.v_Cluster_MOST
  have v_Net_MOST := G.v_Net_MOST
  refine ⟨_, (pss_cons (ps_set (i := 2) sc__law_shuffled.nd rfl (.inl rfl) (pe_callTy (lst_K K) (by rfl) G.g_list (by decide +kernel) (pa_cons (pv 1) pa_nil)))
  (pss_cons (ps_set (i := 3) sc__law_shuffled.nd rfl (.inl rfl) (pe_lst pa_nil))
  (pss_cons (ps_for PassesOwn.never rfl (pi_range1 (by rfl) G.g_range (pa_cons (pe_callB (len_K K) (by rfl) G.g_len (by decide +kernel) (pa_cons (pv 1) pa_nil)) pa_nil)) (pg_name (i := 4) (by exact sc__law_shuffled.nd) rfl (.inl rfl)) (pss_one (ps_expr (bm_K K PySem.F.plainAttrs_list PySem.F.slot_list_append PySem.F.type_list_append mt_append (pv 3) (pa_cons (bm_K K PySem.F.plainAttrs_list PySem.F.slot_list_pop PySem.F.type_list_pop mt_popAt (pv 2) (pa_cons (pe_fn h__law_take (hr.mono (by decide)) (by rfl) (pa_cons (pv 0) (pa_cons (pe_callB (len_K K) (by rfl) G.g_len (by decide +kernel) (pa_cons (pv 2) pa_nil)) pa_nil))) pa_nil)) pa_nil)))))
  (pss_one (ps_ret (pv 3)))))), ?_⟩
  rw [show L2.start ["_law_box_here", "_law_items", "_law_rest", "_law_found", "_law_turn"] [v0, v1] = [some v0, some v1, none, none, none] from rfl]
  obtain ⟨t, p, ns, rfl, rfl, hT, hS, hl, q⟩ := h
  walk_at "w"
  refine w_listI hS fun r1 H1 n1 e1 h1 => ?_
  walk_at "w"
  (refine w_newXL (le_line (by walk_at "side")) (fun r2 H2 n2 e2 h2 EE_ => ?_); (try rw [← EE_]); clear EE_)
  have hS2 := ex_l (e1.trans e2) hS
  walk_at "w"
  rw [Int.toNat_natCast]
  have r12 : r1 ≠ r2 := ne_of_none h1 n2
  refine w_loopR (fun i σ H' => ∃ x rs fs, σ = [some (.ref t), some (.ref p), some (.ref r1), some (.ref r2), x] ∧ Ex H H' ∧ H' r1 = some (lstO rs) ∧ H' r2 = some (lstO fs) ∧ (fs ++ rs).Perm ns ∧ fs.length = i) ⟨_, ns, [], rfl, e1.trans e2, e2 _ _ h1, h2, by simp, rfl⟩ ?_ ?_
  · rintro i σ H3 hi ⟨x, rs, fs, rfl, e3, hr, hf, pm, fl⟩
    have tot : fs.length + rs.length = ns.length := by rw [← List.length_append]; exact pm.length_eq
    have n2' : H r2 = none := fresh_back e1 n2
    walk_at "w"
    refine ⟨_, _, rfl, t, _, rfl, rfl, hT.ex e3, by omega, by omega, fun d d0 d1 => ?_⟩
    have dl : d.toNat < rs.length := by omega
    walk_at "w"
    refine w_popAt hr d0 (List.getElem?_eq_getElem dl) (by omega) fun H4 c4 hr4 => ?_
    have hf4 : H4 r2 = some (lstO fs) := (c4 r2 r12.symm).trans hf
    walk_at "w"
    refine w_appI hf4 (by omega) fun H5 c5 hf5 => ?_
    walk_at "w"
    refine ⟨_, rs.eraseIdx d.toNat, fs ++ [rs[d.toNat]], rfl, c5.ex (c4.ex e3 n1) n2', (c5 r1 r12).trans hr4, hf5, ?_, by rw [List.length_append, fl]; rfl⟩
    refine List.Perm.trans ?_ pm
    rw [List.append_assoc]
    exact List.Perm.append_left _ (perm_erase dl)
  · rintro σ H3 ⟨x, rs, fs, rfl, e3, hr, hf, pm, fl⟩
    have tot : fs.length + rs.length = ns.length := by rw [← List.length_append]; exact pm.length_eq
    have rz : rs = [] := List.eq_nil_of_length_eq_zero (by omega)
    rw [rz, List.append_nil] at pm
    walk_at "w"
    exact q r2 H3 fs (fresh_back e1 n2) e3 hf pm
theorem ok__law_all_links (G : Glo K mg D) {f : Addr} {fd : FuncData} (F : Fun K "_law_all_links" "_law_all_links" s__law_all_links f fd) : FnOk P w K mg base CX0 1 f fd ["_law_count"] (sp__law_all_links K D) := by
  refine F.ok sc__law_all_links (fun vs H Q E h => len1 h) (fun cdv A outer s H vs Q E hr h => ?_)
  obtain ⟨v0, rfl, h⟩ := h
  have c_Cluster := G.c_Cluster
  have c_Net := G.c_Net
  have n_Cluster__homes := G.n_Cluster__homes
  have n_Cluster_net := G.n_Cluster_net
  have n_Cluster_size := G.n_Cluster_size
  have n_Net__linked := G.n_Net__linked
  have n_Net__links := G.n_Net__links
  have n_Net_count := G.n_Net_count
  have r_Cluster := G.r_Cluster
  have r_Net := G.r_Net
  have v_Cluster_MOST := G.v_Cluster_MOST
  have v_Net_MOST := G.v_Net_MOST
  refine ⟨_, (pss_cons (ps_set (i := 1) sc__law_all_links.nd rfl (.inl rfl) (pe_lst pa_nil))
  (pss_cons (ps_for PassesOwn.never rfl (pi_range1 (by rfl) G.g_range (pa_cons (pv 0) pa_nil)) (pg_name (i := 2) (by exact sc__law_all_links.nd) rfl (.inl rfl)) (pss_one (ps_for PassesOwn.never rfl (pi_range1 (by rfl) G.g_range (pa_cons (pv 0) pa_nil)) (pg_name (i := 3) (by exact sc__law_all_links.nd) rfl (.inl rfl)) (pss_one (ps_if (pt_cmpR (ne_K K hr.units) (pv 2) (pv 3) (nomark _)) (pss_one (ps_expr (bm_K K PySem.F.plainAttrs_list PySem.F.slot_list_append PySem.F.type_list_append mt_append (pv 1) (pa_cons (pe_tup (pa_cons (pv 2) (pa_cons (pv 3) pa_nil))) pa_nil)))) pss_nil)))))
  (pss_one (ps_ret (pv 1))))), ?_⟩
  rw [show L2.start ["_law_count", "_law_found", "_law_source", "_law_reader"] [v0] = [some v0, none, none, none] from rfl]
  obtain ⟨n, rfl, h0, h1, q⟩ := h
  walk_at "w"
  (refine w_newXL (le_line (by walk_at "side")) (fun r H1 nr e1 hr EE_ => ?_); (try rw [← EE_]); clear EE_)
  walk_at "w"
  refine w_loopR (fun i σ H' => ∃ x y L, σ = [some (.int n), some (.ref r), x, y] ∧ Ex H H' ∧ PrsR H' r L ∧ AllI n i 0 L) ⟨_, _, [], rfl, e1, ⟨[], hr, rfl, List.not_mem_nil⟩, AllI.start⟩ ?_ ?_
  · rintro i σ H2 hi ⟨x, y, L, rfl, e2, hP, hA⟩
    walk_at "w"
    refine w_loopR (fun j σ H' => ∃ y L, σ = [some (.int n), some (.ref r), some (.int i), y] ∧ Ex H H' ∧ PrsR H' r L ∧ AllI n i j L) ⟨_, L, rfl, e2, hP, hA⟩ ?_ ?_
    · rintro j σ H3 hj ⟨y, L, rfl, e3, ⟨ps, hp, ho, rn⟩, hA⟩
      walk_at "w"
      refine w_iteN (fun ne => ?_) fun eq => ?_
      · walk_at "w"
        (refine w_newXT (le_line (by walk_at "side")) (fun tt H4 nt e4 ht EE_ => ?_); (try rw [← EE_]); clear EE_)
        walk_at "w"
        have lz := hA.len
        refine w_app (e4 _ _ hp) (by rw [List.length_map, ho.len, List.length_map]; exact AllI.small h1 hi hj lz) fun H5 c5 hr5 => ?_
        walk_at "w"
        have tr : tt ≠ r := (ne_of_none hp nt).symm
        refine ⟨_, L ++ [((i : Int), (j : Int))], rfl, c5.ex (e3.trans e4) nr, ⟨ps ++ [tt], by rw [hr5, List.map_append]; rfl, ?_, ?_⟩, hA.add (by omega) (by omega) (by omega)⟩
        · rw [List.map_append]
          exact ((ho.ex e4).chg c5 rn).app (Objs.one ((c5 tt tr).trans ht))
        · intro m
          rcases List.mem_append.mp m with m | m
          · exact rn m
          · exact tr (List.mem_singleton.mp m).symm
      · walk_at "w"
        exact ⟨_, L, rfl, e3, ⟨ps, hp, ho, rn⟩, hA.skip⟩
    · rintro σ H3 ⟨y, L, rfl, e3, hP, hA⟩
      walk_at "w"
      exact ⟨_, _, L, rfl, e3, hP, hA.row (by omega)⟩
  · rintro σ H2 ⟨x, y, L, rfl, e2, ⟨ps, hp, ho, rn⟩, hA⟩
    walk_at "w"
    exact q r H2 L nr e2 ⟨ps, hp, ho⟩ (hA.done h0 h1)
theorem ok__law_net_links (G : Glo K mg D) {f : Addr} {fd : FuncData} (F : Fun K "_law_net_links" "_law_net_links" s__law_net_links f fd) (h__law_take : Has P w K mg base "_law_take" 1 (sp__law_take K D)) (h__law_shuffled : Has P w K mg base "_law_shuffled" 2 (sp__law_shuffled K D)) (h__law_all_links : Has P w K mg base "_law_all_links" 1 (sp__law_all_links K D)) : FnOk P w K mg base CX0 3 f fd ["_law_box_here", "_law_count"] (sp__law_net_links K D) := by
  refine F.ok sc__law_net_links (fun vs H Q E h => len2 h) (fun cdv A outer s H vs Q E hr h => ?_)
  obtain ⟨v0, v1, rfl, h⟩ := h
  have c_Cluster := G.c_Cluster
  have c_Net := G.c_Net
  have n_Cluster__homes := G.n_Cluster__homes
  have n_Cluster_net := G.n_Cluster_net
  have n_Cluster_size := G.n_Cluster_size
  have n_Net__linked := G.n_Net__linked
  have n_Net__links := G.n_Net__links
  have n_Net_count := G.n_Net_count
  have r_Cluster := G.r_Cluster
  have r_Net := G.r_Net
  have v_Cluster_MOST := G.v_Cluster_MOST
  have v_Net_MOST := G.v_Net_MOST
  refine ⟨_, (pss_cons (ps_set (i := 2) sc__law_net_links.nd rfl (.inl rfl) (pe_fn h__law_take (hr.mono (by decide)) (by rfl) (pa_cons (pv 0) (pa_cons pe_int pa_nil))))
  (pss_cons (ps_set (i := 3) sc__law_net_links.nd rfl (.inl rfl) (pe_fn h__law_shuffled (hr.mono (by decide)) (by rfl) (pa_cons (pv 0) (pa_cons (pe_listRg rfl (by rfl) G.g_list (prg_1 (by rfl) G.g_range (pv 1))) pa_nil))))
  (pss_cons (ps_set (i := 4) sc__law_net_links.nd rfl (.inr rfl) (pe_lst pa_nil))
  (pss_cut (ps_if (PW.pt (pw_or (pt_cmpR (eq_K K hr.units) (pv 2) pe_int (nomark _)) (pw_or1 (pt_cmpR (eq_K K hr.units) (pv 2) pe_int (nomark _))))) (pss_one (ps_for PassesOwn.never rfl (pi_range2 (by rfl) G.g_range (pa_cons pe_int (pa_cons (pv 1) pa_nil))) (pg_name (i := 5) (by exact sc__law_net_links.nd) rfl (.inl rfl)) (pss_cons (ps_set (i := 6) sc__law_net_links.nd rfl (.inl rfl) (pe_ix (ixA_K K hr) (pv 3) (pe_fn h__law_take (hr.mono (by decide)) (by rfl) (pa_cons (pv 0) (pa_cons (pv 5) pa_nil))) (fun _ _ => rfl)))
  (pss_cons (ps_set (i := 7) sc__law_net_links.nd rfl (.inl rfl) pe_int)
  (pss_cut (ps_if (pt_cmpR (eq_K K hr.units) (pv 2) pe_int (nomark _)) (pss_one (ps_set (i := 7) sc__law_net_links.nd rfl (.inl rfl) (pe_fn h__law_take (hr.mono (by decide)) (by rfl) (pa_cons (pv 0) (pa_cons pe_int pa_nil))))) pss_nil)
  (pss_cut (ps_if (PW.pt (pw_or (pt_cmpR (eq_K K hr.units) (pv 7) pe_int (nomark _)) (pw_or1 (pt_cmpR (eq_K K hr.units) (pv 7) pe_int (nomark _))))) (pss_one (ps_expr (bm_K K PySem.F.plainAttrs_list PySem.F.slot_list_append PySem.F.type_list_append mt_append (pv 4) (pa_cons (pe_tup (pa_cons (pv 6) (pa_cons (pe_ix (ixA_K K hr) (pv 3) (pv 5) (fun _ _ => rfl)) pa_nil))) pa_nil)))) pss_nil)
  (pss_one (ps_if (PW.pt (pw_or (pt_cmpR (eq_K K hr.units) (pv 7) pe_int (nomark _)) (pw_or1 (pt_cmpR (eq_K K hr.units) (pv 7) pe_int (nomark _))))) (pss_one (ps_expr (bm_K K PySem.F.plainAttrs_list PySem.F.slot_list_append PySem.F.type_list_append mt_append (pv 4) (pa_cons (pe_tup (pa_cons (pe_ix (ixA_K K hr) (pv 3) (pv 5) (fun _ _ => rfl)) (pa_cons (pv 6) pa_nil))) pa_nil)))) pss_nil)))))))) pss_nil)
  (pss_cut (ps_if (PW.pt (pw_and (PW.pt (pw_or (pt_cmpR (eq_K K hr.units) (pv 2) pe_int (nomark _)) (pw_or1 (pt_cmpR (eq_K K hr.units) (pv 2) pe_int (nomark _))))) (pw_and1 (pt_cmpR (op_gt) (pv 1) pe_int (nomark _))))) (pss_one (ps_for PassesOwn.never rfl (pi_range1 (by rfl) G.g_range (pa_cons (pv 1) pa_nil)) (pg_name (i := 5) (by exact sc__law_net_links.nd) rfl (.inl rfl)) (pss_one (ps_expr (bm_K K PySem.F.plainAttrs_list PySem.F.slot_list_append PySem.F.type_list_append mt_append (pv 4) (pa_cons (pe_tup (pa_cons (pe_ix (ixA_K K hr) (pv 3) (pv 5) (fun _ _ => rfl)) (pa_cons (pe_ix (ixA_K K hr) (pv 3) (pe_op op_modA (pe_callTy (int_K K) (by rfl) G.g_int (by decide +kernel) (pa_cons (pe_op op_addA (pv 5) pe_int) pa_nil)) (pv 1)) (fun _ _ => rfl)) pa_nil))) pa_nil)))))) pss_nil)
  (pss_cons (ps_set (i := 8) sc__law_net_links.nd rfl (.inl rfl) (pe_fn h__law_all_links (hr.mono (by decide)) (by rfl) (pa_cons (pv 1) pa_nil)))
  (pss_cut (ps_if (pt_cmpR (eq_K K hr.units) (pv 2) pe_int (nomark _)) (pss_one (ps_ret (pv 8))) pss_nil)
  (pss_cut (ps_if (PW.pt (pw_or (pt_cmpR (eq_K K hr.units) (pv 2) pe_int (nomark _)) (pw_or1 (pt_cmpR (eq_K K hr.units) (pv 2) pe_int (nomark _))))) (pss_one (ps_for PassesOwn.never rfl (pi_lstK K (pv 8)) (pg_name (i := 9) (by exact sc__law_net_links.nd) rfl (.inl rfl)) (pss_one (ps_if (pt_cmpR (eq_K K hr.units) (pe_fn h__law_take (hr.mono (by decide)) (by rfl) (pa_cons (pv 0) (pa_cons (pe_op op_sub pe_int (pv 2)) pa_nil))) pe_int (nomark _)) (pss_one (ps_expr (bm_K K PySem.F.plainAttrs_list PySem.F.slot_list_append PySem.F.type_list_append mt_append (pv 4) (pa_cons (pv 9) pa_nil)))) pss_nil)))) pss_nil)
  (pss_one (ps_ret (pe_lc (own := [("_law_link", 9)]) (by rfl) sc__law_net_links.nd (pi_lstK K (pv 8)) (blkOk_by (own := [("_law_link", 9)]) (N := ["_law_box_here", "_law_count", "_law_kind", "_law_names", "_law_found", "_law_k", "_law_parent", "_law_way", "_law_every", "_law_link"]) (sc := defScope s__law_net_links) (by decide +kernel)) (fun _ _ _ _ _ => (pg_name (i := 9) (by exact sc__law_net_links.nd) rfl (.inl rfl))) (fun _ _ _ _ _ => (pts_one (pt_cmpR (inA_K K hr) (pv 9) (pv 4) (by rfl)))) (fun _ _ _ _ _ => (pv 9))))))))))))), ?_⟩
  rw [show L2.start ["_law_box_here", "_law_count", "_law_kind", "_law_names", "_law_found", "_law_k", "_law_parent", "_law_way", "_law_every", "_law_link"] [v0, v1] = [some v0, some v1, none, none, none, none, none, none, none, none] from rfl]
  obtain ⟨t, n, rfl, rfl, hT, h0, h1, q⟩ := h
  walk_at "w"
  refine ⟨_, _, rfl, t, _, rfl, rfl, hT, by decide, by decide, fun kd kd0 kd1 => ?_⟩
  walk_at "w"
  refine w_lrgI (by omega) (by omega) fun r0 H1 n1 e1 hr0 => ?_
  walk_at "w"
  have hn0 : (rangeI n).length = n.toNat := by unfold rangeI; rw [List.length_map, List.length_range]
  refine ⟨_, _, rfl, t, r0, rangeI n, rfl, rfl, hT.ex e1, .inl (.inl hr0), by omega, fun nm H2 ms n2 e2 hnm pm => ?_⟩
  have ml : ms.length = n.toNat := pm.length_eq.trans hn0
  walk_at "w"
  (refine w_newXL (le_line (by walk_at "side")) (fun fd H3 n3 e3 hfd EE_ => ?_); (try rw [← EE_]); clear EE_)
  have e03 : Ex H H3 := (e1.trans e2).trans e3
  have hnm3 := e3 _ _ hnm
  have nfd : H fd = none := fresh_back (e1.trans e2) n3
  have fnm : nm ≠ fd := ne_of_none hnm n3
  walk_at "w"
  refine w_cut (fun σ H' => ∃ x y z L, σ = [some (.ref t), some (.int n), some (.int kd), some (.ref nm), some (.ref fd), x, y, z, none, none] ∧ Ex H H' ∧ H' nm = some (lstO ms) ∧ PrsR H' fd L ∧ L.length ≤ 60) ?_ ?_
  · refine w_ifAny (Tot.or (tot_eq rfl) (tot_eq rfl)) ?_ ?_
    · walk_at "w"
      refine w_loopR2 (fun i σ H' => ∃ x y z L, σ = [some (.ref t), some (.int n), some (.int kd), some (.ref nm), some (.ref fd), x, y, z, none, none] ∧ Ex H H' ∧ H' nm = some (lstO ms) ∧ PrsR H' fd L ∧ L.length ≤ 2 * i) ⟨_, _, _, [], rfl, e03, hnm3, ⟨[], hfd, rfl, List.not_mem_nil⟩, Nat.le_refl _⟩ ?_ ?_
      · rintro i σ H4 hi ⟨x, y, z, L, rfl, e4, hnm4, hP, hL⟩
        walk_at "w"
        refine ⟨_, _, rfl, t, _, rfl, rfl, hT.ex e4, by omega, by omega, fun d d0 d1 => ?_⟩
        walk_at "w"
        refine w_ixIA (.inl (.inl hnm4)) d0 (by omega) fun pa hpa => ?_
        walk_at "w"
        refine w_cut (fun σ H' => ∃ wy : Int, σ = [some (.ref t), some (.int n), some (.int kd), some (.ref nm), some (.ref fd), some (.int (1 + (i : Int))), some (.int pa), some (.int wy), none, none] ∧ H' = H4) ?_ ?_
        · refine w_ifAny (tot_eq rfl) ?_ ?_
          · walk_at "w"
            refine ⟨_, _, rfl, t, _, rfl, rfl, hT.ex e4, by decide, by decide, fun wy _ _ => ?_⟩
            exact ⟨wy, rfl, rfl⟩
          · walk_at "w"
            exact ⟨3, rfl, rfl⟩
        · rintro σ H5 ⟨wy, rfl, rfl⟩
          refine w_cut (fun σ H' => ∃ L2, σ = [some (.ref t), some (.int n), some (.int kd), some (.ref nm), some (.ref fd), some (.int (1 + (i : Int))), some (.int pa), some (.int wy), none, none] ∧ Ex H H' ∧ H' nm = some (lstO ms) ∧ PrsR H' fd L2 ∧ L2.length ≤ 2 * i + 1) ?_ ?_
          · refine w_ifAny (Tot.or (tot_eq rfl) (tot_eq rfl)) ?_ ?_
            · obtain ⟨ps, hp, ho, rn⟩ := hP
              walk_at "w"
              refine w_ixIA (.inl (.inl hnm4)) (by omega) (by omega) fun pb hpb => ?_
              walk_at "w"
              (refine w_newXT (le_line (by walk_at "side")) (fun tt H6 nt e6 ht EE_ => ?_); (try rw [← EE_]); clear EE_)
              walk_at "w"
              refine w_app (e6 _ _ hp) (by rw [List.length_map, ho.len, List.length_map]; omega) fun H7 c7 hr7 => ?_
              walk_at "w"
              exact ⟨_, rfl, c7.ex (e4.trans e6) nfd, (c7 nm fnm).trans (e6 _ _ hnm4), .add (q := (pa, pb)) hp ho rn e6 nt ht c7 hr7, by rw [List.length_append]; exact Nat.succ_le_succ hL⟩
            · walk_at "w"
              exact ⟨L, rfl, e4, hnm4, hP, Nat.le_succ_of_le hL⟩
          · rintro σ H6 ⟨L2, rfl, e6, hnm6, hP6, hL6⟩
            refine w_ifAny (Tot.or (tot_eq rfl) (tot_eq rfl)) ?_ ?_
            · obtain ⟨ps, hp, ho, rn⟩ := hP6
              walk_at "w"
              refine w_ixIA (.inl (.inl hnm6)) (by omega) (by omega) fun pb hpb => ?_
              walk_at "w"
              (refine w_newXT (le_line (by walk_at "side")) (fun tt H7 nt e7 ht EE_ => ?_); (try rw [← EE_]); clear EE_)
              walk_at "w"
              refine w_app (e7 _ _ hp) (by rw [List.length_map, ho.len, List.length_map]; omega) fun H8 c8 hr8 => ?_
              walk_at "w"
              exact ⟨_, _, _, _, rfl, c8.ex (e6.trans e7) nfd, (c8 nm fnm).trans (e7 _ _ hnm6), .add (q := (pb, pa)) hp ho rn e7 nt ht c8 hr8, by rw [List.length_append]; exact Nat.succ_le_succ hL6⟩
            · walk_at "w"
              exact ⟨_, _, _, L2, rfl, e6, hnm6, hP6, by omega⟩
      · rintro σ H4 ⟨x, y, z, L, rfl, e4, hnm4, hP, hL⟩
        walk_at "w"
        exact ⟨_, _, _, L, rfl, e4, hnm4, hP, by omega⟩
    · walk_at "w"
      exact ⟨_, _, _, [], rfl, e03, hnm3, ⟨[], hfd, rfl, List.not_mem_nil⟩, by decide⟩
  · rintro σ H4 ⟨x, y, z, L, rfl, e4, hnm4, hP, hL⟩
    refine w_cut (fun σ H' => ∃ x y z L, σ = [some (.ref t), some (.int n), some (.int kd), some (.ref nm), some (.ref fd), x, y, z, none, none] ∧ Ex H H' ∧ PrsR H' fd L ∧ L.length ≤ 100) ?_ ?_
    · refine w_ifAny (Tot.and (Tot.or (tot_eq rfl) (tot_eq rfl)) (tot_I (g := fun i j => decide (j < i)) rfl)) ?_ ?_
      · walk_at "w"
        refine w_loopR (fun i σ H' => ∃ x y z L, σ = [some (.ref t), some (.int n), some (.int kd), some (.ref nm), some (.ref fd), x, y, z, none, none] ∧ Ex H H' ∧ H' nm = some (lstO ms) ∧ PrsR H' fd L ∧ L.length ≤ 60 + i) ⟨_, _, _, L, rfl, e4, hnm4, hP, hL⟩ ?_ ?_
        · rintro i σ H5 hi ⟨x, y, z, L, rfl, e5, hnm5, ⟨ps, hp, ho, rn⟩, hL⟩
          walk_at "w"
          refine w_ixIA (.inl (.inl hnm5)) (by omega) (by omega) fun pa hpa => ?_
          walk_at "w"
          have m0 := Int.emod_nonneg ((i : Int) + 1) (show n ≠ 0 by omega)
          have m1 := Int.emod_lt_of_pos ((i : Int) + 1) (show 0 < n by omega)
          refine w_ixIA (.inl (.inl hnm5)) m0 (by omega) fun pb hpb => ?_
          walk_at "w"
          (refine w_newXT (le_line (by walk_at "side")) (fun tt H6 nt e6 ht EE_ => ?_); (try rw [← EE_]); clear EE_)
          walk_at "w"
          refine w_app (e6 _ _ hp) (by rw [List.length_map, ho.len, List.length_map]; omega) fun H7 c7 hr7 => ?_
          walk_at "w"
          exact ⟨_, _, _, _, rfl, c7.ex (e5.trans e6) nfd, (c7 nm fnm).trans (e6 _ _ hnm5), .add (q := (pa, pb)) hp ho rn e6 nt ht c7 hr7, by rw [List.length_append]; exact Nat.succ_le_succ hL⟩
        · rintro σ H5 ⟨x, y, z, L, rfl, e5, hnm5, hP5, hL5⟩
          walk_at "w"
          exact ⟨_, _, _, L, rfl, e5, hP5, by omega⟩
      · walk_at "w"
        exact ⟨_, _, _, L, rfl, e4, hP, by omega⟩
    · rintro σ H5 ⟨x, y, z, L5, rfl, e5, hP5, hL5⟩
      walk_at "w"
      refine ⟨_, rfl, n, rfl, by omega, h1, fun ev H6 LE n6 e6 hE wl => ?_⟩
      obtain ⟨pe, hpe, hoe⟩ := id hE
      walk_at "w"
      refine w_cut (fun σ H' => σ = [some (.ref t), some (.int n), some (.int kd), some (.ref nm), some (.ref fd), x, y, z, some (.ref ev), none] ∧ H' = H6) ?_ ?_
      · refine w_ifAny (tot_eq rfl) ?_ ?_
        · walk_at "w"
          exact q ev H6 LE (e5.trans e6) hE wl
        · walk_at "w"
          exact ⟨rfl, rfl⟩
      · rintro σ H7 ⟨rfl, rfl⟩
        have evf : ev ≠ fd := by
          obtain ⟨ps, hp, _⟩ := hP5
          exact (ne_of_none hp n6).symm
        have pf : ∀ {H' : Hp} {pp : List Addr} {M M2 : List (Int × Int)}, Objs H' pp (M.map pairO) → PrsR H' fd M2 → fd ∉ pp := fun {H' pp M M2} o ⟨ps, hp, _⟩ m => by
          obtain ⟨i, hi⟩ := List.mem_iff_getElem?.mp m
          obtain ⟨u, hu, hv⟩ := o.back hi
          rw [hp] at hv
          cases hv
          rw [List.getElem?_map] at hu
          cases hz : M[i]? with
          | none => rw [hz] at hu; cases hu
          | some z => rw [hz] at hu; cases hu
        refine w_cut (fun σ H' => ∃ lk L, σ = [some (.ref t), some (.int n), some (.int kd), some (.ref nm), some (.ref fd), x, y, z, some (.ref ev), lk] ∧ Ex H H' ∧ H' ev = some (.lst (pe.map V.ref)) ∧ Objs H' pe (LE.map pairO) ∧ PrsR H' fd L) ?_ ?_
        · refine w_ifAny (Tot.or (tot_eq rfl) (tot_eq rfl)) ?_ ?_
          · walk_at "w"
            refine w_loop (walk_list (K := K) (a := ev) (xs := pe.map V.ref)) (fun i σ H' => ∃ lk L, σ = [some (.ref t), some (.int n), some (.int kd), some (.ref nm), some (.ref fd), x, y, z, some (.ref ev), lk] ∧ Ex H H' ∧ H' ev = some (.lst (pe.map V.ref)) ∧ Objs H' pe (LE.map pairO) ∧ PrsR H' fd L ∧ L.length ≤ 100 + i)
              ⟨_, L5, rfl, e5.trans e6, hpe, hoe, hP5.ex e6, by omega⟩ (fun i σ H' _ ⟨_, _, _, _, e, _⟩ => sq_of e) ?_ ?_
            · rintro i lx σ H8 H8' hi ⟨lk, L, rfl, e8, hp8, ho8, hP8, hL8⟩ ⟨rfl, hx⟩
              rw [List.length_map, ho8.len, List.length_map] at hi
              have lz := wl.2.2
              obtain ⟨a, ha⟩ : ∃ a, pe[i]? = some a := ⟨_, List.getElem?_eq_getElem (by rw [ho8.len, List.length_map]; exact hi)⟩
              obtain ⟨lq, hlq⟩ : ∃ lq, LE[i]? = some lq := ⟨_, List.getElem?_eq_getElem hi⟩
              obtain ⟨a2, ha2, hta⟩ := ho8.get (o := pairO lq) (by rw [List.getElem?_map, hlq]; rfl)
              have := ha2.symm.trans ha
              cases this
              have h4 := (refs_get ha).symm.trans hx
              cases h4
              walk_at "w"
              refine ⟨_, _, rfl, t, _, rfl, rfl, hT.ex e8, by omega, by omega, fun d d0 d1 => ?_⟩
              walk_at "w"
              refine w_ite (fun _ => ?_) fun _ => ?_
              · obtain ⟨ps, hp, ho, rn⟩ := id hP8
                walk_at "w"
                refine w_app hp (by rw [List.length_map, ho.len, List.length_map]; omega) fun H9 c9 hr9 => ?_
                walk_at "w"
                have af : a ≠ fd := fun z => pf ho8 hP8 (z ▸ List.mem_of_getElem? ha)
                refine ⟨_, L ++ [lq], rfl, c9.ex e8 nfd, (c9 ev evf).trans hp8, ho8.chg c9 (pf ho8 hP8), ⟨ps ++ [a], by rw [hr9, List.map_append]; rfl, ?_, ?_⟩, by rw [List.length_append]; exact Nat.succ_le_succ hL8⟩
                · rw [List.map_append]
                  exact (ho.chg c9 rn).app (Objs.one ((c9 a af).trans hta))
                · intro m
                  rcases List.mem_append.mp m with m | m
                  · exact rn m
                  · exact af (List.mem_singleton.mp m).symm
              · walk_at "w"
                exact ⟨_, L, rfl, e8, hp8, ho8, hP8, Nat.le_succ_of_le hL8⟩
            · rintro σ H8 ⟨lk, L, rfl, e8, hp8, ho8, hP8, hL8⟩
              exact ⟨_, L, rfl, e8, hp8, ho8, hP8⟩
          · walk_at "w"
            exact ⟨_, L5, rfl, e5.trans e6, hpe, hoe, hP5.ex e6⟩
        · rintro σ H8 ⟨lk, L8, rfl, e8, hpe8, hoe8, ⟨ps, hp, ho, rn⟩⟩
          have lz := wl.2.2
          walk_at "w"
          refine w_comp (walk_list (xs := pe.map V.ref)) (fun i vs B => ∃ qs : List Addr, vs = qs.map V.ref ∧ qs.length ≤ i ∧ Objs B qs (((LE.take i).filter fun q => decide (q ∈ L8)).map pairO)) yAt (fun H' e => ex_l e (sq_of hpe8)) ⟨[], rfl, Nat.le_refl _, rfl⟩ ?_ ?_
          · rintro i lx acc D2 B H9 HA hi eB ⟨qs, rfl, ql, o1⟩ bD eB1 hx hD ⟨rfl, hy⟩ -
            rw [List.length_map, hoe8.len, List.length_map] at hi
            obtain ⟨lq, hlq⟩ : ∃ lq, LE[i]? = some lq := ⟨_, List.getElem?_eq_getElem hi⟩
            obtain ⟨a, ha, hta⟩ := hoe8.get (o := pairO lq) (by rw [List.getElem?_map, hlq]; rfl)
            have h4 := (refs_get ha).symm.trans hy
            cases h4
            have e9 := eB.trans eB1
            refine ⟨rfl, ?_⟩
            walk_at "w"
            refine w_inP (e9 _ _ hta) (e9 _ _ hp) (ho.ex e9) ?_
            walk_at "w"
            have aD : a ≠ D2 := ne_of_none hta hD
            have tk : ((LE.take (i + 1)).filter fun q => decide (q ∈ L8)) = ((LE.take i).filter fun q => decide (q ∈ L8)) ++ (if decide (lq ∈ L8) = true then [lq] else []) := by
              rw [take_succ hlq, List.filter_append, List.filter_cons]
              rfl
            refine w_ite (fun b => ?_) fun b => ?_
            · walk_at "w"
              refine cyes hD e9 hx (by rw [List.length_map]; omega) (Ex.refl _) ⟨qs ++ [a], by rw [List.map_append]; rfl, by rw [List.length_append]; exact Nat.succ_le_succ ql, ?_⟩
              rw [tk, if_pos (decide_eq_true b), List.map_append]
              exact (o1.ex (ex_del eB1 bD)).app (Objs.one ((del_ne aD).trans (e9 _ _ hta)))
            · refine cno hD e9 hx (Ex.refl _) ⟨qs, rfl, Nat.le_succ_of_le ql, ?_⟩
              rw [tk, if_neg (by simpa using b), List.append_nil]
              exact o1.ex (ex_del eB1 bD)
          · rintro D2 B H9 acc hD eB eB1 bD hx ⟨qs, rfl, ql, o1⟩
            rw [List.length_map, hoe8.len, List.length_map, List.take_length] at o1
            refine q D2 H9 (LE.filter fun q => decide (q ∈ L8)) (e8.trans (eB.trans eB1)) ⟨qs, hx, o1.ex eB1⟩ ⟨fun q m => wl.1 q (List.mem_filter.mp m).1, wl.2.1.sublist List.filter_sublist, Nat.le_trans (List.length_filter_le _ _) lz⟩
theorem ok__law_world (G : Glo K mg D) {f : Addr} {fd : FuncData} (F : Fun K "_law_world" "_law_world" s__law_world f fd) (h__law_take : Has P w K mg base "_law_take" 1 (sp__law_take K D)) (h__law_net_links : Has P w K mg base "_law_net_links" 3 (sp__law_net_links K D)) : FnOk P w K mg base CX0 4 f fd ["_law_box_here"] (sp__law_world K D) := by
  refine F.ok sc__law_world (fun vs H Q E h => len1 h) (fun cdv A outer s H vs Q E hr h => ?_)
  obtain ⟨v0, rfl, h⟩ := h
  have c_Cluster := G.c_Cluster
  have c_Net := G.c_Net
  have n_Cluster__homes := G.n_Cluster__homes
  have n_Cluster_net := G.n_Cluster_net
  have n_Cluster_size := G.n_Cluster_size
  have n_Net__linked := G.n_Net__linked
  have n_Net__links := G.n_Net__links
  have n_Net_count := G.n_Net_count
  have r_Cluster := G.r_Cluster
  have r_Net := G.r_Net
  have v_Cluster_MOST := G.v_Cluster_MOST
  have v_Net_MOST := G.v_Net_MOST
  refine ⟨_, (pss_cons (ps_set (i := 1) sc__law_world.nd rfl (.inr rfl) (pe_ix (ixA_K K hr) (pe_tup (pa_cons pe_int (pa_cons pe_int (pa_cons pe_int (pa_cons pe_int (pa_cons pe_int (pa_cons pe_int (pa_cons pe_int (pa_cons pe_int pa_nil))))))))) (pe_fn h__law_take (hr.mono (by decide)) (by rfl) (pa_cons (pv 0) (pa_cons pe_int pa_nil))) (fun _ _ => rfl)))
  (pss_cons (ps_set (i := 2) sc__law_world.nd rfl (.inl rfl) (pe_fn h__law_net_links (hr.mono (by decide)) (by rfl) (pa_cons (pv 0) (pa_cons (pv 1) pa_nil))))
  (pss_cons (ps_set (i := 3) sc__law_world.nd rfl (.inl rfl) (pe_ix (ixA_K K hr) (pe_tup (pa_cons pe_int (pa_cons pe_int (pa_cons pe_int (pa_cons pe_int (pa_cons pe_int (pa_cons pe_int (pa_cons pe_int (pa_cons pe_int (pa_cons pe_int (pa_cons pe_int pa_nil))))))))))) (pe_fn h__law_take (hr.mono (by decide)) (by rfl) (pa_cons (pv 0) (pa_cons pe_int pa_nil))) (fun _ _ => rfl)))
  (pss_cons (ps_setLc (i := 4) (own := [("_law_k", 5)]) (by rfl) sc__law_world.nd rfl rfl (sw_true rfl rfl rfl (by decide +kernel)) (pi_range1 (by rfl) G.g_range (pa_cons (pv 3) pa_nil)) (blkOk_by (own := [("_law_k", 5)]) (N := ["_law_box_here", "_law_count", "_law_links", "_law_size", "_law_homes", "_law_k"]) (sc := defScope s__law_world) (by decide +kernel)) (fun _ _ _ _ _ => (pg_name (i := 5) (by exact sc__law_world.nd) rfl (.inl rfl))) (fun _ _ _ _ _ => pts_nil) (fun _ _ _ _ _ => (pe_fn h__law_take (hr.mono (by decide)) (by rfl) (pa_cons (pv 0) (pa_cons (pv 1) pa_nil)))))
  (pss_one (ps_ret (pe_lst (pa_cons (pv 1) (pa_cons (pv 2) (pa_cons (pv 4) pa_nil)))))))))), ?_⟩
  rw [show L2.start ["_law_box_here", "_law_count", "_law_links", "_law_size", "_law_homes", "_law_k"] [v0] = [some v0, none, none, none, none, none] from rfl]
  obtain ⟨t, rfl, hT, q⟩ := h
  walk_at "w"
  (refine w_newXT (le_line (by walk_at "side")) (fun p1 H1 n1 e1 h1 EE_ => ?_); (try rw [← EE_]); clear EE_)
  walk_at "w"
  refine ⟨_, _, rfl, t, _, rfl, rfl, hT.ex e1, by decide, by decide, fun d d0 d1 => ?_⟩
  refine w_ixTI (ns := [1, 2, 3, 4, 5, 6, 3, 4]) (.of h1) d0 d1 fun n hn => ?_
  have hn2 : 1 ≤ n ∧ n ≤ 6 := (by decide : ∀ m ∈ ([1, 2, 3, 4, 5, 6, 3, 4] : List Int), 1 ≤ m ∧ m ≤ 6) n hn
  walk_at "w"
  refine ⟨_, _, rfl, t, n, rfl, rfl, hT.ex e1, hn2.1, by omega, fun lr H2 L e2 hL wl => ?_⟩
  have hT2 := (hT.ex e1).ex e2
  walk_at "w"
  (refine w_newXT (le_line (by walk_at "side")) (fun p3 H3 n3 e3 h3 EE_ => ?_); (try rw [← EE_]); clear EE_)
  walk_at "w"
  refine ⟨_, _, rfl, t, _, rfl, rfl, hT2.ex e3, by decide, by decide, fun d2 d20 d21 => ?_⟩
  refine w_ixTI (ns := [0, 1, 2, 3, 4, 5, 6, 7, 3, 4]) (.of h3) d20 d21 fun z hz => ?_
  have hz2 : 0 ≤ z ∧ z ≤ 7 := (by decide : ∀ m ∈ ([0, 1, 2, 3, 4, 5, 6, 7, 3, 4] : List Int), 0 ≤ m ∧ m ≤ 7) z hz
  have hT3 := hT2.ex e3
  walk_at "w"
  refine w_compI walk_range (fun i acc => ∀ h ∈ acc, 0 ≤ h ∧ h < n) yFn (fun _ _ => trivial) (by simp) ?_ ?_
  · rintro i x acc D2 H4 H5 hi pa hal e4 hx hD ⟨rfl, rfl⟩ -
    refine ⟨rfl, ?_⟩
    walk_at "w"
    refine ⟨_, _, rfl, t, _, rfl, rfl, hT3.ex e4, by omega, by omega, fun d d0 d1 => ?_⟩
    refine cyI hD e4 hx hal (by omega) (Ex.refl _) fun h hh => ?_
    rcases List.mem_append.mp hh with hh | hh
    · exact pa h hh
    · rw [List.mem_singleton.mp hh]; exact ⟨d0, d1⟩
  · rintro D2 H4 acc hD e4 hx pa hal
    walk_at "w"
    (refine w_newXL (le_line (by walk_at "side")) (fun r H5 n5 e5 h5 EE_ => ?_); (try rw [← EE_]); clear EE_)
    exact q r H5 n L acc ((((e1.trans e2).trans e3).trans e4).trans e5) ⟨⟨lr, D2, h5, hL.ex ((e3.trans e4).trans e5), e5 _ _ hx⟩, hn2.1, by omega, wl, pa, by omega⟩
theorem ok__law_copy (G : Glo K mg D) {f : Addr} {fd : FuncData} (F : Fun K "_law_copy" "_law_copy" s__law_copy f fd) : FnOk P w K mg base CX0 1 f fd ["_law_logs"] (sp__law_copy K D) := by
  refine F.ok sc__law_copy (fun vs H Q E h => len1 h) (fun cdv A outer s H vs Q E hr h => ?_)
  obtain ⟨v0, rfl, h⟩ := h
  have c_Cluster := G.c_Cluster
  have c_Net := G.c_Net
  have n_Cluster__homes := G.n_Cluster__homes
  have n_Cluster_net := G.n_Cluster_net
  have n_Cluster_size := G.n_Cluster_size
  have n_Net__linked := G.n_Net__linked
  have n_Net__links := G.n_Net__links
  have n_Net_count := G.n_Net_count
  have r_Cluster := G.r_Cluster
  have r_Net := G.r_Net
  have v_Cluster_MOST := G.v_Cluster_MOST
  have v_Net_MOST := G.v_Net_MOST
  refine ⟨_, (pss_one (ps_ret (pe_lc (own := [("_law_log", 1)]) (by rfl) sc__law_copy.nd (pi_lstK K (pv 0)) (blkOk_by (own := [("_law_log", 1)]) (N := ["_law_logs", "_law_log"]) (sc := defScope s__law_copy) (by decide +kernel)) (fun _ _ _ _ _ => (pg_name (i := 1) (by exact sc__law_copy.nd) rfl (.inl rfl))) (fun _ _ _ _ _ => pts_nil) (fun _ _ _ _ _ => (pe_callTy (lst_K K) (by rfl) G.g_list (by decide +kernel) (pa_cons (pv 1) pa_nil)))))), ?_⟩
  rw [show L2.start ["_law_logs", "_law_log"] [v0] = [some v0, none] from rfl]
  obtain ⟨p, xs, rfl, ⟨ps, hp, ho⟩, hl, q⟩ := h
  walk_at "w"
  refine w_comp (walk_list (xs := ps.map V.ref)) (fun i vs B => ∃ qs : List Addr, vs = qs.map V.ref ∧ Objs B qs ((xs.take i).map lstO) ∧ (∀ a ∈ qs, H a = none) ∧ qs.Nodup) yAt (fun H' e => ex_l e (sq_of hp)) ⟨[], rfl, rfl, by simp, List.nodup_nil⟩ ?_ ?_
  · rintro i x acc D B H1 H2 hi eB ⟨qs, rfl, o1, f1, n1⟩ bD eB1 hx hD ⟨rfl, hy⟩ -
    rw [List.length_map, ho.len, List.length_map] at hi
    obtain ⟨lg, hlg⟩ : ∃ lg, xs[i]? = some lg := ⟨_, List.getElem?_eq_getElem hi⟩
    obtain ⟨a, ha, hta⟩ := ho.get (o := lstO lg) (by rw [List.getElem?_map, hlg]; rfl)
    rw [refs_get ha] at hy
    cases hy
    refine ⟨rfl, ?_⟩
    walk_at "w"
    refine w_listI (.inl (.inl ((eB.trans eB1) _ _ hta))) fun r H3 nr e3 hr => ?_
    have rD : r ≠ D := (ne_of_none hx nr).symm
    have lq : qs.length = i := by rw [o1.len, List.length_map, List.length_take]; omega
    refine cyes hD (eB.trans eB1) hx (by rw [List.length_map]; omega) e3 ⟨qs ++ [r], by rw [List.map_append]; rfl, ?_, ?_, ?_⟩
    · rw [take_succ hlg, List.map_append]
      exact (o1.ex (ex_del (eB1.trans e3) bD)).app (Objs.one ((del_ne rD).trans hr))
    · intro b hb
      rcases List.mem_append.mp hb with hb | hb
      · exact f1 b hb
      · rw [List.mem_singleton.mp hb]
        exact fresh_back (eB.trans eB1) nr
    · refine List.nodup_append.mpr ⟨n1, by simp, fun b hb c hc => ?_⟩
      rw [List.mem_singleton.mp hc]
      obtain ⟨o, ob⟩ := o1.at hb
      exact ne_of_none (eB1 _ _ ob) nr
  · rintro D B H1 acc hD eB eB1 bD hx ⟨qs, rfl, o1, f1, n1⟩
    rw [List.length_map, ho.len, List.length_map, List.take_length] at o1
    exact q D H1 (eB.trans eB1) ⟨qs, hx, o1.ex eB1, hD, f1, n1, fun m => by obtain ⟨o, ob⟩ := o1.at m; rw [bD] at ob; cases ob⟩
theorem ok__law_first (G : Glo K mg D) {f : Addr} {fd : FuncData} (F : Fun K "_law_first" "_law_first" s__law_first f fd) : FnOk P w K mg base CX0 1 f fd ["_law_source_log", "_law_reader_log"] (sp__law_first K D) := by
  refine F.ok sc__law_first (fun vs H Q E h => len2 h) (fun cdv A outer s H vs Q E hr h => ?_)
  obtain ⟨v0, v1, rfl, h⟩ := h
  have c_Cluster := G.c_Cluster
  have c_Net := G.c_Net
  have n_Cluster__homes := G.n_Cluster__homes
  have n_Cluster_net := G.n_Cluster_net
  have n_Cluster_size := G.n_Cluster_size
  have n_Net__linked := G.n_Net__linked
  have n_Net__links := G.n_Net__links
  have n_Net_count := G.n_Net_count
  have r_Cluster := G.r_Cluster
  have r_Net := G.r_Net
  have v_Cluster_MOST := G.v_Cluster_MOST
  have v_Net_MOST := G.v_Net_MOST
  refine ⟨_, (pss_cons (ps_for PassesOwn.never rfl (pi_lstK K (pv 0)) (pg_name (i := 2) (by exact sc__law_first.nd) rfl (.inl rfl)) (pss_one (ps_if (pt_cmpR (niA_K K hr) (pv 2) (pv 1) (by rfl)) (pss_one (ps_ret (pv 2))) pss_nil)))
  (pss_one (ps_ret (pe_un un_neg pe_int)))), ?_⟩
  rw [show L2.start ["_law_source_log", "_law_reader_log", "_law_entry"] [v0, v1] = [some v0, some v1, none] from rfl]
  obtain ⟨p, r, ls, lr, rfl, rfl, hp, hr, q⟩ := h
  walk_at "w"
  refine w_loop (walk_list (K := K) (a := p) (xs := ls.map V.int)) (fun i σ H' => ∃ x, σ = [some (.ref p), some (.ref r), x] ∧ H' = H ∧ ∀ b ∈ ls.take i, b ∈ lr) ⟨_, rfl, rfl, by simp⟩ (fun i σ H' _ ⟨x, _, e, _⟩ => by rw [e]; exact hp) ?_ ?_
  · rintro i x σ H2 H2' hi2 ⟨x1, rfl, rfl, pr⟩ ⟨rfl, hx⟩
    obtain ⟨b, hb, rfl⟩ := get_map hx
    walk_at "w"
    refine w_iteN (fun m => ?_) fun m => ?_
    · walk_at "w"
      have e : firstF ls lr = b := by unfold firstF; rw [find_at pr hb m]; rfl
      rw [e] at q
      exact q
    · walk_at "w"
      refine ⟨_, rfl, rfl, fun c hc => ?_⟩
      rw [take_succ hb] at hc
      rcases List.mem_append.mp hc with hc | hc
      · exact pr c hc
      · rw [List.mem_singleton.mp hc]; exact m
  · rintro σ H2 ⟨x1, rfl, rfl, pr⟩
    rw [List.length_map, List.take_length] at pr
    have e : firstF ls lr = -1 := by
      unfold firstF
      rw [List.find?_eq_none.mpr fun c hc => by simpa using pr c hc]
      rfl
    rw [e] at q
    walk_at "w"
    exact q
theorem ok__law_allowed (G : Glo K mg D) {f : Addr} {fd : FuncData} (F : Fun K "_law_allowed" "_law_allowed" s__law_allowed f fd) (h__law_first : Has P w K mg base "_law_first" 1 (sp__law_first K D)) : FnOk P w K mg base CX0 2 f fd ["_law_world_here", "_law_logs"] (sp__law_allowed K D) := by
  refine F.ok sc__law_allowed (fun vs H Q E h => len2 h) (fun cdv A outer s H vs Q E hr h => ?_)
  obtain ⟨v0, v1, rfl, h⟩ := h
  have c_Cluster := G.c_Cluster
  have c_Net := G.c_Net
  have n_Cluster__homes := G.n_Cluster__homes
  have n_Cluster_net := G.n_Cluster_net
  have n_Cluster_size := G.n_Cluster_size
  have n_Net__linked := G.n_Net__linked
  have n_Net__links := G.n_Net__links
  have n_Net_count := G.n_Net_count
  have r_Cluster := G.r_Cluster
  have r_Net := G.r_Net
  have v_Cluster_MOST := G.v_Cluster_MOST
  have v_Net_MOST := G.v_Net_MOST
  refine ⟨_, (pss_cons (ps_set (i := 2) sc__law_allowed.nd rfl (.inl rfl) (pe_lst pa_nil))
  (pss_cons (ps_for PassesOwn.never rfl (pi_range1 (by rfl) G.g_range (pa_cons (pe_callB (len_K K) (by rfl) G.g_len (by decide +kernel) (pa_cons (pe_ix (ixA_K K hr) (pv 0) pe_int (fun _ _ => rfl)) pa_nil)) pa_nil)) (pg_name (i := 3) (by exact sc__law_allowed.nd) rfl (.inr rfl)) (pss_one (ps_if (pt_not (tru_K K (pe_callB (any_K K) (by rfl) G.g_any (by decide +kernel) (pa_cons (pe_lc (own := [("_law_log", 5)]) (by rfl) sc__law_allowed.nd (pi_lstK K (pv 1)) (blkOk_by (own := [("_law_log", 5)]) (N := ["_law_world_here", "_law_logs", "_law_found", "_law_entry", "_law_link", "_law_log"]) (sc := defScope s__law_allowed) (by decide +kernel)) (fun _ _ _ _ _ => (pg_name (i := 5) (by exact sc__law_allowed.nd) rfl (.inl rfl))) (fun _ _ _ _ _ => pts_nil) (fun _ _ _ _ _ => (pe_cmpR (inA_K K hr) (pv 3) (pv 5) (by rfl)))) pa_nil)) (by intro _; rfl))) (pss_one (ps_expr (bm_K K PySem.F.plainAttrs_list PySem.F.slot_list_append PySem.F.type_list_append mt_append (pv 2) (pa_cons (pe_tup (pa_cons pe_str (pa_cons (pv 3) pa_nil))) pa_nil)))) pss_nil)))
  (pss_cons (ps_for PassesOwn.never rfl (pi_lstK K (pe_ix (ixA_K K hr) (pv 0) pe_int (fun _ _ => rfl))) (pg_name (i := 4) (by exact sc__law_allowed.nd) rfl (.inl rfl)) (pss_cons (ps_set (i := 3) sc__law_allowed.nd rfl (.inr rfl) (pe_fn h__law_first (hr.mono (by decide)) (by rfl) (pa_cons (pe_ix (ixA_K K hr) (pv 1) (pe_ix (ixA_K K hr) (pv 4) pe_int (fun _ _ => rfl)) (fun _ _ => rfl)) (pa_cons (pe_ix (ixA_K K hr) (pv 1) (pe_ix (ixA_K K hr) (pv 4) pe_int (fun _ _ => rfl)) (fun _ _ => rfl)) pa_nil))))
  (pss_one (ps_if (pt_cmpR (op_ge) (pv 3) pe_int (nomark _)) (pss_one (ps_expr (bm_K K PySem.F.plainAttrs_list PySem.F.slot_list_append PySem.F.type_list_append mt_append (pv 2) (pa_cons (pe_tup (pa_cons pe_str (pa_cons (pe_ix (ixA_K K hr) (pv 4) pe_int (fun _ _ => rfl)) (pa_cons (pe_ix (ixA_K K hr) (pv 4) pe_int (fun _ _ => rfl)) (pa_cons (pv 3) pa_nil))))) pa_nil)))) pss_nil))))
  (pss_one (ps_ret (pv 2)))))), ?_⟩
  rw [show L2.start ["_law_world_here", "_law_logs", "_law_found", "_law_entry", "_law_link", "_law_log"] [v0, v1] = [some v0, some v1, none, none, none, none] from rfl]
  obtain ⟨w, p, n, L, hs, xs, rfl, rfl, ⟨⟨l, g, w1, w2, w3⟩, w4, w5, w6, w7, w8⟩, ⟨ps, hp, ho⟩, ⟨z1, z2, z3⟩, q⟩ := h
  walk_at "w"
  (refine w_newXL (le_line (by walk_at "side")) (fun r H1 nr e1 hr EE_ => ?_); (try rw [← EE_]); clear EE_)
  with_reducible conv => whnf
  refine w_seq ?_
  refine w_for ?_
  refine w_iR1 ?_
  refine w_cons ?_
  refine w_cb ?_
  refine w_cons ?_
  refine w_op ?_
  refine w_var rfl ?_
  refine w_c ?_
  refine w_ixCA (.inl (.inl (e1 _ _ w1))) rfl ?_
  refine w_nil ?_
  refine w_lenI (.inl (.inl (e1 _ _ w3))) ?_
  refine w_nil ?_
  refine w_rng (by omega) (by omega) ?_
  rw [Int.toNat_natCast]
  have lgs : ∀ q : Int, 0 ≤ q → q < n → ∃ a, ps[q.toNat]? = some a ∧ H a = some (lstO (logAt xs q)) := fun q h0 h1 => by
    have hl : q.toNat < xs.length := by omega
    have e : xs[q.toNat]? = some (logAt xs q) := by unfold logAt; rw [List.getElem?_eq_getElem hl]; rfl
    exact ho.get (by rw [List.getElem?_map, e]; rfl)
  refine w_loopR (fun i σ H' => ∃ x y z, σ = [some (.ref w), some (.ref p), some (.ref r), x, y, z] ∧ Ex H H' ∧ ActR H' r (wrF xs i)) ⟨_, _, _, rfl, e1, [], hr, rfl, List.not_mem_nil⟩ ?_ ?_
  · rintro i σ H2 hi ⟨x, y, z, rfl, e2, qs, hq, hu, rn⟩
    walk_at "w"
    refine w_comp (walk_list (xs := ps.map V.ref)) (fun j vs _ => vs = ((xs.take j).map fun l => decide ((i : Int) ∈ l)).map V.bl) yAt (fun H' e => ex_l (e2.trans e) (sq_of hp)) rfl ?_ ?_
    · rintro j lx acc D2 B H3 H4 hj eB rfl bD eB1 hx hD ⟨rfl, hy⟩ -
      rw [List.length_map, ho.len, List.length_map] at hj
      obtain ⟨lg, hlg⟩ : ∃ lg, xs[j]? = some lg := ⟨_, List.getElem?_eq_getElem hj⟩
      obtain ⟨a, ha, hta⟩ := ho.get (o := lstO lg) (by rw [List.getElem?_map, hlg]; rfl)
      have h4 := (refs_get ha).symm.trans hy
      cases h4
      have hl : SqL K H4 a (lg.map V.int) := .inl (.inl ((e2.trans (eB.trans eB1)) _ _ hta))
      refine ⟨rfl, ?_⟩
      walk_at "w"
      refine cyes hD (eB.trans eB1) hx (by rw [List.length_map, List.length_map, List.length_take]; omega) (Ex.refl _) ?_
      rw [take_succ hlg, List.map_append, List.map_append]
      rfl
    · rintro D2 B H3 acc hD eB eB1 bD hx rfl
      rw [List.length_map, ho.len, List.length_map, List.take_length] at hx
      walk_at "w"
      refine ⟨D2, _, rfl, .inl (.inl hx), ?_⟩
      rw [any_bl]
      have e3 : Ex H2 H3 := eB.trans eB1
      walk_at "w"
      refine w_iteBN (fun b => ?_) fun b => ?_
      · walk_at "w"
        (refine w_newXT (le_line (by walk_at "side")) (fun tt H4 nt e4 ht EE_ => ?_); (try rw [← EE_]); clear EE_)
        walk_at "w"
        refine w_app (e4 _ _ (e3 _ _ hq)) (by have := wrF_len (xs := xs) (i := i); rw [List.length_map, hu.len, List.length_map]; omega) fun H5 c5 hr5 => ?_
        walk_at "w"
        refine ⟨_, _, _, rfl, c5.ex ((e2.trans e3).trans e4) nr, ?_⟩
        rw [wrF_yes b]
        exact .add (q := .wr i) (e3 _ _ hq) (hu.ex e3) rn e4 nt ht c5 hr5
      · walk_at "w"
        exact ⟨_, _, _, rfl, e2.trans e3, by rw [wrF_no b]; exact ⟨qs, e3 _ _ hq, hu.ex e3, rn⟩⟩
  · rintro σ H2 ⟨x, y, z, rfl, e2, hA⟩
    obtain ⟨lp, hlp, hlo⟩ := w2
    have hlp2 : SqL K H2 l (lp.map V.ref) := .inl (.inl (e2 _ _ hlp))
    walk_at "w"
    refine w_loop (walk_list (K := K) (a := l) (xs := lp.map V.ref)) (fun i σ H' => ∃ x y z, σ = [some (.ref w), some (.ref p), some (.ref r), x, y, z] ∧ Ex H H' ∧ ActR H' r (wrF xs hs.length ++ puF xs (L.take i))) ⟨_, _, _, rfl, e2, by rw [List.take_zero]; exact (List.append_nil (wrF xs hs.length)).symm ▸ hA⟩ (fun i σ H' _ ⟨_, _, _, _, e, _⟩ => ex_l e (sq_of hlp)) ?_ ?_
    · rintro i lx σ H3 H3' hi ⟨x, y, z, rfl, e3, qs, hq, hu, rn⟩ ⟨rfl, hx⟩
      rw [List.length_map, hlo.len, List.length_map] at hi
      obtain ⟨lk, hlk⟩ : ∃ lk, L[i]? = some lk := ⟨_, List.getElem?_eq_getElem hi⟩
      obtain ⟨a, ha, hta⟩ := hlo.get (o := pairO lk) (by rw [List.getElem?_map, hlk]; rfl)
      have h4 := (refs_get ha).symm.trans hx
      cases h4
      obtain ⟨_, k2, k3, k4, k5⟩ := w6.1 lk (List.mem_of_getElem? hlk)
      obtain ⟨a1, ha1, hl1⟩ := lgs lk.1 k2 k3
      obtain ⟨a2, ha2, hl2⟩ := lgs lk.2 k4 k5
      have ht3 : SqT K H3' a [.int lk.1, .int lk.2] := .of (e3 _ _ hta)
      have hp3 : SqL K H3' p (ps.map V.ref) := .inl (.inl (e3 _ _ hp))
      have tl : (L.take i).length ≤ 1000 := by rw [List.length_take]; have := w6.2.2; omega
      walk_at "w"
      refine w_ixN hp3 k2 (refs_get ha1) ?_
      walk_at "w"
      refine w_ixN hp3 k4 (refs_get ha2) ?_
      walk_at "w"
      refine ⟨_, _, rfl, a1, a2, _, _, rfl, rfl, .inl (.inl (e3 _ _ hl1)), .inl (.inl (e3 _ _ hl2)), ?_⟩
      walk_at "w"
      refine w_ite (fun g => ?_) fun g => ?_
      · walk_at "w"
        (refine w_newXT (le_line (by walk_at "side")) (fun tt H4 nt e4 ht EE_ => ?_); (try rw [← EE_]); clear EE_)
        walk_at "w"
        refine w_app (e4 _ _ hq) (by have := wrF_len (xs := xs) (i := hs.length); have := puF_len (xs := xs) (L := L.take i); rw [List.length_map, hu.len, List.length_map, List.length_append]; omega) fun H5 c5 hr5 => ?_
        walk_at "w"
        refine ⟨_, _, _, rfl, c5.ex (e3.trans e4) nr, ?_⟩
        rw [take_succ hlk, puF_snoc, if_pos g, ← List.append_assoc]
        exact .add (q := .pu lk.1 lk.2 (firstF (logAt xs lk.1) (logAt xs lk.2))) hq hu rn e4 nt ht c5 hr5
      · walk_at "w"
        refine ⟨_, _, _, rfl, e3, ?_⟩
        rw [take_succ hlk, puF_snoc, if_neg g, List.append_nil]
        exact ⟨qs, hq, hu, rn⟩
    · rintro σ H3 ⟨x, y, z, rfl, e3, qs, hq, hu, rn⟩
      rw [List.length_map, hlo.len, List.length_map, List.take_length] at hu
      walk_at "w"
      exact q r H3 nr e3 ⟨qs, hq, hu⟩
theorem ok__law_place (G : Glo K mg D) {f : Addr} {fd : FuncData} (F : Fun K "_law_place" "_law_place" s__law_place f fd) : FnOk P w K mg base CX0 1 f fd ["_law_world_here", "_law_action"] (sp__law_place K D) := by
  refine F.ok sc__law_place (fun vs H Q E h => len2 h) (fun cdv A outer s H vs Q E hr h => ?_)
  obtain ⟨v0, v1, rfl, h⟩ := h
  have c_Cluster := G.c_Cluster
  have c_Net := G.c_Net
  have n_Cluster__homes := G.n_Cluster__homes
  have n_Cluster_net := G.n_Cluster_net
  have n_Cluster_size := G.n_Cluster_size
  have n_Net__linked := G.n_Net__linked
  have n_Net__links := G.n_Net__links
  have n_Net_count := G.n_Net_count
  have r_Cluster := G.r_Cluster
  have r_Net := G.r_Net
  have v_Cluster_MOST := G.v_Cluster_MOST
  have v_Net_MOST := G.v_Net_MOST
  refine ⟨_, (pss_cons (ps_if (pt_cmpR (eq_K K hr.units) (pe_ix (ixA_K K hr) (pv 1) pe_int (fun _ _ => rfl)) pe_str (nomark _)) (pss_one (ps_ret (pe_ix (ixA_K K hr) (pe_ix (ixA_K K hr) (pv 0) pe_int (fun _ _ => rfl)) (pe_ix (ixA_K K hr) (pv 1) pe_int (fun _ _ => rfl)) (fun _ _ => rfl)))) pss_nil)
  (pss_one (ps_ret (pe_ix (ixA_K K hr) (pv 1) pe_int (fun _ _ => rfl))))), ?_⟩
  rw [show L2.start ["_law_world_here", "_law_action"] [v0, v1] = [some v0, some v1] from rfl]
  obtain ⟨w, t, n, L, hs, ac, rfl, rfl, ⟨⟨l, g, w1, w2, w3⟩, w4, w5, w6, w7, w8⟩, ht, ok, q⟩ := h
  cases ac with
  | wr e =>
    have ht' : SqT K H t [.str "write", .int e] := .of ht
    walk_at "w"
    rw [decide_eq_true rfl]
    walk_at "w"
    have he : e < hs.length := ok
    obtain ⟨h, hh⟩ : ∃ h, hs[e]? = some h := ⟨_, List.getElem?_eq_getElem he⟩
    have q' : Q (.int h) H := by
      have e2 : placeF hs (.wr e) = h := by show (hs[e]?).getD 0 = h; rw [hh]; rfl
      rw [e2] at q
      exact q
    refine w_ixIA (.inl (.inl w3)) (by omega) (by omega) fun y hy => ?_
    rw [Int.toNat_natCast, hh] at hy
    cases hy
    exact q'
  | pu s r e =>
    have ht' : SqT K H t [.str "pull", .int s, .int r, .int e] := .of ht
    walk_at "w"
    rw [decide_eq_false (by decide)]
    walk_at "w"
    exact q
theorem ok__law_after (G : Glo K mg D) {f : Addr} {fd : FuncData} (F : Fun K "_law_after" "_law_after" s__law_after f fd) (h__law_copy : Has P w K mg base "_law_copy" 1 (sp__law_copy K D)) (h__law_place : Has P w K mg base "_law_place" 1 (sp__law_place K D)) : FnOk P w K mg base CX0 2 f fd ["_law_world_here", "_law_logs", "_law_action"] (sp__law_after K D) := by
  refine F.ok sc__law_after (fun vs H Q E h => len3 h) (fun cdv A outer s H vs Q E hr h => ?_)
  obtain ⟨v0, v1, v2, rfl, h⟩ := h
  have c_Cluster := G.c_Cluster
  have c_Net := G.c_Net
  have n_Cluster__homes := G.n_Cluster__homes
  have n_Cluster_net := G.n_Cluster_net
  have n_Cluster_size := G.n_Cluster_size
  have n_Net__linked := G.n_Net__linked
  have n_Net__links := G.n_Net__links
  have n_Net_count := G.n_Net_count
  have r_Cluster := G.r_Cluster
  have r_Net := G.r_Net
  have v_Cluster_MOST := G.v_Cluster_MOST
  have v_Net_MOST := G.v_Net_MOST
  refine ⟨_, (pss_cons (ps_set (i := 3) sc__law_after.nd rfl (.inl rfl) (pe_fn h__law_copy (hr.mono (by decide)) (by rfl) (pa_cons (pv 1) pa_nil)))
  (pss_cons (ps_expr (bm_K K PySem.F.plainAttrs_list PySem.F.slot_list_append PySem.F.type_list_append mt_append (pe_ix (ixA_K K hr) (pv 3) (pe_fn h__law_place (hr.mono (by decide)) (by rfl) (pa_cons (pv 0) (pa_cons (pv 2) pa_nil))) (fun _ _ => rfl)) (pa_cons (pe_ix (ixA_K K hr) (pv 2) (pe_un un_neg pe_int) (fun _ _ => rfl)) pa_nil)))
  (pss_one (ps_ret (pv 3))))), ?_⟩
  rw [show L2.start ["_law_world_here", "_law_logs", "_law_action", "_law_found"] [v0, v1, v2] = [some v0, some v1, some v2, none] from rfl]
  obtain ⟨w, p, t, n, L, hs, xs, ac, rfl, rfl, rfl, hW, hX, ⟨z1, z2, z3⟩, ht, ok, q⟩ := h
  walk_at "w"
  refine ⟨_, rfl, p, xs, rfl, hX, z2, fun r H1 e1 ⟨qs, f1, f2, f3, f4, f5, f6⟩ => ?_⟩
  walk_at "w"
  refine ⟨_, _, rfl, w, t, n, L, hs, ac, rfl, rfl, hW.ex e1, e1 _ _ ht, ok, ?_⟩
  obtain ⟨p0, p1⟩ := place_ok ok hW.ho
  walk_at "w"
  have il : (placeF hs ac).toNat < xs.length := by omega
  obtain ⟨lg, hlg⟩ : ∃ lg, xs[(placeF hs ac).toNat]? = some lg := ⟨_, List.getElem?_eq_getElem il⟩
  obtain ⟨a, ha, hta⟩ := f2.get (o := lstO lg) (by rw [List.getElem?_map, hlg]; rfl)
  have okl := z3 lg (List.mem_of_getElem? hlg)
  refine w_ixN (.inl (.inl f1)) p0 (refs_get ha) ?_
  have hl : SqL K H1 a (lg.map V.int) := .inl (.inl hta)
  walk_at "w"
  have lastI : ∃ us, H1 t = some (.tup us) ∧ atI us (-1) = some (.int ac.ent) := by
    cases ac with
    | wr e => exact ⟨_, e1 _ _ ht, rfl⟩
    | pu s r e => exact ⟨_, e1 _ _ ht, rfl⟩
  obtain ⟨us, hus, hat⟩ := lastI
  refine w_ixTA (.of hus) hat ?_
  walk_at "w"
  refine w_appI hta (by have := okl.2.2; omega) fun H2 c2 h2 => ?_
  walk_at "w"
  have am := List.mem_of_getElem? ha
  have an := f4 a am
  have ra : r ≠ a := fun z => f6 (z ▸ am)
  refine q r H2 (c2.ex e1 an) ⟨qs, (c2 r ra).trans f1, ?_, f3, f4, f5, f6⟩
  unfold afterF addAt
  rw [hlg, List.map_set]
  exact objs_set f2 ha c2 h2 f5
theorem ok__law_most (G : Glo K mg D) {f : Addr} {fd : FuncData} (F : Fun K "_law_most" "_law_most" s__law_most f fd) (h__law_take : Has P w K mg base "_law_take" 1 (sp__law_take K D)) : FnOk P w K mg base CX0 2 f fd ["_law_box_here"] (sp__law_most K D) := by
  refine F.ok sc__law_most (fun vs H Q E h => len1 h) (fun cdv A outer s H vs Q E hr h => ?_)
  obtain ⟨v0, rfl, h⟩ := h
  have c_Cluster := G.c_Cluster
  have c_Net := G.c_Net
  have n_Cluster__homes := G.n_Cluster__homes
  have n_Cluster_net := G.n_Cluster_net
  have n_Cluster_size := G.n_Cluster_size
  have n_Net__linked := G.n_Net__linked
  have n_Net__links := G.n_Net__links
  have n_Net_count := G.n_Net_count
  have r_Cluster := G.r_Cluster
  have r_Net := G.r_Net
  have v_Cluster_MOST := G.v_Cluster_MOST
  have v_Net_MOST := G.v_Net_MOST
  refine ⟨_, (pss_cons (ps_if (pt_cmpR (eq_K K hr.units) (pe_fn h__law_take (hr.mono (by decide)) (by rfl) (pa_cons (pv 0) (pa_cons pe_int pa_nil))) pe_int (nomark _)) (pss_one (ps_ret pe_int)) pss_nil)
  (pss_one (ps_ret (pe_fn h__law_take (hr.mono (by decide)) (by rfl) (pa_cons (pv 0) (pa_cons pe_int pa_nil)))))), ?_⟩
  rw [show L2.start ["_law_box_here"] [v0] = [some v0] from rfl]
  obtain ⟨t, rfl, hT, q⟩ := h
  walk_at "w"
  refine ⟨_, _, rfl, t, _, rfl, rfl, hT, by decide, by decide, fun d d0 d1 => ?_⟩
  walk_at "w"
  refine w_ite (fun _ => ?_) fun _ => ?_
  · walk_at "w"
    exact q 42 (by decide) (by decide)
  · walk_at "w"
    exact ⟨_, _, rfl, t, _, rfl, rfl, hT, by decide, by decide, fun d d0 d1 => q d d0 (by omega)⟩
theorem ok__law_run (G : Glo K mg D) {f : Addr} {fd : FuncData} (F : Fun K "_law_run" "_law_run" s__law_run f fd) (h__law_copy : Has P w K mg base "_law_copy" 1 (sp__law_copy K D)) (h__law_allowed : Has P w K mg base "_law_allowed" 2 (sp__law_allowed K D)) (h__law_take : Has P w K mg base "_law_take" 1 (sp__law_take K D)) (h__law_after : Has P w K mg base "_law_after" 2 (sp__law_after K D)) : FnOk P w K mg base CX0 3 f fd ["_law_box_here", "_law_world_here", "_law_start_here", "_law_most_here"] (sp__law_run K D) := by
  refine F.ok sc__law_run (fun vs H Q E h => len4 h) (fun cdv A outer s H vs Q E hr h => ?_)
  obtain ⟨v0, v1, v2, v3, rfl, h⟩ := h
  have c_Cluster := G.c_Cluster
  have c_Net := G.c_Net
  have n_Cluster__homes := G.n_Cluster__homes
  have n_Cluster_net := G.n_Cluster_net
  have n_Cluster_size := G.n_Cluster_size
  have n_Net__linked := G.n_Net__linked
  have n_Net__links := G.n_Net__links
  have n_Net_count := G.n_Net_count
  have r_Cluster := G.r_Cluster
  have r_Net := G.r_Net
  have v_Cluster_MOST := G.v_Cluster_MOST
  have v_Net_MOST := G.v_Net_MOST
  refine ⟨_, (pss_cons (ps_set (i := 4) sc__law_run.nd rfl (.inl rfl) (pe_lst pa_nil))
  (pss_cons (ps_set (i := 5) sc__law_run.nd rfl (.inl rfl) (pe_lst (pa_cons (pe_fn h__law_copy (hr.mono (by decide)) (by rfl) (pa_cons (pv 2) pa_nil)) pa_nil)))
  (pss_cons (ps_for PassesOwn.never rfl (pi_range1 (by rfl) G.g_range (pa_cons (pv 3) pa_nil)) (pg_name (i := 6) (by exact sc__law_run.nd) rfl (.inl rfl)) (pss_cons (ps_set (i := 7) sc__law_run.nd rfl (.inl rfl) (pe_fn h__law_allowed (hr.mono (by decide)) (by rfl) (pa_cons (pv 1) (pa_cons (pe_ix (ixA_K K hr) (pv 5) (pe_un un_neg pe_int) (fun _ _ => rfl)) pa_nil))))
  (pss_cons (ps_if (pt_cmpR (eq_K K hr.units) (pv 7) (pe_lst pa_nil) (nomark _)) (pss_one ps_break) pss_nil)
  (pss_cons (ps_expr (bm_K K PySem.F.plainAttrs_list PySem.F.slot_list_append PySem.F.type_list_append mt_append (pv 4) (pa_cons (pe_ix (ixA_K K hr) (pv 7) (pe_fn h__law_take (hr.mono (by decide)) (by rfl) (pa_cons (pv 0) (pa_cons (pe_callB (len_K K) (by rfl) G.g_len (by decide +kernel) (pa_cons (pv 7) pa_nil)) pa_nil))) (fun _ _ => rfl)) pa_nil)))
  (pss_one (ps_expr (bm_K K PySem.F.plainAttrs_list PySem.F.slot_list_append PySem.F.type_list_append mt_append (pv 5) (pa_cons (pe_fn h__law_after (hr.mono (by decide)) (by rfl) (pa_cons (pv 1) (pa_cons (pe_ix (ixA_K K hr) (pv 5) (pe_un un_neg pe_int) (fun _ _ => rfl)) (pa_cons (pe_ix (ixA_K K hr) (pv 4) (pe_un un_neg pe_int) (fun _ _ => rfl)) pa_nil)))) pa_nil))))))))
  (pss_one (ps_ret (pe_lst (pa_cons (pv 4) (pa_cons (pv 5) pa_nil)))))))), ?_⟩
  rw [show L2.start ["_law_box_here", "_law_world_here", "_law_start_here", "_law_most_here", "_law_trace", "_law_states", "_law_turn", "_law_ways"] [v0, v1, v2, v3] = [some v0, some v1, some v2, some v3, none, none, none, none] from rfl]
  obtain ⟨t, w, p, n, L, hs, st, m, rfl, rfl, rfl, rfl, hT, hW, hX, ok0, m0, m1, q⟩ := h
  walk_at "w"
  (refine w_newXL (le_line (by walk_at "side")) (fun u H1 nu e1 hu EE_ => ?_); (try rw [← EE_]); clear EE_)
  walk_at "w"
  refine ⟨_, rfl, p, st, rfl, hX.ex e1, ok0.2.1, fun c0 H2 e2 hc => ?_⟩
  walk_at "w"
  (refine w_newXL (le_line (by walk_at "side")) (fun s H3 ns e3 hs3 EE_ => ?_); (try rw [← EE_]); clear EE_)
  have us : u ≠ s := ne_of_none (e2 _ _ hu) ns
  have hL0 : LLs (dd u s H3) c0 st := by
    obtain ⟨ps, a, b, f1, f2, f3, f4⟩ := hc
    have n1 : ∀ x o, H1 x = none → H2 x = some o → x ≠ u ∧ x ≠ s := fun x o z y => ⟨ne_of_none hu z |>.symm, ne_of_none y ns⟩
    refine ⟨ps, (dd_ne (n1 _ _ f1 a).1 (n1 _ _ f1 a).2).trans (e3 _ _ a), ?_⟩
    have b3 := b.ex e3
    unfold Objs at *
    rw [← b3]
    refine List.map_congr_left fun x hx => ?_
    obtain ⟨o, ho⟩ := Objs.at (H := H2) b hx
    exact dd_ne (n1 x o (f2 x hx) ho).1 (n1 x o (f2 x hx) ho).2
  have hs0 : H s = none := fresh_back (e1.trans e2) ns
  have dd0 : Ex H (dd u s H3) := fun a o z => (dd_ne (ne_of_none z nu) (ne_of_none z hs0)).trans (((e1.trans e2).trans e3) _ _ z)
  have lz := (hW.lo.2.2)
  have hz := hW.hl
  walk_at "w"
  refine w_loopR (fun i σ H' => ∃ (x y : Option V) (tr : List Act) (ss : List (List (List Int))) (ps qs : List Addr) (xs : List (List Int)), σ = [some (.ref t), some (.ref w), some (.ref p), some (.int m), some (.ref u), some (.ref s), x, y] ∧ Ex H (dd u s H') ∧ H' u = some (.lst (ps.map V.ref)) ∧ Objs (dd u s H') ps (tr.map actO) ∧ H' s = some (.lst (qs.map V.ref)) ∧ qs.length = ss.length ∧
    (∀ (i : Nat) a xs, qs[i]? = some a → ss[i]? = some xs → LLs (dd u s H') a xs) ∧ RunP hs L st tr ss ∧ tr.length ≤ i ∧ (∀ xs ∈ ss, LogsOk n hs.length xs) ∧ ss[tr.length]? = some xs) ?_ ?_ ?_
  · refine ⟨_, _, [], [st], [], [c0], st, rfl, dd0, (e3 _ _ (e2 _ _ hu)), rfl, hs3, rfl, fun i a xs h1 h2 => ?_, .start, Nat.le_refl _, fun xs m => by rw [List.mem_singleton.mp m]; exact ok0, rfl⟩
    cases i with
    | zero => cases h1; cases h2; exact hL0
    | succ i => cases h1
  · rintro i σ H4 hi ⟨x, y, tr, ss, ps, qs, xs, rfl, e4, hu4, ho4, hs4, ql, hq, rp, tl, sok, hlast⟩
    have e4' : Ex H H4 := e4.trans dd_ex
    have hT4 := hT.ex e4'
    have hW4 := hW.ex e4'
    have sl := rp.len
    obtain ⟨qa, hqa⟩ : ∃ a, qs[tr.length]? = some a := ⟨_, List.getElem?_eq_getElem (by omega)⟩
    have hX4 : LLs H4 qa xs := (hq _ _ _ hqa hlast).ex dd_ex
    have okx := sok xs (List.mem_of_getElem? hlast)
    have lastq : atI (qs.map V.ref) (-1) = some (.ref qa) := at_last (by rw [List.length_map, ql, sl]) (refs_get hqa)
    walk_at "w"
    refine w_ixCA (.inl (.inl hs4)) lastq ?_
    walk_at "w"
    refine ⟨_, _, rfl, w, qa, n, L, hs, xs, rfl, rfl, hW4, hX4, okx, fun wy H5 nw e5 hA => ?_⟩
    have hu5 := e5 _ _ hu4
    have hs5 := e5 _ _ hs4
    walk_at "w"
    (refine w_newXL (le_line (by walk_at "side")) (fun nl H6 nnl e6 hnl EE_ => ?_); (try rw [← EE_]); clear EE_)
    walk_at "w"
    refine w_eqAct (hA.ex e6) hnl ?_
    walk_at "w"
    refine w_ite (fun z => ?_) fun z => ?_
    · walk_at "w"
      (refine w_newXL (le_line (by walk_at "side")) (fun r H7 nr e7 hr EE_ => ?_); (try rw [← EE_]); clear EE_)
      have e47 := (e5.trans e6).trans e7
      exact q r u s H7 tr ss (fresh_back ((e4'.trans e5).trans e6) nr) (e4'.trans e47) hr ⟨ps, e47 _ _ hu4, (ho4.ex dd_ex).ex e47⟩ ⟨qs, e47 _ _ hs4, ql, fun i a xs h1 h2 => ((hq i a xs h1 h2).ex dd_ex).ex e47⟩ rp (by omega) sok
    · have alen : (allF xs L hs.length).length ≤ 100000 := by
        unfold allF
        rw [List.length_append]
        have := wrF_len (xs := xs) (i := hs.length)
        have := puF_len (xs := xs) (L := L)
        omega
      have apos : 0 < (allF xs L hs.length).length := List.length_pos_iff.mpr z
      obtain ⟨wp, hwp, hwo⟩ := hA.ex e6
      have wl : wp.length = (allF xs L hs.length).length := by rw [hwo.len, List.length_map]
      have hw6 : SqL K H6 wy (wp.map V.ref) := .inl (.inl hwp)
      have e46 : Ex H4 H6 := e5.trans e6
      walk_at "w"
      refine w_lenR hw6 ?_
      walk_at "w"
      refine ⟨_, _, rfl, t, _, rfl, rfl, hT4.ex e46, by rw [List.length_map, wl]; omega, by rw [List.length_map, wl]; omega, fun d d0 d1 => ?_⟩
      rw [List.length_map, wl] at d1
      have dl : d.toNat < (allF xs L hs.length).length := by omega
      obtain ⟨ac, hac⟩ : ∃ ac, (allF xs L hs.length)[d.toNat]? = some ac := ⟨_, List.getElem?_eq_getElem dl⟩
      obtain ⟨ta, hta, hto⟩ := hwo.get (o := actO ac) (by rw [List.getElem?_map, hac]; rfl)
      refine w_ixN hw6 d0 (refs_get hta) ?_
      have ml : m.toNat ≤ 100 := by omega
      have pl : ps.length = tr.length := by rw [ho4.len, List.length_map]
      have hu6 := e46 _ _ hu4
      have hs6 := e46 _ _ hs4
      have okA := allF_ok okx hW.lo.1 (List.mem_of_getElem? hac)
      walk_at "w"
      refine w_app hu6 (by rw [List.length_map, pl]; omega) fun H7 c7 hu7 => ?_
      have hs7 : H7 s = some (.lst (qs.map V.ref)) := (c7 s us.symm).trans hs6
      have dd7 : Ex (dd u s H4) (dd u s H7) := (dd_mono e46).trans (dd_chg1 c7)
      have e7 : Ex H H7 := c7.ex (e4'.trans e46) nu
      have tau : ta ≠ u := ne_of hto hu6 (by cases ac <;> (intro z; cases z))
      have tas : ta ≠ s := ne_of hto hs6 (by cases ac <;> (intro z; cases z))
      have ht7 : H7 ta = some (actO ac) := (c7 ta tau).trans hto
      have hu7' : H7 u = some (.lst ((ps ++ [ta]).map V.ref)) := by rw [hu7, List.map_append]; rfl
      walk_at "w"
      refine w_ixCA (.inl (.inl hs7)) lastq ?_
      walk_at "w"
      refine w_ixCA (.inl (.inl hu7')) (at_last (k := ps.length) (v := .ref ta) (by rw [List.length_map, List.length_append]; rfl) (refs_get (by rw [List.getElem?_append_right (Nat.le_refl _), Nat.sub_self]; rfl))) ?_
      walk_at "w"
      refine ⟨_, _, _, rfl, w, qa, ta, n, L, hs, xs, ac, rfl, rfl, rfl, hW.ex e7, ((hq _ _ _ hqa hlast).ex dd7).ex dd_ex, okx, ht7, okA, fun r2 H8 e8 hL8 => ?_⟩
      have hs8 := e8 _ _ hs7
      walk_at "w"
      refine w_app hs8 (by rw [List.length_map, ql, sl]; omega) fun H9 c9 hs9 => ?_
      walk_at "w"
      have dd9 : Ex (dd u s H7) (dd u s H9) := (dd_mono e8).trans (dd_chg2 c9)
      have new9 : LLs (dd u s H9) r2 (afterF hs xs ac) := (hL8.dd (by rw [hu7']; simp) (by rw [hs7]; simp)).ex (dd_chg2 c9)
      refine ⟨_, _, tr ++ [ac], ss ++ [afterF hs xs ac], ps ++ [ta], qs ++ [r2], afterF hs xs ac, rfl, e4.trans (dd7.trans dd9), (c9 u us).trans (e8 _ _ hu7'), ?_, by rw [hs9, List.map_append]; rfl, by rw [List.length_append, List.length_append, ql]; rfl, fun j a ys h1 h2 => ?_, rp.add hlast (List.mem_of_getElem? hac), by rw [List.length_append]; exact Nat.succ_le_succ tl, fun ys hy => ?_, ?_⟩
      · rw [List.map_append]
        exact (ho4.ex (dd7.trans dd9)).app (Objs.one (dd9 _ _ ((dd_ne tau tas).trans ht7)))
      · rcases Nat.lt_or_ge j qs.length with lt | ge
        · rw [List.getElem?_append_left lt] at h1
          rw [List.getElem?_append_left (by omega)] at h2
          exact (hq j a ys h1 h2).ex (dd7.trans dd9)
        · rw [List.getElem?_append_right ge] at h1
          rw [List.getElem?_append_right (by omega)] at h2
          obtain rfl : j = qs.length := by
            have := (List.getElem?_eq_some_iff.mp h1).1
            simp at this
            omega
          rw [Nat.sub_self] at h1
          rw [ql, Nat.sub_self] at h2
          cases h1
          cases h2
          exact new9
      · rcases List.mem_append.mp hy with hy | hy
        · exact sok ys hy
        · rw [List.mem_singleton.mp hy]
          exact after_ok hz hW.ho okx hW.lo.1 (List.mem_of_getElem? hac)
      · rw [List.length_append, List.getElem?_append_right (by rw [sl]; exact Nat.le_refl _), sl]
        show [afterF hs xs ac][tr.length + 1 - (tr.length + 1)]? = _
        rw [Nat.sub_self]
        rfl
  · rintro σ H4 ⟨x, y, tr, ss, ps, qs, xs, rfl, e4, hu4, ho4, hs4, ql, hq, rp, tl, sok, hlast⟩
    walk_at "w"
    (refine w_newXL (le_line (by walk_at "side")) (fun r H5 nr e5 hr EE_ => ?_); (try rw [← EE_]); clear EE_)
    exact q r u s H5 tr ss (fresh_back (e4.trans dd_ex) nr) ((e4.trans dd_ex).trans e5) hr ⟨ps, e5 _ _ hu4, (ho4.ex dd_ex).ex e5⟩ ⟨qs, e5 _ _ hs4, ql, fun i a xs h1 h2 => ((hq i a xs h1 h2).ex dd_ex).ex e5⟩ rp (by omega) sok
theorem ok__law_empty (G : Glo K mg D) {f : Addr} {fd : FuncData} (F : Fun K "_law_empty" "_law_empty" s__law_empty f fd) : FnOk P w K mg base CX0 1 f fd ["_law_world_here"] (sp__law_empty K D) := by
  refine F.ok sc__law_empty (fun vs H Q E h => len1 h) (fun cdv A outer s H vs Q E hr h => ?_)
  obtain ⟨v0, rfl, h⟩ := h
  have c_Cluster := G.c_Cluster
  have c_Net := G.c_Net
  have n_Cluster__homes := G.n_Cluster__homes
  have n_Cluster_net := G.n_Cluster_net
  have n_Cluster_size := G.n_Cluster_size
  have n_Net__linked := G.n_Net__linked
  have n_Net__links := G.n_Net__links
  have n_Net_count := G.n_Net_count
  have r_Cluster := G.r_Cluster
  have r_Net := G.r_Net
  have v_Cluster_MOST := G.v_Cluster_MOST
  have v_Net_MOST := G.v_Net_MOST
  refine ⟨_, (pss_one (ps_ret (pe_lc (own := [("_law_x", 1)]) (by rfl) sc__law_empty.nd (pi_range1 (by rfl) G.g_range (pa_cons (pe_ix (ixA_K K hr) (pv 0) pe_int (fun _ _ => rfl)) pa_nil)) (blkOk_by (own := [("_law_x", 1)]) (N := ["_law_world_here", "_law_x"]) (sc := defScope s__law_empty) (by decide +kernel)) (fun _ _ _ _ _ => (pg_name (i := 1) (by exact sc__law_empty.nd) rfl (.inl rfl))) (fun _ _ _ _ _ => pts_nil) (fun _ _ _ _ _ => (pe_lst pa_nil))))), ?_⟩
  rw [show L2.start ["_law_world_here", "_law_x"] [v0] = [some v0, none] from rfl]
  obtain ⟨w, n, L, hs, rfl, ⟨⟨l, g, w1, w2, w3⟩, w4, w5, w6, w7, w8⟩, q⟩ := h
  walk_at "w"
  refine w_comp walk_range (fun i vs B => ∃ qs : List Addr, vs = qs.map V.ref ∧ qs.length ≤ i ∧ Objs B qs ((List.replicate i ([] : List Int)).map lstO)) yFn (fun _ _ => trivial) ⟨[], rfl, Nat.le_refl _, rfl⟩ ?_ ?_
  · rintro i x acc D2 B H1 H2 hi eB ⟨qs, rfl, ql, o1⟩ bD eB1 hx hD ⟨rfl, rfl⟩ -
    refine ⟨rfl, ?_⟩
    walk_at "w"
    (refine w_newXL (le_line (by walk_at "side")) (fun r H3 nr e3 hr EE_ => ?_); (try rw [← EE_]); clear EE_)
    have rD : r ≠ D2 := (ne_of_none hx nr).symm
    refine cyes hD (eB.trans eB1) hx (by rw [List.length_map]; omega) e3 ⟨qs ++ [r], by rw [List.map_append]; rfl, by rw [List.length_append]; exact Nat.succ_le_succ ql, ?_⟩
    rw [List.replicate_succ', List.map_append]
    exact (o1.ex (ex_del (eB1.trans e3) bD)).app (Objs.one ((del_ne rD).trans hr))
  · rintro D2 B H1 acc hD eB eB1 bD hx ⟨qs, rfl, ql, o1⟩
    refine q D2 H1 _ (eB.trans eB1) ⟨qs, hx, o1.ex eB1⟩ ⟨by rw [List.length_replicate]; omega, by rw [List.length_replicate]; omega, fun l m => ?_⟩
    rw [(List.mem_replicate.mp m).2]
    exact ⟨List.nodup_nil, by simp, by simp⟩
theorem ok__law_any_logs (G : Glo K mg D) {f : Addr} {fd : FuncData} (F : Fun K "_law_any_logs" "_law_any_logs" s__law_any_logs f fd) (h__law_shuffled : Has P w K mg base "_law_shuffled" 2 (sp__law_shuffled K D)) (h__law_take : Has P w K mg base "_law_take" 1 (sp__law_take K D)) : FnOk P w K mg base CX0 3 f fd ["_law_box_here", "_law_world_here"] (sp__law_any_logs K D) := by
  refine F.ok sc__law_any_logs (fun vs H Q E h => len2 h) (fun cdv A outer s H vs Q E hr h => ?_)
  obtain ⟨v0, v1, rfl, h⟩ := h
  have c_Cluster := G.c_Cluster
  have c_Net := G.c_Net
  have n_Cluster__homes := G.n_Cluster__homes
  have n_Cluster_net := G.n_Cluster_net
  have n_Cluster_size := G.n_Cluster_size
  have n_Net__linked := G.n_Net__linked
  have n_Net__links := G.n_Net__links
  have n_Net_count := G.n_Net_count
  have r_Cluster := G.r_Cluster
  have r_Net := G.r_Net
  have v_Cluster_MOST := G.v_Cluster_MOST
  have v_Net_MOST := G.v_Net_MOST
  refine ⟨_, (pss_cons (ps_set (i := 2) sc__law_any_logs.nd rfl (.inl rfl) (pe_lst pa_nil))
  (pss_cons (ps_for PassesOwn.never rfl (pi_range1 (by rfl) G.g_range (pa_cons (pe_ix (ixA_K K hr) (pv 1) pe_int (fun _ _ => rfl)) pa_nil)) (pg_name (i := 3) (by exact sc__law_any_logs.nd) rfl (.inl rfl)) (pss_cons (ps_set (i := 4) sc__law_any_logs.nd rfl (.inl rfl) (pe_fn h__law_shuffled (hr.mono (by decide)) (by rfl) (pa_cons (pv 0) (pa_cons (pe_listRg rfl (by rfl) G.g_list (prg_1 (by rfl) G.g_range (pe_callB (len_K K) (by rfl) G.g_len (by decide +kernel) (pa_cons (pe_ix (ixA_K K hr) (pv 1) pe_int (fun _ _ => rfl)) pa_nil)))) pa_nil))))
  (pss_one (ps_expr (bm_K K PySem.F.plainAttrs_list PySem.F.slot_list_append PySem.F.type_list_append mt_append (pv 2) (pa_cons (pe_slice (sl_K K) (pv 4) po_none (po_some (pe_op op_mulA (pe_fn h__law_take (hr.mono (by decide)) (by rfl) (pa_cons (pv 0) (pa_cons (pe_op op_addA (pe_callB (len_K K) (by rfl) G.g_len (by decide +kernel) (pa_cons (pv 4) pa_nil)) pe_int) pa_nil))) (pe_fn h__law_take (hr.mono (by decide)) (by rfl) (pa_cons (pv 0) (pa_cons pe_int pa_nil)))))) pa_nil))))))
  (pss_one (ps_ret (pv 2))))), ?_⟩
  rw [show L2.start ["_law_box_here", "_law_world_here", "_law_found", "_law_k", "_law_names"] [v0, v1] = [some v0, some v1, none, none, none] from rfl]
  obtain ⟨t, w, n, L, hs, rfl, rfl, hT, ⟨⟨l, g, w1, w2, w3⟩, w4, w5, w6, w7, w8⟩, q⟩ := h
  walk_at "w"
  (refine w_newXL (le_line (by walk_at "side")) (fun r H1 nr e1 hr EE_ => ?_); (try rw [← EE_]); clear EE_)
  have rg : r ≠ g := (ne_of_none w3 nr).symm
  have dr : Ex H (del r H1) := ex_del e1 nr
  walk_at "w"
  refine w_loopR (fun i σ H' => ∃ (x y : Option V) (qs : List Addr) (xs : List (List Int)), σ = [some (.ref t), some (.ref w), some (.ref r), x, y] ∧ Ex H (del r H') ∧ H' r = some (.lst (qs.map V.ref)) ∧ Objs (del r H') qs (xs.map lstO) ∧ qs.length = i ∧ ∀ l ∈ xs, LogOk hs.length l) ⟨_, _, [], [], rfl, dr, hr, rfl, rfl, by simp⟩ ?_ ?_
  · rintro i σ H2 hi ⟨x, y, qs, xs, rfl, e2, hr2, ho, ql, hx⟩
    have e2' := e2.trans del_ex
    have w12 := e2' _ _ w1
    have w32 : SqL K H2 g (hs.map V.int) := .inl (.inl (e2' _ _ w3))
    walk_at "w"
    refine w_lrgI (by omega) (by omega) fun rr H3 n3 e3 hr3 => ?_
    walk_at "w"
    have e23 := e2'.trans e3
    have hn0 : (rangeI hs.length).length = hs.length := by unfold rangeI; rw [List.length_map, List.length_range]; rfl
    refine ⟨_, _, rfl, t, rr, _, rfl, rfl, hT.ex e23, .inl (.inl hr3), by rw [hn0]; omega, fun nm H4 ms n4 e4 hnm pm => ?_⟩
    have ml : ms.length = hs.length := pm.length_eq.trans hn0
    have hr4 := (e3.trans e4) _ _ hr2
    have hnm' : SqL K H4 nm (ms.map V.int) := .inl (.inl hnm)
    have hT4 := hT.ex (e23.trans e4)
    walk_at "w"
    refine ⟨_, _, rfl, t, _, rfl, rfl, hT4, by omega, by omega, fun d d0 d1 => ?_⟩
    walk_at "w"
    refine ⟨_, _, rfl, t, _, rfl, rfl, hT4, by decide, by decide, fun d2 d20 d21 => ?_⟩
    refine w_mulI (.inl ⟨by omega, by omega⟩) ?_
    walk_at "w"
    refine w_slHi hnm' (Int.mul_nonneg d0 d20) fun sl H5 n5 e5 hsl => ?_
    walk_at "w"
    refine w_app (e5 _ _ hr4) (by rw [List.length_map, ql]; omega) fun H6 c6 hr6 => ?_
    walk_at "w"
    have slr : sl ≠ r := (ne_of_none hr4 n5).symm
    have de : Ex (del r H2) (del r H6) := fun a o z => by
      have ar : a ≠ r := fun q => by rw [q, del_self] at z; cases z
      rw [del_ne ar] at z ⊢
      rw [c6 a ar]
      exact ((e3.trans e4).trans e5) _ _ z
    refine ⟨_, _, qs ++ [sl], xs ++ [ms.take (d * d2).toNat], rfl, e2.trans de, by rw [hr6, List.map_append]; rfl, ?_, by rw [List.length_append, ql]; rfl, fun lg m => ?_⟩
    · rw [List.map_append]
      exact (ho.ex de).app (Objs.one ((del_ne slr).trans ((c6 sl slr).trans hsl)))
    · rcases List.mem_append.mp m with m | m
      · exact hx lg m
      · rw [List.mem_singleton.mp m]
        have nd : ms.Nodup := pm.nodup_iff.mpr range_nodup
        refine ⟨nd.sublist (List.take_sublist _ _), fun e he => ?_, by rw [List.length_take]; omega⟩
        have := pm.mem_iff.mp (List.mem_of_mem_take he)
        unfold rangeI at this
        obtain ⟨k, hk, rfl⟩ := List.mem_map.mp this
        have := List.mem_range.mp hk
        omega
  · rintro σ H2 ⟨x, y, qs, xs, rfl, e2, hr2, ho, ql, hx⟩
    have xl : xs.length = n.toNat := by have := ho.len; rw [List.length_map] at this; omega
    walk_at "w"
    exact q r H2 xs (e2.trans del_ex) ⟨qs, hr2, ho.ex del_ex⟩ ⟨by omega, by omega, hx⟩
theorem ok__law_start (G : Glo K mg D) {f : Addr} {fd : FuncData} (F : Fun K "_law_start" "_law_start" s__law_start f fd) (h__law_take : Has P w K mg base "_law_take" 1 (sp__law_take K D)) (h__law_empty : Has P w K mg base "_law_empty" 1 (sp__law_empty K D)) (h__law_any_logs : Has P w K mg base "_law_any_logs" 3 (sp__law_any_logs K D)) (h__law_run : Has P w K mg base "_law_run" 3 (sp__law_run K D)) : FnOk P w K mg base CX0 4 f fd ["_law_box_here", "_law_world_here"] (sp__law_start K D) := by
  refine F.ok sc__law_start (fun vs H Q E h => len2 h) (fun cdv A outer s H vs Q E hr h => ?_)
  obtain ⟨v0, v1, rfl, h⟩ := h
  have c_Cluster := G.c_Cluster
  have c_Net := G.c_Net
  have n_Cluster__homes := G.n_Cluster__homes
  have n_Cluster_net := G.n_Cluster_net
  have n_Cluster_size := G.n_Cluster_size
  have n_Net__linked := G.n_Net__linked
  have n_Net__links := G.n_Net__links
  have n_Net_count := G.n_Net_count
  have r_Cluster := G.r_Cluster
  have r_Net := G.r_Net
  have v_Cluster_MOST := G.v_Cluster_MOST
  have v_Net_MOST := G.v_Net_MOST
  refine ⟨_, (pss_cons (ps_set (i := 2) sc__law_start.nd rfl (.inl rfl) (pe_fn h__law_take (hr.mono (by decide)) (by rfl) (pa_cons (pv 0) (pa_cons pe_int pa_nil))))
  (pss_cons (ps_if (pt_cmpR (eq_K K hr.units) (pv 2) pe_int (nomark _)) (pss_one (ps_ret (pe_fn h__law_empty (hr.mono (by decide)) (by rfl) (pa_cons (pv 1) pa_nil)))) pss_nil)
  (pss_cons (ps_if (pt_cmpR (eq_K K hr.units) (pv 2) pe_int (nomark _)) (pss_one (ps_ret (pe_fn h__law_any_logs (hr.mono (by decide)) (by rfl) (pa_cons (pv 0) (pa_cons (pv 1) pa_nil))))) pss_nil)
  (pss_one (ps_ret (pe_ix (ixA_K K hr) (pe_ix (ixA_K K hr) (pe_fn h__law_run (hr.mono (by decide)) (by rfl) (pa_cons (pv 0) (pa_cons (pv 1) (pa_cons (pe_fn h__law_empty (hr.mono (by decide)) (by rfl) (pa_cons (pv 1) pa_nil)) (pa_cons (pe_op op_addA pe_int (pe_fn h__law_take (hr.mono (by decide)) (by rfl) (pa_cons (pv 0) (pa_cons pe_int pa_nil)))) pa_nil))))) pe_int (fun _ _ => rfl)) (pe_un un_neg pe_int) (fun _ _ => rfl))))))), ?_⟩
  rw [show L2.start ["_law_box_here", "_law_world_here", "_law_kind"] [v0, v1] = [some v0, some v1, none] from rfl]
  obtain ⟨t, w, n, L, hs, rfl, rfl, hT, hW, q⟩ := h
  walk_at "w"
  refine ⟨_, _, rfl, t, _, rfl, rfl, hT, by decide, by decide, fun d d0 d1 => ?_⟩
  walk_at "w"
  refine w_ite (fun _ => ?_) fun _ => ?_
  · walk_at "w"
    exact ⟨_, rfl, w, n, L, hs, rfl, hW, fun r H' xs e hX ok => q r H' xs e hX ok⟩
  · walk_at "w"
    refine w_ite (fun _ => ?_) fun _ => ?_
    · walk_at "w"
      exact ⟨_, _, rfl, t, w, n, L, hs, rfl, rfl, hT, hW, fun r H' xs e hX ok => q r H' xs e hX ok⟩
    · walk_at "w"
      refine ⟨_, rfl, w, n, L, hs, rfl, hW, fun r H1 xs e1 hX ok => ?_⟩
      walk_at "w"
      refine ⟨_, _, rfl, t, _, rfl, rfl, hT.ex e1, by decide, by decide, fun d2 d20 d21 => ?_⟩
      walk_at "w"
      refine ⟨_, _, _, _, rfl, t, w, r, n, L, hs, xs, _, rfl, rfl, rfl, rfl, hT.ex e1, hW.ex e1, hX, ok, by omega, by omega, fun rr u s H2 tr ss nrr e2 hrr hA ⟨qs, a1, a2, a3⟩ rp tl sok => ?_⟩
      have sl := rp.len
      have l1 : tr.length < ss.length := by omega
      obtain ⟨ys, hys⟩ : ∃ ys, ss[tr.length]? = some ys := ⟨_, List.getElem?_eq_getElem l1⟩
      obtain ⟨qa, hqa⟩ : ∃ a, qs[tr.length]? = some a := ⟨_, List.getElem?_eq_getElem (by omega)⟩
      walk_at "w"
      refine w_ixCA (.inl (.inl a1)) (at_last (by rw [List.length_map, a2, sl]) (refs_get hqa)) ?_
      exact q qa H2 ys (e1.trans e2) (a3 _ _ _ hqa hys) (sok ys (List.mem_of_getElem? hys))
theorem ok__law_whole (G : Glo K mg D) {f : Addr} {fd : FuncData} (F : Fun K "_law_whole" "_law_whole" s__law_whole f fd) : FnOk P w K mg base CX0 1 f fd ["_law_told"] (sp__law_whole K D) := by
  refine F.ok sc__law_whole (fun vs H Q E h => len1 h) (fun cdv A outer s H vs Q E hr h => ?_)
  obtain ⟨v0, rfl, h⟩ := h
  have c_Cluster := G.c_Cluster
  have c_Net := G.c_Net
  have n_Cluster__homes := G.n_Cluster__homes
  have n_Cluster_net := G.n_Cluster_net
  have n_Cluster_size := G.n_Cluster_size
  have n_Net__linked := G.n_Net__linked
  have n_Net__links := G.n_Net__links
  have n_Net_count := G.n_Net_count
  have r_Cluster := G.r_Cluster
  have r_Net := G.r_Net
  have v_Cluster_MOST := G.v_Cluster_MOST
  have v_Net_MOST := G.v_Net_MOST
  refine ⟨_, (pss_one (ps_ret (pe_and (pe_callB (isi_K K) (by rfl) G.g_isinstance (by decide +kernel) (pa_cons (pv 0) (pa_cons (pe_bltn (v := .ty "int") (by rfl) G.g_int (by decide +kernel) rfl) pa_nil))) (pe_one (pe_not (pe_callB (isi_K K) (by rfl) G.g_isinstance (by decide +kernel) (pa_cons (pv 0) (pa_cons (pe_bltn (v := .ty "bool") (by rfl) G.g_bool (by decide +kernel) rfl) pa_nil)))))))), ?_⟩
  rw [show L2.start ["_law_told"] [v0] = [some v0] from rfl]
  obtain ⟨i, rfl, q⟩ := h
  walk_at "w"
  exact q
theorem ok__law_truth (G : Glo K mg D) {f : Addr} {fd : FuncData} (F : Fun K "_law_truth" "_law_truth" s__law_truth f fd) : FnOk P w K mg base CX0 1 f fd ["_law_told", "_law_due"] (sp__law_truth K D) := by
  refine F.ok sc__law_truth (fun vs H Q E h => len2 h) (fun cdv A outer s H vs Q E hr h => ?_)
  obtain ⟨v0, v1, rfl, h⟩ := h
  have c_Cluster := G.c_Cluster
  have c_Net := G.c_Net
  have n_Cluster__homes := G.n_Cluster__homes
  have n_Cluster_net := G.n_Cluster_net
  have n_Cluster_size := G.n_Cluster_size
  have n_Net__linked := G.n_Net__linked
  have n_Net__links := G.n_Net__links
  have n_Net_count := G.n_Net_count
  have r_Cluster := G.r_Cluster
  have r_Net := G.r_Net
  have v_Cluster_MOST := G.v_Cluster_MOST
  have v_Net_MOST := G.v_Net_MOST
  refine ⟨_, (pss_one (ps_ret (pe_and (pe_callB (isi_K K) (by rfl) G.g_isinstance (by decide +kernel) (pa_cons (pv 0) (pa_cons (pe_bltn (v := .ty "bool") (by rfl) G.g_bool (by decide +kernel) rfl) pa_nil))) (pe_one (pe_cmpR (eq_K K hr.units) (pv 0) (pv 1) (nomark _)))))), ?_⟩
  rw [show L2.start ["_law_told", "_law_due"] [v0, v1] = [some v0, some v1] from rfl]
  obtain ⟨k, rfl, rfl, q⟩ := h
  walk_at "w"
  refine w_isi (T := "bool") (.base (.bl k)) (b := true) (by decide +kernel) ?_
  walk_at "w"
  refine .inl ⟨rfl, ?_⟩
  rw [decide_eq_true rfl]
  exact q
theorem ok__law_same_list (G : Glo K mg D) {f : Addr} {fd : FuncData} (F : Fun K "_law_same_list" "_law_same_list" s__law_same_list f fd) (h__law_whole : Has P w K mg base "_law_whole" 1 (sp__law_whole K D)) : FnOk P w K mg base CX0 2 f fd ["_law_told", "_law_due"] (sp__law_same_list K D) := by
  refine F.ok sc__law_same_list (fun vs H Q E h => len2 h) (fun cdv A outer s H vs Q E hr h => ?_)
  obtain ⟨v0, v1, rfl, h⟩ := h
  have c_Cluster := G.c_Cluster
  have c_Net := G.c_Net
  have n_Cluster__homes := G.n_Cluster__homes
  have n_Cluster_net := G.n_Cluster_net
  have n_Cluster_size := G.n_Cluster_size
  have n_Net__linked := G.n_Net__linked
  have n_Net__links := G.n_Net__links
  have n_Net_count := G.n_Net_count
  have r_Cluster := G.r_Cluster
  have r_Net := G.r_Net
  have v_Cluster_MOST := G.v_Cluster_MOST
  have v_Net_MOST := G.v_Net_MOST
  refine ⟨_, (pss_one (ps_ret (pe_and (pe_callB (isi_K K) (by rfl) G.g_isinstance (by decide +kernel) (pa_cons (pv 0) (pa_cons (pe_bltn (v := .ty "list") (by rfl) G.g_list (by decide +kernel) rfl) pa_nil))) (pe_and (pe_cmpR (eq_K K hr.units) (pv 0) (pv 1) (nomark _)) (pe_one (pe_callB (all_K K) (by rfl) G.g_all (by decide +kernel) (pa_cons (pe_lc (own := [("_law_part", 2)]) (by rfl) sc__law_same_list.nd (pi_lstK K (pv 0)) (blkOk_by (own := [("_law_part", 2)]) (N := ["_law_told", "_law_due", "_law_part"]) (sc := defScope s__law_same_list) (by decide +kernel)) (fun _ _ _ _ _ => (pg_name (i := 2) (by exact sc__law_same_list.nd) rfl (.inl rfl))) (fun _ _ _ _ _ => pts_nil) (fun _ _ _ _ _ => (pe_fn h__law_whole (hr.mono (by decide)) (by rfl) (pa_cons (pv 2) pa_nil)))) pa_nil))))))), ?_⟩
  rw [show L2.start ["_law_told", "_law_due", "_law_part"] [v0, v1] = [some v0, some v1, none] from rfl]
  obtain ⟨p, r, ns, rfl, rfl, hp, hr, hl, q⟩ := h
  walk_at "w"
  refine w_eqL hp hr ?_
  rw [decide_eq_true rfl]
  walk_at "w"
  refine w_comp (walk_list (xs := ns.map V.int)) (fun i vs _ => vs = (List.replicate i true).map V.bl) yAt (fun H' e => ex_l e hp) rfl ?_ ?_
  · rintro i x acc D2 B H1 H2 hi eB rfl bD eB1 hx hD ⟨rfl, hy⟩ -
    obtain ⟨z, hz, rfl⟩ := get_map hy
    rw [List.length_map] at hi
    refine ⟨rfl, ?_⟩
    walk_at "w"
    refine ⟨_, rfl, z, rfl, ?_⟩
    refine cyes hD (eB.trans eB1) hx (by rw [List.length_map, List.length_replicate]; omega) (Ex.refl _) ?_
    rw [List.replicate_succ', List.map_append]
    rfl
  · rintro D2 B H1 acc hD eB eB1 bD hx rfl
    walk_at "w"
    refine ⟨D2, _, rfl, .inl (.inl hx), ?_⟩
    have e : (List.replicate (ns.map V.int).length true).all id = true := List.all_eq_true.mpr fun b m => by rw [(List.mem_replicate.mp m).2]; rfl
    rw [e]
    exact q H1 (eB.trans eB1)
theorem ok__law_carrying (G : Glo K mg D) {f : Addr} {fd : FuncData} (F : Fun K "_law_carrying" "_law_carrying" s__law_carrying f fd) : FnOk P w K mg base CX0 1 f fd ["_law_world_here", "_law_logs", "_law_entry"] (sp__law_carrying K D) := by
  refine F.ok sc__law_carrying (fun vs H Q E h => len3 h) (fun cdv A outer s H vs Q E hr h => ?_)
  obtain ⟨v0, v1, v2, rfl, h⟩ := h
  have c_Cluster := G.c_Cluster
  have c_Net := G.c_Net
  have n_Cluster__homes := G.n_Cluster__homes
  have n_Cluster_net := G.n_Cluster_net
  have n_Cluster_size := G.n_Cluster_size
  have n_Net__linked := G.n_Net__linked
  have n_Net__links := G.n_Net__links
  have n_Net_count := G.n_Net_count
  have r_Cluster := G.r_Cluster
  have r_Net := G.r_Net
  have v_Cluster_MOST := G.v_Cluster_MOST
  have v_Net_MOST := G.v_Net_MOST
  refine ⟨_, (pss_cons (ps_set (i := 3) sc__law_carrying.nd rfl (.inl rfl) (pe_lst pa_nil))
  (pss_cons (ps_for PassesOwn.never rfl (pi_lstK K (pe_ix (ixA_K K hr) (pv 0) pe_int (fun _ _ => rfl))) (pg_name (i := 4) (by exact sc__law_carrying.nd) rfl (.inl rfl)) (pss_cons (ps_set (i := 5) sc__law_carrying.nd rfl (.inl rfl) (pe_ix (ixA_K K hr) (pv 1) (pe_ix (ixA_K K hr) (pv 4) pe_int (fun _ _ => rfl)) (fun _ _ => rfl)))
  (pss_cons (ps_set (i := 6) sc__law_carrying.nd rfl (.inl rfl) (pe_ix (ixA_K K hr) (pv 1) (pe_ix (ixA_K K hr) (pv 4) pe_int (fun _ _ => rfl)) (fun _ _ => rfl)))
  (pss_one (ps_if (PW.pt (pw_and (pt_cmpR (inA_K K hr) (pv 2) (pv 5) (by rfl)) (pw_and1 (pt_cmpR (inA_K K hr) (pv 2) (pv 6) (by rfl))))) (pss_cons (ps_set (i := 7) sc__law_carrying.nd rfl (.inr rfl) (pe_slice (sl_K K) (pv 6) po_none (po_some (bm_K K PySem.F.plainAttrs_list PySem.F.slot_list_index PySem.F.type_list_index (idx_K K) (pv 6) (pa_cons (pv 2) pa_nil)))))
  (pss_one (ps_if (tru_K K (pe_callB (all_K K) (by rfl) G.g_all (by decide +kernel) (pa_cons (pe_lc (own := [("_law_other", 8)]) (by rfl) sc__law_carrying.nd (pi_lstK K (pe_slice (sl_K K) (pv 5) po_none (po_some (bm_K K PySem.F.plainAttrs_list PySem.F.slot_list_index PySem.F.type_list_index (idx_K K) (pv 5) (pa_cons (pv 2) pa_nil))))) (blkOk_by (own := [("_law_other", 8)]) (N := ["_law_world_here", "_law_logs", "_law_entry", "_law_found", "_law_link", "_law_source", "_law_reader", "_law_ahead", "_law_other"]) (sc := defScope s__law_carrying) (by decide +kernel)) (fun _ _ _ _ _ => (pg_name (i := 8) (by exact sc__law_carrying.nd) rfl (.inl rfl))) (fun _ _ _ _ _ => pts_nil) (fun _ _ _ _ _ => (pe_cmpR (inA_K K hr) (pv 8) (pv 7) (by rfl)))) pa_nil)) (by intro _; rfl)) (pss_one (ps_expr (bm_K K PySem.F.plainAttrs_list PySem.F.slot_list_append PySem.F.type_list_append mt_append (pv 3) (pa_cons (pv 4) pa_nil)))) pss_nil))) pss_nil)))))
  (pss_one (ps_ret (pv 3))))), ?_⟩
  rw [show L2.start ["_law_world_here", "_law_logs", "_law_entry", "_law_found", "_law_link", "_law_source", "_law_reader", "_law_ahead", "_law_other"] [v0, v1, v2] = [some v0, some v1, some v2, none, none, none, none, none, none] from rfl]
  obtain ⟨w, p, n, L, hs, xs, e, rfl, rfl, rfl, ⟨⟨l, g, w1, ⟨lp, hlp, hlo⟩, w3⟩, w4, w5, w6, w7, w8⟩, ⟨ps, hp, ho⟩, ⟨z1, z2, z3⟩, q⟩ := h
  have lz := w6.2.2
  have lgs : ∀ q : Int, 0 ≤ q → q < n → (∃ a, ps[q.toNat]? = some a ∧ H a = some (lstO (logAt xs q))) ∧ (logAt xs q).length ≤ 1000 := fun q h0 h1 => by
    have hl : q.toNat < xs.length := by omega
    have e : xs[q.toNat]? = some (logAt xs q) := by unfold logAt; rw [List.getElem?_eq_getElem hl]; rfl
    exact ⟨ho.get (by rw [List.getElem?_map, e]; rfl), (z3 _ (List.mem_of_getElem? e)).2.2⟩
  walk_at "w"
  (refine w_newXL (le_line (by walk_at "side")) (fun r H1 nr e1 hr EE_ => ?_); (try rw [← EE_]); clear EE_)
  have hlp1 : SqL K H1 l (lp.map V.ref) := .inl (.inl (e1 _ _ hlp))
  walk_at "w"
  refine w_loop (walk_list (K := K) (a := l) (xs := lp.map V.ref)) (fun i σ H' => ∃ (x y z u v : Option V) (qs : List Addr), σ = [some (.ref w), some (.ref p), some (.int e), some (.ref r), x, y, z, u, v] ∧ Ex H H' ∧ H' r = some (.lst (qs.map V.ref)) ∧ qs.length ≤ i ∧ Objs H' qs ((carL (L.take i) xs e).map pairO) ∧ r ∉ qs)
    ⟨_, _, _, _, _, [], rfl, e1, hr, Nat.le_refl _, rfl, List.not_mem_nil⟩ (fun i σ H' _ ⟨_, _, _, _, _, _, _, e, _⟩ => ex_l e (sq_of hlp)) ?_ ?_
  · rintro i lx σ H2 H2' hi ⟨x, y, z, u, v, qs, rfl, e2, hr2, ql, hq, rn⟩ ⟨rfl, hx⟩
    rw [List.length_map, hlo.len, List.length_map] at hi
    obtain ⟨lk, hlk⟩ : ∃ lk, L[i]? = some lk := ⟨_, List.getElem?_eq_getElem hi⟩
    obtain ⟨a, ha, hta⟩ := hlo.get (o := pairO lk) (by rw [List.getElem?_map, hlk]; rfl)
    have h4 := (refs_get ha).symm.trans hx
    cases h4
    obtain ⟨_, k2, k3, k4, k5⟩ := w6.1 lk (List.mem_of_getElem? hlk)
    obtain ⟨⟨a1, ha1, hl1⟩, ll1⟩ := lgs lk.1 k2 k3
    obtain ⟨⟨a2, ha2, hl2⟩, ll2⟩ := lgs lk.2 k4 k5
    have ht3 : SqT K H2' a [.int lk.1, .int lk.2] := .of (e2 _ _ hta)
    have hp3 : SqL K H2' p (ps.map V.ref) := .inl (.inl (e2 _ _ hp))
    have s1 : SqL K H2' a1 ((logAt xs lk.1).map V.int) := .inl (.inl (e2 _ _ hl1))
    have s2 : SqL K H2' a2 ((logAt xs lk.2).map V.int) := .inl (.inl (e2 _ _ hl2))
    have tk : carL (L.take (i + 1)) xs e = carL (L.take i) xs e ++ (if carB (logAt xs lk.1) (logAt xs lk.2) e = true then [lk] else []) := by
      unfold carL
      rw [take_succ hlk, List.filter_append, List.filter_cons]
      rfl
    rw [carB_all] at tk
    have no : ∀ b, (decide (e ∈ logAt xs lk.1) && (decide (e ∈ logAt xs lk.2) && (ahead (logAt xs lk.1) e).all fun a => decide (a ∈ ahead (logAt xs lk.2) e))) = b → b = false → Objs H2' qs ((carL (L.take (i + 1)) xs e).map pairO) := fun b h1 h2 => by
      rw [tk, h1, h2, if_neg Bool.false_ne_true, List.append_nil]
      exact hq
    walk_at "w"
    refine w_ixN hp3 k2 (refs_get ha1) ?_
    walk_at "w"
    refine w_ixN hp3 k4 (refs_get ha2) ?_
    walk_at "w"
    refine w_ite (fun m1 => ?_) fun m1 => ?_
    · walk_at "w"
      refine w_ite (fun m2 => ?_) fun m2 => ?_
      · walk_at "w"
        refine w_indexI s2 m2 ?_
        walk_at "w"
        refine w_slHi s2 (by omega) fun c1 H3 n3 e3 hc1 => ?_
        rw [Int.toNat_natCast, ahead_take] at hc1
        have s13 := ex_l e3 s1
        walk_at "w"
        refine w_indexI s13 m1 ?_
        walk_at "w"
        refine w_slHi s13 (by omega) fun c2 H4 n4 e4 hc2 => ?_
        rw [Int.toNat_natCast, ahead_take] at hc2
        have hc14 := e4 _ _ hc1
        walk_at "w"
        have al := ahead_lt m1
        refine w_comp (walk_list (xs := (ahead (logAt xs lk.1) e).map V.int)) (fun j vs _ => vs = (((ahead (logAt xs lk.1) e).take j).map fun a => decide (a ∈ ahead (logAt xs lk.2) e)).map V.bl) yAt (fun H' e => ex_l e (sq_of hc2)) rfl ?_ ?_
        · rintro j jx acc D2 B H5 H6 hj eB rfl bD eB1 hx hD ⟨rfl, hy⟩ -
          obtain ⟨b, hb, rfl⟩ := get_map hy
          have hcB : SqL K H6 c1 ((ahead (logAt xs lk.2) e).map V.int) := .inl (.inl ((eB.trans eB1) _ _ hc14))
          refine ⟨rfl, ?_⟩
          walk_at "w"
          refine cyes hD (eB.trans eB1) hx (by rw [List.length_map, List.length_map, List.length_take]; omega) (Ex.refl _) ?_
          rw [take_succ hb, List.map_append, List.map_append]
          rfl
        · rintro D2 B H5 acc hD eB eB1 bD hx rfl
          rw [List.length_map, List.take_length] at hx
          walk_at "w"
          refine ⟨D2, _, rfl, .inl (.inl hx), ?_⟩
          have e25 : Ex H2' H5 := (e3.trans e4).trans (eB.trans eB1)
          have eq : ((ahead (logAt xs lk.1) e).map fun a => decide (a ∈ ahead (logAt xs lk.2) e)).all id = (ahead (logAt xs lk.1) e).all fun a => decide (a ∈ ahead (logAt xs lk.2) e) := by rw [List.all_map]; rfl
          rw [eq]
          walk_at "w"
          refine w_iteB (fun b => ?_) fun b => ?_
          · walk_at "w"
            refine w_app (e25 _ _ hr2) (by rw [List.length_map]; omega) fun H6 c6 hr6 => ?_
            walk_at "w"
            have ar : a ≠ r := ne_of_none hta nr
            refine ⟨_, _, _, _, _, qs ++ [a], rfl, c6.ex (e2.trans e25) nr, by rw [hr6, List.map_append]; rfl, by rw [List.length_append]; exact Nat.succ_le_succ ql, ?_, ?_⟩
            · rw [tk, decide_eq_true m1, decide_eq_true m2, b, show (if (true && (true && true)) = true then [lk] else []) = [lk] from rfl, List.map_append]
              exact ((hq.ex e25).chg c6 rn).app (Objs.one ((c6 a ar).trans ((e2.trans e25) _ _ hta)))
            · intro m
              rcases List.mem_append.mp m with m | m
              · exact rn m
              · exact ar (List.mem_singleton.mp m).symm
          · walk_at "w"
            exact ⟨_, _, _, _, _, qs, rfl, e2.trans e25, e25 _ _ hr2, Nat.le_succ_of_le ql, (no _ rfl (by rw [b, Bool.and_false, Bool.and_false])).ex e25, rn⟩
      · walk_at "w"
        exact ⟨_, _, _, _, _, qs, rfl, e2, hr2, Nat.le_succ_of_le ql, no _ rfl (by rw [decide_eq_false m2, Bool.false_and, Bool.and_false]), rn⟩
    · walk_at "w"
      exact ⟨_, _, _, _, _, qs, rfl, e2, hr2, Nat.le_succ_of_le ql, no _ rfl (by rw [decide_eq_false m1, Bool.false_and]), rn⟩
  · rintro σ H2 ⟨x, y, z, u, v, qs, rfl, e2, hr2, ql, hq, rn⟩
    rw [List.length_map, hlo.len, List.length_map, List.take_length] at hq
    walk_at "w"
    exact q r H2 nr e2 ⟨qs, hr2, hq⟩
theorem ok__law_exchanged (G : Glo K mg D) {f : Addr} {fd : FuncData} (F : Fun K "_law_exchanged" "_law_exchanged" s__law_exchanged f fd) (h__law_copy : Has P w K mg base "_law_copy" 1 (sp__law_copy K D)) : FnOk P w K mg base CX0 2 f fd ["_law_logs", "_law_place_here", "_law_entry"] (sp__law_exchanged K D) := by
  refine F.ok sc__law_exchanged (fun vs H Q E h => len3 h) (fun cdv A outer s H vs Q E hr h => ?_)
  obtain ⟨v0, v1, v2, rfl, h⟩ := h
  have c_Cluster := G.c_Cluster
  have c_Net := G.c_Net
  have n_Cluster__homes := G.n_Cluster__homes
  have n_Cluster_net := G.n_Cluster_net
  have n_Cluster_size := G.n_Cluster_size
  have n_Net__linked := G.n_Net__linked
  have n_Net__links := G.n_Net__links
  have n_Net_count := G.n_Net_count
  have r_Cluster := G.r_Cluster
  have r_Net := G.r_Net
  have v_Cluster_MOST := G.v_Cluster_MOST
  have v_Net_MOST := G.v_Net_MOST
  refine ⟨_, (pss_cons (ps_set (i := 3) sc__law_exchanged.nd rfl (.inl rfl) (bm_K K PySem.F.plainAttrs_list PySem.F.slot_list_index PySem.F.type_list_index (idx_K K) (pe_ix (ixA_K K hr) (pv 0) (pv 1) (fun _ _ => rfl)) (pa_cons (pv 2) pa_nil)))
  (pss_cons (ps_set (i := 4) sc__law_exchanged.nd rfl (.inl rfl) (pe_fn h__law_copy (hr.mono (by decide)) (by rfl) (pa_cons (pv 0) pa_nil)))
  (pss_cut (ps_if (pt_cmpR (op_gt) (pv 3) pe_int (nomark _)) (pss_one (ps_asg (pe_op op_addA (pe_op op_addA (pe_slice (sl_K K) (pe_ix (ixA_K K hr) (pv 0) (pv 1) (fun _ _ => rfl)) po_none (po_some (pe_op op_sub (pv 3) pe_int))) (pe_lst (pa_cons (pv 2) (pa_cons (pe_ix (ixA_K K hr) (pe_ix (ixA_K K hr) (pv 0) (pv 1) (fun _ _ => rfl)) (pe_op op_sub (pv 3) pe_int) (fun _ _ => rfl)) pa_nil)))) (pe_slice (sl_K K) (pe_ix (ixA_K K hr) (pv 0) (pv 1) (fun _ _ => rfl)) (po_some (pe_op op_addA (pv 3) pe_int)) po_none)) (pg_sub (pv 4) (pv 1) (setA hr)))) pss_nil)
  (pss_one (ps_ret (pv 4)))))), ?_⟩
  rw [show L2.start ["_law_logs", "_law_place_here", "_law_entry", "_law_at", "_law_bent"] [v0, v1, v2] = [some v0, some v1, some v2, none, none] from rfl]
  obtain ⟨p, n, z, xs, i, l, e, rfl, rfl, rfl, hX, ⟨z1, z2, z3⟩, hi, he, q⟩ := h
  obtain ⟨ps, hp, ho⟩ := id hX
  obtain ⟨a, ha, hta⟩ := ho.get (o := lstO l) (by rw [List.getElem?_map, hi]; rfl)
  have sa : SqL K H a (l.map V.int) := .inl (.inl hta)
  have okl := z3 l (List.mem_of_getElem? hi)
  have al := ahead_lt he
  walk_at "w"
  refine w_ixCA (.inl (.inl hp)) (atI_nat (refs_get ha)) ?_
  walk_at "w"
  refine w_indexI sa he ?_
  walk_at "w"
  refine ⟨_, rfl, p, xs, rfl, hX, z2, fun r H1 e1 ⟨qs, f1, f2, f3, f4, f5, f6⟩ => ?_⟩
  walk_at "w"
  refine w_cut (fun σ H' => ∃ ys, σ = [some (.ref p), some (.int i), some (.int e), some (.int (ahead l e).length), some (.ref r)] ∧ Ex H H' ∧ LLs H' r ys ∧ LogsOk n z ys) ?_ ?_
  · walk_at "w"
    refine w_ite (fun g => ?_) fun g => ?_
    · have hp1 := e1 _ _ hp
      have sa1 := ex_l e1 sa
      have lz := okl.2.2
      obtain ⟨b, hb⟩ : ∃ b, l[(ahead l e).length - 1]? = some b := ⟨_, List.getElem?_eq_getElem (by omega)⟩
      have pm := exch_perm (by omega) (ahead_at he) hb
      obtain ⟨qa, hqa, hta2⟩ := f2.get (o := lstO l) (by rw [List.getElem?_map, hi]; rfl)
      walk_at "w"
      refine w_ixCA (.inl (.inl hp1)) (atI_nat (refs_get ha)) ?_
      walk_at "w"
      refine w_slHi sa1 (by omega) fun c1 H2 n2 e2 hc1 => ?_
      have sa2 := ex_l e2 sa1
      have hp2 := e2 _ _ hp1
      walk_at "w"
      refine w_ixCA (.inl (.inl hp2)) (atI_nat (refs_get ha)) ?_
      walk_at "w"
      refine w_ixIA sa2 (by omega) (by omega) fun y hy => ?_
      have hyb : y = b := by
        rw [show (((ahead l e).length : Int) - 1).toNat = (ahead l e).length - 1 by omega, hb] at hy
        exact (Option.some.inj hy).symm
      subst hyb
      walk_at "w"
      (refine w_newXL (le_line (by walk_at "side")) (fun c2 H3 n3 e3 hc2 EE_ => ?_); (try rw [← EE_]); clear EE_)
      walk_at "w"
      have hc2' : H3 c2 = some (.lst (([e, y] : List Int).map V.int)) := hc2
      refine w_catI (e3 _ _ hc1) hc2' (by rw [List.length_take]; show _ + 2 ≤ _; omega) fun c3 H4 n4 e4 hc3 => ?_
      have hp4 := (e3.trans e4) _ _ hp2
      have sa4 := ex_l (e3.trans e4) sa2
      walk_at "w"
      refine w_ixCA (.inl (.inl hp4)) (atI_nat (refs_get ha)) ?_
      walk_at "w"
      refine w_slLo sa4 (by omega) fun c4 H5 n5 e5 hc4 => ?_
      walk_at "w"
      refine w_catI (e5 _ _ hc3) hc4 (by rw [List.length_append, List.length_take, List.length_drop]; show _ + 2 + _ ≤ _; omega) fun c5 H6 n6 e6 hc5 => ?_
      have e16 : Ex H1 H6 := (((e2.trans e3).trans e4).trans e5).trans e6
      walk_at "w"
      have il := (List.getElem?_eq_some_iff.mp hqa).1
      refine w_setCA (j := i) (e16 _ _ f1) (ixN_nat (by omega) (by rw [List.length_map]; omega)) fun H7 c7 hr7 => ?_
      walk_at "w"
      have rc : c5 ≠ r := (ne_of_none ((((e2.trans e3).trans e4).trans e5) _ _ f1) n6).symm
      rw [show (((ahead l e).length : Int) - 1).toNat = (ahead l e).length - 1 by omega, show (((ahead l e).length : Int) + 1).toNat = (ahead l e).length + 1 by omega] at hc5
      refine ⟨xs.set i (l.take ((ahead l e).length - 1) ++ [e, y] ++ l.drop ((ahead l e).length + 1)), rfl, c7.ex (e1.trans e16) f3, ⟨qs.set i c5, by rw [hr7, List.map_set], ?_⟩, by rw [List.length_set]; exact z1, by rw [List.length_set]; exact z2, fun lg m => ?_⟩
      · have o7 : Objs H7 qs (xs.map lstO) := (f2.ex e16).chg c7 f6
        unfold Objs at *
        rw [List.map_set, o7, List.map_set, List.map_set, (c7 c5 rc).trans hc5]
      · rcases List.mem_or_eq_of_mem_set m with m | eq
        · exact z3 lg m
        · rw [eq]
          exact logOk_perm pm okl
    · walk_at "w"
      exact ⟨xs, rfl, e1, ⟨qs, f1, f2⟩, z1, z2, z3⟩
  · rintro σ H2 ⟨ys, rfl, e2, hY, okY⟩
    walk_at "w"
    exact q r H2 ys e2 hY okY
theorem ok__law_distances (G : Glo K mg D) {f : Addr} {fd : FuncData} (F : Fun K "_law_distances" "_law_distances" s__law_distances f fd) (h__law_carrying : Has P w K mg base "_law_carrying" 1 (sp__law_carrying K D)) : FnOk P w K mg base CX0 2 f fd ["_law_world_here", "_law_start_here", "_law_target", "_law_entry"] (sp__law_distances K D) := by
  refine F.ok sc__law_distances (fun vs H Q E h => len4 h) (fun cdv A outer s H vs Q E hr h => ?_)
  obtain ⟨v0, v1, v2, v3, rfl, h⟩ := h
  have c_Cluster := G.c_Cluster
  have c_Net := G.c_Net
  have n_Cluster__homes := G.n_Cluster__homes
  have n_Cluster_net := G.n_Cluster_net
  have n_Cluster_size := G.n_Cluster_size
  have n_Net__linked := G.n_Net__linked
  have n_Net__links := G.n_Net__links
  have n_Net_count := G.n_Net_count
  have r_Cluster := G.r_Cluster
  have r_Net := G.r_Net
  have v_Cluster_MOST := G.v_Cluster_MOST
  have v_Net_MOST := G.v_Net_MOST
  refine ⟨_, (pss_cons (ps_setLc (i := 4) (own := [("_law_log", 10)]) (by rfl) sc__law_distances.nd rfl rfl (sw_true rfl rfl rfl (by decide +kernel)) (pi_lstK K (pv 2)) (blkOk_by (own := [("_law_log", 10)]) (N := ["_law_world_here", "_law_start_here", "_law_target", "_law_entry", "_law_found", "_law_roots", "_law_x", "_law_links", "_law_step", "_law_link", "_law_log"]) (sc := defScope s__law_distances) (by decide +kernel)) (fun _ _ _ _ _ => (pg_name (i := 10) (by exact sc__law_distances.nd) rfl (.inl rfl))) (fun _ _ _ _ _ => pts_nil) (fun _ _ _ _ _ => pe_non))
  (pss_cons (ps_setLc (i := 5) (own := [("_law_x", 6)]) (by rfl) sc__law_distances.nd rfl rfl (sw_true rfl rfl rfl (by decide +kernel)) (pi_range1 (by rfl) G.g_range (pa_cons (pe_ix (ixA_K K hr) (pv 0) pe_int (fun _ _ => rfl)) pa_nil)) (blkOk_by (own := [("_law_x", 6)]) (N := ["_law_world_here", "_law_start_here", "_law_target", "_law_entry", "_law_found", "_law_roots", "_law_x", "_law_links", "_law_step", "_law_link", "_law_log"]) (sc := defScope s__law_distances) (by decide +kernel)) (fun _ _ _ _ _ => (pg_name (i := 6) (by exact sc__law_distances.nd) rfl (.inl rfl))) (fun _ _ _ _ _ => (pts_one (pt_cmpR (inA_K K hr) (pv 3) (pe_ix (ixA_K K hr) (pv 1) (pv 6) (fun _ _ => rfl)) (by rfl)))) (fun _ _ _ _ _ => (pv 6)))
  (pss_cut (ps_if (PW.pt (pw_and (pt_cmpR (eq_K K hr.units) (pv 5) (pe_lst pa_nil) (nomark _)) (pw_and1 (pt_cmpR (inA_K K hr) (pv 3) (pe_ix (ixA_K K hr) (pv 2) (pe_ix (ixA_K K hr) (pe_ix (ixA_K K hr) (pv 0) pe_int (fun _ _ => rfl)) (pv 3) (fun _ _ => rfl)) (fun _ _ => rfl)) (by rfl))))) (pss_one (ps_set (i := 5) sc__law_distances.nd rfl (.inl rfl) (pe_lst (pa_cons (pe_ix (ixA_K K hr) (pe_ix (ixA_K K hr) (pv 0) pe_int (fun _ _ => rfl)) (pv 3) (fun _ _ => rfl)) pa_nil)))) pss_nil)
  (pss_cons (ps_for PassesOwn.never rfl (pi_lstK K (pv 5)) (pg_name (i := 6) (by exact sc__law_distances.nd) rfl (.inl rfl)) (pss_one (ps_asg pe_int (pg_sub (pv 4) (pv 6) (setA hr)))))
  (pss_cons (ps_set (i := 7) sc__law_distances.nd rfl (.inl rfl) (pe_fn h__law_carrying (hr.mono (by decide)) (by rfl) (pa_cons (pv 0) (pa_cons (pv 2) (pa_cons (pv 3) pa_nil)))))
  (pss_cons (ps_for PassesOwn.never rfl (pi_range1 (by rfl) G.g_range (pa_cons (pe_ix (ixA_K K hr) (pv 0) pe_int (fun _ _ => rfl)) pa_nil)) (pg_name (i := 8) (by exact sc__law_distances.nd) rfl (.inl rfl)) (pss_one (ps_for PassesOwn.never rfl (pi_lstK K (pv 7)) (pg_name (i := 9) (by exact sc__law_distances.nd) rfl (.inl rfl)) (pss_one (ps_if (PW.pt (pw_and (pt_cmpR (eq_K K hr.units) (pe_ix (ixA_K K hr) (pv 4) (pe_ix (ixA_K K hr) (pv 9) pe_int (fun _ _ => rfl)) (fun _ _ => rfl)) (pv 8) (nomark _)) (pw_and1 (pt_cmpR (op_isN) (pe_ix (ixA_K K hr) (pv 4) (pe_ix (ixA_K K hr) (pv 9) pe_int (fun _ _ => rfl)) (fun _ _ => rfl)) pe_non (nomark _))))) (pss_one (ps_asg (pe_op op_addA (pv 8) pe_int) (pg_sub (pv 4) (pe_ix (ixA_K K hr) (pv 9) pe_int (fun _ _ => rfl)) (setA hr)))) pss_nil)))))
  (pss_one (ps_ret (pv 4))))))))), ?_⟩
  rw [show L2.start ["_law_world_here", "_law_start_here", "_law_target", "_law_entry", "_law_found", "_law_roots", "_law_x", "_law_links", "_law_step", "_law_link", "_law_log"] [v0, v1, v2, v3] = [some v0, some v1, some v2, some v3, none, none, none, none, none, none, none] from rfl]
  obtain ⟨w, p, r, n, L, hs, st, gl, e, rfl, rfl, rfl, rfl, hW, hX, hY, okS, okG, e0, e1, q⟩ := h
  obtain ⟨⟨l, g, w1, w2, w3⟩, n1, n2, wl, ho, hl⟩ := id hW
  obtain ⟨ps, hp, hpo⟩ := id hX
  obtain ⟨rs, hr, hro⟩ := id hY
  have gz := okG.1
  have sz := okS.1
  walk_at "w"
  refine w_comp (walk_list (xs := rs.map V.ref)) (fun i vs _ => vs = (List.replicate i (none : Option Nat)).map optV) yAt (fun H' e => ex_l e (sq_of hr)) rfl ?_ ?_
  · rintro i x acc D2 B H1 H2 hi eB rfl bD eB1 hx hD ⟨rfl, hy⟩ -
    rw [List.length_map, hro.len, List.length_map] at hi
    refine ⟨rfl, ?_⟩
    walk_at "w"
    refine cyes hD (eB.trans eB1) hx (by rw [List.length_map, List.length_replicate]; omega) (Ex.refl _) ?_
    rw [List.replicate_succ', List.map_append]
    rfl
  rintro s B H1 acc ns eB eB1 bD hs1 rfl
  rw [List.length_map, hro.len, List.length_map] at hs1
  have x1 : Ex H H1 := eB.trans eB1
  have rb : ∀ x ∈ rootsF hs st gl e, 0 ≤ x ∧ x < (gl.length : Int) := fun x hx => by
    unfold rootsF at hx
    split at hx
    · split at hx
      · rw [List.mem_singleton.mp hx]
        have he : e.toNat < hs.length := by omega
        have m : (hs[e.toNat]?).getD 0 ∈ hs := by rw [List.getElem?_eq_getElem he]; exact List.getElem_mem he
        have := ho _ m
        omega
      · cases hx
    · have := hold_lt hx
      omega
  walk_at "w"
  refine w_compI walk_range (fun i acc => acc = holdN st e i) yFn (fun _ _ => trivial) rfl ?_ ?_
  · rintro i x acc D2 H2 H3 hi rfl hal e2 hx hD ⟨rfl, hxi⟩ -
    obtain rfl : x = .int i := hxi.trans (congrArg V.int (Int.zero_add _))
    have hi' : i < st.length := by omega
    obtain ⟨lg, hlg⟩ : ∃ lg, st[i]? = some lg := ⟨_, List.getElem?_eq_getElem hi'⟩
    obtain ⟨a, ha, hta⟩ := hpo.get (o := lstO lg) (by rw [List.getElem?_map, hlg]; rfl)
    have x3 : Ex H H3 := x1.trans e2
    refine ⟨rfl, ?_⟩
    walk_at "w"
    refine w_ixN (.inl (.inl (x3 _ _ hp))) (Int.natCast_nonneg i) (by rw [Int.toNat_natCast]; exact refs_get ha) ?_
    have hlS : SqL K H3 a (lg.map V.int) := .inl (.inl (x3 _ _ hta))
    walk_at "w"
    refine w_ite (fun m => ?_) fun m => ?_
    · walk_at "w"
      exact cyI hD e2 hx hal (by omega) (Ex.refl _) (holdN_yes hlg m).symm
    · exact cnI hD e2 hx hal (Ex.refl _) (holdN_no hlg m).symm
  rintro fr H2 acc nf e2 hf rfl hal
  have hn : n.toNat = st.length := by omega
  have hf' : H2 fr = some (lstO (hold st e)) := by rw [hn] at hf; exact hf
  have x2 : Ex H H2 := x1.trans e2
  refine w_cut (fun σ' H' => ∃ (f2 : Addr) (x : Option V), σ' = [some (.ref w), some (.ref p), some (.ref r), some (.int e), some (.ref s), some (.ref f2), x, none, none, none, none] ∧ Ex H1 H' ∧ H1 f2 = none ∧ H' f2 = some (lstO (rootsF hs st gl e))) ?_ ?_
  · walk_at "w"
    (refine w_newXL (le_line (by walk_at "side")) (fun nl H3 nn e3 hnl EE_ => ?_); (try rw [← EE_]); clear EE_)
    walk_at "w"
    refine w_eqL (ns := hold st e) (ms := []) (.inl (.inl (e3 _ _ hf'))) (.inl (.inl hnl)) ?_
    walk_at "w"
    refine w_ite (fun h0 => ?_) fun h0 => ?_
    · have x3 : Ex H H3 := x2.trans e3
      have he : e.toNat < hs.length := by omega
      obtain ⟨h, hh2⟩ : ∃ h, hs[e.toNat]? = some h := ⟨_, List.getElem?_eq_getElem he⟩
      obtain ⟨b1, b2⟩ := ho h (List.mem_of_getElem? hh2)
      have hlt : h.toNat < gl.length := by omega
      obtain ⟨lg, hlg⟩ : ∃ lg, gl[h.toNat]? = some lg := ⟨_, List.getElem?_eq_getElem hlt⟩
      obtain ⟨a, ha, hta⟩ := hro.get (o := lstO lg) (by rw [List.getElem?_map, hlg]; rfl)
      have eq : rootsF hs st gl e = if e ∈ lg then [h] else [] := by
        unfold rootsF logAt
        rw [if_pos h0, hh2]
        show (if e ∈ (gl[h.toNat]?).getD [] then _ else _) = _
        rw [hlg]
        rfl
      have w13 := x3 _ _ w1
      have hl2 : SqL K H3 a (lg.map V.int) := .inl (.inl (x3 _ _ hta))
      walk_at "w"
      refine w_ixIA (.inl (.inl (x3 _ _ w3))) e0 e1 fun y hy => ?_
      rw [hh2] at hy
      cases hy
      refine w_ixN (.inl (.inl (x3 _ _ hr))) b1 (refs_get ha) ?_
      walk_at "w"
      refine w_ite (fun m => ?_) fun m => ?_
      · walk_at "w"
        refine w_ixIA (.inl (.inl (x3 _ _ w3))) e0 e1 fun y hy => ?_
        rw [hh2] at hy
        cases hy
        (refine w_newXL (le_line (by walk_at "side")) (fun u H4 nu e4 hu EE_ => ?_); (try rw [← EE_]); clear EE_)
        walk_at "w"
        exact ⟨u, _, rfl, (e2.trans e3).trans e4, fresh_back (e2.trans e3) nu, by rw [hu, eq, if_pos m]; rfl⟩
      · walk_at "w"
        exact ⟨fr, _, rfl, e2.trans e3, nf, by rw [e3 _ _ hf', eq, if_neg m, h0]⟩
    · walk_at "w"
      exact ⟨fr, _, rfl, e2.trans e3, nf, by rw [e3 _ _ hf', rootsF, if_neg h0]⟩
  generalize hR : rootsF hs st gl e = R at q rb
  rintro σ H3 ⟨f2, x, rfl, e3, nf2, hf2⟩
  have sf : f2 ≠ s := (ne_of_none hs1 nf2).symm
  walk_at "w"
  refine w_loop (walk_list (K := K) (a := f2) (xs := R.map V.int)) (fun i σ H' => ∃ x, σ = [some (.ref w), some (.ref p), some (.ref r), some (.int e), some (.ref s), some (.ref f2), x, none, none, none, none] ∧ Ex H H' ∧ H' s = some (.lst ((st0 gl.length (R.take i)).map optV)) ∧ H' f2 = some (lstO R))
    ⟨_, rfl, x1.trans e3, e3 _ _ hs1, hf2⟩ (fun i σ H' _ ⟨x, _, _, _, e⟩ => sq_of e) ?_ ?_
  · rintro i x σ H4 H4' hi ⟨x1, rfl, e4, hs4, hf4⟩ ⟨rfl, hx⟩
    obtain ⟨a, ha, rfl⟩ := get_map hx
    obtain ⟨b1, b2⟩ := rb a (List.mem_of_getElem? ha)
    walk_at "w"
    refine w_setCA (j := a.toNat) hs4 (ixN_nat b1 (by rw [List.length_map, st0_len]; exact b2)) fun H5 c5 hs5 => ?_
    walk_at "w"
    refine ⟨_, rfl, c5.ex e4 ns, ?_, (c5 f2 sf).trans hf4⟩
    rw [hs5, take_succ ha, st0_snoc, List.map_set]
    rfl
  rintro σ H4 ⟨x2, rfl, e4, hs4, hf4⟩
  rw [List.length_map, List.take_length] at hs4
  walk_at "w"
  refine ⟨_, _, _, rfl, w, r, n, L, hs, gl, e, rfl, rfl, rfl, hW.ex e4, hY.ex e4, okG, fun cl H5 nc e5 ⟨cp, hcp, hco⟩ => ?_⟩
  have hs5 := e5 _ _ hs4
  have cs : cl ≠ s := (ne_of_none hs4 nc).symm
  have sp : s ∉ cp := fun m => by
    obtain ⟨i, hi⟩ := List.mem_iff_getElem?.mp m
    obtain ⟨o, ho2, ho3⟩ := hco.back hi
    rw [List.getElem?_map] at ho2
    rw [hs5] at ho3
    cases ho3
    cases hz : (carL L gl e)[i]? with
    | none => rw [hz] at ho2; cases ho2
    | some z => rw [hz] at ho2; cases ho2
  have hB : Prs (del s H5) cl (carL L gl e) := ⟨cp, (del_ne cs).trans hcp, by
    unfold Objs at *
    rw [← hco]
    exact List.map_congr_left fun a ha => del_ne fun z => sp (z ▸ ha)⟩
  have cok : ∀ q ∈ carL L gl e, LinkOk n q := fun q m => wl.1 q (List.mem_filter.mp m).1
  have Hex : Ex H (del s H5) := ex_del (e4.trans e5) ns
  generalize hCL : carL L gl e = CL at hB cok q
  clear hcp hco sp
  obtain ⟨cp, hcp, hco⟩ := hB
  have w15 := Hex _ _ w1
  have w15' := del_ex _ _ w15
  walk_at "w"
  refine w_loopR (fun i σ H' => ∃ x6 x8 x9, σ = [some (.ref w), some (.ref p), some (.ref r), some (.int e), some (.ref s), some (.ref f2), x6, some (.ref cl), x8, x9, none] ∧ Ex (del s H5) H' ∧ H' s = some (.lst ((runS i 0 (st0 gl.length R) CL).map optV)))
    ⟨_, _, _, rfl, del_ex, hs5⟩ ?_ ?_
  · rintro i σ H6 hi ⟨x6, x8, x9, rfl, e6, hs6⟩
    walk_at "w"
    generalize hS0 : runS i 0 (st0 gl.length R) CL = S0 at hs6
    have s0l : S0.length = gl.length := by rw [← hS0]; exact run_len.trans st0_len
    refine w_loop (walk_list (K := K) (a := cl) (xs := cp.map V.ref)) (fun j σ H' => ∃ x9, σ = [some (.ref w), some (.ref p), some (.ref r), some (.int e), some (.ref s), some (.ref f2), x6, some (.ref cl), some (.int i), x9, none] ∧ Ex (del s H5) H' ∧ H' s = some (.lst ((sweep i S0 (CL.take j)).map optV)))
      ⟨_, rfl, e6, hs6⟩ (fun j σ H' _ ⟨_, _, e, _⟩ => sq_of (e _ _ hcp)) ?_ ?_
    · rintro j x σ H8 H8' hj ⟨y9, rfl, e8, hs8⟩ ⟨rfl, hy⟩
      rw [List.length_map, hco.len, List.length_map] at hj
      obtain ⟨lk, hlk⟩ : ∃ lk, CL[j]? = some lk := ⟨_, List.getElem?_eq_getElem hj⟩
      obtain ⟨a, ha, hta⟩ := hco.get (o := pairO lk) (by rw [List.getElem?_map, hlk]; rfl)
      have h4 := (refs_get ha).symm.trans hy
      cases h4
      obtain ⟨_, k2, k3, k4, k5⟩ := cok lk (List.mem_of_getElem? hlk)
      generalize hst' : sweep i S0 (CL.take j) = st' at hs8
      have sl : st'.length = gl.length := by rw [← hst', sweep_len, s0l]
      obtain ⟨o1, ho1⟩ : ∃ o, st'[lk.1.toNat]? = some o := ⟨_, List.getElem?_eq_getElem (by omega)⟩
      obtain ⟨o2, ho2⟩ : ∃ o, st'[lk.2.toNat]? = some o := ⟨_, List.getElem?_eq_getElem (by omega)⟩
      have nxt : sweep i S0 (CL.take (j + 1)) = sw1 i st' lk := by
        rw [take_succ hlk, ← hst']
        unfold sweep
        rw [List.foldl_append]
        rfl
      have stay : ¬ (st'[lk.1.toNat]? = some (some i) ∧ st'[lk.2.toNat]? = some none) → st' = sweep i S0 (CL.take (j + 1)) := fun z => by rw [nxt]; exact (if_neg z).symm
      have ht8 : SqT K H8' a [.int lk.1, .int lk.2] := .of (e8 _ _ hta)
      walk_at "w"
      refine w_ixN (.inl (.inl hs8)) k2 (by rw [List.getElem?_map, ho1]; rfl) ?_
      walk_at "w"
      cases o1 with
      | none =>
        refine w_eqNI ?_
        walk_at "w"
        exact ⟨_, rfl, e8, by rw [← stay fun z => by rw [ho1] at z; cases z.1]; exact hs8⟩
      | some v =>
        refine w_eqI ?_
        walk_at "w"
        refine w_ite (fun hv => ?_) fun hv => ?_
        · have hv2 : v = i := by omega
          subst hv2
          walk_at "w"
          refine w_ixN (.inl (.inl hs8)) k4 (by rw [List.getElem?_map, ho2]; rfl) ?_
          walk_at "w"
          refine ⟨rfl, ?_⟩
          walk_at "w"
          cases o2 with
          | none =>
            show if decide (V.non = V.non) = true then _ else _
            rw [decide_eq_true rfl]
            walk_at "w"
            refine w_setCA (j := lk.2.toNat) hs8 (ixN_nat k4 (by rw [List.length_map, sl]; omega)) fun H9 c9 hs9 => ?_
            walk_at "w"
            refine ⟨_, rfl, c9.ex e8 del_self, ?_⟩
            rw [hs9, nxt, sw1, if_pos ⟨ho1, ho2⟩, List.map_set]
            rfl
          | some v2 =>
            show if decide (V.int v2 = V.non) = true then _ else _
            rw [decide_eq_false (by intro z; cases z)]
            walk_at "w"
            exact ⟨_, rfl, e8, by rw [← stay fun z => by rw [ho2] at z; cases z.2]; exact hs8⟩
        · exact ⟨_, rfl, e8, by rw [← stay fun z => hv (by rw [ho1] at z; have := z.1; cases this; omega)]; exact hs8⟩
    · rintro σ H8 ⟨y9, rfl, e8, hs8⟩
      rw [List.length_map, hco.len, List.length_map, List.take_length] at hs8
      exact ⟨_, _, _, rfl, e8, by rw [run_snoc, Nat.zero_add, hS0]; exact hs8⟩
  · rintro σ H6 ⟨x6, x8, x9, rfl, e6, hs6⟩
    walk_at "w"
    refine q s H6 ns (Hex.trans e6) ?_
    rw [hs6, show n.toNat = gl.length by omega]
    rfl
theorem ok__law_hops (G : Glo K mg D) {f : Addr} {fd : FuncData} (F : Fun K "_law_hops" "_law_hops" s__law_hops f fd) : FnOk P w K mg base CX0 1 f fd ["_law_world_here", "_law_start_here", "_law_trace"] (sp__law_hops K D) := by
  refine F.ok sc__law_hops (fun vs H Q E h => len3 h) (fun cdv A outer s H vs Q E hr h => ?_)
  obtain ⟨v0, v1, v2, rfl, h⟩ := h
  have c_Cluster := G.c_Cluster
  have c_Net := G.c_Net
  have n_Cluster__homes := G.n_Cluster__homes
  have n_Cluster_net := G.n_Cluster_net
  have n_Cluster_size := G.n_Cluster_size
  have n_Net__linked := G.n_Net__linked
  have n_Net__links := G.n_Net__links
  have n_Net_count := G.n_Net_count
  have r_Cluster := G.r_Cluster
  have r_Net := G.r_Net
  have v_Cluster_MOST := G.v_Cluster_MOST
  have v_Net_MOST := G.v_Net_MOST
  refine ⟨_, (pss_cons (ps_set (i := 3) sc__law_hops.nd rfl (.inl rfl) pe_dnewT)
  (pss_cons (ps_for PassesOwn.never rfl (pi_range1 (by rfl) G.g_range (pa_cons (pe_ix (ixA_K K hr) (pv 0) pe_int (fun _ _ => rfl)) pa_nil)) (pg_name (i := 4) (by exact sc__law_hops.nd) rfl (.inl rfl)) (pss_one (ps_for PassesOwn.never rfl (pi_lstK K (pe_ix (ixA_K K hr) (pv 1) (pv 4) (fun _ _ => rfl))) (pg_name (i := 5) (by exact sc__law_hops.nd) rfl (.inl rfl)) (pss_one (ps_asg pe_int (pg_sub (pv 3) (pe_tup (pa_cons (pv 4) (pa_cons (pv 5) pa_nil))) (setA hr)))))))
  (pss_cons (ps_for PassesOwn.never rfl (pi_lstK K (pv 2)) (pg_name (i := 6) (by exact sc__law_hops.nd) rfl (.inl rfl)) (pss_one (ps_if (pt_cmpR (eq_K K hr.units) (pe_ix (ixA_K K hr) (pv 6) pe_int (fun _ _ => rfl)) pe_str (nomark _)) (pss_one (ps_asg pe_int (pg_sub (pv 3) (pe_tup (pa_cons (pe_ix (ixA_K K hr) (pe_ix (ixA_K K hr) (pv 0) pe_int (fun _ _ => rfl)) (pe_ix (ixA_K K hr) (pv 6) pe_int (fun _ _ => rfl)) (fun _ _ => rfl)) (pa_cons (pe_ix (ixA_K K hr) (pv 6) pe_int (fun _ _ => rfl)) pa_nil))) (setA hr)))) (pss_one (ps_asg (pe_op op_addA (pe_ix (ixA_K K hr) (pv 3) (pe_tup (pa_cons (pe_ix (ixA_K K hr) (pv 6) pe_int (fun _ _ => rfl)) (pa_cons (pe_ix (ixA_K K hr) (pv 6) pe_int (fun _ _ => rfl)) pa_nil))) (fun _ _ => rfl)) pe_int) (pg_sub (pv 3) (pe_tup (pa_cons (pe_ix (ixA_K K hr) (pv 6) pe_int (fun _ _ => rfl)) (pa_cons (pe_ix (ixA_K K hr) (pv 6) pe_int (fun _ _ => rfl)) pa_nil))) (setA hr)))))))
  (pss_one (ps_ret (pv 3)))))), ?_⟩
  rw [show L2.start ["_law_world_here", "_law_start_here", "_law_trace", "_law_hops_here", "_law_x", "_law_entry", "_law_action"] [v0, v1, v2] = [some v0, some v1, some v2, none, none, none, none] from rfl]
  obtain ⟨w, p, t, n, L, hs, st, tr, ss, rfl, rfl, rfl, hW, hX, hA, rc, tl, q⟩ := h
  obtain ⟨⟨l, g, w1, w2, w3⟩, n1, n2, wl, ho, hl⟩ := id hW
  obtain ⟨ps, hp, hpo⟩ := id hX
  obtain ⟨ts, ht, hto⟩ := id hA
  have okS := rc.ok st (List.mem_of_getElem? rc.rp.h0)
  have sz := okS.1
  walk_at "w"
  refine w_dT fun d H1 nd e1 hd => ?_
  have w11 := e1 _ _ w1
  walk_at "w"
  refine w_loopR (fun i σ H' => ∃ (x y : Option V) (kvs : List (List Key × V)), σ = [some (.ref w), some (.ref p), some (.ref t), some (.ref d), x, y, none] ∧ Ex H H' ∧ H' d = some (.dT kvs) ∧ kvs.length ≤ i * 1000 ∧ ∀ x e : Int, 0 ≤ x → x < n → valV kvs (pk (x, e)) = if x < i ∧ e ∈ logAt st x then some (.int 0) else none)
    ⟨_, _, [], rfl, e1, hd, by simp, fun x e x0 x1 => by rw [if_neg (by intro z; have := z.1; simp at this; omega)]; rfl⟩ ?_ ?_
  · rintro i σ H2 hi ⟨x, y, kvs, rfl, e2, hd2, kl, kv⟩
    have hi' : i < st.length := by omega
    obtain ⟨lg, hlg⟩ : ∃ lg, st[i]? = some lg := ⟨_, List.getElem?_eq_getElem hi'⟩
    obtain ⟨a, ha, hta⟩ := hpo.get (o := lstO lg) (by rw [List.getElem?_map, hlg]; rfl)
    have la : logAt st i = lg := by unfold logAt; rw [Int.toNat_natCast, hlg]; rfl
    have lgl := (okS.2.2 lg (List.mem_of_getElem? hlg)).2.2
    walk_at "w"
    refine w_ixN (.inl (.inl (e2 _ _ hp))) (Int.natCast_nonneg i) (by rw [Int.toNat_natCast]; exact refs_get ha) ?_
    refine w_lstI (.inl (.inl (e2 _ _ hta))) ?_
    refine w_loop (walk_list (K := K) (a := a) (xs := lg.map V.int)) (fun j σ H' => ∃ (y : Option V) (kvs : List (List Key × V)), σ = [some (.ref w), some (.ref p), some (.ref t), some (.ref d), some (.int i), y, none] ∧ Ex H H' ∧ H' d = some (.dT kvs) ∧ kvs.length ≤ i * 1000 + j ∧ ∀ x e : Int, 0 ≤ x → x < n → valV kvs (pk (x, e)) = if (x < i ∧ e ∈ logAt st x) ∨ (x = i ∧ e ∈ lg.take j) then some (.int 0) else none)
      ⟨_, kvs, rfl, e2, hd2, kl, fun x e x0 x1 => by rw [kv x e x0 x1]; simp⟩ (fun j σ H' _ ⟨_, _, _, e, _⟩ => sq_of (e _ _ hta)) ?_ ?_
    · rintro j xj σ H3 H3' hj ⟨y, kvs3, rfl, e3, hd3, kl3, kv3⟩ ⟨rfl, hy⟩
      obtain ⟨b, hb, rfl⟩ := get_map hy
      rw [List.length_map] at hj
      walk_at "w"
      (refine w_newXT (le_line (by walk_at "side")) (fun tt H4 nt e4 htt EE_ => ?_); (try rw [← EE_]); clear EE_)
      walk_at "w"
      refine w_putT (k := pk ((i : Int), b)) (e4 _ _ hd3) htt (by omega) fun H5 c5 hd5 => ?_
      walk_at "w"
      refine ⟨_, _, rfl, c5.ex (e3.trans e4) nd, hd5, Nat.le_trans (length_putK ..) (Nat.succ_le_succ kl3), fun x e x0 x1 => ?_⟩
      rw [valV_put, kv3 x e x0 x1, take_succ hb]
      by_cases z : pk (x, e) = pk ((i : Int), b)
      · rw [if_pos z]
        have z2 := pk_inj z
        cases z2
        rw [if_pos (.inr ⟨rfl, by simp⟩)]
      · rw [if_neg z]
        have z2 : ¬ (x = i ∧ e = b) := fun ⟨u, v⟩ => z (by rw [u, v])
        refine ite_congr (propext ⟨fun h => h.imp id fun ⟨u, v⟩ => ⟨u, List.mem_append_left _ v⟩, fun h => h.imp id fun ⟨u, v⟩ => ⟨u, ?_⟩⟩) (fun _ => rfl) fun _ => rfl
        rcases List.mem_append.mp v with v | v
        · exact v
        · exact absurd ⟨u, List.mem_singleton.mp v⟩ z2
    · rintro σ H3 ⟨y, kvs3, rfl, e3, hd3, kl3, kv3⟩
      rw [List.length_map] at kl3
      refine ⟨_, _, kvs3, rfl, e3, hd3, by omega, fun x e x0 x1 => ?_⟩
      rw [kv3 x e x0 x1, List.length_map, List.take_length]
      refine ite_congr (propext ⟨fun h => ?_, fun h => ?_⟩) (fun _ => rfl) fun _ => rfl
      · rcases h with ⟨u, v⟩ | ⟨u, v⟩
        · exact ⟨by omega, v⟩
        · exact ⟨by omega, by rw [u, la]; exact v⟩
      · rcases Int.lt_or_eq_of_le (show x ≤ i by omega) with u | u
        · exact .inl ⟨u, h.2⟩
        · exact .inr ⟨u, by rw [← la, ← u]; exact h.2⟩
  · rintro σ H2 ⟨x, y, kvs, rfl, e2, hd2, kl, kv⟩
    walk_at "w"
    refine w_loop (walk_list (K := K) (a := t) (xs := ts.map V.ref)) (fun j σ H' => ∃ (x y z : Option V) (kvs : List (List Key × V)), σ = [some (.ref w), some (.ref p), some (.ref t), some (.ref d), x, y, z] ∧ Ex H H' ∧ H' d = some (.dT kvs) ∧ kvs.length ≤ 24000 + j ∧ ∀ x e : Int, 0 ≤ x → x < n → valV kvs (pk (x, e)) = (hopF hs st (tr.take j) x e).map fun v : Nat => V.int v)
      ⟨_, _, _, kvs, rfl, e2, hd2, by omega, fun x e x0 x1 => ?_⟩ (fun j σ H' _ ⟨_, _, _, _, _, e, _⟩ => sq_of (e _ _ ht)) ?_ ?_
    · rw [kv x e x0 x1]
      show _ = (hop0 st x e).map _
      unfold hop0
      by_cases m : e ∈ logAt st x
      · rw [if_pos m, if_pos ⟨by omega, m⟩]; rfl
      · rw [if_neg m, if_neg fun z => m z.2]; rfl
    · rintro j xj σ H3 H3' hj ⟨x, y, z, kvs3, rfl, e3, hd3, kl3, kv3⟩ ⟨rfl, hy⟩
      rw [List.length_map, hto.len, List.length_map] at hj
      obtain ⟨ac, hac⟩ : ∃ ac, tr[j]? = some ac := ⟨_, List.getElem?_eq_getElem hj⟩
      obtain ⟨a, ha, hta⟩ := hto.get (o := actO ac) (by rw [List.getElem?_map, hac]; rfl)
      have h4 := (refs_get ha).symm.trans hy
      cases h4
      obtain ⟨zs, h1, h2, h3, ok, oa, p0, p1⟩ := rc.act hac
      have w13 := e3 _ _ w1
      have nx : hopF hs st (tr.take (j + 1)) = hopA hs (hopF hs st (tr.take j)) ac := by rw [take_succ hac, hopF_snoc]
      have put : ∀ (v : Nat) (x0 e0 : Int), (∀ x e, hopA hs (hopF hs st (tr.take j)) ac x e = if x = x0 ∧ e = e0 then some v else hopF hs st (tr.take j) x e) → ∀ x e : Int, 0 ≤ x → x < n → valV (putK kvs3 (pk (x0, e0)) (.int v)) (pk (x, e)) = (hopF hs st (tr.take (j + 1)) x e).map fun v : Nat => V.int v := fun v x0 e0 eq x e h0 h1 => by
        rw [valV_put, nx, eq, kv3 x e h0 h1]
        by_cases z : pk (x, e) = pk (x0, e0)
        · have z2 := pk_inj z
          cases z2
          rw [if_pos rfl, if_pos ⟨rfl, rfl⟩]
          rfl
        · rw [if_neg z, if_neg fun ⟨u, v⟩ => z (by rw [u, v])]
      cases ac with
      | wr e =>
        have ht3 : SqT K H3' a [.str "write", .int e] := .of (e3 _ _ hta)
        walk_at "w"
        rw [decide_eq_true rfl]
        walk_at "w"
        have he : e < hs.length := oa
        obtain ⟨h, hh⟩ : ∃ h, hs[e]? = some h := ⟨_, List.getElem?_eq_getElem he⟩
        refine w_ixIA (.inl (.inl (e3 _ _ w3))) (by omega) (by omega) fun yy hyy => ?_
        rw [Int.toNat_natCast, hh] at hyy
        cases hyy
        walk_at "w"
        (refine w_newXT (le_line (by walk_at "side")) (fun tt H4 nt e4 htt EE_ => ?_); (try rw [← EE_]); clear EE_)
        walk_at "w"
        refine w_putT (k := pk (h, (e : Int))) (e4 _ _ hd3) htt (by omega) fun H5 c5 hd5 => ?_
        walk_at "w"
        refine ⟨_, _, _, _, rfl, c5.ex (e3.trans e4) nd, hd5, Nat.le_trans (length_putK ..) (Nat.succ_le_succ kl3), put 0 h e fun x e2 => ?_⟩
        show (if x = (hs[e]?).getD 0 ∧ e2 = (e : Int) then some 0 else _) = _
        rw [hh]
        rfl
      | pu s r e =>
        have ht3 : SqT K H3' a [.str "pull", .int s, .int r, .int e] := .of (e3 _ _ hta)
        obtain ⟨ql, qf⟩ := pu_of h2
        obtain ⟨_, k2, k3, k4, k5⟩ := rc.lo _ ql
        have hsm := rc.hop_some (e := e) k2 h1
        rw [decide_eq_true (List.mem_of_find?_eq_some qf)] at hsm
        obtain ⟨v, hv⟩ := Option.isSome_iff_exists.mp hsm
        have vv := kv3 s e k2 k3
        rw [hv] at vv
        walk_at "w"
        rw [decide_eq_false (by decide)]
        walk_at "w"
        (refine w_newXT (le_line (by walk_at "side")) (fun t1 H4 n4 e4 ht1 EE_ => ?_); (try rw [← EE_]); clear EE_)
        walk_at "w"
        refine w_ixDA (v := .int v) (by have dg := DGet.t (k := pk (s, e)) (e4 _ _ hd3) ht1; rw [vv] at dg; exact dg) ?_
        walk_at "w"
        (refine w_newXT (le_line (by walk_at "side")) (fun t2 H5 n5 e5 ht2 EE_ => ?_); (try rw [← EE_]); clear EE_)
        walk_at "w"
        refine w_putT (k := pk (r, e)) (e5 _ _ (e4 _ _ hd3)) ht2 (by omega) fun H6 c6 hd6 => ?_
        walk_at "w"
        refine ⟨_, _, _, _, rfl, c6.ex ((e3.trans e4).trans e5) nd, hd6, Nat.le_trans (length_putK ..) (Nat.succ_le_succ kl3), put (v + 1) r e fun x e2 => ?_⟩
        show (if x = r ∧ e2 = e then ((hopF hs st (tr.take j)) s e).map (· + 1) else _) = _
        rw [hv]
        rfl
    · rintro σ H3 ⟨x, y, z, kvs3, rfl, e3, hd3, kl3, kv3⟩
      rw [List.length_map, hto.len, List.length_map, List.take_length] at kv3
      walk_at "w"
      exact q d H3 e3 ⟨kvs3, hd3, kv3⟩
theorem ok__law_action_stays (G : Glo K mg D) {f : Addr} {fd : FuncData} (F : Fun K "_law_action_stays" "_law_action_stays" s__law_action_stays f fd) (h__law_place : Has P w K mg base "_law_place" 1 (sp__law_place K D)) (h__law_same_list : Has P w K mg base "_law_same_list" 2 (sp__law_same_list K D)) (h_ahead_of : Has P w K mg base "ahead_of" 3 (sp_ahead_of K D)) (h_carries : Has P w K mg base "carries" 3 (sp_carries K D)) (h__law_exchanged : Has P w K mg base "_law_exchanged" 2 (sp__law_exchanged K D)) (h__law_carrying : Has P w K mg base "_law_carrying" 1 (sp__law_carrying K D)) (h__law_truth : Has P w K mg base "_law_truth" 1 (sp__law_truth K D)) : FnOk P w K mg base CX0 4 f fd ["_law_cluster", "_law_world_here", "_law_before", "_law_action", "_law_logs"] (sp__law_action_stays K D) := by
  refine F.ok sc__law_action_stays (fun vs H Q E h => len5 h) (fun cdv A outer s H vs Q E hr h => ?_)
  obtain ⟨v0, v1, v2, v3, v4, rfl, h⟩ := h
  have c_Cluster := G.c_Cluster
  have c_Net := G.c_Net
  have n_Cluster__homes := G.n_Cluster__homes
  have n_Cluster_net := G.n_Cluster_net
  have n_Cluster_size := G.n_Cluster_size
  have n_Net__linked := G.n_Net__linked
  have n_Net__links := G.n_Net__links
  have n_Net_count := G.n_Net_count
  have r_Cluster := G.r_Cluster
  have r_Net := G.r_Net
  have v_Cluster_MOST := G.v_Cluster_MOST
  have v_Net_MOST := G.v_Net_MOST
  refine ⟨_, (pss_cons (ps_set (i := 5) sc__law_action_stays.nd rfl (.inl rfl) (pe_fn h__law_place (hr.mono (by decide)) (by rfl) (pa_cons (pv 1) (pa_cons (pv 3) pa_nil))))
  (pss_cons (ps_set (i := 6) sc__law_action_stays.nd rfl (.inl rfl) (pe_ix (ixA_K K hr) (pv 3) (pe_un un_neg pe_int) (fun _ _ => rfl)))
  (pss_cons (ps_if (pt_not (tru_K K (pe_fn h__law_same_list (hr.mono (by decide)) (by rfl) (pa_cons (pe_fn h_ahead_of (hr.mono (by decide)) (by rfl) (pa_cons (pv 0) (pa_cons (pv 4) (pa_cons (pv 5) (pa_cons (pv 6) pa_nil))))) (pa_cons (pe_ix (ixA_K K hr) (pv 2) (pv 5) (fun _ _ => rfl)) pa_nil))) (by intro _; rfl))) (pss_one (ps_ret pe_bl)) pss_nil)
  (pss_cons (ps_if (pt_cmpR (eq_K K hr.units) (pe_ix (ixA_K K hr) (pv 3) pe_int (fun _ _ => rfl)) pe_str (nomark _)) (pss_one (ps_ret pe_bl)) pss_nil)
  (pss_cons (ps_if (pt_cmpR op_isnA (pe_fn h_carries (hr.mono (by decide)) (by rfl) (pa_cons (pv 0) (pa_cons (pv 2) (pa_cons (pe_ix (ixA_K K hr) (pv 3) pe_int (fun _ _ => rfl)) (pa_cons (pv 5) (pa_cons (pv 6) pa_nil)))))) pe_bl (nomark _)) (pss_one (ps_ret pe_bl)) pss_nil)
  (pss_cons (ps_if (pt_cmpR op_isnA (pe_fn h_carries (hr.mono (by decide)) (by rfl) (pa_cons (pv 0) (pa_cons (pv 4) (pa_cons (pe_ix (ixA_K K hr) (pv 3) pe_int (fun _ _ => rfl)) (pa_cons (pv 5) (pa_cons (pv 6) pa_nil)))))) pe_bl (nomark _)) (pss_one (ps_ret pe_bl)) pss_nil)
  (pss_cons (ps_set (i := 7) sc__law_action_stays.nd rfl (.inl rfl) (pe_fn h__law_exchanged (hr.mono (by decide)) (by rfl) (pa_cons (pv 4) (pa_cons (pv 5) (pa_cons (pv 6) pa_nil)))))
  (pss_cons (ps_set (i := 8) sc__law_action_stays.nd rfl (.inl rfl) (pe_cmpR (inA_K K hr) (pe_tup (pa_cons (pe_ix (ixA_K K hr) (pv 3) pe_int (fun _ _ => rfl)) (pa_cons (pv 5) pa_nil))) (pe_fn h__law_carrying (hr.mono (by decide)) (by rfl) (pa_cons (pv 1) (pa_cons (pv 7) (pa_cons (pv 6) pa_nil)))) (by rfl)))
  (pss_one (ps_ret (pe_fn h__law_truth (hr.mono (by decide)) (by rfl) (pa_cons (pe_fn h_carries (hr.mono (by decide)) (by rfl) (pa_cons (pv 0) (pa_cons (pv 7) (pa_cons (pe_ix (ixA_K K hr) (pv 3) pe_int (fun _ _ => rfl)) (pa_cons (pv 5) (pa_cons (pv 6) pa_nil)))))) (pa_cons (pv 8) pa_nil))))))))))))), ?_⟩
  rw [show L2.start ["_law_cluster", "_law_world_here", "_law_before", "_law_action", "_law_logs", "_law_place_here", "_law_entry", "_law_bent", "_law_due"] [v0, v1, v2, v3, v4] = [some v0, some v1, some v2, some v3, some v4, none, none, none, none] from rfl]
  obtain ⟨cl, w, p, t, r, n, L, hs, xs, ys, ac, rfl, rfl, rfl, rfl, rfl, hC, hW, hX, ht, hY, okX, okY, hT, oa, sy, q⟩ := h
  obtain ⟨p0, p1⟩ := place_ok oa hW.ho
  obtain ⟨ps, hp, hpo⟩ := id hX
  have pe : placeF hs ac = ((placeF hs ac).toNat : Int) := (Int.toNat_of_nonneg p0).symm
  have lx := at_log okX p0 p1
  have ly := at_log okY p0 p1
  obtain ⟨ax, hax, htx⟩ := hpo.get (o := lstO (logAt xs (placeF hs ac))) (by rw [List.getElem?_map, lx]; rfl)
  have okl := okX.2.2 _ (List.mem_of_getElem? lx)
  walk_at "w"
  refine ⟨_, _, rfl, w, t, n, L, hs, ac, rfl, rfl, hW, ht, oa, ?_⟩
  walk_at "w"
  have lastI : ∃ us, H t = some (.tup us) ∧ atI us (-1) = some (.int ac.ent) := by
    cases ac with
    | wr e => exact ⟨_, ht, rfl⟩
    | pu s r e => exact ⟨_, ht, rfl⟩
  obtain ⟨us, hus, hat⟩ := lastI
  refine w_ixTA (.of hus) hat ?_
  walk_at "w"
  refine ⟨_, _, _, _, rfl, cl, r, n, L, hs, ys, (placeF hs ac).toNat, ac.ent, logAt ys (placeF hs ac), rfl, rfl, by rw [← pe], rfl, hC, hY, okY, hT, ly, sy.inn, fun u H1 nu e1 hu => ?_⟩
  rw [sy.ah] at hu
  walk_at "w"
  refine w_ixN (.inl (.inl (e1 _ _ hp))) p0 (refs_get hax) ?_
  walk_at "w"
  refine ⟨_, _, rfl, u, ax, _, rfl, rfl, .inl (.inl hu), .inl (.inl (e1 _ _ htx)), okl.2.2, fun H2 e2 => ?_⟩
  walk_at "w"
  have e12 := e1.trans e2
  cases ac with
  | wr e =>
    have ht3 : SqT K H2 t [.str "write", .int e] := .of (e12 _ _ ht)
    walk_at "w"
    rw [decide_eq_true rfl]
    walk_at "w"
    exact q H2 e12
  | pu s t2 e =>
    have ht3 : SqT K H2 t [.str "pull", .int s, .int t2, .int e] := .of (e12 _ _ ht)
    obtain ⟨ql, c0, c1⟩ := sy.pu s t2 e rfl
    have lok := hW.lo.1 _ ql
    have eb := oa.2.2.2.2
    walk_at "w"
    rw [decide_eq_false (by decide)]
    walk_at "w"
    refine ⟨_, _, _, _, _, rfl, cl, p, n, L, hs, xs, s, t2, e, rfl, rfl, rfl, rfl, rfl, hC.ex e12, hX.ex e12, okX, hT.ex e12, lok, ql, eb.1, eb.2, fun H3 e3 => ?_⟩
    rw [c0]
    walk_at "w"
    refine .inr ⟨_, _, rfl, rfl, ?_⟩
    rw [decide_eq_true rfl]
    walk_at "w"
    have e13 := e12.trans e3
    have ht4 : SqT K H3 t [.str "pull", .int s, .int t2, .int e] := .of (e13 _ _ ht)
    walk_at "w"
    refine ⟨_, _, _, _, _, rfl, cl, r, n, L, hs, ys, s, t2, e, rfl, rfl, rfl, rfl, rfl, hC.ex e13, hY.ex e13, okY, hT.ex e13, lok, ql, eb.1, eb.2, fun H4 e4 => ?_⟩
    rw [c1]
    walk_at "w"
    refine .inr ⟨_, _, rfl, rfl, ?_⟩
    rw [decide_eq_true rfl]
    walk_at "w"
    have e14 := e13.trans e4
    have pe2 : t2 = ((placeF hs (.pu s t2 e)).toNat : Int) := pe
    refine ⟨_, _, _, rfl, r, n, hs.length, ys, (placeF hs (.pu s t2 e)).toNat, _, e, rfl, by rw [← pe], rfl, hY.ex e14, okY, ly, sy.inn, fun b H5 zs e5 hZ okZ => ?_⟩
    have e15 := e14.trans e5
    have ht5 : SqT K H5 t [.str "pull", .int s, .int t2, .int e] := .of (e15 _ _ ht)
    walk_at "w"
    (refine w_newXT (le_line (by walk_at "side")) (fun tt H6 nt e6 htt EE_ => ?_); (try rw [← EE_]); clear EE_)
    have e16 := e15.trans e6
    walk_at "w"
    refine ⟨_, _, _, rfl, w, b, n, L, hs, zs, e, rfl, rfl, rfl, hW.ex e16, hZ.ex e6, okZ, fun cc H7 nc e7 ⟨ks, hk1, hk2⟩ => ?_⟩
    refine w_inP (q := (s, t2)) (e7 _ _ htt) hk1 hk2 ?_
    rw [carL_mem ql]
    have e17 := e16.trans e7
    have ht7 : SqT K H7 t [.str "pull", .int s, .int t2, .int e] := .of (e17 _ _ ht)
    walk_at "w"
    refine ⟨_, _, _, _, _, rfl, cl, b, n, L, hs, zs, s, t2, e, rfl, rfl, rfl, rfl, rfl, hC.ex e17, hZ.ex (e6.trans e7), okZ, hT.ex e17, lok, ql, eb.1, eb.2, fun H8 e8 => ?_⟩
    walk_at "w"
    exact ⟨_, _, rfl, _, rfl, rfl, q H8 (e17.trans e8)⟩
theorem ok__law_links_agree (G : Glo K mg D) {f : Addr} {fd : FuncData} (F : Fun K "_law_links_agree" "_law_links_agree" s__law_links_agree f fd) (h__law_carrying : Has P w K mg base "_law_carrying" 1 (sp__law_carrying K D)) (h__law_truth : Has P w K mg base "_law_truth" 1 (sp__law_truth K D)) (h_carries : Has P w K mg base "carries" 3 (sp_carries K D)) : FnOk P w K mg base CX0 4 f fd ["_law_cluster", "_law_world_here", "_law_logs", "_law_entry"] (sp__law_links_agree K D) := by
  refine F.ok sc__law_links_agree (fun vs H Q E h => len4 h) (fun cdv A outer s H vs Q E hr h => ?_)
  obtain ⟨v0, v1, v2, v3, rfl, h⟩ := h
  have c_Cluster := G.c_Cluster
  have c_Net := G.c_Net
  have n_Cluster__homes := G.n_Cluster__homes
  have n_Cluster_net := G.n_Cluster_net
  have n_Cluster_size := G.n_Cluster_size
  have n_Net__linked := G.n_Net__linked
  have n_Net__links := G.n_Net__links
  have n_Net_count := G.n_Net_count
  have r_Cluster := G.r_Cluster
  have r_Net := G.r_Net
  have v_Cluster_MOST := G.v_Cluster_MOST
  have v_Net_MOST := G.v_Net_MOST
  refine ⟨_, (pss_cons (ps_set (i := 4) sc__law_links_agree.nd rfl (.inl rfl) (pe_fn h__law_carrying (hr.mono (by decide)) (by rfl) (pa_cons (pv 1) (pa_cons (pv 2) (pa_cons (pv 3) pa_nil)))))
  (pss_cons (ps_for PassesOwn.never rfl (pi_lstK K (pe_ix (ixA_K K hr) (pv 1) pe_int (fun _ _ => rfl))) (pg_name (i := 5) (by exact sc__law_links_agree.nd) rfl (.inl rfl)) (pss_one (ps_if (pt_not (tru_K K (pe_fn h__law_truth (hr.mono (by decide)) (by rfl) (pa_cons (pe_fn h_carries (hr.mono (by decide)) (by rfl) (pa_cons (pv 0) (pa_cons (pv 2) (pa_cons (pe_ix (ixA_K K hr) (pv 5) pe_int (fun _ _ => rfl)) (pa_cons (pe_ix (ixA_K K hr) (pv 5) pe_int (fun _ _ => rfl)) (pa_cons (pv 3) pa_nil)))))) (pa_cons (pe_cmpR (inA_K K hr) (pv 5) (pv 4) (by rfl)) pa_nil))) (by intro _; rfl))) (pss_one (ps_ret pe_bl)) pss_nil)))
  (pss_one (ps_ret pe_bl)))), ?_⟩
  rw [show L2.start ["_law_cluster", "_law_world_here", "_law_logs", "_law_entry", "_law_due", "_law_link"] [v0, v1, v2, v3] = [some v0, some v1, some v2, some v3, none, none] from rfl]
  obtain ⟨cl, w, p, n, L, hs, xs, e, rfl, rfl, rfl, rfl, hC, hW, hX, okX, hT, e0, e1, q⟩ := h
  obtain ⟨⟨l, g, w1, ⟨lp, hlp, hlo⟩, w3⟩, n1, n2, wl, ho, hl⟩ := id hW
  walk_at "w"
  refine ⟨_, _, _, rfl, w, p, n, L, hs, xs, e, rfl, rfl, rfl, hW, hX, okX, fun cc H1 nc x1 ⟨ks, hk1, hk2⟩ => ?_⟩
  have w11 := x1 _ _ w1
  have hlp1 := x1 _ _ hlp
  walk_at "w"
  refine w_loop (walk_list (K := K) (a := l) (xs := lp.map V.ref)) (fun i σ H' => ∃ x : Option V, σ = [some (.ref cl), some (.ref w), some (.ref p), some (.int e), some (.ref cc), x] ∧ Ex H1 H') ⟨_, rfl, Ex.refl _⟩ (fun i σ H' _ ⟨_, _, e⟩ => sq_of (e _ _ hlp1)) ?_ ?_
  · rintro i lx σ H2 H2' hi ⟨x, rfl, e2⟩ ⟨rfl, hx⟩
    rw [List.length_map, hlo.len, List.length_map] at hi
    obtain ⟨lk, hlk⟩ : ∃ lk, L[i]? = some lk := ⟨_, List.getElem?_eq_getElem hi⟩
    obtain ⟨a, ha, hta⟩ := hlo.get (o := pairO lk) (by rw [List.getElem?_map, hlk]; rfl)
    have h4 := (refs_get ha).symm.trans hx
    cases h4
    have ql := List.mem_of_getElem? hlk
    have lok := wl.1 lk ql
    have e12 := x1.trans e2
    have ht3 : SqT K H2' a [.int lk.1, .int lk.2] := .of (e12 _ _ hta)
    walk_at "w"
    refine ⟨_, _, _, _, _, rfl, cl, p, n, L, hs, xs, lk.1, lk.2, e, rfl, rfl, rfl, rfl, rfl, hC.ex e12, hX.ex e12, okX, hT.ex e12, lok, ql, e0, e1, fun H3 e3 => ?_⟩
    walk_at "w"
    refine w_inP (q := lk) (e3 _ _ (e12 _ _ hta)) ((e2.trans e3) _ _ hk1) (hk2.ex (e2.trans e3)) ?_
    rw [show decide (lk ∈ carL L xs e) = carB (logAt xs lk.1) (logAt xs lk.2) e from carL_mem ql]
    walk_at "w"
    refine ⟨_, _, rfl, _, rfl, rfl, ?_⟩
    walk_at "w"
    exact ⟨_, rfl, e2.trans e3⟩
  · rintro σ H2 ⟨x, rfl, e2⟩
    walk_at "w"
    exact q H2 (x1.trans e2)
theorem ok__law_carried_to_holders (G : Glo K mg D) {f : Addr} {fd : FuncData} (F : Fun K "_law_carried_to_holders" "_law_carried_to_holders" s__law_carried_to_holders f fd) (h__law_distances : Has P w K mg base "_law_distances" 2 (sp__law_distances K D)) (h_carry_distances : Has P w K mg base "carry_distances" 5 (sp_carry_distances K D)) (h__law_same_list : Has P w K mg base "_law_same_list" 2 (sp__law_same_list K D)) (h_carried_to : Has P w K mg base "carried_to" 5 (sp_carried_to K D)) (h_holders_of : Has P w K mg base "holders_of" 3 (sp_holders_of K D)) : FnOk P w K mg base CX0 6 f fd ["_law_cluster", "_law_world_here", "_law_start_here", "_law_logs", "_law_entry", "_law_hops_here"] (sp__law_carried_to_holders K D) := by
  refine F.ok sc__law_carried_to_holders (fun vs H Q E h => len6 h) (fun cdv A outer s H vs Q E hr h => ?_)
  obtain ⟨v0, v1, v2, v3, v4, v5, rfl, h⟩ := h
  have c_Cluster := G.c_Cluster
  have c_Net := G.c_Net
  have n_Cluster__homes := G.n_Cluster__homes
  have n_Cluster_net := G.n_Cluster_net
  have n_Cluster_size := G.n_Cluster_size
  have n_Net__linked := G.n_Net__linked
  have n_Net__links := G.n_Net__links
  have n_Net_count := G.n_Net_count
  have r_Cluster := G.r_Cluster
  have r_Net := G.r_Net
  have v_Cluster_MOST := G.v_Cluster_MOST
  have v_Net_MOST := G.v_Net_MOST
  refine ⟨_, (pss_cons (ps_setLc (i := 6) (own := [("_law_x", 9)]) (by rfl) sc__law_carried_to_holders.nd rfl rfl (sw_true rfl rfl rfl (by decide +kernel)) (pi_range1 (by rfl) G.g_range (pa_cons (pe_ix (ixA_K K hr) (pv 1) pe_int (fun _ _ => rfl)) pa_nil)) (blkOk_by (own := [("_law_x", 9)]) (N := ["_law_cluster", "_law_world_here", "_law_start_here", "_law_logs", "_law_entry", "_law_hops_here", "_law_holders", "_law_steps", "_law_told", "_law_x", "_law_step"]) (sc := defScope s__law_carried_to_holders) (by decide +kernel)) (fun _ _ _ _ _ => (pg_name (i := 9) (by exact sc__law_carried_to_holders.nd) rfl (.inl rfl))) (fun _ _ _ _ _ => (pts_one (pt_cmpR (inA_K K hr) (pv 4) (pe_ix (ixA_K K hr) (pv 3) (pv 9) (fun _ _ => rfl)) (by rfl)))) (fun _ _ _ _ _ => (pv 9)))
  (pss_cons (ps_set (i := 7) sc__law_carried_to_holders.nd rfl (.inl rfl) (pe_fn h__law_distances (hr.mono (by decide)) (by rfl) (pa_cons (pv 1) (pa_cons (pv 2) (pa_cons (pv 3) (pa_cons (pv 4) pa_nil))))))
  (pss_cons (ps_set (i := 8) sc__law_carried_to_holders.nd rfl (.inl rfl) (pe_fn h_carry_distances (hr.mono (by decide)) (by rfl) (pa_cons (pv 0) (pa_cons (pv 2) (pa_cons (pv 3) (pa_cons (pv 4) pa_nil))))))
  (pss_cons (ps_if (PW.pt (pw_or (pt_not (tru_K K (pe_callB (isi_K K) (by rfl) G.g_isinstance (by decide +kernel) (pa_cons (pv 8) (pa_cons (pe_bltn (v := .ty "list") (by rfl) G.g_list (by decide +kernel) rfl) pa_nil))) (by intro _; rfl))) (pw_or (pt_cmpR (ne_K K hr.units) (pv 8) (pv 7) (nomark _)) (pw_or1 (tru_K K (pe_callB (any_K K) (by rfl) G.g_any (by decide +kernel) (pa_cons (pe_lc (own := [("_law_step", 10)]) (by rfl) sc__law_carried_to_holders.nd (pi_lstK K (pv 8)) (blkOk_by (own := [("_law_step", 10)]) (N := ["_law_cluster", "_law_world_here", "_law_start_here", "_law_logs", "_law_entry", "_law_hops_here", "_law_holders", "_law_steps", "_law_told", "_law_x", "_law_step"]) (sc := defScope s__law_carried_to_holders) (by decide +kernel)) (fun _ _ _ _ _ => (pg_name (i := 10) (by exact sc__law_carried_to_holders.nd) rfl (.inl rfl))) (fun _ _ _ _ _ => pts_nil) (fun _ _ _ _ _ => (pe_callB (isi_K K) (by rfl) G.g_isinstance (by decide +kernel) (pa_cons (pv 10) (pa_cons (pe_bltn (v := .ty "bool") (by rfl) G.g_bool (by decide +kernel) rfl) pa_nil))))) pa_nil)) (by intro _; rfl)))))) (pss_one (ps_ret pe_bl)) pss_nil)
  (pss_cons (ps_for PassesOwn.never rfl (pi_range1 (by rfl) G.g_range (pa_cons (pe_ix (ixA_K K hr) (pv 1) pe_int (fun _ _ => rfl)) pa_nil)) (pg_name (i := 9) (by exact sc__law_carried_to_holders.nd) rfl (.inl rfl)) (pss_cons (ps_if (pt_cmpR (ne_K K hr.units) (pe_cmpR (inA_K K hr) (pv 9) (pv 6) (by rfl)) (pe_cmpR (op_notN) (pe_ix (ixA_K K hr) (pv 8) (pv 9) (fun _ _ => rfl)) pe_non (nomark _)) (nomark _)) (pss_one (ps_ret pe_bl)) pss_nil)
  (pss_one (ps_if (PW.pt (pw_and (pt_cmpR (inA_K K hr) (pv 9) (pv 6) (by rfl)) (pw_and1 (pt_cmpR (op_gt) (pe_ix (ixA_K K hr) (pv 8) (pv 9) (fun _ _ => rfl)) (pe_ix (ixA_K K hr) (pv 5) (pe_tup (pa_cons (pv 9) (pa_cons (pv 4) pa_nil))) (fun _ _ => rfl)) (nomark _))))) (pss_one (ps_ret pe_bl)) pss_nil))))
  (pss_cons (ps_if (pt_not (tru_K K (pe_fn h__law_same_list (hr.mono (by decide)) (by rfl) (pa_cons (pe_fn h_carried_to (hr.mono (by decide)) (by rfl) (pa_cons (pv 0) (pa_cons (pv 2) (pa_cons (pv 3) (pa_cons (pv 4) pa_nil))))) (pa_cons (pv 6) pa_nil))) (by intro _; rfl))) (pss_one (ps_ret pe_bl)) pss_nil)
  (pss_one (ps_ret (pe_fn h__law_same_list (hr.mono (by decide)) (by rfl) (pa_cons (pe_fn h_holders_of (hr.mono (by decide)) (by rfl) (pa_cons (pv 0) (pa_cons (pv 3) (pa_cons (pv 4) pa_nil)))) (pa_cons (pv 6) pa_nil))))))))))), ?_⟩
  rw [show L2.start ["_law_cluster", "_law_world_here", "_law_start_here", "_law_logs", "_law_entry", "_law_hops_here", "_law_holders", "_law_steps", "_law_told", "_law_x", "_law_step"] [v0, v1, v2, v3, v4, v5] = [some v0, some v1, some v2, some v3, some v4, some v5, none, none, none, none, none] from rfl]
  obtain ⟨cl, w, p, r, hd, n, L, hs, st, gl, tr, ss, e, rfl, rfl, rfl, rfl, rfl, rfl, hC, hW, hX, hY, hT, hH, rc, hg, e0, e1, q⟩ := h
  have okS := rc.ok st (List.mem_of_getElem? rc.rp.h0)
  have okG := rc.ok gl (List.mem_of_getElem? hg)
  have gn := okG.1
  obtain ⟨⟨l, g, w1, w2, w3⟩, n1, n2, wl, ho, hl⟩ := id hW
  obtain ⟨rs, hr, hro⟩ := id hY
  have lo : LinksOk n L := ⟨wl.1, wl.2.2⟩
  walk_at "w"
  refine w_compI walk_range (fun i acc => acc = holdN gl e i) yFn (fun _ _ => trivial) rfl ?_ ?_
  · rintro i x acc D2 H2 H3 hi rfl hal e2 hx hD ⟨rfl, hxi⟩ -
    obtain rfl : x = .int i := hxi.trans (congrArg V.int (Int.zero_add _))
    have hi' : i < gl.length := by omega
    obtain ⟨lg, hlg⟩ : ∃ lg, gl[i]? = some lg := ⟨_, List.getElem?_eq_getElem hi'⟩
    obtain ⟨a, ha, hta⟩ := hro.get (o := lstO lg) (by rw [List.getElem?_map, hlg]; rfl)
    refine ⟨rfl, ?_⟩
    walk_at "w"
    refine w_ixN (.inl (.inl (e2 _ _ hr))) (Int.natCast_nonneg i) (by rw [Int.toNat_natCast]; exact refs_get ha) ?_
    have hlS : SqL K H3 a (lg.map V.int) := .inl (.inl (e2 _ _ hta))
    walk_at "w"
    refine w_ite (fun m => ?_) fun m => ?_
    · walk_at "w"
      exact cyI hD e2 hx hal (by omega) (Ex.refl _) (holdN_yes hlg m).symm
    · exact cnI hD e2 hx hal (Ex.refl _) (holdN_no hlg m).symm
  rintro fr H1 acc nf x1 hf rfl hal
  have hf1 : H1 fr = some (lstO (hold gl e)) := by rw [show n.toNat = gl.length by omega] at hf; exact hf
  walk_at "w"
  refine ⟨_, _, _, _, rfl, w, p, r, n, L, hs, st, gl, e, rfl, rfl, rfl, rfl, hW.ex x1, hX.ex x1, hY.ex x1, okS, okG, e0, e1, fun s1 H2 ns1 x2 hs1 => ?_⟩
  have x12 := x1.trans x2
  have hh : Qst D H2 cl p r n L hs st gl e := ⟨hC.ex x12, hX.ex x12, hY.ex x12, okS, okG, lo, ho, e0, e1⟩
  walk_at "w"
  refine ⟨_, _, _, _, rfl, cl, p, r, n, L, hs, st, gl, e, rfl, rfl, rfl, rfl, hh, hT.ex x12, rc.pre hg, fun s2 H3 ns2 x3 hs2 => ?_⟩
  have x13 := x12.trans x3
  have ss := fun {x : Int} {o : Option Nat} (x0 : 0 ≤ x) (x1 : x < n) => rc.steps_some hg e0 e1 x0 x1 (o := o)
  have le := fun {x : Int} {v : Nat} => rc.hop_le hg e0 e1 (Nat.le_refl _) (x := x) (v := v)
  have hso := fun {x : Int} (x0 : 0 ≤ x) => rc.hop_some x0 hg (e := e)
  rw [List.take_length] at le hso
  have sh := rc.steps_hold hg e0 e1
  generalize hS : stepsF gl.length (carL L gl e) (rootsF hs st gl e) = S at hs1 hs2 ss le sh
  have sl : S.length = gl.length := by rw [← hS]; exact run_len.trans st0_len
  walk_at "w"
  refine w_neSts hs2 (x3 _ _ hs1) ?_
  walk_at "w"
  refine w_comp (walk_list (xs := S.map optV)) (fun i vs _ => vs = (List.replicate i false).map V.bl) yAt (fun H' e => sq_of (e _ _ hs2)) rfl ?_ ?_
  · rintro i x acc D2 B H4 H5 hi eB rfl bD eB1 hx hD ⟨rfl, hy⟩ -
    rw [List.length_map] at hi
    obtain ⟨o, ho⟩ : ∃ o, S[i]? = some o := ⟨_, List.getElem?_eq_getElem hi⟩
    rw [List.getElem?_map, ho] at hy
    cases hy
    have fin : CYes (fun i vs _ => vs = (List.replicate i false).map V.bl) H3 D2 i (.bl false) H5 := by
      refine cyes hD (eB.trans eB1) hx (by rw [List.length_map, List.length_replicate]; omega) (Ex.refl _) ?_
      rw [List.replicate_succ', List.map_append]
      rfl
    refine ⟨rfl, ?_⟩
    cases o with
    | none =>
      walk_at "w"
      refine w_isi (T := "NoneType") (.base .non) (b := false) (by decide +kernel) ?_
      exact fin
    | some v =>
      rw [show optV (some v) = V.int v from rfl]
      walk_at "w"
      exact fin
  rintro D2 B H4 acc hD eB eB1 bD hx4 rfl
  have x34 : Ex H3 H4 := eB.trans eB1
  have x14 := x13.trans x34
  walk_at "w"
  refine ⟨D2, _, rfl, .inl (.inl hx4), ?_⟩
  have anyf : (List.replicate (S.map optV).length false).any id = false := List.any_eq_false.mpr fun b m => by rw [(List.mem_replicate.mp m).2]; simp
  rw [anyf]
  walk_at "w"
  obtain ⟨kvs, hk1, hk2⟩ := hH
  have w14 := x14 _ _ w1
  have hs24 := x34 _ _ hs2
  have hf4 := (x2.trans (x3.trans x34)) _ _ hf1
  walk_at "w"
  refine w_loopR (fun i σ H' => ∃ (x y : Option V), σ = [some (.ref cl), some (.ref w), some (.ref p), some (.ref r), some (.int e), some (.ref hd), some (.ref fr), some (.ref s1), some (.ref s2), x, y] ∧ Ex H4 H') ⟨_, _, rfl, Ex.refl _⟩ ?_ ?_
  · rintro i σ H5 hi ⟨x, y, rfl, x5⟩
    have i0 : (0 : Int) ≤ i := Int.natCast_nonneg i
    have i1 : (i : Int) < n := by omega
    obtain ⟨o, ho⟩ : ∃ o, S[i]? = some o := ⟨_, List.getElem?_eq_getElem (by omega)⟩
    have so := ss i0 i1 (by rw [Int.toNat_natCast]; exact ho)
    have mh : decide ((i : Int) ∈ hold gl e) = decide (e ∈ logAt gl i) := by
      rw [Bool.eq_iff_iff, decide_eq_true_eq, decide_eq_true_eq, mem_hold okG]
      exact ⟨fun z => z.2.2, fun z => ⟨i0, i1, z⟩⟩
    have sF : SqL K H5 fr ((hold gl e).map V.int) := .inl (.inl (x5 _ _ hf4))
    walk_at "w"
    refine w_ixN (.inl (.inl (x5 _ _ hs24))) i0 (by rw [Int.toNat_natCast, List.getElem?_map, ho]; rfl) ?_
    walk_at "w"
    refine ⟨rfl, ?_⟩
    refine w_neB ?_
    have eo : decide (optV o = V.non) = !o.isSome := by cases o <;> simp [optV]
    rw [eo, mh, so, Bool.not_not, decide_eq_true rfl]
    walk_at "w"
    rw [mh]
    refine w_ite (fun m => ?_) fun m => ?_
    · rw [decide_eq_true m] at so
      obtain ⟨v, rfl⟩ := Option.isSome_iff_exists.mp so
      have hsm := hso i0
      rw [decide_eq_true m] at hsm
      obtain ⟨hv, hhv⟩ := Option.isSome_iff_exists.mp hsm
      obtain ⟨u, hu, ul⟩ := le i0 i1 hhv
      rw [Int.toNat_natCast, ho] at hu
      cases hu
      walk_at "w"
      refine w_ixN (.inl (.inl (x5 _ _ hs24))) i0 (by rw [Int.toNat_natCast, List.getElem?_map, ho]; rfl) ?_
      walk_at "w"
      (refine w_newXT (le_line (by walk_at "side")) (fun tt H6 nt x6 htt EE_ => ?_); (try rw [← EE_]); clear EE_)
      walk_at "w"
      have vv := hk2 i e i0 i1
      rw [hhv] at vv
      refine w_ixDA (v := .int hv) (by have dg := DGet.t (k := pk ((i : Int), e)) (x6 _ _ (x5 _ _ (x14 _ _ hk1))) htt; rw [vv] at dg; exact dg) ?_
      refine w_I0 ?_
      rw [decide_eq_false (by omega)]
      walk_at "w"
      exact ⟨_, _, rfl, x5.trans x6⟩
    · walk_at "w"
      exact ⟨_, _, rfl, x5⟩
  · rintro σ H5 ⟨x, y, rfl, x5⟩
    have x15 := x14.trans x5
    have h5 := hh.ex ((x3.trans x34).trans x5)
    have hl2 : (hold gl e).length ≤ 1000 := by have := okG.2.1; rw [show n.toNat = gl.length by omega] at hal; exact Nat.le_trans hal this
    walk_at "w"
    refine ⟨_, _, _, _, rfl, cl, p, r, n, L, hs, st, gl, e, rfl, rfl, rfl, rfl, h5, hT.ex x15, rc.pre hg, fun u H6 nu x6 hu => ?_⟩
    rw [hS, sh] at hu
    walk_at "w"
    refine ⟨_, _, rfl, u, fr, _, rfl, rfl, .inl (.inl hu), .inl (.inl ((x5.trans x6) _ _ hf4)), hl2, fun H7 x7 => ?_⟩
    have x17 := (x15.trans x6).trans x7
    walk_at "w"
    refine ⟨_, _, _, rfl, cl, r, n, L, hs, gl, e, rfl, rfl, rfl, hC.ex x17, hY.ex x17, okG, hT.ex x17, e0, e1, fun u2 H8 nu2 x8 hu2 => ?_⟩
    walk_at "w"
    exact ⟨_, _, rfl, u2, fr, _, rfl, rfl, .inl (.inl hu2), .inl (.inl ((((x5.trans x6).trans x7).trans x8) _ _ hf4)), hl2, fun H9 x9 => q H9 ((x17.trans x8).trans x9)⟩
theorem ok_law (G : Glo K mg D) {f : Addr} {fd : FuncData} (F : Fun K "law" "law" s_law f fd) (h__law_box : Has P w K mg base "_law_box" 1 (sp__law_box K D)) (h__law_world : Has P w K mg base "_law_world" 4 (sp__law_world K D)) (h__law_start : Has P w K mg base "_law_start" 4 (sp__law_start K D)) (h__law_run : Has P w K mg base "_law_run" 3 (sp__law_run K D)) (h__law_most : Has P w K mg base "_law_most" 2 (sp__law_most K D)) (h__law_copy : Has P w K mg base "_law_copy" 1 (sp__law_copy K D)) (h_Cluster___init__ : HasI P w K mg base D.Cluster 1 (sp_Cluster___init__ K D)) (h_Net___init__ : HasI P w K mg base D.Net 2 (sp_Net___init__ K D)) (h__law_take : Has P w K mg base "_law_take" 1 (sp__law_take K D)) (h__law_action_stays : Has P w K mg base "_law_action_stays" 4 (sp__law_action_stays K D)) (h__law_hops : Has P w K mg base "_law_hops" 1 (sp__law_hops K D)) (h__law_carried_to_holders : Has P w K mg base "_law_carried_to_holders" 6 (sp__law_carried_to_holders K D)) (h__law_links_agree : Has P w K mg base "_law_links_agree" 4 (sp__law_links_agree K D)) : FnOk P w K mg base CX0 7 f fd ["_law_script"] (sp_law K D) := by
  refine F.ok sc_law (fun vs H Q E h => len1 h) (fun cdv A outer s H vs Q E hr h => ?_)
  obtain ⟨v0, rfl, h⟩ := h
  have c_Cluster := G.c_Cluster
  have c_Net := G.c_Net
  have n_Cluster__homes := G.n_Cluster__homes
  have n_Cluster_net := G.n_Cluster_net
  have n_Cluster_size := G.n_Cluster_size
  have n_Net__linked := G.n_Net__linked
  have n_Net__links := G.n_Net__links
  have n_Net_count := G.n_Net_count
  have r_Cluster := G.r_Cluster
  have r_Net := G.r_Net
  have v_Cluster_MOST := G.v_Cluster_MOST
  have v_Net_MOST := G.v_Net_MOST
  refine ⟨_, (pss_cons (ps_set (i := 1) sc_law.nd rfl (.inl rfl) (pe_fn h__law_box (hr.mono (by decide)) (by rfl) (pa_cons (pv 0) pa_nil)))
  (pss_cons (ps_set (i := 2) sc_law.nd rfl (.inl rfl) (pe_fn h__law_world (hr.mono (by decide)) (by rfl) (pa_cons (pv 1) pa_nil)))
  (pss_cons (ps_set (i := 3) sc_law.nd rfl (.inl rfl) (pe_callB (len_K K) (by rfl) G.g_len (by decide +kernel) (pa_cons (pe_ix (ixA_K K hr) (pv 2) pe_int (fun _ _ => rfl)) pa_nil)))
  (pss_cons (ps_set (i := 4) sc_law.nd rfl (.inl rfl) (pe_fn h__law_start (hr.mono (by decide)) (by rfl) (pa_cons (pv 1) (pa_cons (pv 2) pa_nil))))
  (pss_cons (ps_set (i := 5) sc_law.nd rfl (.inl rfl) (pe_fn h__law_run (hr.mono (by decide)) (by rfl) (pa_cons (pv 1) (pa_cons (pv 2) (pa_cons (pv 4) (pa_cons (pe_fn h__law_most (hr.mono (by decide)) (by rfl) (pa_cons (pv 1) pa_nil)) pa_nil))))))
  (pss_cons (ps_set (i := 6) sc_law.nd rfl (.inl rfl) (pe_ix (ixA_K K hr) (pv 5) pe_int (fun _ _ => rfl)))
  (pss_cons (ps_set (i := 7) sc_law.nd rfl (.inl rfl) (pe_ix (ixA_K K hr) (pv 5) pe_int (fun _ _ => rfl)))
  (pss_cons (ps_setLc (i := 8) (own := [("_law_logs", 15)]) (by rfl) sc_law.nd rfl rfl (sw_true rfl rfl rfl (by decide +kernel)) (pi_lstK K (pv 7)) (blkOk_by (own := [("_law_logs", 15)]) (N := ["_law_script", "_law_box_here", "_law_world_here", "_law_size", "_law_start_here", "_law_run_here", "_law_trace", "_law_states", "_law_kept", "_law_homes", "_law_cluster", "_law_k", "_law_later", "_law_hops_here", "_law_entry", "_law_logs"]) (sc := defScope s_law) (by decide +kernel)) (fun _ _ _ _ _ => (pg_name (i := 15) (by exact sc_law.nd) rfl (.inl rfl))) (fun _ _ _ _ _ => pts_nil) (fun _ _ _ _ _ => (pe_fn h__law_copy (hr.mono (by decide)) (by rfl) (pa_cons (pv 15) pa_nil))))
  (pss_cons (ps_set (i := 9) sc_law.nd rfl (.inl rfl) (pe_callTy (lst_K K) (by rfl) G.g_list (by decide +kernel) (pa_cons (pe_ix (ixA_K K hr) (pv 2) pe_int (fun _ _ => rfl)) pa_nil)))
  (pss_cons (ps_set (i := 10) sc_law.nd rfl (.inl rfl) (pe_iH h_Cluster___init__ G.m_Cluster (hr.mono (by decide)) (by rfl) (pa_cons (pe_iH h_Net___init__ G.m_Net (hr.mono (by decide)) (by rfl) (pa_cons (pe_ix (ixA_K K hr) (pv 2) pe_int (fun _ _ => rfl)) (pa_cons (pe_callTy (lst_K K) (by rfl) G.g_list (by decide +kernel) (pa_cons (pe_ix (ixA_K K hr) (pv 2) pe_int (fun _ _ => rfl)) pa_nil)) pa_nil))) (pa_cons (pv 9) pa_nil))))
  (pss_cons (ps_for PassesOwn.never rfl (pi_range1 (by rfl) G.g_range (pa_cons (pe_callB (len_K K) (by rfl) G.g_len (by decide +kernel) (pa_cons (pv 6) pa_nil)) pa_nil)) (pg_name (i := 11) (by exact sc_law.nd) rfl (.inl rfl)) (pss_cons (ps_set (i := 12) sc_law.nd rfl (.inl rfl) (pe_ix (ixA_K K hr) (pv 7) (pe_op op_addA (pe_op op_addA (pv 11) pe_int) (pe_fn h__law_take (hr.mono (by decide)) (by rfl) (pa_cons (pv 1) (pa_cons (pe_op op_sub (pe_callB (len_K K) (by rfl) G.g_len (by decide +kernel) (pa_cons (pv 6) pa_nil)) (pv 11)) pa_nil)))) (fun _ _ => rfl)))
  (pss_cons (ps_if (pt_not (tru_K K (pe_fn h__law_action_stays (hr.mono (by decide)) (by rfl) (pa_cons (pv 10) (pa_cons (pv 2) (pa_cons (pe_ix (ixA_K K hr) (pv 7) (pv 11) (fun _ _ => rfl)) (pa_cons (pe_ix (ixA_K K hr) (pv 6) (pv 11) (fun _ _ => rfl)) (pa_cons (pv 12) pa_nil)))))) (by intro _; rfl))) (pss_one (ps_ret pe_bl)) pss_nil)
  (pss_one (ps_if (pt_not (tru_K K (pe_fn h__law_action_stays (hr.mono (by decide)) (by rfl) (pa_cons (pv 10) (pa_cons (pv 2) (pa_cons (pe_ix (ixA_K K hr) (pv 7) (pv 11) (fun _ _ => rfl)) (pa_cons (pe_ix (ixA_K K hr) (pv 6) (pv 11) (fun _ _ => rfl)) (pa_cons (pe_ix (ixA_K K hr) (pv 7) (pe_un un_neg pe_int) (fun _ _ => rfl)) pa_nil)))))) (by intro _; rfl))) (pss_one (ps_ret pe_bl)) pss_nil)))))
  (pss_cons (ps_set (i := 13) sc_law.nd rfl (.inl rfl) (pe_fn h__law_hops (hr.mono (by decide)) (by rfl) (pa_cons (pv 2) (pa_cons (pv 4) (pa_cons (pv 6) pa_nil)))))
  (pss_cons (ps_for PassesOwn.never rfl (pi_range1 (by rfl) G.g_range (pa_cons (pv 3) pa_nil)) (pg_name (i := 14) (by exact sc_law.nd) rfl (.inl rfl)) (pss_one (ps_if (pt_not (tru_K K (pe_fn h__law_carried_to_holders (hr.mono (by decide)) (by rfl) (pa_cons (pv 10) (pa_cons (pv 2) (pa_cons (pv 4) (pa_cons (pe_ix (ixA_K K hr) (pv 7) (pe_un un_neg pe_int) (fun _ _ => rfl)) (pa_cons (pv 14) (pa_cons (pv 13) pa_nil))))))) (by intro _; rfl))) (pss_one (ps_ret pe_bl)) pss_nil)))
  (pss_cons (ps_if (PW.pt (pw_and (pt_cmpR (op_gt) (pv 3) pe_int (nomark _)) (pw_and1 (pt_not (tru_K K (pe_fn h__law_links_agree (hr.mono (by decide)) (by rfl) (pa_cons (pv 10) (pa_cons (pv 2) (pa_cons (pe_ix (ixA_K K hr) (pv 7) (pe_un un_neg pe_int) (fun _ _ => rfl)) (pa_cons (pe_fn h__law_take (hr.mono (by decide)) (by rfl) (pa_cons (pv 1) (pa_cons (pv 3) pa_nil))) pa_nil))))) (by intro _; rfl)))))) (pss_one (ps_ret pe_bl)) pss_nil)
  (pss_one (ps_ret (pe_and (pe_cmpR (eq_K K hr.units) (pv 7) (pv 8) (nomark _)) (pe_and (pe_cmpR (eq_K K hr.units) (pv 9) (pe_ix (ixA_K K hr) (pv 2) pe_int (fun _ _ => rfl)) (nomark _)) (pe_one (pe_cmpR (eq_K K hr.units) (pv 4) (pe_ix (ixA_K K hr) (pv 8) pe_int (fun _ _ => rfl)) (nomark _))))))))))))))))))))), ?_⟩
  rw [show L2.start ["_law_script", "_law_box_here", "_law_world_here", "_law_size", "_law_start_here", "_law_run_here", "_law_trace", "_law_states", "_law_kept", "_law_homes", "_law_cluster", "_law_k", "_law_later", "_law_hops_here", "_law_entry", "_law_logs"] [v0] = [some v0, none, none, none, none, none, none, none, none, none, none, none, none, none, none, none] from rfl]
  obtain ⟨a, ns, rfl, hS, hl, p0, hTab0, q⟩ := h
  have hTab : TabH D H := ⟨p0, hTab0⟩
  walk_at "w"
  refine ⟨_, rfl, _, _, rfl, hS, hl, fun t H1 x1 hT => ?_⟩
  walk_at "w"
  refine ⟨_, rfl, t, rfl, hT, fun w H2 n L hs x2 hW => ?_⟩
  have hT2 := hT.ex x2
  obtain ⟨⟨l, g, w1, w2, w3⟩, n1, n2, wl, ho, hz⟩ := id hW
  walk_at "w"
  refine ⟨_, _, rfl, t, w, n, L, hs, rfl, rfl, hT2, hW, fun st H3 xs x3 hX okX => ?_⟩
  have hT3 := hT2.ex x3
  walk_at "w"
  refine ⟨_, rfl, t, rfl, hT3, fun m m0 m1 => ?_⟩
  walk_at "w"
  refine ⟨_, _, _, _, rfl, t, w, st, n, L, hs, xs, m, rfl, rfl, rfl, rfl, hT3, hW.ex x3, hX, okX, m0, by omega, fun rr u sa H4 tr ss nrr x4 hrr hA hSt rp tl sok => ?_⟩
  have rc : RunC n L hs xs tr ss := ⟨rp, sok, wl.1, ho⟩
  have sl := rp.len
  obtain ⟨qs, s1, s2, s3⟩ := id hSt
  obtain ⟨us, u1, u2⟩ := id hA
  have ul : us.length = tr.length := by rw [u2.len, List.length_map]
  have x24 := x3.trans x4
  walk_at "w"
  refine w_comp (walk_list (xs := qs.map V.ref)) (fun i vs B => ∃ ks : List Addr, vs = ks.map V.ref ∧ ks.length = i ∧ ∀ (j : Nat) a ys, ks[j]? = some a → ss[j]? = some ys → LLs B a ys) yAt (fun H' e => ex_l e (sq_of s1)) ⟨[], rfl, rfl, fun j a ys h => by cases h⟩ ?_ ?_
  · rintro i x acc D2 B H5 H6 hi eB ⟨ks, rfl, kl, kv⟩ bD eB1 hx hD ⟨rfl, hy⟩ -
    rw [List.length_map, s2] at hi
    obtain ⟨ys, hys⟩ : ∃ ys, ss[i]? = some ys := ⟨_, List.getElem?_eq_getElem hi⟩
    obtain ⟨qa, hqa⟩ : ∃ a, qs[i]? = some a := ⟨_, List.getElem?_eq_getElem (by omega)⟩
    rw [refs_get hqa] at hy
    cases hy
    refine ⟨rfl, ?_⟩
    walk_at "w"
    refine ⟨_, rfl, qa, ys, rfl, (s3 i qa ys hqa hys).ex (eB.trans eB1), (sok ys (List.mem_of_getElem? hys)).2.1, fun r H7 e7 hf => ?_⟩
    refine cyes hD (eB.trans eB1) hx (by rw [List.length_map]; omega) e7 ⟨ks ++ [r], by rw [List.map_append]; rfl, by rw [List.length_append, kl]; rfl, fun j b zs hb hz => ?_⟩
    rcases Nat.lt_or_ge j ks.length with lt | ge
    · rw [List.getElem?_append_left lt] at hb
      exact (kv j b zs hb hz).ex (ex_del (eB1.trans e7) bD)
    · rw [List.getElem?_append_right ge] at hb
      obtain rfl : j = ks.length := by
        have := (List.getElem?_eq_some_iff.mp hb).1
        simp at this
        omega
      rw [Nat.sub_self] at hb
      cases hb
      rw [kl, hys] at hz
      cases hz
      exact hf.del (by rw [hx]; simp)
  rintro kp B H5 acc nkp eB eB1 bD hkp ⟨ks, rfl, kl, kv⟩
  rw [List.length_map, s2] at kl
  have hK : StsP H5 kp ss := ⟨ks, hkp, kl, fun j b zs hb hz => (kv j b zs hb hz).ex eB1⟩
  have x45 : Ex H4 H5 := eB.trans eB1
  have x25 := x24.trans x45
  walk_at "w"
  refine w_listI (.inl (.inl (x25 _ _ w3))) fun ho2 H6 nho x6 hho => ?_
  have x26 := x25.trans x6
  obtain ⟨lp, l1, l2⟩ := id w2
  have w16 := x26 _ _ w1
  walk_at "w"
  refine w_listR (.inl (.inl (x26 _ _ l1))) fun lc H7 nlc x7 hlc => ?_
  have x27 := x26.trans x7
  walk_at "w"
  refine w_makeI fun nt dx H8 nnt x8 hnt => ?_
  refine ⟨_, _, _, rfl, nt, dx, lc, n, L, rfl, rfl, rfl, hnt, ⟨lp, x8 _ _ hlc, l2.ex (x27.trans x8)⟩, n1, n2, wl.1, by have := wl.2.2; omega, fun H9 Ls b9 hN pw mem => ⟨rfl, ?_⟩⟩
  have eL : Ls = L := lex_uniq pw wl.2.1 mem
  subst eL
  have x79 : Ex H7 H9 := b9.ex x8 nnt
  have x29 := x27.trans x79
  have hho9 := (x7.trans x79) _ _ hho
  walk_at "w"
  refine w_makeI fun cl dc HA ncl xA hcl => ?_
  refine ⟨_, _, _, rfl, cl, dc, nt, ho2, n, Ls, hs, rfl, rfl, rfl, hcl, hN.ex xA, xA _ _ hho9, ho, hz, fun HB bB hCl => ⟨rfl, ?_⟩⟩
  have x9B : Ex H9 HB := bB.ex xA ncl
  have x2B := x29.trans x9B
  have x4B : Ex H4 HB := ((x45.trans x6).trans (x7.trans x79)).trans x9B
  have x3B : Ex H3 HB := x4.trans x4B
  have hTB := hT2.ex x2B
  have tabB := hTab.ex ((x1.trans x2).trans x2B)
  have hWB := hW.ex x2B
  have hAB := hA.ex x4B
  have hStB := hSt.ex x4B
  have hXB := hX.ex x3B
  have hoB := x9B _ _ hho9
  have hKB := hK.ex ((x6.trans (x7.trans x79)).trans x9B)
  obtain ⟨gl, hgl⟩ : ∃ gl, ss[tr.length]? = some gl := ⟨_, List.getElem?_eq_getElem (by omega)⟩
  obtain ⟨ga, hga⟩ : ∃ a, qs[tr.length]? = some a := ⟨_, List.getElem?_eq_getElem (by omega)⟩
  have lastq : atI (qs.map V.ref) (-1) = some (.ref ga) := at_last (by rw [List.length_map, s2, sl]) (refs_get hga)
  have u1B := x4B _ _ u1
  have s1B := x4B _ _ s1
  have hgB := (s3 _ _ _ hga hgl).ex x4B
  have okG := sok gl (List.mem_of_getElem? hgl)
  clear x9B x79 x7 x8 xA bB b9 hcl hnt
  with_reducible conv => whnf
  refine w_seq ?_
  refine w_for ?_
  refine w_iR1 ?_
  refine w_cons ?_
  refine w_cb ?_
  refine w_cons ?_
  refine w_var rfl ?_
  refine w_nil ?_
  refine w_lenR (.inl (.inl u1B)) ?_
  rw [List.length_map, ul]
  refine w_nil ?_
  have tz : (tr.length : Int) < 2 ^ 62 := by omega
  refine w_rng (Int.le_trans (by decide) (Int.natCast_nonneg tr.length)) tz ?_
  refine w_loopR (fun i σ H' => ∃ x11 x12, σ = [some (.ref a), some (.ref t), some (.ref w), some (.int hs.length), some (.ref st), some (.ref rr), some (.ref u), some (.ref sa), some (.ref kp), some (.ref ho2), some (.ref cl), x11, x12, none, none, none] ∧ Ex HB H') ⟨_, _, rfl, Ex.refl _⟩ ?_ ?_
  · rintro i σ H6 hi ⟨x11, x12, rfl, e6⟩
    rw [Int.toNat_natCast] at hi
    obtain ⟨ac, hac⟩ : ∃ ac, tr[i]? = some ac := ⟨_, List.getElem?_eq_getElem hi⟩
    obtain ⟨zs, h1, h2, h3, ok, oa, p0, p1⟩ := rc.act hac
    obtain ⟨qa, hqa⟩ : ∃ a, qs[i]? = some a := ⟨_, List.getElem?_eq_getElem (by omega)⟩
    obtain ⟨ta, hta, hto⟩ := u2.get (o := actO ac) (by rw [List.getElem?_map, hac]; rfl)
    walk_at "w"
    refine w_lenR (.inl (.inl (e6 _ _ u1B))) ?_
    rw [List.length_map, ul]
    walk_at "w"
    refine ⟨_, _, rfl, t, _, rfl, rfl, hTB.ex e6, by omega, by omega, fun d d0 d1 => ?_⟩
    walk_at "w"
    obtain ⟨k, hk⟩ : ∃ k : Nat, (i : Int) + 1 + d = k := ⟨((i : Int) + 1 + d).toNat, by omega⟩
    have kl2 : k ≤ tr.length := by omega
    obtain ⟨ys, hys⟩ : ∃ ys, ss[k]? = some ys := ⟨_, List.getElem?_eq_getElem (by omega)⟩
    obtain ⟨qb, hqb⟩ : ∃ a, qs[k]? = some a := ⟨_, List.getElem?_eq_getElem (by omega)⟩
    rw [hk]
    refine w_ixN (.inl (.inl (e6 _ _ s1B))) (Int.natCast_nonneg k) (by rw [Int.toNat_natCast]; exact refs_get hqb) ?_
    have oky := sok ys (List.mem_of_getElem? hys)
    walk_at "w"
    refine w_ixN (.inl (.inl (e6 _ _ s1B))) (Int.natCast_nonneg i) (by rw [Int.toNat_natCast]; exact refs_get hqa) ?_
    walk_at "w"
    refine w_ixN (.inl (.inl (e6 _ _ u1B))) (Int.natCast_nonneg i) (by rw [Int.toNat_natCast]; exact refs_get hta) ?_
    walk_at "w"
    refine ⟨_, _, _, _, _, rfl, cl, w, qa, ta, qb, n, Ls, hs, zs, ys, ac, rfl, rfl, rfl, rfl, rfl, hCl.ex e6, hWB.ex e6, (s3 _ _ _ hqa h1).ex (x4B.trans e6), e6 _ _ (x4B _ _ hto), (s3 _ _ _ hqb hys).ex (x4B.trans e6), ok, oky, tabB.ex e6, oa, rc.stays hac h1 hys (by omega), fun H7 e7 => ?_⟩
    have e67 := e6.trans e7
    walk_at "w"
    refine w_ixN (.inl (.inl (e67 _ _ s1B))) (Int.natCast_nonneg i) (by rw [Int.toNat_natCast]; exact refs_get hqa) ?_
    walk_at "w"
    refine w_ixN (.inl (.inl (e67 _ _ u1B))) (Int.natCast_nonneg i) (by rw [Int.toNat_natCast]; exact refs_get hta) ?_
    walk_at "w"
    refine w_ixCA (.inl (.inl (e67 _ _ s1B))) lastq ?_
    walk_at "w"
    refine ⟨_, _, _, _, _, rfl, cl, w, qa, ta, ga, n, Ls, hs, zs, gl, ac, rfl, rfl, rfl, rfl, rfl, hCl.ex e67, hWB.ex e67, (s3 _ _ _ hqa h1).ex (x4B.trans e67), e67 _ _ (x4B _ _ hto), hgB.ex e67, ok, okG, tabB.ex e67, oa, rc.stays hac h1 hgl (by omega), fun H8 e8 => ?_⟩
    walk_at "w"
    exact ⟨_, _, rfl, e67.trans e8⟩
  · rintro σ H6 ⟨x11, x12, rfl, e6⟩
    walk_at "w"
    refine ⟨_, _, _, rfl, w, st, u, n, Ls, hs, xs, tr, ss, rfl, rfl, rfl, hWB.ex e6, hXB.ex e6, hAB.ex e6, rc, by omega, fun hd H7 e7 hHop => ?_⟩
    have e67 := e6.trans e7
    with_reducible conv => whnf
    refine w_seq ?_
    refine w_for ?_
    refine w_iR1 ?_
    refine w_cons ?_
    refine w_var rfl ?_
    refine w_nil ?_
    have hz2 : (hs.length : Int) < 2 ^ 62 := by omega
    refine w_rng (Int.le_trans (by decide) (Int.natCast_nonneg hs.length)) hz2 ?_
    refine w_loopR (fun i σ H' => ∃ x14, σ = [some (.ref a), some (.ref t), some (.ref w), some (.int hs.length), some (.ref st), some (.ref rr), some (.ref u), some (.ref sa), some (.ref kp), some (.ref ho2), some (.ref cl), x11, x12, some (.ref hd), x14, none] ∧ Ex H7 H') ⟨_, rfl, Ex.refl _⟩ ?_ ?_
    · rintro i σ H8 hi ⟨x14, rfl, e8⟩
      rw [Int.toNat_natCast] at hi
      have e68 := e67.trans e8
      walk_at "w"
      refine w_ixCA (.inl (.inl (e68 _ _ s1B))) lastq ?_
      walk_at "w"
      refine ⟨_, _, _, _, _, _, rfl, cl, w, st, ga, hd, n, Ls, hs, xs, gl, tr, ss, i, rfl, rfl, rfl, rfl, rfl, rfl, hCl.ex e68, hWB.ex e68, hXB.ex e68, hgB.ex e68, tabB.ex e68, hHop.ex e8, rc, hgl, by omega, by omega, fun H9 e9 => ?_⟩
      walk_at "w"
      exact ⟨_, rfl, e8.trans e9⟩
    · rintro σ H8 ⟨x14, rfl, e8⟩
      have e68 := e67.trans e8
      have fin : ∀ H9, Ex HB H9 → rEqA K (.ref sa) (.ref kp) H9 fun x H1 => ∃ c, x = .bl c ∧ if c = true then tAndV (tOp (rEqA K) (tVar 9) (tOp (rIxA K) (tVar 2) (tC (V.int 2)))) (tOp (rEqA K) (tVar 4) (tOp (rIxA K) (tVar 8) (tC (V.int 0)))) [some (.ref a), some (.ref t), some (.ref w), some (.int hs.length), some (.ref st), some (.ref rr), some (.ref u), some (.ref sa), some (.ref kp), some (.ref ho2), some (.ref cl), x11, x12, some (.ref hd), x14, none] H1 Q else Q (.bl false) H1 := fun H9 e9 => by
        obtain ⟨ks, k1, k2, k3⟩ := hKB.ex e9
        obtain ⟨k0, hk0⟩ : ∃ a, ks[0]? = some a := ⟨_, List.getElem?_eq_getElem (by omega)⟩
        have w1e := (x2B.trans e9) _ _ w1
        refine w_eqL3 (hStB.ex e9) ⟨ks, k1, k2, k3⟩ ?_
        walk_at "w"
        refine w_eqL (ns := hs) (ms := hs) (.inl (.inl (e9 _ _ hoB))) (.inl (.inl ((x2B.trans e9) _ _ w3))) ?_
        rw [decide_eq_true rfl]
        walk_at "w"
        refine w_ixCA (.inl (.inl k1)) (by show atI (ks.map V.ref) 0 = _; exact at_nat (Int.le_refl 0) (refs_get hk0)) ?_
        refine w_eqL2 (hXB.ex e9) (k3 0 k0 xs hk0 rp.h0) ?_
        exact q H9 (((x1.trans x2).trans (x2B.trans e9)) _ _ hTab0)
      walk_at "w"
      refine w_ite (fun z => ?_) fun z => ?_
      · walk_at "w"
        refine w_ixCA (.inl (.inl (e68 _ _ s1B))) lastq ?_
        walk_at "w"
        refine ⟨_, _, rfl, t, _, rfl, rfl, hTB.ex e68, by omega, by omega, fun d d0 d1 => ?_⟩
        walk_at "w"
        refine ⟨_, _, _, _, rfl, cl, w, ga, n, Ls, hs, gl, d, rfl, rfl, rfl, rfl, hCl.ex e68, hWB.ex e68, hgB.ex e68, okG, tabB.ex e68, d0, d1, fun H9 e9 => ?_⟩
        walk_at "w"
        exact fin H9 (e68.trans e9)
      · walk_at "w"
        exact fin H8 e68
end
end Pr
namespace Pr
open PySem PySem.Spec PyProof.Rows L2 Evl PL
def top_law (K : Frg) (D : Ad) : Sp := Sp1 fun a H Q => H D.t__is_log = some (.tbl #[]) ∧ ∃ (p : Addr) (ns : List Int), a = .ref p ∧ SqL K H p (ns.map V.int) ∧ ns.length ≤ 63 ∧ ∀ H', Q (.bl true) H'
theorem top_say {K : Frg} {D : Ad} {H : Hp} {a : Addr} {ns : List Int} (hl : ns.length ≤ 63) (hS : SqL K H a (ns.map V.int)) (hT : H D.t__is_log = some (.tbl #[])) : top_law K D [.ref a] H (fun v _ => v = .bl true) fun _ _ _ => False :=
  ⟨_, rfl, hT, a, ns, rfl, hS, hl, fun _ => rfl⟩
theorem top_up {P : Program} {w : World} {K : PySem.W.Frag} {mg : Str → Option Value} {base : Heap} {D : Ad} {k : Nat} {f : Addr} {fd : FuncData} {p1 : Str} (F : FnOk P w K mg base CX0 k f fd [p1] (sp_law K D)) : FnOk P w K mg base CX0 k f fd [p1] (top_law K D) := by
  refine PG.fn_tab0 D.t__is_log F (fun _ _ _ _ h => len1 h) fun vs H Q E h => ?_
  obtain ⟨a, rfl, hT, p, ns, rfl, hS, hl, q⟩ := h
  refine ⟨hT, _, rfl, p, ns, rfl, ?_, hl, _, upd_same, fun H' e => ⟨e, fun _ => q _⟩⟩
  rcases hS with (hS | ⟨o, hS⟩) | hS
  · exact .inl (.inl ((upd_ne (fun e => by rw [e, hT] at hS; cases hS)).trans hS))
  · exact .inl (.inr ⟨o, (upd_ne (fun e => by rw [e, hT] at hS; cases hS)).trans hS⟩)
  · exact .inr hS
theorem tabG {b : Heap} {m : Str → Option Value} {c p : Addr} (h : LamX.TabB b m c p) : GxR.TabB b m c p := ⟨h.code, h.bm, h.gP⟩
set_option maxHeartbeats 0 in
theorem all_mk {l : PySem.W.OpenLaw} {w : World} {K : PySem.W.Frag} {h : Heap} {mg : Str → Option Value} {fa : Addr} {q : Program} (X : K.In h) (G : h.Ns mainGlobals mg) (hfa : mg "law" = some (.ref fa)) (own : PE.TabOf q K h) (hq : ∀ x, (x = "_is_log") → ((recsOf q).any fun e => e.name == x) = true)
    {f__check_count f__is_below f_Net_links f_Net_has_link f_Cluster___init__ f_Cluster_home_of f_check_replica f_check_entry f_copy_logs f__is_log f_prefix_fault f_places_of f_blocker_of f__law_box f__law_take f__law_all_links f__law_copy f__law_first f__law_place f__law_empty f__law_whole f__law_truth f__law_carrying f__law_hops f_Net___init__ f_check_logs f__link_carries f_entry_roots f__law_shuffled f__law_allowed f__law_after f__law_most f__law_same_list f__law_exchanged f__law_distances f_holders_of f_ahead_of f_carry_links f__check_question f_carries f__law_net_links f__law_run f__law_any_logs f_carry_steps f__law_world f__law_start f__law_action_stays f__law_links_agree f_carry_distances f_carried_to f__law_carried_to_holders f_law C_Cluster C_Net p_Net_links cc__is_log P__is_log : Addr} {od__check_count an__check_count od__is_below an__is_below od_Net_links an_Net_links od_Net_has_link an_Net_has_link od_Cluster___init__ an_Cluster___init__ od_Cluster_home_of an_Cluster_home_of od_check_replica an_check_replica od_check_entry an_check_entry od_copy_logs an_copy_logs od__is_log an__is_log od_prefix_fault an_prefix_fault od_places_of an_places_of od_blocker_of an_blocker_of od__law_box an__law_box od__law_take an__law_take od__law_all_links an__law_all_links od__law_copy an__law_copy od__law_first an__law_first od__law_place an__law_place od__law_empty an__law_empty od__law_whole an__law_whole od__law_truth an__law_truth od__law_carrying an__law_carrying od__law_hops an__law_hops od_Net___init__ an_Net___init__ od_check_logs an_check_logs od__link_carries an__link_carries od_entry_roots an_entry_roots od__law_shuffled an__law_shuffled od__law_allowed an__law_allowed od__law_after an__law_after od__law_most an__law_most od__law_same_list an__law_same_list od__law_exchanged an__law_exchanged od__law_distances an__law_distances od_holders_of an_holders_of od_ahead_of an_ahead_of od_carry_links an_carry_links od__check_question an__check_question od_carries an_carries od__law_net_links an__law_net_links od__law_run an__law_run od__law_any_logs an__law_any_logs od_carry_steps an_carry_steps od__law_world an__law_world od__law_start an__law_start od__law_action_stays an__law_action_stays od__law_links_agree an__law_links_agree od_carry_distances an_carry_distances od_carried_to an_carried_to od__law_carried_to_holders an__law_carried_to_holders od_law an_law td__is_log : Option Addr} {sl__check_count sl__is_below sl_Net_links sl_Net_has_link sl_Cluster___init__ sl_Cluster_home_of sl_check_replica sl_check_entry sl_copy_logs sl__is_log sl_prefix_fault sl_places_of sl_blocker_of sl__law_box sl__law_take sl__law_all_links sl__law_copy sl__law_first sl__law_place sl__law_empty sl__law_whole sl__law_truth sl__law_carrying sl__law_hops sl_Net___init__ sl_check_logs sl__link_carries sl_entry_roots sl__law_shuffled sl__law_allowed sl__law_after sl__law_most sl__law_same_list sl__law_exchanged sl__law_distances sl_holders_of sl_ahead_of sl_carry_links sl__check_question sl_carries sl__law_net_links sl__law_run sl__law_any_logs sl_carry_steps sl__law_world sl__law_start sl__law_action_stays sl__law_links_agree sl_carry_distances sl_carried_to sl__law_carried_to_holders sl_law ts__is_log : Array (Option Value)} {oc__check_count kV__check_count dc__check_count pm__check_count cd__check_count ct__check_count oc__is_below kV__is_below dc__is_below pm__is_below cd__is_below ct__is_below oc_Net_links kV_Net_links dc_Net_links pm_Net_links cd_Net_links ct_Net_links oc_Net_has_link kV_Net_has_link dc_Net_has_link pm_Net_has_link cd_Net_has_link ct_Net_has_link oc_Cluster___init__ kV_Cluster___init__ dc_Cluster___init__ pm_Cluster___init__ cd_Cluster___init__ ct_Cluster___init__ oc_Cluster_home_of kV_Cluster_home_of dc_Cluster_home_of pm_Cluster_home_of cd_Cluster_home_of ct_Cluster_home_of oc_check_replica kV_check_replica dc_check_replica pm_check_replica cd_check_replica ct_check_replica oc_check_entry kV_check_entry dc_check_entry pm_check_entry cd_check_entry ct_check_entry oc_copy_logs kV_copy_logs dc_copy_logs pm_copy_logs cd_copy_logs ct_copy_logs oc__is_log kV__is_log dc__is_log pm__is_log ct__is_log oc_prefix_fault kV_prefix_fault dc_prefix_fault pm_prefix_fault cd_prefix_fault ct_prefix_fault oc_places_of kV_places_of dc_places_of pm_places_of cd_places_of ct_places_of oc_blocker_of kV_blocker_of dc_blocker_of pm_blocker_of cd_blocker_of ct_blocker_of oc__law_box kV__law_box dc__law_box pm__law_box cd__law_box ct__law_box oc__law_take kV__law_take dc__law_take pm__law_take cd__law_take ct__law_take oc__law_all_links kV__law_all_links dc__law_all_links pm__law_all_links cd__law_all_links ct__law_all_links oc__law_copy kV__law_copy dc__law_copy pm__law_copy cd__law_copy ct__law_copy oc__law_first kV__law_first dc__law_first pm__law_first cd__law_first ct__law_first oc__law_place kV__law_place dc__law_place pm__law_place cd__law_place ct__law_place oc__law_empty kV__law_empty dc__law_empty pm__law_empty cd__law_empty ct__law_empty oc__law_whole kV__law_whole dc__law_whole pm__law_whole cd__law_whole ct__law_whole oc__law_truth kV__law_truth dc__law_truth pm__law_truth cd__law_truth ct__law_truth oc__law_carrying kV__law_carrying dc__law_carrying pm__law_carrying cd__law_carrying ct__law_carrying oc__law_hops kV__law_hops dc__law_hops pm__law_hops cd__law_hops ct__law_hops oc_Net___init__ kV_Net___init__ dc_Net___init__ pm_Net___init__ cd_Net___init__ ct_Net___init__ oc_check_logs kV_check_logs dc_check_logs pm_check_logs cd_check_logs ct_check_logs oc__link_carries kV__link_carries dc__link_carries pm__link_carries cd__link_carries ct__link_carries oc_entry_roots kV_entry_roots dc_entry_roots pm_entry_roots cd_entry_roots ct_entry_roots oc__law_shuffled kV__law_shuffled dc__law_shuffled pm__law_shuffled cd__law_shuffled ct__law_shuffled oc__law_allowed kV__law_allowed dc__law_allowed pm__law_allowed cd__law_allowed ct__law_allowed oc__law_after kV__law_after dc__law_after pm__law_after cd__law_after ct__law_after oc__law_most kV__law_most dc__law_most pm__law_most cd__law_most ct__law_most oc__law_same_list kV__law_same_list dc__law_same_list pm__law_same_list cd__law_same_list ct__law_same_list oc__law_exchanged kV__law_exchanged dc__law_exchanged pm__law_exchanged cd__law_exchanged ct__law_exchanged oc__law_distances kV__law_distances dc__law_distances pm__law_distances cd__law_distances ct__law_distances oc_holders_of kV_holders_of dc_holders_of pm_holders_of cd_holders_of ct_holders_of oc_ahead_of kV_ahead_of dc_ahead_of pm_ahead_of cd_ahead_of ct_ahead_of oc_carry_links kV_carry_links dc_carry_links pm_carry_links cd_carry_links ct_carry_links oc__check_question kV__check_question dc__check_question pm__check_question cd__check_question ct__check_question oc_carries kV_carries dc_carries pm_carries cd_carries ct_carries oc__law_net_links kV__law_net_links dc__law_net_links pm__law_net_links cd__law_net_links ct__law_net_links oc__law_run kV__law_run dc__law_run pm__law_run cd__law_run ct__law_run oc__law_any_logs kV__law_any_logs dc__law_any_logs pm__law_any_logs cd__law_any_logs ct__law_any_logs oc_carry_steps kV_carry_steps dc_carry_steps pm_carry_steps cd_carry_steps ct_carry_steps oc__law_world kV__law_world dc__law_world pm__law_world cd__law_world ct__law_world oc__law_start kV__law_start dc__law_start pm__law_start cd__law_start ct__law_start oc__law_action_stays kV__law_action_stays dc__law_action_stays pm__law_action_stays cd__law_action_stays ct__law_action_stays oc__law_links_agree kV__law_links_agree dc__law_links_agree pm__law_links_agree cd__law_links_agree ct__law_links_agree oc_carry_distances kV_carry_distances dc_carry_distances pm_carry_distances cd_carry_distances ct_carry_distances oc_carried_to kV_carried_to dc_carried_to pm_carried_to cd_carried_to ct_carried_to oc__law_carried_to_holders kV__law_carried_to_holders dc__law_carried_to_holders pm__law_carried_to_holders cd__law_carried_to_holders ct__law_carried_to_holders oc_law kV_law dc_law pm_law cd_law ct_law te__is_log : Value} {tc_Cluster_MOST tc_Net_MOST : Tok} {tv__is_log : Array Value} {rs_Net_links : List Value}
    (aC_Cluster : PySem.W.nsIn K mainGlobals "Cluster" = some (some (.ref C_Cluster)))
    (pg_Cluster : PySem.W.plainGet K C_Cluster Str.empty = true)
    (hd_Cluster : PySem.W.hasDictIn K C_Cluster = true)
    (po_Cluster : PySem.W.plainOver K C_Cluster = true)
    (sa_Cluster : PySem.W.findIn K (.ref C_Cluster) "__setattr__" = some (some (.builtin "object.__setattr__")))
    (mk_Cluster : PySem.W.makesIn K C_Cluster = true)
    (kc_Cluster : PySem.W.keepIn K (.ref C_Cluster) = true)
    (aC_Net : PySem.W.nsIn K mainGlobals "Net" = some (some (.ref C_Net)))
    (pg_Net : PySem.W.plainGet K C_Net Str.empty = true)
    (hd_Net : PySem.W.hasDictIn K C_Net = true)
    (po_Net : PySem.W.plainOver K C_Net = true)
    (sa_Net : PySem.W.findIn K (.ref C_Net) "__setattr__" = some (some (.builtin "object.__setattr__")))
    (mk_Net : PySem.W.makesIn K C_Net = true)
    (kc_Net : PySem.W.keepIn K (.ref C_Net) = true)
    (nf_Cluster__homes : PySem.W.findIn K (.ref C_Cluster) "_homes" = some none)
    (nf_Cluster_net : PySem.W.findIn K (.ref C_Cluster) "net" = some none)
    (nf_Cluster_size : PySem.W.findIn K (.ref C_Cluster) "size" = some none)
    (nf_Net__linked : PySem.W.findIn K (.ref C_Net) "_linked" = some none)
    (nf_Net__links : PySem.W.findIn K (.ref C_Net) "_links" = some none)
    (nf_Net_count : PySem.W.findIn K (.ref C_Net) "count" = some none)
    (rd_Cluster : PySem.W.readsIn K C_Cluster (.type "type") = true)
    (ga_Cluster : PySem.W.specialIn K (.ref C_Cluster) "__getattribute__" = some (some (.builtin "type.__getattribute__")))
    (rd_Net : PySem.W.readsIn K C_Net (.type "type") = true)
    (ga_Net : PySem.W.specialIn K (.ref C_Net) "__getattribute__" = some (some (.builtin "type.__getattribute__")))
    (vc_Cluster_MOST : PySem.W.findCls K (.ref C_Cluster) (.type "type") "MOST" = some (.val (.int 60 tc_Cluster_MOST)))
    (vc_Net_MOST : PySem.W.findCls K (.ref C_Net) (.type "type") "MOST" = some (.val (.int 24 tc_Net_MOST)))
    (a__check_count : PySem.W.nsIn K mainGlobals "_check_count" = some (some (.ref f__check_count)))
    (l__check_count : K.lookup f__check_count = some ⟨oc__check_count, od__check_count, .func (PySem.W.fnOf "_check_count" "_check_count" (defArgs s__check_count) (defBody s__check_count) (defScope s__check_count) .none kV__check_count dc__check_count pm__check_count an__check_count cd__check_count ct__check_count), sl__check_count⟩)
    (c__check_count : PySem.W.codeIn K cd__check_count "_check_count" = true)
    (k__check_count : PySem.W.keepIn K (.ref f__check_count) = true)
    (a__is_below : PySem.W.nsIn K mainGlobals "_is_below" = some (some (.ref f__is_below)))
    (l__is_below : K.lookup f__is_below = some ⟨oc__is_below, od__is_below, .func (PySem.W.fnOf "_is_below" "_is_below" (defArgs s__is_below) (defBody s__is_below) (defScope s__is_below) .none kV__is_below dc__is_below pm__is_below an__is_below cd__is_below ct__is_below), sl__is_below⟩)
    (c__is_below : PySem.W.codeIn K cd__is_below "_is_below" = true)
    (k__is_below : PySem.W.keepIn K (.ref f__is_below) = true)
    (a_Net_links : PySem.W.findIn K (.ref C_Net) "links" = some (some (.ref p_Net_links)))
    (pt_Net_links : PySem.W.specialIn K (.ref p_Net_links) "__get__" = some (some (.builtin "property.__get__")))
    (pk_Net_links : PySem.W.takesIn K (.ref p_Net_links) = some true)
    (pr_Net_links : PySem.W.recIn K p_Net_links "property" = some (.ref f_Net_links :: rs_Net_links))
    (l_Net_links : K.lookup f_Net_links = some ⟨oc_Net_links, od_Net_links, .func (PySem.W.fnOf "links" "Net.links" (defArgs s_Net_links) (defBody s_Net_links) (defScope s_Net_links) .none kV_Net_links dc_Net_links pm_Net_links an_Net_links cd_Net_links ct_Net_links), sl_Net_links⟩)
    (c_Net_links : PySem.W.codeIn K cd_Net_links "Net.links" = true)
    (k_Net_links : PySem.W.keepIn K (.ref f_Net_links) = true)
    (a_Net_has_link : PySem.W.findIn K (.ref C_Net) "has_link" = some (some (.ref f_Net_has_link)))
    (i_Net_has_link : PySem.W.isFn K (.ref f_Net_has_link) = true)
    (l_Net_has_link : K.lookup f_Net_has_link = some ⟨oc_Net_has_link, od_Net_has_link, .func (PySem.W.fnOf "has_link" "Net.has_link" (defArgs s_Net_has_link) (defBody s_Net_has_link) (defScope s_Net_has_link) .none kV_Net_has_link dc_Net_has_link pm_Net_has_link an_Net_has_link cd_Net_has_link ct_Net_has_link), sl_Net_has_link⟩)
    (c_Net_has_link : PySem.W.codeIn K cd_Net_has_link "Net.has_link" = true)
    (k_Net_has_link : PySem.W.keepIn K (.ref f_Net_has_link) = true)
    (a_Cluster___init__ : PySem.W.findIn K (.ref C_Cluster) "__init__" = some (some (.ref f_Cluster___init__)))
    (i_Cluster___init__ : PySem.W.isFn K (.ref f_Cluster___init__) = true)
    (l_Cluster___init__ : K.lookup f_Cluster___init__ = some ⟨oc_Cluster___init__, od_Cluster___init__, .func (PySem.W.fnOf "__init__" "Cluster.__init__" (defArgs s_Cluster___init__) (defBody s_Cluster___init__) (defScope s_Cluster___init__) .none kV_Cluster___init__ dc_Cluster___init__ pm_Cluster___init__ an_Cluster___init__ cd_Cluster___init__ ct_Cluster___init__), sl_Cluster___init__⟩)
    (c_Cluster___init__ : PySem.W.codeIn K cd_Cluster___init__ "Cluster.__init__" = true)
    (k_Cluster___init__ : PySem.W.keepIn K (.ref f_Cluster___init__) = true)
    (a_Cluster_home_of : PySem.W.findIn K (.ref C_Cluster) "home_of" = some (some (.ref f_Cluster_home_of)))
    (i_Cluster_home_of : PySem.W.isFn K (.ref f_Cluster_home_of) = true)
    (l_Cluster_home_of : K.lookup f_Cluster_home_of = some ⟨oc_Cluster_home_of, od_Cluster_home_of, .func (PySem.W.fnOf "home_of" "Cluster.home_of" (defArgs s_Cluster_home_of) (defBody s_Cluster_home_of) (defScope s_Cluster_home_of) .none kV_Cluster_home_of dc_Cluster_home_of pm_Cluster_home_of an_Cluster_home_of cd_Cluster_home_of ct_Cluster_home_of), sl_Cluster_home_of⟩)
    (c_Cluster_home_of : PySem.W.codeIn K cd_Cluster_home_of "Cluster.home_of" = true)
    (k_Cluster_home_of : PySem.W.keepIn K (.ref f_Cluster_home_of) = true)
    (a_check_replica : PySem.W.nsIn K mainGlobals "check_replica" = some (some (.ref f_check_replica)))
    (l_check_replica : K.lookup f_check_replica = some ⟨oc_check_replica, od_check_replica, .func (PySem.W.fnOf "check_replica" "check_replica" (defArgs s_check_replica) (defBody s_check_replica) (defScope s_check_replica) .none kV_check_replica dc_check_replica pm_check_replica an_check_replica cd_check_replica ct_check_replica), sl_check_replica⟩)
    (c_check_replica : PySem.W.codeIn K cd_check_replica "check_replica" = true)
    (k_check_replica : PySem.W.keepIn K (.ref f_check_replica) = true)
    (a_check_entry : PySem.W.nsIn K mainGlobals "check_entry" = some (some (.ref f_check_entry)))
    (l_check_entry : K.lookup f_check_entry = some ⟨oc_check_entry, od_check_entry, .func (PySem.W.fnOf "check_entry" "check_entry" (defArgs s_check_entry) (defBody s_check_entry) (defScope s_check_entry) .none kV_check_entry dc_check_entry pm_check_entry an_check_entry cd_check_entry ct_check_entry), sl_check_entry⟩)
    (c_check_entry : PySem.W.codeIn K cd_check_entry "check_entry" = true)
    (k_check_entry : PySem.W.keepIn K (.ref f_check_entry) = true)
    (a_copy_logs : PySem.W.nsIn K mainGlobals "copy_logs" = some (some (.ref f_copy_logs)))
    (l_copy_logs : K.lookup f_copy_logs = some ⟨oc_copy_logs, od_copy_logs, .func (PySem.W.fnOf "copy_logs" "copy_logs" (defArgs s_copy_logs) (defBody s_copy_logs) (defScope s_copy_logs) .none kV_copy_logs dc_copy_logs pm_copy_logs an_copy_logs cd_copy_logs ct_copy_logs), sl_copy_logs⟩)
    (c_copy_logs : PySem.W.codeIn K cd_copy_logs "copy_logs" = true)
    (k_copy_logs : PySem.W.keepIn K (.ref f_copy_logs) = true)
    (a__is_log : PySem.W.nsIn K mainGlobals "_is_log" = some (some (.ref f__is_log)))
    (l__is_log : K.lookup f__is_log = some ⟨oc__is_log, od__is_log, .func (PySem.W.fnOf "_is_log" "_is_log" (defArgs s__is_log) (defBody s__is_log) (defScope s__is_log) .none kV__is_log dc__is_log pm__is_log an__is_log (.ref cc__is_log) ct__is_log), sl__is_log⟩)
    (c__is_log : PySem.W.codeIn K (.ref cc__is_log) "_is_log" = true)
    (k__is_log : PySem.W.keepIn K (.ref f__is_log) = true)
    (tl__is_log : K.lookup cc__is_log = some ⟨te__is_log, td__is_log, .fields tv__is_log, ts__is_log⟩)
    (tp__is_log : tv__is_log[11]? = some (.ref P__is_log))
    (a_prefix_fault : PySem.W.nsIn K mainGlobals "prefix_fault" = some (some (.ref f_prefix_fault)))
    (l_prefix_fault : K.lookup f_prefix_fault = some ⟨oc_prefix_fault, od_prefix_fault, .func (PySem.W.fnOf "prefix_fault" "prefix_fault" (defArgs s_prefix_fault) (defBody s_prefix_fault) (defScope s_prefix_fault) .none kV_prefix_fault dc_prefix_fault pm_prefix_fault an_prefix_fault cd_prefix_fault ct_prefix_fault), sl_prefix_fault⟩)
    (c_prefix_fault : PySem.W.codeIn K cd_prefix_fault "prefix_fault" = true)
    (k_prefix_fault : PySem.W.keepIn K (.ref f_prefix_fault) = true)
    (a_places_of : PySem.W.nsIn K mainGlobals "places_of" = some (some (.ref f_places_of)))
    (l_places_of : K.lookup f_places_of = some ⟨oc_places_of, od_places_of, .func (PySem.W.fnOf "places_of" "places_of" (defArgs s_places_of) (defBody s_places_of) (defScope s_places_of) .none kV_places_of dc_places_of pm_places_of an_places_of cd_places_of ct_places_of), sl_places_of⟩)
    (c_places_of : PySem.W.codeIn K cd_places_of "places_of" = true)
    (k_places_of : PySem.W.keepIn K (.ref f_places_of) = true)
    (a_blocker_of : PySem.W.nsIn K mainGlobals "blocker_of" = some (some (.ref f_blocker_of)))
    (l_blocker_of : K.lookup f_blocker_of = some ⟨oc_blocker_of, od_blocker_of, .func (PySem.W.fnOf "blocker_of" "blocker_of" (defArgs s_blocker_of) (defBody s_blocker_of) (defScope s_blocker_of) .none kV_blocker_of dc_blocker_of pm_blocker_of an_blocker_of cd_blocker_of ct_blocker_of), sl_blocker_of⟩)
    (c_blocker_of : PySem.W.codeIn K cd_blocker_of "blocker_of" = true)
    (k_blocker_of : PySem.W.keepIn K (.ref f_blocker_of) = true)
    (a__law_box : PySem.W.nsIn K mainGlobals "_law_box" = some (some (.ref f__law_box)))
    (l__law_box : K.lookup f__law_box = some ⟨oc__law_box, od__law_box, .func (PySem.W.fnOf "_law_box" "_law_box" (defArgs s__law_box) (defBody s__law_box) (defScope s__law_box) .none kV__law_box dc__law_box pm__law_box an__law_box cd__law_box ct__law_box), sl__law_box⟩)
    (c__law_box : PySem.W.codeIn K cd__law_box "_law_box" = true)
    (k__law_box : PySem.W.keepIn K (.ref f__law_box) = true)
    (a__law_take : PySem.W.nsIn K mainGlobals "_law_take" = some (some (.ref f__law_take)))
    (l__law_take : K.lookup f__law_take = some ⟨oc__law_take, od__law_take, .func (PySem.W.fnOf "_law_take" "_law_take" (defArgs s__law_take) (defBody s__law_take) (defScope s__law_take) .none kV__law_take dc__law_take pm__law_take an__law_take cd__law_take ct__law_take), sl__law_take⟩)
    (c__law_take : PySem.W.codeIn K cd__law_take "_law_take" = true)
    (k__law_take : PySem.W.keepIn K (.ref f__law_take) = true)
    (a__law_all_links : PySem.W.nsIn K mainGlobals "_law_all_links" = some (some (.ref f__law_all_links)))
    (l__law_all_links : K.lookup f__law_all_links = some ⟨oc__law_all_links, od__law_all_links, .func (PySem.W.fnOf "_law_all_links" "_law_all_links" (defArgs s__law_all_links) (defBody s__law_all_links) (defScope s__law_all_links) .none kV__law_all_links dc__law_all_links pm__law_all_links an__law_all_links cd__law_all_links ct__law_all_links), sl__law_all_links⟩)
    (c__law_all_links : PySem.W.codeIn K cd__law_all_links "_law_all_links" = true)
    (k__law_all_links : PySem.W.keepIn K (.ref f__law_all_links) = true)
    (a__law_copy : PySem.W.nsIn K mainGlobals "_law_copy" = some (some (.ref f__law_copy)))
    (l__law_copy : K.lookup f__law_copy = some ⟨oc__law_copy, od__law_copy, .func (PySem.W.fnOf "_law_copy" "_law_copy" (defArgs s__law_copy) (defBody s__law_copy) (defScope s__law_copy) .none kV__law_copy dc__law_copy pm__law_copy an__law_copy cd__law_copy ct__law_copy), sl__law_copy⟩)
    (c__law_copy : PySem.W.codeIn K cd__law_copy "_law_copy" = true)
    (k__law_copy : PySem.W.keepIn K (.ref f__law_copy) = true)
    (a__law_first : PySem.W.nsIn K mainGlobals "_law_first" = some (some (.ref f__law_first)))
    (l__law_first : K.lookup f__law_first = some ⟨oc__law_first, od__law_first, .func (PySem.W.fnOf "_law_first" "_law_first" (defArgs s__law_first) (defBody s__law_first) (defScope s__law_first) .none kV__law_first dc__law_first pm__law_first an__law_first cd__law_first ct__law_first), sl__law_first⟩)
    (c__law_first : PySem.W.codeIn K cd__law_first "_law_first" = true)
    (k__law_first : PySem.W.keepIn K (.ref f__law_first) = true)
    (a__law_place : PySem.W.nsIn K mainGlobals "_law_place" = some (some (.ref f__law_place)))
    (l__law_place : K.lookup f__law_place = some ⟨oc__law_place, od__law_place, .func (PySem.W.fnOf "_law_place" "_law_place" (defArgs s__law_place) (defBody s__law_place) (defScope s__law_place) .none kV__law_place dc__law_place pm__law_place an__law_place cd__law_place ct__law_place), sl__law_place⟩)
    (c__law_place : PySem.W.codeIn K cd__law_place "_law_place" = true)
    (k__law_place : PySem.W.keepIn K (.ref f__law_place) = true)
    (a__law_empty : PySem.W.nsIn K mainGlobals "_law_empty" = some (some (.ref f__law_empty)))
    (l__law_empty : K.lookup f__law_empty = some ⟨oc__law_empty, od__law_empty, .func (PySem.W.fnOf "_law_empty" "_law_empty" (defArgs s__law_empty) (defBody s__law_empty) (defScope s__law_empty) .none kV__law_empty dc__law_empty pm__law_empty an__law_empty cd__law_empty ct__law_empty), sl__law_empty⟩)
    (c__law_empty : PySem.W.codeIn K cd__law_empty "_law_empty" = true)
    (k__law_empty : PySem.W.keepIn K (.ref f__law_empty) = true)
    (a__law_whole : PySem.W.nsIn K mainGlobals "_law_whole" = some (some (.ref f__law_whole)))
    (l__law_whole : K.lookup f__law_whole = some ⟨oc__law_whole, od__law_whole, .func (PySem.W.fnOf "_law_whole" "_law_whole" (defArgs s__law_whole) (defBody s__law_whole) (defScope s__law_whole) .none kV__law_whole dc__law_whole pm__law_whole an__law_whole cd__law_whole ct__law_whole), sl__law_whole⟩)
    (c__law_whole : PySem.W.codeIn K cd__law_whole "_law_whole" = true)
    (k__law_whole : PySem.W.keepIn K (.ref f__law_whole) = true)
    (a__law_truth : PySem.W.nsIn K mainGlobals "_law_truth" = some (some (.ref f__law_truth)))
    (l__law_truth : K.lookup f__law_truth = some ⟨oc__law_truth, od__law_truth, .func (PySem.W.fnOf "_law_truth" "_law_truth" (defArgs s__law_truth) (defBody s__law_truth) (defScope s__law_truth) .none kV__law_truth dc__law_truth pm__law_truth an__law_truth cd__law_truth ct__law_truth), sl__law_truth⟩)
    (c__law_truth : PySem.W.codeIn K cd__law_truth "_law_truth" = true)
    (k__law_truth : PySem.W.keepIn K (.ref f__law_truth) = true)
    (a__law_carrying : PySem.W.nsIn K mainGlobals "_law_carrying" = some (some (.ref f__law_carrying)))
    (l__law_carrying : K.lookup f__law_carrying = some ⟨oc__law_carrying, od__law_carrying, .func (PySem.W.fnOf "_law_carrying" "_law_carrying" (defArgs s__law_carrying) (defBody s__law_carrying) (defScope s__law_carrying) .none kV__law_carrying dc__law_carrying pm__law_carrying an__law_carrying cd__law_carrying ct__law_carrying), sl__law_carrying⟩)
    (c__law_carrying : PySem.W.codeIn K cd__law_carrying "_law_carrying" = true)
    (k__law_carrying : PySem.W.keepIn K (.ref f__law_carrying) = true)
    (a__law_hops : PySem.W.nsIn K mainGlobals "_law_hops" = some (some (.ref f__law_hops)))
    (l__law_hops : K.lookup f__law_hops = some ⟨oc__law_hops, od__law_hops, .func (PySem.W.fnOf "_law_hops" "_law_hops" (defArgs s__law_hops) (defBody s__law_hops) (defScope s__law_hops) .none kV__law_hops dc__law_hops pm__law_hops an__law_hops cd__law_hops ct__law_hops), sl__law_hops⟩)
    (c__law_hops : PySem.W.codeIn K cd__law_hops "_law_hops" = true)
    (k__law_hops : PySem.W.keepIn K (.ref f__law_hops) = true)
    (a_Net___init__ : PySem.W.findIn K (.ref C_Net) "__init__" = some (some (.ref f_Net___init__)))
    (i_Net___init__ : PySem.W.isFn K (.ref f_Net___init__) = true)
    (l_Net___init__ : K.lookup f_Net___init__ = some ⟨oc_Net___init__, od_Net___init__, .func (PySem.W.fnOf "__init__" "Net.__init__" (defArgs s_Net___init__) (defBody s_Net___init__) (defScope s_Net___init__) .none kV_Net___init__ dc_Net___init__ pm_Net___init__ an_Net___init__ cd_Net___init__ ct_Net___init__), sl_Net___init__⟩)
    (c_Net___init__ : PySem.W.codeIn K cd_Net___init__ "Net.__init__" = true)
    (k_Net___init__ : PySem.W.keepIn K (.ref f_Net___init__) = true)
    (a_check_logs : PySem.W.nsIn K mainGlobals "check_logs" = some (some (.ref f_check_logs)))
    (l_check_logs : K.lookup f_check_logs = some ⟨oc_check_logs, od_check_logs, .func (PySem.W.fnOf "check_logs" "check_logs" (defArgs s_check_logs) (defBody s_check_logs) (defScope s_check_logs) .none kV_check_logs dc_check_logs pm_check_logs an_check_logs cd_check_logs ct_check_logs), sl_check_logs⟩)
    (c_check_logs : PySem.W.codeIn K cd_check_logs "check_logs" = true)
    (k_check_logs : PySem.W.keepIn K (.ref f_check_logs) = true)
    (a__link_carries : PySem.W.nsIn K mainGlobals "_link_carries" = some (some (.ref f__link_carries)))
    (l__link_carries : K.lookup f__link_carries = some ⟨oc__link_carries, od__link_carries, .func (PySem.W.fnOf "_link_carries" "_link_carries" (defArgs s__link_carries) (defBody s__link_carries) (defScope s__link_carries) .none kV__link_carries dc__link_carries pm__link_carries an__link_carries cd__link_carries ct__link_carries), sl__link_carries⟩)
    (c__link_carries : PySem.W.codeIn K cd__link_carries "_link_carries" = true)
    (k__link_carries : PySem.W.keepIn K (.ref f__link_carries) = true)
    (a_entry_roots : PySem.W.nsIn K mainGlobals "entry_roots" = some (some (.ref f_entry_roots)))
    (l_entry_roots : K.lookup f_entry_roots = some ⟨oc_entry_roots, od_entry_roots, .func (PySem.W.fnOf "entry_roots" "entry_roots" (defArgs s_entry_roots) (defBody s_entry_roots) (defScope s_entry_roots) .none kV_entry_roots dc_entry_roots pm_entry_roots an_entry_roots cd_entry_roots ct_entry_roots), sl_entry_roots⟩)
    (c_entry_roots : PySem.W.codeIn K cd_entry_roots "entry_roots" = true)
    (k_entry_roots : PySem.W.keepIn K (.ref f_entry_roots) = true)
    (a__law_shuffled : PySem.W.nsIn K mainGlobals "_law_shuffled" = some (some (.ref f__law_shuffled)))
    (l__law_shuffled : K.lookup f__law_shuffled = some ⟨oc__law_shuffled, od__law_shuffled, .func (PySem.W.fnOf "_law_shuffled" "_law_shuffled" (defArgs s__law_shuffled) (defBody s__law_shuffled) (defScope s__law_shuffled) .none kV__law_shuffled dc__law_shuffled pm__law_shuffled an__law_shuffled cd__law_shuffled ct__law_shuffled), sl__law_shuffled⟩)
    (c__law_shuffled : PySem.W.codeIn K cd__law_shuffled "_law_shuffled" = true)
    (k__law_shuffled : PySem.W.keepIn K (.ref f__law_shuffled) = true)
    (a__law_allowed : PySem.W.nsIn K mainGlobals "_law_allowed" = some (some (.ref f__law_allowed)))
    (l__law_allowed : K.lookup f__law_allowed = some ⟨oc__law_allowed, od__law_allowed, .func (PySem.W.fnOf "_law_allowed" "_law_allowed" (defArgs s__law_allowed) (defBody s__law_allowed) (defScope s__law_allowed) .none kV__law_allowed dc__law_allowed pm__law_allowed an__law_allowed cd__law_allowed ct__law_allowed), sl__law_allowed⟩)
    (c__law_allowed : PySem.W.codeIn K cd__law_allowed "_law_allowed" = true)
    (k__law_allowed : PySem.W.keepIn K (.ref f__law_allowed) = true)
    (a__law_after : PySem.W.nsIn K mainGlobals "_law_after" = some (some (.ref f__law_after)))
    (l__law_after : K.lookup f__law_after = some ⟨oc__law_after, od__law_after, .func (PySem.W.fnOf "_law_after" "_law_after" (defArgs s__law_after) (defBody s__law_after) (defScope s__law_after) .none kV__law_after dc__law_after pm__law_after an__law_after cd__law_after ct__law_after), sl__law_after⟩)
    (c__law_after : PySem.W.codeIn K cd__law_after "_law_after" = true)
    (k__law_after : PySem.W.keepIn K (.ref f__law_after) = true)
    (a__law_most : PySem.W.nsIn K mainGlobals "_law_most" = some (some (.ref f__law_most)))
    (l__law_most : K.lookup f__law_most = some ⟨oc__law_most, od__law_most, .func (PySem.W.fnOf "_law_most" "_law_most" (defArgs s__law_most) (defBody s__law_most) (defScope s__law_most) .none kV__law_most dc__law_most pm__law_most an__law_most cd__law_most ct__law_most), sl__law_most⟩)
    (c__law_most : PySem.W.codeIn K cd__law_most "_law_most" = true)
    (k__law_most : PySem.W.keepIn K (.ref f__law_most) = true)
    (a__law_same_list : PySem.W.nsIn K mainGlobals "_law_same_list" = some (some (.ref f__law_same_list)))
    (l__law_same_list : K.lookup f__law_same_list = some ⟨oc__law_same_list, od__law_same_list, .func (PySem.W.fnOf "_law_same_list" "_law_same_list" (defArgs s__law_same_list) (defBody s__law_same_list) (defScope s__law_same_list) .none kV__law_same_list dc__law_same_list pm__law_same_list an__law_same_list cd__law_same_list ct__law_same_list), sl__law_same_list⟩)
    (c__law_same_list : PySem.W.codeIn K cd__law_same_list "_law_same_list" = true)
    (k__law_same_list : PySem.W.keepIn K (.ref f__law_same_list) = true)
    (a__law_exchanged : PySem.W.nsIn K mainGlobals "_law_exchanged" = some (some (.ref f__law_exchanged)))
    (l__law_exchanged : K.lookup f__law_exchanged = some ⟨oc__law_exchanged, od__law_exchanged, .func (PySem.W.fnOf "_law_exchanged" "_law_exchanged" (defArgs s__law_exchanged) (defBody s__law_exchanged) (defScope s__law_exchanged) .none kV__law_exchanged dc__law_exchanged pm__law_exchanged an__law_exchanged cd__law_exchanged ct__law_exchanged), sl__law_exchanged⟩)
    (c__law_exchanged : PySem.W.codeIn K cd__law_exchanged "_law_exchanged" = true)
    (k__law_exchanged : PySem.W.keepIn K (.ref f__law_exchanged) = true)
    (a__law_distances : PySem.W.nsIn K mainGlobals "_law_distances" = some (some (.ref f__law_distances)))
    (l__law_distances : K.lookup f__law_distances = some ⟨oc__law_distances, od__law_distances, .func (PySem.W.fnOf "_law_distances" "_law_distances" (defArgs s__law_distances) (defBody s__law_distances) (defScope s__law_distances) .none kV__law_distances dc__law_distances pm__law_distances an__law_distances cd__law_distances ct__law_distances), sl__law_distances⟩)
    (c__law_distances : PySem.W.codeIn K cd__law_distances "_law_distances" = true)
    (k__law_distances : PySem.W.keepIn K (.ref f__law_distances) = true)
    (a_holders_of : PySem.W.nsIn K mainGlobals "holders_of" = some (some (.ref f_holders_of)))
    (l_holders_of : K.lookup f_holders_of = some ⟨oc_holders_of, od_holders_of, .func (PySem.W.fnOf "holders_of" "holders_of" (defArgs s_holders_of) (defBody s_holders_of) (defScope s_holders_of) .none kV_holders_of dc_holders_of pm_holders_of an_holders_of cd_holders_of ct_holders_of), sl_holders_of⟩)
    (c_holders_of : PySem.W.codeIn K cd_holders_of "holders_of" = true)
    (k_holders_of : PySem.W.keepIn K (.ref f_holders_of) = true)
    (a_ahead_of : PySem.W.nsIn K mainGlobals "ahead_of" = some (some (.ref f_ahead_of)))
    (l_ahead_of : K.lookup f_ahead_of = some ⟨oc_ahead_of, od_ahead_of, .func (PySem.W.fnOf "ahead_of" "ahead_of" (defArgs s_ahead_of) (defBody s_ahead_of) (defScope s_ahead_of) .none kV_ahead_of dc_ahead_of pm_ahead_of an_ahead_of cd_ahead_of ct_ahead_of), sl_ahead_of⟩)
    (c_ahead_of : PySem.W.codeIn K cd_ahead_of "ahead_of" = true)
    (k_ahead_of : PySem.W.keepIn K (.ref f_ahead_of) = true)
    (a_carry_links : PySem.W.nsIn K mainGlobals "carry_links" = some (some (.ref f_carry_links)))
    (l_carry_links : K.lookup f_carry_links = some ⟨oc_carry_links, od_carry_links, .func (PySem.W.fnOf "carry_links" "carry_links" (defArgs s_carry_links) (defBody s_carry_links) (defScope s_carry_links) .none kV_carry_links dc_carry_links pm_carry_links an_carry_links cd_carry_links ct_carry_links), sl_carry_links⟩)
    (c_carry_links : PySem.W.codeIn K cd_carry_links "carry_links" = true)
    (k_carry_links : PySem.W.keepIn K (.ref f_carry_links) = true)
    (a__check_question : PySem.W.nsIn K mainGlobals "_check_question" = some (some (.ref f__check_question)))
    (l__check_question : K.lookup f__check_question = some ⟨oc__check_question, od__check_question, .func (PySem.W.fnOf "_check_question" "_check_question" (defArgs s__check_question) (defBody s__check_question) (defScope s__check_question) .none kV__check_question dc__check_question pm__check_question an__check_question cd__check_question ct__check_question), sl__check_question⟩)
    (c__check_question : PySem.W.codeIn K cd__check_question "_check_question" = true)
    (k__check_question : PySem.W.keepIn K (.ref f__check_question) = true)
    (a_carries : PySem.W.nsIn K mainGlobals "carries" = some (some (.ref f_carries)))
    (l_carries : K.lookup f_carries = some ⟨oc_carries, od_carries, .func (PySem.W.fnOf "carries" "carries" (defArgs s_carries) (defBody s_carries) (defScope s_carries) .none kV_carries dc_carries pm_carries an_carries cd_carries ct_carries), sl_carries⟩)
    (c_carries : PySem.W.codeIn K cd_carries "carries" = true)
    (k_carries : PySem.W.keepIn K (.ref f_carries) = true)
    (a__law_net_links : PySem.W.nsIn K mainGlobals "_law_net_links" = some (some (.ref f__law_net_links)))
    (l__law_net_links : K.lookup f__law_net_links = some ⟨oc__law_net_links, od__law_net_links, .func (PySem.W.fnOf "_law_net_links" "_law_net_links" (defArgs s__law_net_links) (defBody s__law_net_links) (defScope s__law_net_links) .none kV__law_net_links dc__law_net_links pm__law_net_links an__law_net_links cd__law_net_links ct__law_net_links), sl__law_net_links⟩)
    (c__law_net_links : PySem.W.codeIn K cd__law_net_links "_law_net_links" = true)
    (k__law_net_links : PySem.W.keepIn K (.ref f__law_net_links) = true)
    (a__law_run : PySem.W.nsIn K mainGlobals "_law_run" = some (some (.ref f__law_run)))
    (l__law_run : K.lookup f__law_run = some ⟨oc__law_run, od__law_run, .func (PySem.W.fnOf "_law_run" "_law_run" (defArgs s__law_run) (defBody s__law_run) (defScope s__law_run) .none kV__law_run dc__law_run pm__law_run an__law_run cd__law_run ct__law_run), sl__law_run⟩)
    (c__law_run : PySem.W.codeIn K cd__law_run "_law_run" = true)
    (k__law_run : PySem.W.keepIn K (.ref f__law_run) = true)
    (a__law_any_logs : PySem.W.nsIn K mainGlobals "_law_any_logs" = some (some (.ref f__law_any_logs)))
    (l__law_any_logs : K.lookup f__law_any_logs = some ⟨oc__law_any_logs, od__law_any_logs, .func (PySem.W.fnOf "_law_any_logs" "_law_any_logs" (defArgs s__law_any_logs) (defBody s__law_any_logs) (defScope s__law_any_logs) .none kV__law_any_logs dc__law_any_logs pm__law_any_logs an__law_any_logs cd__law_any_logs ct__law_any_logs), sl__law_any_logs⟩)
    (c__law_any_logs : PySem.W.codeIn K cd__law_any_logs "_law_any_logs" = true)
    (k__law_any_logs : PySem.W.keepIn K (.ref f__law_any_logs) = true)
    (a_carry_steps : PySem.W.nsIn K mainGlobals "carry_steps" = some (some (.ref f_carry_steps)))
    (l_carry_steps : K.lookup f_carry_steps = some ⟨oc_carry_steps, od_carry_steps, .func (PySem.W.fnOf "carry_steps" "carry_steps" (defArgs s_carry_steps) (defBody s_carry_steps) (defScope s_carry_steps) .none kV_carry_steps dc_carry_steps pm_carry_steps an_carry_steps cd_carry_steps ct_carry_steps), sl_carry_steps⟩)
    (c_carry_steps : PySem.W.codeIn K cd_carry_steps "carry_steps" = true)
    (k_carry_steps : PySem.W.keepIn K (.ref f_carry_steps) = true)
    (a__law_world : PySem.W.nsIn K mainGlobals "_law_world" = some (some (.ref f__law_world)))
    (l__law_world : K.lookup f__law_world = some ⟨oc__law_world, od__law_world, .func (PySem.W.fnOf "_law_world" "_law_world" (defArgs s__law_world) (defBody s__law_world) (defScope s__law_world) .none kV__law_world dc__law_world pm__law_world an__law_world cd__law_world ct__law_world), sl__law_world⟩)
    (c__law_world : PySem.W.codeIn K cd__law_world "_law_world" = true)
    (k__law_world : PySem.W.keepIn K (.ref f__law_world) = true)
    (a__law_start : PySem.W.nsIn K mainGlobals "_law_start" = some (some (.ref f__law_start)))
    (l__law_start : K.lookup f__law_start = some ⟨oc__law_start, od__law_start, .func (PySem.W.fnOf "_law_start" "_law_start" (defArgs s__law_start) (defBody s__law_start) (defScope s__law_start) .none kV__law_start dc__law_start pm__law_start an__law_start cd__law_start ct__law_start), sl__law_start⟩)
    (c__law_start : PySem.W.codeIn K cd__law_start "_law_start" = true)
    (k__law_start : PySem.W.keepIn K (.ref f__law_start) = true)
    (a__law_action_stays : PySem.W.nsIn K mainGlobals "_law_action_stays" = some (some (.ref f__law_action_stays)))
    (l__law_action_stays : K.lookup f__law_action_stays = some ⟨oc__law_action_stays, od__law_action_stays, .func (PySem.W.fnOf "_law_action_stays" "_law_action_stays" (defArgs s__law_action_stays) (defBody s__law_action_stays) (defScope s__law_action_stays) .none kV__law_action_stays dc__law_action_stays pm__law_action_stays an__law_action_stays cd__law_action_stays ct__law_action_stays), sl__law_action_stays⟩)
    (c__law_action_stays : PySem.W.codeIn K cd__law_action_stays "_law_action_stays" = true)
    (k__law_action_stays : PySem.W.keepIn K (.ref f__law_action_stays) = true)
    (a__law_links_agree : PySem.W.nsIn K mainGlobals "_law_links_agree" = some (some (.ref f__law_links_agree)))
    (l__law_links_agree : K.lookup f__law_links_agree = some ⟨oc__law_links_agree, od__law_links_agree, .func (PySem.W.fnOf "_law_links_agree" "_law_links_agree" (defArgs s__law_links_agree) (defBody s__law_links_agree) (defScope s__law_links_agree) .none kV__law_links_agree dc__law_links_agree pm__law_links_agree an__law_links_agree cd__law_links_agree ct__law_links_agree), sl__law_links_agree⟩)
    (c__law_links_agree : PySem.W.codeIn K cd__law_links_agree "_law_links_agree" = true)
    (k__law_links_agree : PySem.W.keepIn K (.ref f__law_links_agree) = true)
    (a_carry_distances : PySem.W.nsIn K mainGlobals "carry_distances" = some (some (.ref f_carry_distances)))
    (l_carry_distances : K.lookup f_carry_distances = some ⟨oc_carry_distances, od_carry_distances, .func (PySem.W.fnOf "carry_distances" "carry_distances" (defArgs s_carry_distances) (defBody s_carry_distances) (defScope s_carry_distances) .none kV_carry_distances dc_carry_distances pm_carry_distances an_carry_distances cd_carry_distances ct_carry_distances), sl_carry_distances⟩)
    (c_carry_distances : PySem.W.codeIn K cd_carry_distances "carry_distances" = true)
    (k_carry_distances : PySem.W.keepIn K (.ref f_carry_distances) = true)
    (a_carried_to : PySem.W.nsIn K mainGlobals "carried_to" = some (some (.ref f_carried_to)))
    (l_carried_to : K.lookup f_carried_to = some ⟨oc_carried_to, od_carried_to, .func (PySem.W.fnOf "carried_to" "carried_to" (defArgs s_carried_to) (defBody s_carried_to) (defScope s_carried_to) .none kV_carried_to dc_carried_to pm_carried_to an_carried_to cd_carried_to ct_carried_to), sl_carried_to⟩)
    (c_carried_to : PySem.W.codeIn K cd_carried_to "carried_to" = true)
    (k_carried_to : PySem.W.keepIn K (.ref f_carried_to) = true)
    (a__law_carried_to_holders : PySem.W.nsIn K mainGlobals "_law_carried_to_holders" = some (some (.ref f__law_carried_to_holders)))
    (l__law_carried_to_holders : K.lookup f__law_carried_to_holders = some ⟨oc__law_carried_to_holders, od__law_carried_to_holders, .func (PySem.W.fnOf "_law_carried_to_holders" "_law_carried_to_holders" (defArgs s__law_carried_to_holders) (defBody s__law_carried_to_holders) (defScope s__law_carried_to_holders) .none kV__law_carried_to_holders dc__law_carried_to_holders pm__law_carried_to_holders an__law_carried_to_holders cd__law_carried_to_holders ct__law_carried_to_holders), sl__law_carried_to_holders⟩)
    (c__law_carried_to_holders : PySem.W.codeIn K cd__law_carried_to_holders "_law_carried_to_holders" = true)
    (k__law_carried_to_holders : PySem.W.keepIn K (.ref f__law_carried_to_holders) = true)
    (a_law : PySem.W.nsIn K mainGlobals "law" = some (some (.ref f_law)))
    (l_law : K.lookup f_law = some ⟨oc_law, od_law, .func (PySem.W.fnOf "law" "law" (defArgs s_law) (defBody s_law) (defScope s_law) .none kV_law dc_law pm_law an_law cd_law ct_law), sl_law⟩)
    (c_law : PySem.W.codeIn K cd_law "law" = true)
    (k_law : PySem.W.keepIn K (.ref f_law) = true)
    (noT : PySem.W.noTabs K = true)
    (z_all : PySem.W.nsIn K mainGlobals "all" = some none)
    (z_any : PySem.W.nsIn K mainGlobals "any" = some none)
    (z_bool : PySem.W.nsIn K mainGlobals "bool" = some none)
    (z_enumerate : PySem.W.nsIn K mainGlobals "enumerate" = some none)
    (z_int : PySem.W.nsIn K mainGlobals "int" = some none)
    (z_isinstance : PySem.W.nsIn K mainGlobals "isinstance" = some none)
    (z_len : PySem.W.nsIn K mainGlobals "len" = some none)
    (z_list : PySem.W.nsIn K mainGlobals "list" = some none)
    (z_range : PySem.W.nsIn K mainGlobals "range" = some none)
    (z_set : PySem.W.nsIn K mainGlobals "set" = some none)
    (z_sorted : PySem.W.nsIn K mainGlobals "sorted" = some none)
    : LamX.LawAtS l w K CX0 7 63 "_law_script" mg fa h := by
  have e := hfa.symm.trans (PySem.W.mg_of X G a_law)
  cases e
  have GG : Glo K mg ⟨C_Cluster, C_Net, cc__is_log, P__is_log⟩ := ⟨PySem.W.mg_of X G aC_Cluster, ⟨pg_Cluster, hd_Cluster, po_Cluster, sa_Cluster⟩, PySem.W.mg_of X G aC_Net, ⟨pg_Net, hd_Net, po_Net, sa_Net⟩, nf_Cluster__homes, nf_Cluster_net, nf_Cluster_size, nf_Net__linked, nf_Net__links, nf_Net_count, ⟨rd_Cluster, ga_Cluster⟩, ⟨rd_Net, ga_Net⟩, ⟨_, vc_Cluster_MOST, ⟨_, rfl⟩⟩, ⟨_, vc_Net_MOST, ⟨_, rfl⟩⟩, PySem.W.mg_none_of X G z_all, PySem.W.mg_none_of X G z_any, PySem.W.mg_none_of X G z_bool, PySem.W.mg_none_of X G z_enumerate, PySem.W.mg_none_of X G z_int, PySem.W.mg_none_of X G z_isinstance, PySem.W.mg_none_of X G z_len, PySem.W.mg_none_of X G z_list, PySem.W.mg_none_of X G z_range, PySem.W.mg_none_of X G z_set, PySem.W.mg_none_of X G z_sorted⟩
  have T__is_log := own "_is_log" f__is_log cc__is_log P__is_log _ _ _ _ _ _ (hq _ (by simp)) a__is_log l__is_log rfl rfl tl__is_log tp__is_log
  refine ⟨PySem.W.fnOf "law" "law" (defArgs s_law) (defBody s_law) (defScope s_law) .none kV_law dc_law pm_law an_law cd_law ct_law, [(cc__is_log, P__is_log)], top_law K ⟨C_Cluster, C_Net, cc__is_log, P__is_log⟩, (fun p hp => by
    simp only [List.mem_cons, List.not_mem_nil, or_false] at hp
    subst hp
    exact T__is_log.2), (fun p hp => by
    simp only [List.mem_cons, List.not_mem_nil, or_false] at hp
    subst hp
    exact PE.no_tab X noT T__is_log.2), (fun p hp => by
    simp only [List.mem_cons, List.not_mem_nil, or_false] at hp
    subst hp
    exact T__is_log.1), fun s v => .of_eq rfl, fun H a ns hl _ hT hS => top_say (D := ⟨C_Cluster, C_Net, cc__is_log, P__is_log⟩) hl hS (hT (cc__is_log, P__is_log) (by simp)), fun base _ _ hB => ?_⟩
  have F__check_count := fun_mk (st := s__check_count) l__check_count c__check_count k__check_count
  have h__check_count : Has l.prog w K mg base "_check_count" 1 (sp__check_count K ⟨C_Cluster, C_Net, cc__is_log, P__is_log⟩) := ⟨_, _, _, PySem.W.mg_of X G a__check_count, F__check_count.kp, F__check_count.binds (ps := ["count"]) (fun _ _ _ _ _ _ us hl => match us, hl with | [_], _ => rfl), ok__check_count GG F__check_count⟩
  have F__is_below := fun_mk (st := s__is_below) l__is_below c__is_below k__is_below
  have h__is_below : Has l.prog w K mg base "_is_below" 1 (sp__is_below K ⟨C_Cluster, C_Net, cc__is_log, P__is_log⟩) := ⟨_, _, _, PySem.W.mg_of X G a__is_below, F__is_below.kp, F__is_below.binds (ps := ["number", "count"]) (fun _ _ _ _ _ _ us hl => match us, hl with | [_, _], _ => rfl), ok__is_below GG F__is_below⟩
  have F_Net_links := fun_mk (st := s_Net_links) l_Net_links c_Net_links k_Net_links
  have h_Net_links : HasP l.prog w K mg base C_Net "links" 1 (sp_Net_links K ⟨C_Cluster, C_Net, cc__is_log, P__is_log⟩) := ⟨_, _, _, _, ⟨a_Net_links, pt_Net_links, pk_Net_links, ⟨_, pr_Net_links⟩⟩, F_Net_links.binds (ps := ["self"]) (fun _ _ _ _ _ _ us hl => match us, hl with | [_], _ => rfl), ok_Net_links GG F_Net_links⟩
  have F_Net_has_link := fun_mk (st := s_Net_has_link) l_Net_has_link c_Net_has_link k_Net_has_link
  have h_Net_has_link : HasM l.prog w K mg base C_Net "has_link" 1 (sp_Net_has_link K ⟨C_Cluster, C_Net, cc__is_log, P__is_log⟩) := ⟨_, _, _, ⟨a_Net_has_link, i_Net_has_link, k_Net_has_link⟩, F_Net_has_link.binds (ps := ["self", "source", "reader"]) (fun _ _ _ _ _ _ us hl => match us, hl with | [_, _, _], _ => rfl), ok_Net_has_link GG F_Net_has_link⟩
  have F_Cluster___init__ := fun_mk (st := s_Cluster___init__) l_Cluster___init__ c_Cluster___init__ k_Cluster___init__
  have h_Cluster___init__ : HasI l.prog w K mg base C_Cluster 1 (sp_Cluster___init__ K ⟨C_Cluster, C_Net, cc__is_log, P__is_log⟩) := ⟨_, _, _, ⟨mk_Cluster, a_Cluster___init__, i_Cluster___init__, kc_Cluster⟩, F_Cluster___init__.binds (ps := ["self", "net", "homes"]) (fun _ _ _ _ _ _ us hl => match us, hl with | [_, _, _], _ => rfl), ok_Cluster___init__ GG F_Cluster___init__⟩
  have F_Cluster_home_of := fun_mk (st := s_Cluster_home_of) l_Cluster_home_of c_Cluster_home_of k_Cluster_home_of
  have h_Cluster_home_of : HasM l.prog w K mg base C_Cluster "home_of" 1 (sp_Cluster_home_of K ⟨C_Cluster, C_Net, cc__is_log, P__is_log⟩) := ⟨_, _, _, ⟨a_Cluster_home_of, i_Cluster_home_of, k_Cluster_home_of⟩, F_Cluster_home_of.binds (ps := ["self", "entry"]) (fun _ _ _ _ _ _ us hl => match us, hl with | [_, _], _ => rfl), ok_Cluster_home_of GG F_Cluster_home_of⟩
  have F_check_replica := fun_mk (st := s_check_replica) l_check_replica c_check_replica k_check_replica
  have h_check_replica : Has l.prog w K mg base "check_replica" 1 (sp_check_replica K ⟨C_Cluster, C_Net, cc__is_log, P__is_log⟩) := ⟨_, _, _, PySem.W.mg_of X G a_check_replica, F_check_replica.kp, F_check_replica.binds (ps := ["net", "replica"]) (fun _ _ _ _ _ _ us hl => match us, hl with | [_, _], _ => rfl), ok_check_replica GG F_check_replica⟩
  have F_check_entry := fun_mk (st := s_check_entry) l_check_entry c_check_entry k_check_entry
  have h_check_entry : Has l.prog w K mg base "check_entry" 1 (sp_check_entry K ⟨C_Cluster, C_Net, cc__is_log, P__is_log⟩) := ⟨_, _, _, PySem.W.mg_of X G a_check_entry, F_check_entry.kp, F_check_entry.binds (ps := ["cluster", "entry"]) (fun _ _ _ _ _ _ us hl => match us, hl with | [_, _], _ => rfl), ok_check_entry GG F_check_entry⟩
  have F_copy_logs := fun_mk (st := s_copy_logs) l_copy_logs c_copy_logs k_copy_logs
  have h_copy_logs : Has l.prog w K mg base "copy_logs" 1 (sp_copy_logs K ⟨C_Cluster, C_Net, cc__is_log, P__is_log⟩) := ⟨_, _, _, PySem.W.mg_of X G a_copy_logs, F_copy_logs.kp, F_copy_logs.binds (ps := ["logs"]) (fun _ _ _ _ _ _ us hl => match us, hl with | [_], _ => rfl), ok_copy_logs GG F_copy_logs⟩
  have F__is_log := fun_mk (st := s__is_log) l__is_log c__is_log k__is_log
  have h__is_log : Has l.prog w K mg base "_is_log" 1 (sp__is_log K ⟨C_Cluster, C_Net, cc__is_log, P__is_log⟩) := ⟨_, _, _, PySem.W.mg_of X G a__is_log, F__is_log.kp, F__is_log.binds (ps := ["size", "log"]) (fun _ _ _ _ _ _ us hl => match us, hl with | [_, _], _ => rfl), up__is_log (ok__is_log GG F__is_log rfl (tabG (hB (cc__is_log, P__is_log) (by simp))))⟩
  have F_prefix_fault := fun_mk (st := s_prefix_fault) l_prefix_fault c_prefix_fault k_prefix_fault
  have h_prefix_fault : Has l.prog w K mg base "prefix_fault" 1 (sp_prefix_fault K ⟨C_Cluster, C_Net, cc__is_log, P__is_log⟩) := ⟨_, _, _, PySem.W.mg_of X G a_prefix_fault, F_prefix_fault.kp, F_prefix_fault.binds (ps := ["start", "goal"]) (fun _ _ _ _ _ _ us hl => match us, hl with | [_, _], _ => rfl), ok_prefix_fault GG F_prefix_fault⟩
  have F_places_of := fun_mk (st := s_places_of) l_places_of c_places_of k_places_of
  have h_places_of : Has l.prog w K mg base "places_of" 1 (sp_places_of K ⟨C_Cluster, C_Net, cc__is_log, P__is_log⟩) := ⟨_, _, _, PySem.W.mg_of X G a_places_of, F_places_of.kp, F_places_of.binds (ps := ["logs"]) (fun _ _ _ _ _ _ us hl => match us, hl with | [_], _ => rfl), ok_places_of GG F_places_of⟩
  have F_blocker_of := fun_mk (st := s_blocker_of) l_blocker_of c_blocker_of k_blocker_of
  have h_blocker_of : Has l.prog w K mg base "blocker_of" 1 (sp_blocker_of K ⟨C_Cluster, C_Net, cc__is_log, P__is_log⟩) := ⟨_, _, _, PySem.W.mg_of X G a_blocker_of, F_blocker_of.kp, F_blocker_of.binds (ps := ["goal", "places", "source", "reader", "entry"]) (fun _ _ _ _ _ _ us hl => match us, hl with | [_, _, _, _, _], _ => rfl), ok_blocker_of GG F_blocker_of⟩
  have F__law_box := fun_mk (st := s__law_box) l__law_box c__law_box k__law_box
  have h__law_box : Has l.prog w K mg base "_law_box" 1 (sp__law_box K ⟨C_Cluster, C_Net, cc__is_log, P__is_log⟩) := ⟨_, _, _, PySem.W.mg_of X G a__law_box, F__law_box.kp, F__law_box.binds (ps := ["_law_script"]) (fun _ _ _ _ _ _ us hl => match us, hl with | [_], _ => rfl), up__law_box (ok__law_box GG F__law_box)⟩
  have F__law_take := fun_mk (st := s__law_take) l__law_take c__law_take k__law_take
  have h__law_take : Has l.prog w K mg base "_law_take" 1 (sp__law_take K ⟨C_Cluster, C_Net, cc__is_log, P__is_log⟩) := ⟨_, _, _, PySem.W.mg_of X G a__law_take, F__law_take.kp, F__law_take.binds (ps := ["_law_box_here", "_law_size"]) (fun _ _ _ _ _ _ us hl => match us, hl with | [_, _], _ => rfl), up__law_take (ok__law_take GG F__law_take)⟩
  have F__law_all_links := fun_mk (st := s__law_all_links) l__law_all_links c__law_all_links k__law_all_links
  have h__law_all_links : Has l.prog w K mg base "_law_all_links" 1 (sp__law_all_links K ⟨C_Cluster, C_Net, cc__is_log, P__is_log⟩) := ⟨_, _, _, PySem.W.mg_of X G a__law_all_links, F__law_all_links.kp, F__law_all_links.binds (ps := ["_law_count"]) (fun _ _ _ _ _ _ us hl => match us, hl with | [_], _ => rfl), ok__law_all_links GG F__law_all_links⟩
  have F__law_copy := fun_mk (st := s__law_copy) l__law_copy c__law_copy k__law_copy
  have h__law_copy : Has l.prog w K mg base "_law_copy" 1 (sp__law_copy K ⟨C_Cluster, C_Net, cc__is_log, P__is_log⟩) := ⟨_, _, _, PySem.W.mg_of X G a__law_copy, F__law_copy.kp, F__law_copy.binds (ps := ["_law_logs"]) (fun _ _ _ _ _ _ us hl => match us, hl with | [_], _ => rfl), ok__law_copy GG F__law_copy⟩
  have F__law_first := fun_mk (st := s__law_first) l__law_first c__law_first k__law_first
  have h__law_first : Has l.prog w K mg base "_law_first" 1 (sp__law_first K ⟨C_Cluster, C_Net, cc__is_log, P__is_log⟩) := ⟨_, _, _, PySem.W.mg_of X G a__law_first, F__law_first.kp, F__law_first.binds (ps := ["_law_source_log", "_law_reader_log"]) (fun _ _ _ _ _ _ us hl => match us, hl with | [_, _], _ => rfl), ok__law_first GG F__law_first⟩
  have F__law_place := fun_mk (st := s__law_place) l__law_place c__law_place k__law_place
  have h__law_place : Has l.prog w K mg base "_law_place" 1 (sp__law_place K ⟨C_Cluster, C_Net, cc__is_log, P__is_log⟩) := ⟨_, _, _, PySem.W.mg_of X G a__law_place, F__law_place.kp, F__law_place.binds (ps := ["_law_world_here", "_law_action"]) (fun _ _ _ _ _ _ us hl => match us, hl with | [_, _], _ => rfl), ok__law_place GG F__law_place⟩
  have F__law_empty := fun_mk (st := s__law_empty) l__law_empty c__law_empty k__law_empty
  have h__law_empty : Has l.prog w K mg base "_law_empty" 1 (sp__law_empty K ⟨C_Cluster, C_Net, cc__is_log, P__is_log⟩) := ⟨_, _, _, PySem.W.mg_of X G a__law_empty, F__law_empty.kp, F__law_empty.binds (ps := ["_law_world_here"]) (fun _ _ _ _ _ _ us hl => match us, hl with | [_], _ => rfl), ok__law_empty GG F__law_empty⟩
  have F__law_whole := fun_mk (st := s__law_whole) l__law_whole c__law_whole k__law_whole
  have h__law_whole : Has l.prog w K mg base "_law_whole" 1 (sp__law_whole K ⟨C_Cluster, C_Net, cc__is_log, P__is_log⟩) := ⟨_, _, _, PySem.W.mg_of X G a__law_whole, F__law_whole.kp, F__law_whole.binds (ps := ["_law_told"]) (fun _ _ _ _ _ _ us hl => match us, hl with | [_], _ => rfl), ok__law_whole GG F__law_whole⟩
  have F__law_truth := fun_mk (st := s__law_truth) l__law_truth c__law_truth k__law_truth
  have h__law_truth : Has l.prog w K mg base "_law_truth" 1 (sp__law_truth K ⟨C_Cluster, C_Net, cc__is_log, P__is_log⟩) := ⟨_, _, _, PySem.W.mg_of X G a__law_truth, F__law_truth.kp, F__law_truth.binds (ps := ["_law_told", "_law_due"]) (fun _ _ _ _ _ _ us hl => match us, hl with | [_, _], _ => rfl), ok__law_truth GG F__law_truth⟩
  have F__law_carrying := fun_mk (st := s__law_carrying) l__law_carrying c__law_carrying k__law_carrying
  have h__law_carrying : Has l.prog w K mg base "_law_carrying" 1 (sp__law_carrying K ⟨C_Cluster, C_Net, cc__is_log, P__is_log⟩) := ⟨_, _, _, PySem.W.mg_of X G a__law_carrying, F__law_carrying.kp, F__law_carrying.binds (ps := ["_law_world_here", "_law_logs", "_law_entry"]) (fun _ _ _ _ _ _ us hl => match us, hl with | [_, _, _], _ => rfl), ok__law_carrying GG F__law_carrying⟩
  have F__law_hops := fun_mk (st := s__law_hops) l__law_hops c__law_hops k__law_hops
  have h__law_hops : Has l.prog w K mg base "_law_hops" 1 (sp__law_hops K ⟨C_Cluster, C_Net, cc__is_log, P__is_log⟩) := ⟨_, _, _, PySem.W.mg_of X G a__law_hops, F__law_hops.kp, F__law_hops.binds (ps := ["_law_world_here", "_law_start_here", "_law_trace"]) (fun _ _ _ _ _ _ us hl => match us, hl with | [_, _, _], _ => rfl), ok__law_hops GG F__law_hops⟩
  have F_Net___init__ := fun_mk (st := s_Net___init__) l_Net___init__ c_Net___init__ k_Net___init__
  have h_Net___init__ : HasI l.prog w K mg base C_Net 2 (sp_Net___init__ K ⟨C_Cluster, C_Net, cc__is_log, P__is_log⟩) := ⟨_, _, _, ⟨mk_Net, a_Net___init__, i_Net___init__, kc_Net⟩, F_Net___init__.binds (ps := ["self", "count", "links"]) (fun _ _ _ _ _ _ us hl => match us, hl with | [_, _, _], _ => rfl), ok_Net___init__ GG F_Net___init__ h__check_count h__is_below⟩
  have F_check_logs := fun_mk (st := s_check_logs) l_check_logs c_check_logs k_check_logs
  have h_check_logs : Has l.prog w K mg base "check_logs" 2 (sp_check_logs K ⟨C_Cluster, C_Net, cc__is_log, P__is_log⟩) := ⟨_, _, _, PySem.W.mg_of X G a_check_logs, F_check_logs.kp, F_check_logs.binds (ps := ["cluster", "logs"]) (fun _ _ _ _ _ _ us hl => match us, hl with | [_, _], _ => rfl), ok_check_logs GG F_check_logs h__is_log h_copy_logs⟩
  have F__link_carries := fun_mk (st := s__link_carries) l__link_carries c__link_carries k__link_carries
  have h__link_carries : Has l.prog w K mg base "_link_carries" 2 (sp__link_carries K ⟨C_Cluster, C_Net, cc__is_log, P__is_log⟩) := ⟨_, _, _, PySem.W.mg_of X G a__link_carries, F__link_carries.kp, F__link_carries.binds (ps := ["goal", "places", "source", "reader", "entry"]) (fun _ _ _ _ _ _ us hl => match us, hl with | [_, _, _, _, _], _ => rfl), ok__link_carries GG F__link_carries h_blocker_of⟩
  have F_entry_roots := fun_mk (st := s_entry_roots) l_entry_roots c_entry_roots k_entry_roots
  have h_entry_roots : Has l.prog w K mg base "entry_roots" 2 (sp_entry_roots K ⟨C_Cluster, C_Net, cc__is_log, P__is_log⟩) := ⟨_, _, _, PySem.W.mg_of X G a_entry_roots, F_entry_roots.kp, F_entry_roots.binds (ps := ["cluster", "start", "goal", "entry"]) (fun _ _ _ _ _ _ us hl => match us, hl with | [_, _, _, _], _ => rfl), ok_entry_roots GG F_entry_roots h_Cluster_home_of⟩
  have F__law_shuffled := fun_mk (st := s__law_shuffled) l__law_shuffled c__law_shuffled k__law_shuffled
  have h__law_shuffled : Has l.prog w K mg base "_law_shuffled" 2 (sp__law_shuffled K ⟨C_Cluster, C_Net, cc__is_log, P__is_log⟩) := ⟨_, _, _, PySem.W.mg_of X G a__law_shuffled, F__law_shuffled.kp, F__law_shuffled.binds (ps := ["_law_box_here", "_law_items"]) (fun _ _ _ _ _ _ us hl => match us, hl with | [_, _], _ => rfl), ok__law_shuffled GG F__law_shuffled h__law_take⟩
  have F__law_allowed := fun_mk (st := s__law_allowed) l__law_allowed c__law_allowed k__law_allowed
  have h__law_allowed : Has l.prog w K mg base "_law_allowed" 2 (sp__law_allowed K ⟨C_Cluster, C_Net, cc__is_log, P__is_log⟩) := ⟨_, _, _, PySem.W.mg_of X G a__law_allowed, F__law_allowed.kp, F__law_allowed.binds (ps := ["_law_world_here", "_law_logs"]) (fun _ _ _ _ _ _ us hl => match us, hl with | [_, _], _ => rfl), ok__law_allowed GG F__law_allowed h__law_first⟩
  have F__law_after := fun_mk (st := s__law_after) l__law_after c__law_after k__law_after
  have h__law_after : Has l.prog w K mg base "_law_after" 2 (sp__law_after K ⟨C_Cluster, C_Net, cc__is_log, P__is_log⟩) := ⟨_, _, _, PySem.W.mg_of X G a__law_after, F__law_after.kp, F__law_after.binds (ps := ["_law_world_here", "_law_logs", "_law_action"]) (fun _ _ _ _ _ _ us hl => match us, hl with | [_, _, _], _ => rfl), ok__law_after GG F__law_after h__law_copy h__law_place⟩
  have F__law_most := fun_mk (st := s__law_most) l__law_most c__law_most k__law_most
  have h__law_most : Has l.prog w K mg base "_law_most" 2 (sp__law_most K ⟨C_Cluster, C_Net, cc__is_log, P__is_log⟩) := ⟨_, _, _, PySem.W.mg_of X G a__law_most, F__law_most.kp, F__law_most.binds (ps := ["_law_box_here"]) (fun _ _ _ _ _ _ us hl => match us, hl with | [_], _ => rfl), ok__law_most GG F__law_most h__law_take⟩
  have F__law_same_list := fun_mk (st := s__law_same_list) l__law_same_list c__law_same_list k__law_same_list
  have h__law_same_list : Has l.prog w K mg base "_law_same_list" 2 (sp__law_same_list K ⟨C_Cluster, C_Net, cc__is_log, P__is_log⟩) := ⟨_, _, _, PySem.W.mg_of X G a__law_same_list, F__law_same_list.kp, F__law_same_list.binds (ps := ["_law_told", "_law_due"]) (fun _ _ _ _ _ _ us hl => match us, hl with | [_, _], _ => rfl), ok__law_same_list GG F__law_same_list h__law_whole⟩
  have F__law_exchanged := fun_mk (st := s__law_exchanged) l__law_exchanged c__law_exchanged k__law_exchanged
  have h__law_exchanged : Has l.prog w K mg base "_law_exchanged" 2 (sp__law_exchanged K ⟨C_Cluster, C_Net, cc__is_log, P__is_log⟩) := ⟨_, _, _, PySem.W.mg_of X G a__law_exchanged, F__law_exchanged.kp, F__law_exchanged.binds (ps := ["_law_logs", "_law_place_here", "_law_entry"]) (fun _ _ _ _ _ _ us hl => match us, hl with | [_, _, _], _ => rfl), ok__law_exchanged GG F__law_exchanged h__law_copy⟩
  have F__law_distances := fun_mk (st := s__law_distances) l__law_distances c__law_distances k__law_distances
  have h__law_distances : Has l.prog w K mg base "_law_distances" 2 (sp__law_distances K ⟨C_Cluster, C_Net, cc__is_log, P__is_log⟩) := ⟨_, _, _, PySem.W.mg_of X G a__law_distances, F__law_distances.kp, F__law_distances.binds (ps := ["_law_world_here", "_law_start_here", "_law_target", "_law_entry"]) (fun _ _ _ _ _ _ us hl => match us, hl with | [_, _, _, _], _ => rfl), ok__law_distances GG F__law_distances h__law_carrying⟩
  have F_holders_of := fun_mk (st := s_holders_of) l_holders_of c_holders_of k_holders_of
  have h_holders_of : Has l.prog w K mg base "holders_of" 3 (sp_holders_of K ⟨C_Cluster, C_Net, cc__is_log, P__is_log⟩) := ⟨_, _, _, PySem.W.mg_of X G a_holders_of, F_holders_of.kp, F_holders_of.binds (ps := ["cluster", "logs", "entry"]) (fun _ _ _ _ _ _ us hl => match us, hl with | [_, _, _], _ => rfl), ok_holders_of GG F_holders_of h_check_logs h_check_entry⟩
  have F_ahead_of := fun_mk (st := s_ahead_of) l_ahead_of c_ahead_of k_ahead_of
  have h_ahead_of : Has l.prog w K mg base "ahead_of" 3 (sp_ahead_of K ⟨C_Cluster, C_Net, cc__is_log, P__is_log⟩) := ⟨_, _, _, PySem.W.mg_of X G a_ahead_of, F_ahead_of.kp, F_ahead_of.binds (ps := ["cluster", "logs", "replica", "entry"]) (fun _ _ _ _ _ _ us hl => match us, hl with | [_, _, _, _], _ => rfl), ok_ahead_of GG F_ahead_of h_check_logs h_check_replica h_check_entry⟩
  have F_carry_links := fun_mk (st := s_carry_links) l_carry_links c_carry_links k_carry_links
  have h_carry_links : Has l.prog w K mg base "carry_links" 3 (sp_carry_links K ⟨C_Cluster, C_Net, cc__is_log, P__is_log⟩) := ⟨_, _, _, PySem.W.mg_of X G a_carry_links, F_carry_links.kp, F_carry_links.binds (ps := ["cluster", "goal", "entry"]) (fun _ _ _ _ _ _ us hl => match us, hl with | [_, _, _], _ => rfl), ok_carry_links GG F_carry_links h_places_of h_Net_links h__link_carries⟩
  have F__check_question := fun_mk (st := s__check_question) l__check_question c__check_question k__check_question
  have h__check_question : Has l.prog w K mg base "_check_question" 3 (sp__check_question K ⟨C_Cluster, C_Net, cc__is_log, P__is_log⟩) := ⟨_, _, _, PySem.W.mg_of X G a__check_question, F__check_question.kp, F__check_question.binds (ps := ["cluster", "start", "goal", "entry"]) (fun _ _ _ _ _ _ us hl => match us, hl with | [_, _, _, _], _ => rfl), ok__check_question GG F__check_question h_check_logs h_check_entry h_prefix_fault⟩
  have F_carries := fun_mk (st := s_carries) l_carries c_carries k_carries
  have h_carries : Has l.prog w K mg base "carries" 3 (sp_carries K ⟨C_Cluster, C_Net, cc__is_log, P__is_log⟩) := ⟨_, _, _, PySem.W.mg_of X G a_carries, F_carries.kp, F_carries.binds (ps := ["cluster", "goal", "source", "reader", "entry"]) (fun _ _ _ _ _ _ us hl => match us, hl with | [_, _, _, _, _], _ => rfl), ok_carries GG F_carries h_check_logs h_Net_has_link h_check_entry h__link_carries h_places_of⟩
  have F__law_net_links := fun_mk (st := s__law_net_links) l__law_net_links c__law_net_links k__law_net_links
  have h__law_net_links : Has l.prog w K mg base "_law_net_links" 3 (sp__law_net_links K ⟨C_Cluster, C_Net, cc__is_log, P__is_log⟩) := ⟨_, _, _, PySem.W.mg_of X G a__law_net_links, F__law_net_links.kp, F__law_net_links.binds (ps := ["_law_box_here", "_law_count"]) (fun _ _ _ _ _ _ us hl => match us, hl with | [_, _], _ => rfl), ok__law_net_links GG F__law_net_links h__law_take h__law_shuffled h__law_all_links⟩
  have F__law_run := fun_mk (st := s__law_run) l__law_run c__law_run k__law_run
  have h__law_run : Has l.prog w K mg base "_law_run" 3 (sp__law_run K ⟨C_Cluster, C_Net, cc__is_log, P__is_log⟩) := ⟨_, _, _, PySem.W.mg_of X G a__law_run, F__law_run.kp, F__law_run.binds (ps := ["_law_box_here", "_law_world_here", "_law_start_here", "_law_most_here"]) (fun _ _ _ _ _ _ us hl => match us, hl with | [_, _, _, _], _ => rfl), ok__law_run GG F__law_run h__law_copy h__law_allowed h__law_take h__law_after⟩
  have F__law_any_logs := fun_mk (st := s__law_any_logs) l__law_any_logs c__law_any_logs k__law_any_logs
  have h__law_any_logs : Has l.prog w K mg base "_law_any_logs" 3 (sp__law_any_logs K ⟨C_Cluster, C_Net, cc__is_log, P__is_log⟩) := ⟨_, _, _, PySem.W.mg_of X G a__law_any_logs, F__law_any_logs.kp, F__law_any_logs.binds (ps := ["_law_box_here", "_law_world_here"]) (fun _ _ _ _ _ _ us hl => match us, hl with | [_, _], _ => rfl), ok__law_any_logs GG F__law_any_logs h__law_shuffled h__law_take⟩
  have F_carry_steps := fun_mk (st := s_carry_steps) l_carry_steps c_carry_steps k_carry_steps
  have h_carry_steps : Has l.prog w K mg base "carry_steps" 4 (sp_carry_steps K ⟨C_Cluster, C_Net, cc__is_log, P__is_log⟩) := ⟨_, _, _, PySem.W.mg_of X G a_carry_steps, F_carry_steps.kp, F_carry_steps.binds (ps := ["cluster", "start", "goal", "entry"]) (fun _ _ _ _ _ _ us hl => match us, hl with | [_, _, _, _], _ => rfl), ok_carry_steps GG F_carry_steps h_entry_roots h_carry_links⟩
  have F__law_world := fun_mk (st := s__law_world) l__law_world c__law_world k__law_world
  have h__law_world : Has l.prog w K mg base "_law_world" 4 (sp__law_world K ⟨C_Cluster, C_Net, cc__is_log, P__is_log⟩) := ⟨_, _, _, PySem.W.mg_of X G a__law_world, F__law_world.kp, F__law_world.binds (ps := ["_law_box_here"]) (fun _ _ _ _ _ _ us hl => match us, hl with | [_], _ => rfl), ok__law_world GG F__law_world h__law_take h__law_net_links⟩
  have F__law_start := fun_mk (st := s__law_start) l__law_start c__law_start k__law_start
  have h__law_start : Has l.prog w K mg base "_law_start" 4 (sp__law_start K ⟨C_Cluster, C_Net, cc__is_log, P__is_log⟩) := ⟨_, _, _, PySem.W.mg_of X G a__law_start, F__law_start.kp, F__law_start.binds (ps := ["_law_box_here", "_law_world_here"]) (fun _ _ _ _ _ _ us hl => match us, hl with | [_, _], _ => rfl), ok__law_start GG F__law_start h__law_take h__law_empty h__law_any_logs h__law_run⟩
  have F__law_action_stays := fun_mk (st := s__law_action_stays) l__law_action_stays c__law_action_stays k__law_action_stays
  have h__law_action_stays : Has l.prog w K mg base "_law_action_stays" 4 (sp__law_action_stays K ⟨C_Cluster, C_Net, cc__is_log, P__is_log⟩) := ⟨_, _, _, PySem.W.mg_of X G a__law_action_stays, F__law_action_stays.kp, F__law_action_stays.binds (ps := ["_law_cluster", "_law_world_here", "_law_before", "_law_action", "_law_logs"]) (fun _ _ _ _ _ _ us hl => match us, hl with | [_, _, _, _, _], _ => rfl), ok__law_action_stays GG F__law_action_stays h__law_place h__law_same_list h_ahead_of h_carries h__law_exchanged h__law_carrying h__law_truth⟩
  have F__law_links_agree := fun_mk (st := s__law_links_agree) l__law_links_agree c__law_links_agree k__law_links_agree
  have h__law_links_agree : Has l.prog w K mg base "_law_links_agree" 4 (sp__law_links_agree K ⟨C_Cluster, C_Net, cc__is_log, P__is_log⟩) := ⟨_, _, _, PySem.W.mg_of X G a__law_links_agree, F__law_links_agree.kp, F__law_links_agree.binds (ps := ["_law_cluster", "_law_world_here", "_law_logs", "_law_entry"]) (fun _ _ _ _ _ _ us hl => match us, hl with | [_, _, _, _], _ => rfl), ok__law_links_agree GG F__law_links_agree h__law_carrying h__law_truth h_carries⟩
  have F_carry_distances := fun_mk (st := s_carry_distances) l_carry_distances c_carry_distances k_carry_distances
  have h_carry_distances : Has l.prog w K mg base "carry_distances" 5 (sp_carry_distances K ⟨C_Cluster, C_Net, cc__is_log, P__is_log⟩) := ⟨_, _, _, PySem.W.mg_of X G a_carry_distances, F_carry_distances.kp, F_carry_distances.binds (ps := ["cluster", "start", "goal", "entry"]) (fun _ _ _ _ _ _ us hl => match us, hl with | [_, _, _, _], _ => rfl), ok_carry_distances GG F_carry_distances h__check_question h_carry_steps⟩
  have F_carried_to := fun_mk (st := s_carried_to) l_carried_to c_carried_to k_carried_to
  have h_carried_to : Has l.prog w K mg base "carried_to" 5 (sp_carried_to K ⟨C_Cluster, C_Net, cc__is_log, P__is_log⟩) := ⟨_, _, _, PySem.W.mg_of X G a_carried_to, F_carried_to.kp, F_carried_to.binds (ps := ["cluster", "start", "goal", "entry"]) (fun _ _ _ _ _ _ us hl => match us, hl with | [_, _, _, _], _ => rfl), ok_carried_to GG F_carried_to h__check_question h_carry_steps⟩
  have F__law_carried_to_holders := fun_mk (st := s__law_carried_to_holders) l__law_carried_to_holders c__law_carried_to_holders k__law_carried_to_holders
  have h__law_carried_to_holders : Has l.prog w K mg base "_law_carried_to_holders" 6 (sp__law_carried_to_holders K ⟨C_Cluster, C_Net, cc__is_log, P__is_log⟩) := ⟨_, _, _, PySem.W.mg_of X G a__law_carried_to_holders, F__law_carried_to_holders.kp, F__law_carried_to_holders.binds (ps := ["_law_cluster", "_law_world_here", "_law_start_here", "_law_logs", "_law_entry", "_law_hops_here"]) (fun _ _ _ _ _ _ us hl => match us, hl with | [_, _, _, _, _, _], _ => rfl), ok__law_carried_to_holders GG F__law_carried_to_holders h__law_distances h_carry_distances h__law_same_list h_carried_to h_holders_of⟩
  have F_law := fun_mk (st := s_law) l_law c_law k_law
  exact top_up (ok_law GG F_law h__law_box h__law_world h__law_start h__law_run h__law_most h__law_copy h_Cluster___init__ h_Net___init__ h__law_take h__law_action_stays h__law_hops h__law_carried_to_holders h__law_links_agree)
end Pr
open PySem PySem.W PyProof.Rows
set_option maxHeartbeats 0 in
theorem PySem.Challenge.cw_pullstore_k51_pulls_carry_holds : PySem.Challenge.rw_pullstore_k51_pulls_carry.Holds := by
  w_on; o_law; k_head; (case hw => w_witness2)
  k_fill
  refine PE.walk_tabs (l := PySem.Challenge.rw_pullstore_k51_pulls_carry) (n := 63) (k := 7) (x := "_law_script") (CX := fun _ => L2.CX0) rfl (by decide) rfl ⟨rfl, by decide, by decide⟩ (fun w h Y => PySem.W.kIn_of Y) ?F (fun _ _ _ _ _ z => z)
  case F =>
    intro w mg fa h KX G hmg own
    refine' Pr.all_mk KX G hmg own (fun x hx => ?hq) ?aC_Cluster ?pg_Cluster ?hd_Cluster ?po_Cluster ?sa_Cluster ?mk_Cluster ?kc_Cluster ?aC_Net ?pg_Net ?hd_Net ?po_Net ?sa_Net ?mk_Net ?kc_Net ?nf_Cluster__homes ?nf_Cluster_net ?nf_Cluster_size ?nf_Net__linked ?nf_Net__links ?nf_Net_count ?rd_Cluster ?ga_Cluster ?rd_Net ?ga_Net ?vc_Cluster_MOST ?vc_Net_MOST ?a__check_count ?l__check_count ?c__check_count ?k__check_count ?a__is_below ?l__is_below ?c__is_below ?k__is_below ?a_Net_links ?pt_Net_links ?pk_Net_links ?pr_Net_links ?l_Net_links ?c_Net_links ?k_Net_links ?a_Net_has_link ?i_Net_has_link ?l_Net_has_link ?c_Net_has_link ?k_Net_has_link ?a_Cluster___init__ ?i_Cluster___init__ ?l_Cluster___init__ ?c_Cluster___init__ ?k_Cluster___init__ ?a_Cluster_home_of ?i_Cluster_home_of ?l_Cluster_home_of ?c_Cluster_home_of ?k_Cluster_home_of ?a_check_replica ?l_check_replica ?c_check_replica ?k_check_replica ?a_check_entry ?l_check_entry ?c_check_entry ?k_check_entry ?a_copy_logs ?l_copy_logs ?c_copy_logs ?k_copy_logs ?a__is_log ?l__is_log ?c__is_log ?k__is_log ?tl__is_log ?tp__is_log ?a_prefix_fault ?l_prefix_fault ?c_prefix_fault ?k_prefix_fault ?a_places_of ?l_places_of ?c_places_of ?k_places_of ?a_blocker_of ?l_blocker_of ?c_blocker_of ?k_blocker_of ?a__law_box ?l__law_box ?c__law_box ?k__law_box ?a__law_take ?l__law_take ?c__law_take ?k__law_take ?a__law_all_links ?l__law_all_links ?c__law_all_links ?k__law_all_links ?a__law_copy ?l__law_copy ?c__law_copy ?k__law_copy ?a__law_first ?l__law_first ?c__law_first ?k__law_first ?a__law_place ?l__law_place ?c__law_place ?k__law_place ?a__law_empty ?l__law_empty ?c__law_empty ?k__law_empty ?a__law_whole ?l__law_whole ?c__law_whole ?k__law_whole ?a__law_truth ?l__law_truth ?c__law_truth ?k__law_truth ?a__law_carrying ?l__law_carrying ?c__law_carrying ?k__law_carrying ?a__law_hops ?l__law_hops ?c__law_hops ?k__law_hops ?a_Net___init__ ?i_Net___init__ ?l_Net___init__ ?c_Net___init__ ?k_Net___init__ ?a_check_logs ?l_check_logs ?c_check_logs ?k_check_logs ?a__link_carries ?l__link_carries ?c__link_carries ?k__link_carries ?a_entry_roots ?l_entry_roots ?c_entry_roots ?k_entry_roots ?a__law_shuffled ?l__law_shuffled ?c__law_shuffled ?k__law_shuffled ?a__law_allowed ?l__law_allowed ?c__law_allowed ?k__law_allowed ?a__law_after ?l__law_after ?c__law_after ?k__law_after ?a__law_most ?l__law_most ?c__law_most ?k__law_most ?a__law_same_list ?l__law_same_list ?c__law_same_list ?k__law_same_list ?a__law_exchanged ?l__law_exchanged ?c__law_exchanged ?k__law_exchanged ?a__law_distances ?l__law_distances ?c__law_distances ?k__law_distances ?a_holders_of ?l_holders_of ?c_holders_of ?k_holders_of ?a_ahead_of ?l_ahead_of ?c_ahead_of ?k_ahead_of ?a_carry_links ?l_carry_links ?c_carry_links ?k_carry_links ?a__check_question ?l__check_question ?c__check_question ?k__check_question ?a_carries ?l_carries ?c_carries ?k_carries ?a__law_net_links ?l__law_net_links ?c__law_net_links ?k__law_net_links ?a__law_run ?l__law_run ?c__law_run ?k__law_run ?a__law_any_logs ?l__law_any_logs ?c__law_any_logs ?k__law_any_logs ?a_carry_steps ?l_carry_steps ?c_carry_steps ?k_carry_steps ?a__law_world ?l__law_world ?c__law_world ?k__law_world ?a__law_start ?l__law_start ?c__law_start ?k__law_start ?a__law_action_stays ?l__law_action_stays ?c__law_action_stays ?k__law_action_stays ?a__law_links_agree ?l__law_links_agree ?c__law_links_agree ?k__law_links_agree ?a_carry_distances ?l_carry_distances ?c_carry_distances ?k_carry_distances ?a_carried_to ?l_carried_to ?c_carried_to ?k_carried_to ?a__law_carried_to_holders ?l__law_carried_to_holders ?c__law_carried_to_holders ?k__law_carried_to_holders ?a_law ?l_law ?c_law ?k_law ?noT ?z_all ?z_any ?z_bool ?z_enumerate ?z_int ?z_isinstance ?z_len ?z_list ?z_range ?z_set ?z_sorted
    (case hq => subst hx; decide +kernel)
    (case aC_Cluster => k_is)
    (case pg_Cluster => k_is)
    (case hd_Cluster => k_is)
    (case po_Cluster => k_is)
    (case sa_Cluster => k_is)
    (case mk_Cluster => k_is)
    (case kc_Cluster => k_is)
    (case aC_Net => k_is)
    (case pg_Net => k_is)
    (case hd_Net => k_is)
    (case po_Net => k_is)
    (case sa_Net => k_is)
    (case mk_Net => k_is)
    (case kc_Net => k_is)
    (case nf_Cluster__homes => k_is)
    (case nf_Cluster_net => k_is)
    (case nf_Cluster_size => k_is)
    (case nf_Net__linked => k_is)
    (case nf_Net__links => k_is)
    (case nf_Net_count => k_is)
    (case rd_Cluster => k_is)
    (case ga_Cluster => k_is)
    (case rd_Net => k_is)
    (case ga_Net => k_is)
    (case vc_Cluster_MOST => k_is)
    (case vc_Net_MOST => k_is)
    (case a__check_count => k_is)
    (case l__check_count => k_is)
    (case c__check_count => k_is)
    (case k__check_count => k_is)
    (case a__is_below => k_is)
    (case l__is_below => k_is)
    (case c__is_below => k_is)
    (case k__is_below => k_is)
    (case a_Net_links => k_is)
    (case pt_Net_links => k_is)
    (case pk_Net_links => k_is)
    (case pr_Net_links => k_is)
    (case l_Net_links => k_is)
    (case c_Net_links => k_is)
    (case k_Net_links => k_is)
    (case a_Net_has_link => k_is)
    (case i_Net_has_link => k_is)
    (case l_Net_has_link => k_is)
    (case c_Net_has_link => k_is)
    (case k_Net_has_link => k_is)
    (case a_Cluster___init__ => k_is)
    (case i_Cluster___init__ => k_is)
    (case l_Cluster___init__ => k_is)
    (case c_Cluster___init__ => k_is)
    (case k_Cluster___init__ => k_is)
    (case a_Cluster_home_of => k_is)
    (case i_Cluster_home_of => k_is)
    (case l_Cluster_home_of => k_is)
    (case c_Cluster_home_of => k_is)
    (case k_Cluster_home_of => k_is)
    (case a_check_replica => k_is)
    (case l_check_replica => k_is)
    (case c_check_replica => k_is)
    (case k_check_replica => k_is)
    (case a_check_entry => k_is)
    (case l_check_entry => k_is)
    (case c_check_entry => k_is)
    (case k_check_entry => k_is)
    (case a_copy_logs => k_is)
    (case l_copy_logs => k_is)
    (case c_copy_logs => k_is)
    (case k_copy_logs => k_is)
    (case a__is_log => k_is)
    (case l__is_log => k_is)
    (case c__is_log => k_is)
    (case k__is_log => k_is)
    (case tl__is_log => k_is)
    (case tp__is_log => exact rfl)
    (case a_prefix_fault => k_is)
    (case l_prefix_fault => k_is)
    (case c_prefix_fault => k_is)
    (case k_prefix_fault => k_is)
    (case a_places_of => k_is)
    (case l_places_of => k_is)
    (case c_places_of => k_is)
    (case k_places_of => k_is)
    (case a_blocker_of => k_is)
    (case l_blocker_of => k_is)
    (case c_blocker_of => k_is)
    (case k_blocker_of => k_is)
    (case a__law_box => k_is)
    (case l__law_box => k_is)
    (case c__law_box => k_is)
    (case k__law_box => k_is)
    (case a__law_take => k_is)
    (case l__law_take => k_is)
    (case c__law_take => k_is)
    (case k__law_take => k_is)
    (case a__law_all_links => k_is)
    (case l__law_all_links => k_is)
    (case c__law_all_links => k_is)
    (case k__law_all_links => k_is)
    (case a__law_copy => k_is)
    (case l__law_copy => k_is)
    (case c__law_copy => k_is)
    (case k__law_copy => k_is)
    (case a__law_first => k_is)
    (case l__law_first => k_is)
    (case c__law_first => k_is)
    (case k__law_first => k_is)
    (case a__law_place => k_is)
    (case l__law_place => k_is)
    (case c__law_place => k_is)
    (case k__law_place => k_is)
    (case a__law_empty => k_is)
    (case l__law_empty => k_is)
    (case c__law_empty => k_is)
    (case k__law_empty => k_is)
    (case a__law_whole => k_is)
    (case l__law_whole => k_is)
    (case c__law_whole => k_is)
    (case k__law_whole => k_is)
    (case a__law_truth => k_is)
    (case l__law_truth => k_is)
    (case c__law_truth => k_is)
    (case k__law_truth => k_is)
    (case a__law_carrying => k_is)
    (case l__law_carrying => k_is)
    (case c__law_carrying => k_is)
    (case k__law_carrying => k_is)
    (case a__law_hops => k_is)
    (case l__law_hops => k_is)
    (case c__law_hops => k_is)
    (case k__law_hops => k_is)
    (case a_Net___init__ => k_is)
    (case i_Net___init__ => k_is)
    (case l_Net___init__ => k_is)
    (case c_Net___init__ => k_is)
    (case k_Net___init__ => k_is)
    (case a_check_logs => k_is)
    (case l_check_logs => k_is)
    (case c_check_logs => k_is)
    (case k_check_logs => k_is)
    (case a__link_carries => k_is)
    (case l__link_carries => k_is)
    (case c__link_carries => k_is)
    (case k__link_carries => k_is)
    (case a_entry_roots => k_is)
    (case l_entry_roots => k_is)
    (case c_entry_roots => k_is)
    (case k_entry_roots => k_is)
    (case a__law_shuffled => k_is)
    (case l__law_shuffled => k_is)
    (case c__law_shuffled => k_is)
    (case k__law_shuffled => k_is)
    (case a__law_allowed => k_is)
    (case l__law_allowed => k_is)
    (case c__law_allowed => k_is)
    (case k__law_allowed => k_is)
    (case a__law_after => k_is)
    (case l__law_after => k_is)
    (case c__law_after => k_is)
    (case k__law_after => k_is)
    (case a__law_most => k_is)
    (case l__law_most => k_is)
    (case c__law_most => k_is)
    (case k__law_most => k_is)
    (case a__law_same_list => k_is)
    (case l__law_same_list => k_is)
    (case c__law_same_list => k_is)
    (case k__law_same_list => k_is)
    (case a__law_exchanged => k_is)
    (case l__law_exchanged => k_is)
    (case c__law_exchanged => k_is)
    (case k__law_exchanged => k_is)
    (case a__law_distances => k_is)
    (case l__law_distances => k_is)
    (case c__law_distances => k_is)
    (case k__law_distances => k_is)
    (case a_holders_of => k_is)
    (case l_holders_of => k_is)
    (case c_holders_of => k_is)
    (case k_holders_of => k_is)
    (case a_ahead_of => k_is)
    (case l_ahead_of => k_is)
    (case c_ahead_of => k_is)
    (case k_ahead_of => k_is)
    (case a_carry_links => k_is)
    (case l_carry_links => k_is)
    (case c_carry_links => k_is)
    (case k_carry_links => k_is)
    (case a__check_question => k_is)
    (case l__check_question => k_is)
    (case c__check_question => k_is)
    (case k__check_question => k_is)
    (case a_carries => k_is)
    (case l_carries => k_is)
    (case c_carries => k_is)
    (case k_carries => k_is)
    (case a__law_net_links => k_is)
    (case l__law_net_links => k_is)
    (case c__law_net_links => k_is)
    (case k__law_net_links => k_is)
    (case a__law_run => k_is)
    (case l__law_run => k_is)
    (case c__law_run => k_is)
    (case k__law_run => k_is)
    (case a__law_any_logs => k_is)
    (case l__law_any_logs => k_is)
    (case c__law_any_logs => k_is)
    (case k__law_any_logs => k_is)
    (case a_carry_steps => k_is)
    (case l_carry_steps => k_is)
    (case c_carry_steps => k_is)
    (case k_carry_steps => k_is)
    (case a__law_world => k_is)
    (case l__law_world => k_is)
    (case c__law_world => k_is)
    (case k__law_world => k_is)
    (case a__law_start => k_is)
    (case l__law_start => k_is)
    (case c__law_start => k_is)
    (case k__law_start => k_is)
    (case a__law_action_stays => k_is)
    (case l__law_action_stays => k_is)
    (case c__law_action_stays => k_is)
    (case k__law_action_stays => k_is)
    (case a__law_links_agree => k_is)
    (case l__law_links_agree => k_is)
    (case c__law_links_agree => k_is)
    (case k__law_links_agree => k_is)
    (case a_carry_distances => k_is)
    (case l_carry_distances => k_is)
    (case c_carry_distances => k_is)
    (case k_carry_distances => k_is)
    (case a_carried_to => k_is)
    (case l_carried_to => k_is)
    (case c_carried_to => k_is)
    (case k_carried_to => k_is)
    (case a__law_carried_to_holders => k_is)
    (case l__law_carried_to_holders => k_is)
    (case c__law_carried_to_holders => k_is)
    (case k__law_carried_to_holders => k_is)
    (case a_law => k_is)
    (case l_law => k_is)
    (case c_law => k_is)
    (case k_law => k_is)
    (case noT => kernel_rfl)
    (case z_all => k_is)
    (case z_any => k_is)
    (case z_bool => k_is)
    (case z_enumerate => k_is)
    (case z_int => k_is)
    (case z_isinstance => k_is)
    (case z_len => k_is)
    (case z_list => k_is)
    (case z_range => k_is)
    (case z_set => k_is)
    (case z_sorted => k_is)
#print axioms PySem.Challenge.cw_pullstore_k51_pulls_carry_holds

