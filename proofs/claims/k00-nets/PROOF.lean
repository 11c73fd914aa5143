import PyProof.Rows.All
import Wide.All
import OpenK.AllK
import Wide.FinOn
import HandS.ForMost
import HandS.Walk
import HandS.Evl
import HandS.IsInst
import HandS.Wide
import HandS.AnyAll
import HandS.EndTab
import HandS.Conv
import HandS.SortRule
import HandS.Property
import HandS.ClsMeth
import HandS.Zip
import HandS.Style
import HandS.Deep
import HandS.WordsDict
import HandS.More
import HandS.EndOwn
import HandS.WordsExc
import HandS.ExcField
import HandS.ExcOwn
import HandS.ExcIs
import HandS.TryOnly
import HandS.ExcSuper
import HandS.ExcInit
import HandS.FStr
import HandS.FStrTup
import HandS.ExcCtx
import HandS.HotCalls
import KE.KExcSuper
import PySem.Challenge.RW_pullstore_k00_nets_keep_links
set_option Elab.async false
set_option linter.all false
set_option maxRecDepth 100000
namespace PL
open PySem PySem.Spec PyProof.Rows L2 Evl
set_option maxHeartbeats 4000000

/-! ### calls of defs of the text -/
structure Has (P : Program) (w : World) (K : PySem.W.Frag) (mg : Str → Option Value) (base : Heap) (x : Str) (k : Nat) (sp : Sp) : Prop where
  ex : ∃ (f : Addr) (fd : FuncData) (ps : List Str), mg x = some (.ref f) ∧ PySem.W.keepIn K (.ref f) = true ∧ Binds K fd ps [] ∧ FnOk P w K mg base CX0 k f fd ps sp
theorem has_mk {P : Program} {w : World} {K : PySem.W.Frag} {mg : Str → Option Value} {base : Heap} {x : Str} {k : Nat} {sp : Sp} {f : Addr} {fd : FuncData} {ps : List Str} (h1 : mg x = some (.ref f)) (h2 : PySem.W.keepIn K (.ref f) = true) (h3 : Binds K fd ps [])
    (h4 : FnOk P w K mg base CX0 k f fd ps sp) : Has P w K mg base x k sp := ⟨f, fd, ps, h1, h2, h3, h4⟩
section
variable {X : Cx} {k : Nat} {sp : Sp} {x : Str} {p pos : Pos} {e : Expr} {es : List Expr} {t : TA}
theorem pe_fn (h : Has X.prog X.w X.K X.mg X.base x k sp) (hr : Room k X.A) (hg : Gl X x) (ha : PA X (e :: es) t) (hdb : (x == ("__debug__" : Str)) = false := by decide) (he : starEach (e :: es) X.env = (false, eval e X.env) :: starEach es X.env := by rfl)
    (hpl : (backTo pos (starEach es X.env)).any (·.1) = false := by rfl) : PE X (.Call (.Name x p) (e :: es) [] pos) (tCall sp [] E0 t) := by
  obtain ⟨f, fd, ps, h1, h2, h3, h4⟩ := h.ex
  exact pe_call h4 hr hg h1 h2 h3 .nil pass0 ha hdb he hpl
theorem pe_fn0 (h : Has X.prog X.w X.K X.mg X.base x k sp) (hr : Room k X.A) (hg : Gl X x) (hdb : (x == ("__debug__" : Str)) = false := by decide) : PE X (.Call (.Name x p) [] [] pos) (tCall sp [] E0 tNil) := by
  obtain ⟨f, fd, ps, h1, h2, h3, h4⟩ := h.ex
  exact pe_call0 h4 hr hg h1 h2 h3 .nil pass0 hdb
theorem pe_constI {i : Int} (hm : ∃ t, X.mg x = some (.int i t)) (hg : Gl X x) (hd : (x == ("__debug__" : Str)) = false := by decide) : PE X (.Name x pos) (tC (.int i)) := by
  obtain ⟨t, hm⟩ := hm
  exact pe_glob hg hm ⟨t, rfl⟩ hd
end

/-! ### promises by their arguments -/
def Sp0 (R : Hp → VK → Prop) : Sp := fun vs H Q _ => vs = [] ∧ R H Q
def Sp1 (R : V → Hp → VK → Prop) : Sp := fun vs H Q _ => ∃ a, vs = [a] ∧ R a H Q
def Sp2 (R : V → V → Hp → VK → Prop) : Sp := fun vs H Q _ => ∃ a b, vs = [a, b] ∧ R a b H Q
def Sp3 (R : V → V → V → Hp → VK → Prop) : Sp := fun vs H Q _ => ∃ a b c, vs = [a, b, c] ∧ R a b c H Q
def Sp4 (R : V → V → V → V → Hp → VK → Prop) : Sp := fun vs H Q _ => ∃ a b c d, vs = [a, b, c, d] ∧ R a b c d H Q
def Sp5 (R : V → V → V → V → V → Hp → VK → Prop) : Sp := fun vs H Q _ => ∃ a b c d e, vs = [a, b, c, d, e] ∧ R a b c d e H Q
section
variable {vs : List V} {H : Hp} {Q : VK} {E : XK}
theorem len0 {R} (h : Sp0 R vs H Q E) : vs.length = 0 := by obtain ⟨rfl, _⟩ := h; rfl
theorem len1 {R} (h : Sp1 R vs H Q E) : vs.length = 1 := by obtain ⟨_, rfl, _⟩ := h; rfl
theorem len2 {R} (h : Sp2 R vs H Q E) : vs.length = 2 := by obtain ⟨_, _, rfl, _⟩ := h; rfl
theorem len3 {R} (h : Sp3 R vs H Q E) : vs.length = 3 := by obtain ⟨_, _, _, rfl, _⟩ := h; rfl
theorem len4 {R} (h : Sp4 R vs H Q E) : vs.length = 4 := by obtain ⟨_, _, _, _, rfl, _⟩ := h; rfl
theorem len5 {R} (h : Sp5 R vs H Q E) : vs.length = 5 := by obtain ⟨_, _, _, _, _, rfl, _⟩ := h; rfl
end

/-! ### operators that ask their operands' kind late -/
section
variable {X : Cx}
def rAddA : R2 := fun x y H Q => rI0 (fun i j => .int (i + j)) x y H Q ∨ rCat x y H Q
theorem op_addA : OpR X (binaryOp .Add) rAddA := op_add.or op_cat
def rMulA : R2 := fun x y H Q => rI CMul (fun i j => .int (i * j)) x y H Q ∨ rRep x y H Q
theorem op_mulA : OpR X (binaryOp .Mult) rMulA := op_mul.or op_rep
def rDivA : R2 := fun x y H Q => rI CDiv (fun i j => .int (i / j)) x y H Q ∨ rI CDivW (fun i j => .int (i / j)) x y H Q
theorem op_fdivA : OpR X (binaryOp .FloorDiv) rDivA := op_fdiv.or op_fdivW
def rModA : R2 := rI (fun _ j => 0 < j) fun i j => .int (i % j)
theorem op_modA : OpR X (binaryOp .Mod) rModA := op_mod
def rPowA : R2 := rI CPow fun i j => .int (i ^ j.toNat)
theorem op_powA : OpR X (binaryOp .Pow) rPowA := op_pow
def rEqA (K : PySem.W.Frag) : R2 := fun x y H Q => rEq x y H Q ∨ rEqD K x y H Q
theorem op_eqA (hu : X.A.units + 64 < cLine) : OpR X (compareOp .Eq) (rEqA X.K) := op_eq.or (op_eqD hu)
def rNeA (K : PySem.W.Frag) : R2 := fun x y H Q => rNe x y H Q ∨ rNeD K x y H Q
theorem op_neA (hu : X.A.units + 64 < cLine) : OpR X (compareOp .NotEq) (rNeA X.K) := op_ne.or (op_neD hu)
end

def rLen (K : PySem.W.Frag) : List V → Hp → VK → Prop := fun xs H Q => ∃ p ys, xs = [.ref p] ∧ (SqL K H p ys ∨ SqT K H p ys) ∧ Q (.int (ys.length : Nat)) H
def rLst (K : PySem.W.Frag) : List V → Hp → VK → Prop := fun xs H Q => ∃ p ys, xs = [.ref p] ∧ (SqL K H p ys ∨ SqT K H p ys) ∧ ∀ l, H l = none → Q (.ref l) (upd H l (.lst ys))
def rInt : List V → Hp → VK → Prop := fun xs H Q => (∃ i, xs = [.int i] ∧ Q (.int i) H) ∨ ∃ k, xs = [.bl k] ∧ Q (.int (if k then 1 else 0)) H
def tTru (K : PySem.W.Frag) (ta : TE) : TT := fun σ H Q => ta σ H fun x H' => ∃ k, TruV K x H' k ∧ Q k H'
/-! ### steps -/
section
variable {K : PySem.W.Frag} {σ : L2.St} {H : Hp} {Q : VK} {ta tb te tc : TE} {v x y : V} {r : R2} {D : Ends} {t u : TS} {c d : TT} {i : Nat} {P : Bool → Hp → Prop}
theorem w_seq (h : t { D with nx := u D } σ H) : tSeq t u D σ H := h
theorem w_cut (M : L2.St → Hp → Prop) (h : t { D with nx := M } σ H) (k : ∀ σ' H', M σ' H' → u D σ' H') : tCut t u D σ H := ⟨M, h, k⟩
theorem w_asg (h : te σ H fun v H' => D.nx (σ.set i (some v)) H') : tAsg te (gName i) D σ H := h
theorem w_ret (h : te σ H D.rt) : tRet te D σ H := h
theorem w_if (h : c σ H fun b H1 => if b = true then t D σ H1 else u D σ H1) : tIfS c t u D σ H := h
theorem w_drop (h : te σ H fun _ H1 => D.nx σ H1) : tDrop te D σ H := h
theorem w_next (h : D.nx σ H) : tNext D σ H := h
theorem w_brk (h : D.bk σ H) : tBreak D σ H := h
theorem w_cont (h : D.ct σ H) : tCont D σ H := h
theorem w_var (e : σ[i]? = some (some v)) (h : Q v H) : tVar i σ H Q := ⟨v, e, h⟩
theorem w_c (h : Q v H) : tC v σ H Q := h
theorem w_op (h : ta σ H fun x H1 => tb σ H1 fun y H2 => r x y H2 Q) : tOp r ta tb σ H Q := h
theorem w_un {r : V → Hp → VK → Prop} (h : ta σ H fun x H1 => r x H1 Q) : tUn r ta σ H Q := h
theorem w_neg {i : Int} (h : Q (.int (-i)) H) : rU (fun i => .int (-i)) (.int i) H Q := ⟨i, rfl, h⟩
theorem w_test (h : te σ H fun x H1 => ∃ k, x = .bl k ∧ P k H1) : tTest te σ H P := h
theorem w_bl {b : Bool} (h : P b H) : ∃ k, V.bl b = .bl k ∧ P k H := ⟨b, rfl, h⟩
theorem w_bl0 {b : Bool} {A : Bool → Prop} (h : A b) : ∃ c, V.bl b = .bl c ∧ A c := ⟨b, rfl, h⟩
theorem w_and (h : c σ H fun b H1 => if b = true then d σ H1 P else P false H1) : tAnd c d σ H P := h
theorem w_or (h : c σ H fun b H1 => if b = true then P true H1 else d σ H1 P) : tOr c d σ H P := h
theorem w_not (h : c σ H fun b H1 => P (!b) H1) : tNot c σ H P := h
theorem w_andV (h : ta σ H fun x H1 => ∃ c, x = .bl c ∧ if c = true then tb σ H1 Q else Q (.bl false) H1) : tAndV ta tb σ H Q := h
theorem w_orV (h : ta σ H fun x H1 => ∃ c, x = .bl c ∧ if c = true then Q (.bl true) H1 else tb σ H1 Q) : tOrV ta tb σ H Q := h
theorem w_notV (h : ta σ H fun x H1 => ∃ c, x = .bl c ∧ Q (.bl (!c)) H1) : tNotV ta σ H Q := h
theorem w_ifE (h : c σ H fun b H1 => if b = true then ta σ H1 Q else tb σ H1 Q) : tIf c ta tb σ H Q := h
theorem w_I0 {g : Int → Int → V} {i j : Int} (h : Q (g i j) H) : rI0 g (.int i) (.int j) H Q := ⟨i, j, rfl, rfl, h⟩
theorem w_addI {i j : Int} (h : Q (.int (i + j)) H) : rAddA (.int i) (.int j) H Q := .inl ⟨i, j, rfl, rfl, h⟩
theorem w_mulI {i j : Int} (hc : CMul i j) (h : Q (.int (i * j)) H) : rMulA (.int i) (.int j) H Q := .inl ⟨i, j, rfl, rfl, hc, h⟩
theorem w_divI {i j : Int} (h0 : 0 < j) (h1 : j < 1073741824) (h : Q (.int (i / j)) H) : rDivA (.int i) (.int j) H Q := .inl ⟨i, j, rfl, rfl, ⟨h0, h1⟩, h⟩
theorem w_divW {i j : Int} (hc : CDivW i j) (h : Q (.int (i / j)) H) : rDivA (.int i) (.int j) H Q := .inr ⟨i, j, rfl, rfl, hc, h⟩
theorem w_modI {i j : Int} (h0 : 0 < j) (h : Q (.int (i % j)) H) : rModA (.int i) (.int j) H Q := ⟨i, j, rfl, rfl, h0, h⟩
theorem w_powI {i j : Int} (hc : CPow i j) (h : Q (.int (i ^ j.toNat)) H) : rPowA (.int i) (.int j) H Q := ⟨i, j, rfl, rfl, hc, h⟩
theorem w_eqI {i j : Int} (h : Q (.bl (decide (i = j))) H) : rEqA K (.int i) (.int j) H Q := .inl ⟨rfl, by
  have e : decide (V.int i = V.int j) = decide (i = j) := by simp
  rw [e]; exact h⟩
theorem w_neI {i j : Int} (h : Q (.bl (!decide (i = j))) H) : rNeA K (.int i) (.int j) H Q := .inl ⟨rfl, by
  have e : decide (V.int i = V.int j) = decide (i = j) := by simp
  rw [e]; exact h⟩
theorem w_chain {r r' : R2} (h : ta σ H fun x H1 => tb σ H1 fun y H2 => r x y H2 fun z H3 => ∃ k, z = .bl k ∧ if k = true then tc σ H3 fun u H4 => r' y u H4 Q else Q (.bl false) H3) : tChain r r' ta tb tc σ H Q := h
/-- a test that is known -/
theorem w_ite {p A B : Prop} [Decidable p] (h1 : p → A) (h2 : ¬ p → B) : if decide p = true then A else B := by
  by_cases h : p
  · rw [if_pos (decide_eq_true h)]; exact h1 h
  · rw [if_neg (by simpa using h)]; exact h2 h
theorem w_iteN {p A B : Prop} [Decidable p] (h1 : ¬ p → A) (h2 : p → B) : if (!decide p) = true then A else B := by
  by_cases h : p
  · rw [if_neg (by simpa using h)]; exact h2 h
  · rw [if_pos (by simpa using h)]; exact h1 h
theorem w_iteB {b : Bool} {A B : Prop} (h1 : b = true → A) (h2 : b = false → B) : if b = true then A else B := by
  cases b with
  | true => rw [if_pos rfl]; exact h1 rfl
  | false => rw [if_neg Bool.false_ne_true]; exact h2 rfl
theorem w_iteBN {b : Bool} {A B : Prop} (h1 : b = false → A) (h2 : b = true → B) : if (!b) = true then A else B := by
  cases b with
  | true => exact iteF (h2 rfl)
  | false => exact iteT (h1 rfl)
theorem w_true {A B : Prop} (h : A) : if true = true then A else B := iteT h
theorem w_false {A B : Prop} (h : B) : if false = true then A else B := iteF h
theorem w_notT {A B : Prop} (h : B) : if (!true) = true then A else B := iteF h
theorem w_notF {A B : Prop} (h : A) : if (!false) = true then A else B := iteT h

/-! arguments, calls -/
variable {tx : TA} {R : List V → Hp → Prop}
theorem w_nil (h : R [] H) : tNil σ H R := h
theorem w_cons (h : ta σ H fun x H1 => tx σ H1 fun xs H2 => R (x :: xs) H2) : tCons ta tx σ H R := h
theorem w_call {sp : Sp} {dvs : List V} {E : XK} (h : tx σ H fun vs H1 => sp (vs ++ dvs) H1 Q E) : tCall sp dvs E tx σ H Q := h
theorem w_cb {r : List V → Hp → VK → Prop} (h : tx σ H fun vs H1 => r vs H1 Q) : tCB r tx σ H Q := h
/-! new objects: the heap behind is a letter -/
def New (o : HO) (H : Hp) (Q : Addr → Hp → Prop) : Prop := ∀ p H', H p = none → Ex H H' → H' p = some o → Q p H'
theorem New.go {o : HO} {Q : Addr → Hp → Prop} (h : New o H Q) : ∀ p, H p = none → Q p (upd H p o) := fun p hp => h p _ hp (Ex.new hp) upd_same
theorem w_lst (h : tx σ H fun xs H1 => xs.length ≤ sizeLine ∧ ∀ p, H1 p = none → Q (.ref p) (upd H1 p (.lst xs))) : tLst tx σ H Q := h
theorem w_tup (h : tx σ H fun xs H1 => xs.length ≤ sizeLine ∧ ∀ p, H1 p = none → Q (.ref p) (upd H1 p (.tup xs))) : tTup tx σ H Q := h
theorem w_newL {xs : List V} (hl : xs.length ≤ 1000) (h : ∀ p H', H p = none → Ex H H' → H' p = some (.lst xs) → Q (.ref p) H') : xs.length ≤ sizeLine ∧ ∀ p, H p = none → Q (.ref p) (upd H p (.lst xs)) :=
  ⟨Nat.le_trans hl (by decide), fun p hp => h p _ hp (Ex.new hp) upd_same⟩
theorem w_newT {xs : List V} (hl : xs.length ≤ 1000) (h : ∀ p H', H p = none → Ex H H' → H' p = some (.tup xs) → Q (.ref p) H') : xs.length ≤ sizeLine ∧ ∀ p, H p = none → Q (.ref p) (upd H p (.tup xs)) :=
  ⟨Nat.le_trans hl (by decide), fun p hp => h p _ hp (Ex.new hp) upd_same⟩
theorem w_newX {o : HO} {n m : Nat} {G : Addr → Prop} (hl : n ≤ m) (h : ∀ p H', H p = none → Ex H H' → H' p = some o → H' = upd H p o → G p) (hG : ∀ p, G p → G p := by intro _ q; exact q) : n ≤ m ∧ ∀ p, H p = none → G p :=
  ⟨hl, fun p hp => h p _ hp (Ex.new hp) upd_same rfl⟩
theorem w_newXL {xs : List V} {m : Nat} {G : Addr → Prop} (hl : xs.length ≤ m) (h : ∀ p H', H p = none → Ex H H' → H' p = some (.lst xs) → H' = upd H p (.lst xs) → G p) : xs.length ≤ m ∧ ∀ p, H p = none → G p :=
  ⟨hl, fun p hp => h p _ hp (Ex.new hp) upd_same rfl⟩
theorem w_newXT {xs : List V} {m : Nat} {G : Addr → Prop} (hl : xs.length ≤ m) (h : ∀ p H', H p = none → Ex H H' → H' p = some (.tup xs) → H' = upd H p (.tup xs) → G p) : xs.length ≤ m ∧ ∀ p, H p = none → G p :=
  ⟨hl, fun p hp => h p _ hp (Ex.new hp) upd_same rfl⟩
theorem w_newY {o : HO} {G : Addr → Prop} (h : ∀ p H', H p = none → Ex H H' → H' p = some o → H' = upd H p o → G p) : ∀ p, H p = none → G p :=
  fun p hp => h p _ hp (Ex.new hp) upd_same rfl
theorem le_line {n : Nat} (h : n ≤ 100000) : n ≤ sizeLine := Nat.le_trans h (by decide)
/-! lists -/
theorem w_ixC {a : Addr} {xs : List V} {i : Int} (h : SqL K H a xs) (hv : atI xs i = some v) (k : Q v H) : rIx K (.ref a) (.int i) H Q := .inl ⟨a, xs, i, v, rfl, rfl, h, hv, k⟩
theorem w_ixT {a : Addr} {xs : List V} {i : Int} (h : SqT K H a xs) (hv : atI xs i = some v) (k : Q v H) : rIx K (.ref a) (.int i) H Q := .inr (.inl ⟨a, xs, i, v, rfl, rfl, h, hv, k⟩)
theorem at_nat {α : Type} {xs : List α} {i : Int} {v : α} (h0 : 0 ≤ i) (h : xs[i.toNat]? = some v) : atI xs i = some v := by
  have e : ((i.toNat : Nat) : Int) = i := Int.toNat_of_nonneg h0
  have q := atI_nat (j := i.toNat) h
  rw [e] at q
  exact q
theorem w_ixI {a : Addr} {ns : List Int} {i : Int} (h : SqL K H a (ns.map V.int)) (h0 : 0 ≤ i) (h1 : i < ns.length) (k : ∀ n, ns[i.toNat]? = some n → Q (.int n) H) : rIx K (.ref a) (.int i) H Q := by
  have hl : i.toNat < ns.length := by omega
  refine w_ixC h (v := .int ns[i.toNat]) (at_nat h0 ?_) (k _ (List.getElem?_eq_getElem hl))
  rw [List.getElem?_map, List.getElem?_eq_getElem hl]
  rfl
theorem w_ixA {a : Addr} {ns : List Int} {i n : Int} {j : Nat} (h : SqL K H a (ns.map V.int)) (hv : ns[j]? = some n) (e : i = (j : Int)) (k : Q (.int n) H) : rIx K (.ref a) (.int i) H Q := by
  subst e
  refine w_ixC h (atI_nat (j := j) ?_) k
  rw [List.getElem?_map, hv]
  rfl
/-- the part of a list that a slice takes -/
def cut {α : Type} (xs : List α) (lo hi : Option Int) : List α := (xs.drop (HT.sIx xs.length 0 lo)).take (HT.sIx xs.length xs.length hi - HT.sIx xs.length 0 lo)
theorem cutV_map {ns : List Int} {lo hi : Option Int} : cutV (ns.map V.int) lo hi = (cut ns lo hi).map V.int := by
  unfold cutV cut
  rw [List.length_map, List.map_take, List.map_drop]
theorem sIx_of {n d : Nat} {i : Int} (h : 0 ≤ i) : HT.sIx n d (some i) = min i.toNat n := by
  have e : ((i.toNat : Nat) : Int) = i := Int.toNat_of_nonneg h
  have q := HT.sIx_nat n d i.toNat
  rw [e] at q
  exact q
theorem take_min {α : Type} (xs : List α) (k : Nat) : xs.take (min k xs.length) = xs.take k := by
  by_cases h : k ≤ xs.length
  · rw [Nat.min_eq_left h]
  · rw [Nat.min_eq_right (by omega), List.take_of_length_le (Nat.le_refl _), List.take_of_length_le (by omega)]
theorem drop_min {α : Type} (xs : List α) (k : Nat) : xs.drop (min k xs.length) = xs.drop k := by
  by_cases h : k ≤ xs.length
  · rw [Nat.min_eq_left h]
  · rw [Nat.min_eq_right (by omega), List.drop_of_length_le (Nat.le_refl _), List.drop_of_length_le (by omega)]
theorem cut_hi {α : Type} {xs : List α} {i : Int} (h : 0 ≤ i) : cut xs none (some i) = xs.take i.toNat := by
  unfold cut
  rw [sIx_of h, HT.sIx_none, List.drop_zero, Nat.sub_zero, take_min]
theorem cut_lo {α : Type} {xs : List α} {i : Int} (h : 0 ≤ i) : cut xs (some i) none = xs.drop i.toNat := by
  unfold cut
  rw [sIx_of h, HT.sIx_none, drop_min]
  refine List.take_of_length_le ?_
  rw [List.length_drop]
  omega
theorem cut_both {α : Type} {xs : List α} {i j : Int} (h : 0 ≤ i) (h2 : 0 ≤ j) : cut xs (some i) (some j) = (xs.take j.toNat).drop i.toNat := by
  unfold cut
  rw [sIx_of h, sIx_of h2, drop_min, List.drop_take]
  by_cases hj : j.toNat ≤ xs.length
  · rw [Nat.min_eq_left hj]
    by_cases hi : i.toNat ≤ xs.length
    · rw [Nat.min_eq_left hi]
    · rw [List.drop_of_length_le (by omega), List.take_nil, List.take_nil]
  · rw [Nat.min_eq_right (show xs.length ≤ j.toNat by omega)]
    rw [List.take_of_length_le (l := xs.drop i.toNat) (i := j.toNat - i.toNat) (by rw [List.length_drop]; omega)]
    refine List.take_of_length_le ?_
    rw [List.length_drop]
    omega
theorem w_sl {te : TE} {tl th : TO} {r : V → Option Int → Option Int → Hp → VK → Prop} (h : te σ H fun x H1 => tl σ H1 fun l H2 => th σ H2 fun u H3 => r x l u H3 Q) : tSl r te tl th σ H Q := h
theorem w_noPart {Q : Option Int → Hp → Prop} (h : Q none H) : tNoPart σ H Q := h
theorem w_part {Q : Option Int → Hp → Prop} (h : te σ H fun x H1 => ∃ i, x = .int i ∧ Q (some i) H1) : tPart te σ H Q := h
theorem w_some {i : Int} {Q : Option Int → Hp → Prop} (h : Q (some i) H) : ∃ j, V.int i = .int j ∧ Q (some j) H := ⟨i, rfl, h⟩
theorem w_some0 {i : Int} {A : Int → Prop} (h : A i) : ∃ j, V.int i = .int j ∧ A j := ⟨i, rfl, h⟩
theorem w_slI {a : Addr} {ns : List Int} {lo hi : Option Int} (h : SqL K H a (ns.map V.int)) (k : ∀ p H', H p = none → Ex H H' → H' p = some (.lst ((cut ns lo hi).map V.int)) → Q (.ref p) H') : rSlL K (.ref a) lo hi H Q :=
  ⟨a, _, rfl, h, fun p hp => by rw [cutV_map]; exact k p _ hp (Ex.new hp) upd_same⟩
theorem w_slHi {a : Addr} {ns : List Int} {i : Int} (h : SqL K H a (ns.map V.int)) (h0 : 0 ≤ i) (k : ∀ p H', H p = none → Ex H H' → H' p = some (.lst ((ns.take i.toNat).map V.int)) → Q (.ref p) H') : rSlL K (.ref a) none (some i) H Q :=
  w_slI h (by rw [cut_hi h0]; exact k)
theorem w_slLo {a : Addr} {ns : List Int} {i : Int} (h : SqL K H a (ns.map V.int)) (h0 : 0 ≤ i) (k : ∀ p H', H p = none → Ex H H' → H' p = some (.lst ((ns.drop i.toNat).map V.int)) → Q (.ref p) H') : rSlL K (.ref a) (some i) none H Q :=
  w_slI h (by rw [cut_lo h0]; exact k)
theorem w_slBo {a : Addr} {ns : List Int} {i j : Int} (h : SqL K H a (ns.map V.int)) (h0 : 0 ≤ i) (h1 : 0 ≤ j) (k : ∀ p H', H p = none → Ex H H' → H' p = some (.lst (((ns.take j.toNat).drop i.toNat).map V.int)) → Q (.ref p) H') : rSlL K (.ref a) (some i) (some j) H Q :=
  w_slI h (by rw [cut_both h0 h1]; exact k)
theorem w_catI {a b : Addr} {ns ms : List Int} (h : H a = some (.lst (ns.map V.int))) (h' : H b = some (.lst (ms.map V.int))) (hl : ns.length + ms.length ≤ 100000) (k : ∀ p H', H p = none → Ex H H' → H' p = some (.lst ((ns ++ ms).map V.int)) → Q (.ref p) H') :
    rAddA (.ref a) (.ref b) H Q := .inr ⟨a, b, _, _, rfl, rfl, h, h', by rw [List.length_map, List.length_map]; exact Nat.le_trans hl (by decide), fun p hp => by rw [← List.map_append]; exact k p _ hp (Ex.new hp) upd_same⟩
theorem w_lenI {a : Addr} {ns : List Int} (h : SqL K H a (ns.map V.int)) (k : Q (.int ns.length) H) : rLen K [V.ref a] H Q := ⟨a, _, rfl, .inl h, by rw [List.length_map]; exact k⟩
theorem w_lenT {a : Addr} {xs : List V} (h : SqT K H a xs) (k : Q (.int xs.length) H) : rLen K [V.ref a] H Q := ⟨a, _, rfl, .inr h, k⟩
theorem w_int1 {i : Int} (k : Q (.int i) H) : rInt [V.int i] H Q := .inl ⟨i, rfl, k⟩
theorem w_int2 {b : Bool} (k : Q (.int (if b then 1 else 0)) H) : rInt [V.bl b] H Q := .inr ⟨b, rfl, k⟩
theorem w_sum {a : Addr} {ns : List Int} (h : SqL K H a (ns.map V.int)) (k : Q (.int ns.sum) H) : rSum K [.ref a] H Q := ⟨a, ns, rfl, h, k⟩
theorem w_listI {a : Addr} {ns : List Int} (h : SqL K H a (ns.map V.int)) (k : ∀ p H', H p = none → Ex H H' → H' p = some (.lst (ns.map V.int)) → Q (.ref p) H') :
    rLst K [V.ref a] H Q := ⟨a, _, rfl, .inl h, fun p hp => k p _ hp (Ex.new hp) upd_same⟩
theorem ty_lst {a : Addr} {xs : List V} (h : SqL K H a xs) : TyX K H (.ref a) (.type "list") := by
  rcases h with (h | ⟨o, h⟩) | ⟨o, its, n, h, c, _⟩
  · exact .base (.lst h)
  · exact .base (.frz h)
  · exact .kList h c
theorem ty_tup {a : Addr} {xs : List V} (h : H a = some (.tup xs)) : TyX K H (.ref a) (.type "tuple") := .base (.tup h)
theorem w_isi {T U : String} {b : Bool} (h : TyX K H x (.type T)) (e : kitB T U = some b) (k : Q (.bl b) H) : rIsi K [x, .ty U] H Q := ⟨x, _, _, _, b, rfl, .ty U, h, kit_ty e, k⟩
theorem w_isiI {i : Int} {U : String} {b : Bool} (e : kitB "int" U = some b) (k : Q (.bl b) H) : rIsi K [.int i, .ty U] H Q := w_isi (.base (.int i)) e k
theorem w_isiL {a : Addr} {xs : List V} {U : String} {b : Bool} (h : SqL K H a xs) (e : kitB "list" U = some b) (k : Q (.bl b) H) : rIsi K [.ref a, .ty U] H Q := w_isi (ty_lst h) e k
theorem w_isiT {a : Addr} {xs : List V} {U : String} {b : Bool} (h : H a = some (.tup xs)) (e : kitB "tuple" U = some b) (k : Q (.bl b) H) : rIsi K [.ref a, .ty U] H Q := w_isi (ty_tup h) e k
theorem w_isi_ii {i : Int} (k : Q (.bl true) H) : rIsi K [.int i, .ty "int"] H Q := w_isiI (by decide +kernel) k
theorem w_isi_ib {i : Int} (k : Q (.bl false) H) : rIsi K [.int i, .ty "bool"] H Q := w_isiI (by decide +kernel) k
theorem w_isi_ll {a : Addr} {xs : List V} (h : SqL K H a xs) (k : Q (.bl true) H) : rIsi K [.ref a, .ty "list"] H Q := w_isiL h (by decide +kernel) k
theorem w_isi_tt {a : Addr} {xs : List V} (h : H a = some (.tup xs)) (k : Q (.bl true) H) : rIsi K [.ref a, .ty "tuple"] H Q := w_isiT h (by decide +kernel) k
/-! data compared -/
theorem dp_ints {ns : List Int} : DpAll K H (ns.map V.int) (ns.map PyData.int) := by
  induction ns with
  | nil => exact .nil
  | cons n ns ih => exact .cons (.int n) ih
theorem dp_list {a : Addr} {ns : List Int} (h : SqL K H a (ns.map V.int)) : Dp K H (.ref a) (.list (ns.map PyData.int)) := .lst h dp_ints
theorem shaped_ints (ns : List Int) : SeqAt.shaped (.list (ns.map PyData.int)) = true := by
  have h1 : PyData.canLayAll0 (ns.map PyData.int) = true := by
    induction ns with
    | nil => rfl
    | cons n ns ih => simp [PyData.canLayAll0, PyData.canLay0, ih]
  have h2 : PyData.depthAll (ns.map PyData.int) ≤ 1 := by
    induction ns with
    | nil => simp [PyData.depthAll]
    | cons n ns ih => simp [PyData.depthAll, PyData.depth]; simp [PyData.canLayAll0] at h1; exact ih h1.2
  unfold SeqAt.shaped
  rw [Bool.and_eq_true, decide_eq_true_eq]
  refine ⟨by simpa [PyData.canLay0] using h1, ?_⟩
  show PyData.depth (.list (ns.map PyData.int)) ≤ 64
  simp [PyData.depth]
  omega
theorem eqv_ints : ∀ (ns ms : List Int), PyData.eqvAll (ns.map PyData.int) (ms.map PyData.int) = decide (ns = ms)
  | [], [] => by simp [PyData.eqvAll]
  | [], _ :: _ => by simp [PyData.eqvAll]
  | _ :: _, [] => by simp [PyData.eqvAll]
  | n :: ns, m :: ms => by
    simp only [List.map_cons, PyData.eqvAll, PyData.eqv, eqv_ints ns ms, List.cons.injEq, Bool.decide_and]
    rw [Bool.beq_eq_decide_eq]
theorem w_eqL {a b : Addr} {ns ms : List Int} (h : SqL K H a (ns.map V.int)) (h' : SqL K H b (ms.map V.int)) (k : Q (.bl (decide (ns = ms))) H) : rEqA K (.ref a) (.ref b) H Q :=
  .inr ⟨_, _, dp_list h, dp_list h', shaped_ints _, shaped_ints _, by rw [PyData.eqv, eqv_ints]; exact k⟩
theorem w_neL {a b : Addr} {ns ms : List Int} (h : SqL K H a (ns.map V.int)) (h' : SqL K H b (ms.map V.int)) (k : Q (.bl (!decide (ns = ms))) H) : rNeA K (.ref a) (.ref b) H Q :=
  .inr ⟨_, _, dp_list h, dp_list h', shaped_ints _, shaped_ints _, by rw [PyData.eqv, eqv_ints]; exact k⟩
theorem get_map {ns : List Int} {i : Nat} {v : V} (h : (ns.map V.int)[i]? = some v) : ∃ e, ns[i]? = some e ∧ v = .int e := by
  rw [List.getElem?_map] at h
  cases q : ns[i]? with
  | none => rw [q] at h; cases h
  | some e => rw [q] at h; exact ⟨e, rfl, (Option.some.inj h).symm⟩
/-! tests by their truth -/
theorem w_tru (h : ta σ H fun x H' => ∃ k, TruV K x H' k ∧ P k H') : tTru K ta σ H P := h
theorem w_truB {b : Bool} (h : P b H) : ∃ k, TruV K (.bl b) H k ∧ P k H := ⟨b, rfl, h⟩
theorem w_truB0 {b : Bool} {A : Bool → Prop} (h : A b) : ∃ k, TruV K (.bl b) H k ∧ A k := ⟨b, rfl, h⟩
theorem w_truI {i : Int} (h : P (i != 0) H) : ∃ k, TruV K (.int i) H k ∧ P k H := ⟨_, rfl, h⟩
theorem w_truL {a : Addr} {xs : List V} (s : SqL K H a xs) (h : P (!xs.isEmpty) H) : ∃ k, TruV K (.ref a) H k ∧ P k H := ⟨_, .inl ⟨xs, s, rfl⟩, h⟩
/-! methods -/
theorem w_bm {T : String} {r : V → List V → Hp → VK → Prop} (h : ta σ H fun x H1 => tyV K T x H1 ∧ tx σ H1 fun xs H2 => r x xs H2 Q) : tBM K T r ta tx σ H Q := h
theorem w_bm0 {T : String} {r : V → List V → Hp → VK → Prop} (h : ta σ H fun x H1 => tyV K T x H1 ∧ r x [] H1 Q) : tBM0 K T r ta σ H Q := h
theorem w_ty {a : Addr} {xs : List V} {A : Prop} (s : SqL K H a xs) (h : A) : tyV K "list" (.ref a) H ∧ A := ⟨Or.inl ⟨rfl, xs, s⟩, h⟩
/-- the heap but for l -/
def Chg (l : Addr) (H H' : Hp) : Prop := ∀ a, a ≠ l → H' a = H a
theorem Chg.ex {l : Addr} {H0 H H' : Hp} (c : Chg l H H') (e : Ex H0 H) (h : H0 l = none) : Ex H0 H' := fun a o q => (c a (ne_of_none q h)).trans (e a o q)
theorem Chg.trans {l : Addr} {H1 H2 : Hp} (a : Chg l H H1) (b : Chg l H1 H2) : Chg l H H2 := fun x h => (b x h).trans (a x h)
theorem chg_upd {l : Addr} {o : HO} : Chg l H (upd H l o) := fun _ h => upd_ne h
theorem Chg.sq {l : Addr} {H' : Hp} {a : Addr} {xs : List V} (c : Chg l H H') (n : a ≠ l) (h : SqL K H a xs) : SqL K H' a xs := by
  rcases h with (h | ⟨o, h⟩) | h
  · exact .inl (.inl ((c a n).trans h))
  · exact .inl (.inr ⟨o, (c a n).trans h⟩)
  · exact .inr h
theorem w_app {l : Addr} {xs : List V} (h : H l = some (.lst xs)) (hl : xs.length ≤ 100000) (k : ∀ H', Chg l H H' → H' l = some (.lst (xs ++ [y])) → Q .non H') : rAppend (.ref l) [y] H Q :=
  ⟨l, xs, y, rfl, rfl, h, Nat.lt_of_le_of_lt hl (by decide), k _ chg_upd upd_same⟩
theorem w_appI {l : Addr} {ns : List Int} {i : Int} (h : H l = some (.lst (ns.map V.int))) (hl : ns.length ≤ 100000) (k : ∀ H', Chg l H H' → H' l = some (.lst ((ns ++ [i]).map V.int)) → Q .non H') : rAppend (.ref l) [.int i] H Q :=
  w_app h (by rw [List.length_map]; exact hl) fun H' c e => k H' c (by rw [e, List.map_append]; rfl)
/-- x[i] = e -/
theorem w_sub {to ti : TE} {w : V → V → V → Hp → (Hp → Prop) → Prop} (h : te σ H fun v H1 => to σ H1 fun o H2 => ti σ H2 fun i H3 => w o i v H3 fun H4 => D.nx σ H4) : tAsg te (gSub to ti w) D σ H := h
theorem w_setC {l : Addr} {xs : List V} {k : Int} {j : Nat} {Q : Hp → Prop} (h : H l = some (.lst xs)) (hk : ixN xs.length k = some j) (q : ∀ H', Chg l H H' → H' l = some (.lst (xs.set j v)) → Q H') : rSetL (.ref l) (.int k) v H Q :=
  ⟨l, xs, k, j, rfl, rfl, h, hk, q _ chg_upd upd_same⟩
/-! loops -/
def Loop (J : It) (g : TG) (tb : TS) (D : Ends) (σ : L2.St) (H : Hp) : Prop := ∃ W : Nat → Nat → L2.St → Hp → Prop, (∃ m, W 0 m σ H) ∧ ∀ i m σ H, W i m σ H →
  (J.stop i H ∧ D.nx σ H) ∨ (J.go i H ∧ ∃ N : L2.St → Hp → Prop, (∀ σ' H', N σ' H' → ∃ m', m' < m ∧ W (i + 1) m' σ' H') ∧ ∀ x H', J.yld i H x H' → g x σ H' fun σ2 H2 => tb { D with nx := N, ct := N, bk := D.nx } σ2 H2)
variable {wi : TI} {g : TG} {tb : TS} {J : It} {n : Nat} {G : Hp → Prop} {Y : Nat → Hp → V → Hp → Prop}
theorem w_for (h : wi σ H fun J H1 => Loop J g tb D σ H1) : tFor wi g tb D σ H := h
theorem w_loop (w : Walk J n G Y) (Pv : Nat → L2.St → Hp → Prop) (h0 : Pv 0 σ H) (hG : ∀ i σ H, i ≤ n → Pv i σ H → G H)
    (hs : ∀ i x σ H H', i < n → Pv i σ H → Y i H x H' → g x σ H' fun σ2 H2 => tb { D with nx := Pv (i + 1), ct := Pv (i + 1), bk := D.nx } σ2 H2) (hd : ∀ σ H, Pv n σ H → D.nx σ H) : Loop J g tb D σ H :=
  for_it w Pv h0 hG hs hd
theorem w_loopR {n : Nat} {j : Nat} (Pv : Nat → L2.St → Hp → Prop) (h0 : Pv 0 σ H)
    (hs : ∀ (i : Nat) σ H, i < n → Pv i σ H → tb { D with nx := Pv (i + 1), ct := Pv (i + 1), bk := D.nx } (σ.set j (some (.int (i : Int)))) H) (hd : ∀ σ H, Pv n σ H → D.nx σ H) : Loop (Itr 0 n) (gName j) tb D σ H :=
  w_loop walk_range Pv h0 (fun _ _ _ _ _ => trivial) (fun i x σ H H' hi p y => by
    obtain ⟨rfl, rfl⟩ := y
    have e : (0 : Int) + (i : Int) = (i : Int) := Int.zero_add _
    show tb { D with nx := Pv (i + 1), ct := Pv (i + 1), bk := D.nx } (σ.set j (some (.int ((0 : Int) + (i : Int))))) H'
    rw [e]
    exact hs i σ H' hi p) hd
theorem w_loopR2 {lo : Int} {n : Nat} {j : Nat} (Pv : Nat → L2.St → Hp → Prop) (h0 : Pv 0 σ H)
    (hs : ∀ (i : Nat) σ H, i < n → Pv i σ H → tb { D with nx := Pv (i + 1), ct := Pv (i + 1), bk := D.nx } (σ.set j (some (.int (lo + (i : Int))))) H) (hd : ∀ σ H, Pv n σ H → D.nx σ H) : Loop (Itr lo n) (gName j) tb D σ H :=
  w_loop walk_range Pv h0 (fun _ _ _ _ _ => trivial) (fun i x σ H H' hi p y => by
    obtain ⟨rfl, rfl⟩ := y
    exact hs i σ H' hi p) hd
def IRng (R : It → Hp → Prop) (vs : List V) (H : Hp) : Prop := ∃ j : Int, vs = [.int j] ∧ -(2 ^ 62) ≤ j ∧ j < 2 ^ 62 ∧ R (Itr 0 j.toNat) H
def IRng2 (R : It → Hp → Prop) (vs : List V) (H : Hp) : Prop := ∃ i j : Int, vs = [.int i, .int j] ∧ (-(2 ^ 62) ≤ i ∧ i < 2 ^ 62 ∧ -(2 ^ 62) ≤ j ∧ j < 2 ^ 62) ∧ R (Itr i (j - i).toNat) H
def ILst (K : PySem.W.Frag) (R : It → Hp → Prop) (x : V) (H : Hp) : Prop := ∃ a, x = .ref a ∧ (∃ xs, SqL K H a xs) ∧ R (Itl K a) H
def IEnu (K : PySem.W.Frag) (R : It → Hp → Prop) (vs : List V) (H : Hp) : Prop := ∃ a xs, vs = [.ref a] ∧ SqL K H a xs ∧ R (Ite K a) H
theorem w_iR1 {R : It → Hp → Prop} (h : tx σ H fun vs H1 => IRng R vs H1) : iRng1 tx σ H R := h
theorem w_iR2 {R : It → Hp → Prop} (h : tx σ H fun vs H1 => IRng2 R vs H1) : iRng2 tx σ H R := h
theorem w_iL {R : It → Hp → Prop} (h : ta σ H fun x H1 => ILst K R x H1) : iList K ta σ H R := h
theorem w_iE {R : It → Hp → Prop} (h : tx σ H fun vs H1 => IEnu K R vs H1) : iEnum K tx σ H R := h
theorem w_rng {R : It → Hp → Prop} {j : Int} (h0 : -(2 ^ 62) ≤ j) (h1 : j < 2 ^ 62) (h : R (Itr 0 j.toNat) H) : IRng R [.int j] H := ⟨j, rfl, h0, h1, h⟩
theorem w_rng2 {R : It → Hp → Prop} {i j : Int} (h0 : -(2 ^ 62) ≤ i) (h1 : i < 2 ^ 62) (h2 : -(2 ^ 62) ≤ j) (h3 : j < 2 ^ 62) (h : R (Itr i (j - i).toNat) H) : IRng2 R [.int i, .int j] H := ⟨i, j, rfl, ⟨h0, h1, h2, h3⟩, h⟩
theorem w_lstI {R : It → Hp → Prop} {a : Addr} {xs : List V} (s : SqL K H a xs) (h : R (Itl K a) H) : ILst K R (.ref a) H := ⟨a, rfl, ⟨xs, s⟩, h⟩
theorem w_enu {R : It → Hp → Prop} {a : Addr} {xs : List V} (s : SqL K H a xs) (h : R (Ite K a) H) : IEnu K R [.ref a] H := ⟨a, xs, rfl, s, h⟩
/-! comprehensions -/
def LcLoop (J : It) (g : TG) (tt : TT) (te : TE) (vs : List Nat) (σ : L2.St) (Q : VK) (H1 : Hp) : Prop := ∀ D, H1 D = none → ∃ W : Nat → Nat → Hp → Prop, (∃ m, W 0 m (upd H1 D (.lst []))) ∧ ∀ i m H, W i m H →
  (J.stop i H ∧ Q (.ref D) H) ∨ (J.go i H ∧ ∃ Nx : Hp → Prop, (∀ H', Nx H' → ∃ m', m' < m ∧ W (i + 1) m' H') ∧ ∀ x H', J.yld i H x H' → g x (wipe σ vs) H' fun σ2 H2 => wipe σ2 vs = wipe σ vs ∧ tt σ2 H2 fun b H3 =>
    if b = true then te σ2 H3 fun y H4 => ∃ acc, H4 D = some (.lst acc) ∧ acc.length < sizeLine ∧ Nx (upd H4 D (.lst (acc ++ [y]))) else Nx H3)
variable {tt : TT} {vs : List Nat}
theorem w_lc (h : wi σ H fun J H1 => LcLoop J g tt te vs σ Q H1) : tLc wi g tt te vs σ H Q := h
/-- the heap without the object at D -/
def del (D : Addr) (H : Hp) : Hp := fun a => if a = D then none else H a
theorem del_ne {D a : Addr} (h : a ≠ D) : del D H a = H a := if_neg h
theorem del_self {D : Addr} : del D H D = none := if_pos rfl
theorem del_ex {D : Addr} : Ex (del D H) H := fun a o q => by
  unfold del at q
  split at q
  · cases q
  · exact q
theorem ex_del {D : Addr} {H' : Hp} (e : Ex H H') (h : H D = none) : Ex H (del D H') := fun a o q => (del_ne (ne_of_none q h)).trans (e a o q)
/-- what stands ahead of turn i of a comprehension: P of the items made, over a heap B that does not know the new list D -/
def CPv (P : Nat → List V → Hp → Prop) (H : Hp) (D : Addr) (i : Nat) (H' : Hp) : Prop := ∃ acc B, Ex H B ∧ P i acc B ∧ B D = none ∧ Ex B H' ∧ H' D = some (.lst acc)
def CYes (P : Nat → List V → Hp → Prop) (H : Hp) (D : Addr) (i : Nat) (y : V) (H4 : Hp) : Prop := ∃ acc, H4 D = some (.lst acc) ∧ acc.length < sizeLine ∧ CPv P H D (i + 1) (upd H4 D (.lst (acc ++ [y])))
theorem cyes {P : Nat → List V → Hp → Prop} {D : Addr} {i : Nat} {H1 H4 : Hp} {acc : List V} (hD : H D = none) (e : Ex H H1) (hx : H1 D = some (.lst acc)) (hl : acc.length ≤ 100000) (e4 : Ex H1 H4) (p : P (i + 1) (acc ++ [y]) (del D H4)) : CYes P H D i y H4 :=
  ⟨acc, e4 D _ hx, Nat.lt_of_le_of_lt hl (by decide), acc ++ [y], del D H4, ex_del (e.trans e4) hD, p, del_self, fun a o q => by
    have na : a ≠ D := ne_of_none q del_self
    rw [upd_ne na]
    exact del_ex a o q, upd_same⟩
theorem cno {P : Nat → List V → Hp → Prop} {D : Addr} {i : Nat} {H1 H3 : Hp} {acc : List V} (hD : H D = none) (e : Ex H H1) (hx : H1 D = some (.lst acc)) (e4 : Ex H1 H3) (p : P (i + 1) acc (del D H3)) : CPv P H D (i + 1) H3 :=
  ⟨acc, del D H3, ex_del (e.trans e4) hD, p, del_self, del_ex, e4 D _ hx⟩
theorem w_comp (w : Walk J n G Y) (P : Nat → List V → Hp → Prop) (hY : ∀ i H x H', Y i H x H' → Ex H H') (hG : ∀ H', Ex H H' → G H') (h0 : P 0 [] H)
    (hs : ∀ i x acc D B H1 H', i < n → Ex H B → P i acc B → B D = none → Ex B H1 → H1 D = some (.lst acc) → H D = none → Y i H1 x H' → Ex H1 H' → g x (wipe σ vs) H' fun σ2 H2 => wipe σ2 vs = wipe σ vs ∧ tt σ2 H2 fun b H3 =>
      if b = true then te σ2 H3 (CYes P H D i) else CPv P H D (i + 1) H3)
    (hd : ∀ D B H' acc, H D = none → Ex H B → Ex B H' → B D = none → H' D = some (.lst acc) → P n acc B → Q (.ref D) H') : LcLoop J g tt te vs σ Q H := fun D hD =>
  lc_it w (CPv P H D) ⟨[], H, Ex.refl H, h0, hD, Ex.new hD, upd_same⟩ (fun i H' _ ⟨acc, B, e1, _, _, e2, _⟩ => hG H' (e1.trans e2)) (fun i x H1 H' hi ⟨acc, B, e1, p, b, e2, hx⟩ y => hs i x acc D B H1 H' hi e1 p b e2 hx hD y (hY i H1 x H' y))
    (fun H' ⟨acc, B, e1, p, b, e2, hx⟩ => hd D B H' acc hD e1 e2 b hx p)
/-! two clauses -/
def Inner (J1 : It) (g1 : TG) (tt1 : TT) (te : TE) (vs1 : List Nat) (σ2 : L2.St) (Nx : Hp → Prop) (D : Addr) (H4 : Hp) : Prop := ∃ W1 : Nat → Nat → Hp → Prop, (∃ m, W1 0 m H4) ∧ ∀ j k H, W1 j k H →
  (J1.stop j H ∧ Nx H) ∨ (J1.go j H ∧ ∃ Nx1 : Hp → Prop, (∀ H', Nx1 H' → ∃ k', k' < k ∧ W1 (j + 1) k' H') ∧ ∀ x H', J1.yld j H x H' → g1 x (wipe σ2 vs1) H' fun σ3 H5 => wipe σ3 vs1 = wipe σ2 vs1 ∧ tt1 σ3 H5 fun b H6 =>
    if b = true then te σ3 H6 fun y H7 => ∃ acc, H7 D = some (.lst acc) ∧ acc.length < sizeLine ∧ Nx1 (upd H7 D (.lst (acc ++ [y]))) else Nx1 H6)
def Lc2Loop (J : It) (g : TG) (tt : TT) (wi1 : TI) (g1 : TG) (tt1 : TT) (te : TE) (vs vs1 : List Nat) (σ : L2.St) (Q : VK) (H1 : Hp) : Prop := ∀ D, H1 D = none → ∃ W : Nat → Nat → Hp → Prop, (∃ m, W 0 m (upd H1 D (.lst []))) ∧ ∀ i m H, W i m H →
  (J.stop i H ∧ Q (.ref D) H) ∨ (J.go i H ∧ ∃ Nx : Hp → Prop, (∀ H', Nx H' → ∃ m', m' < m ∧ W (i + 1) m' H') ∧ ∀ x H', J.yld i H x H' → g x (wipe σ vs) H' fun σ2 H2 => wipe σ2 vs = wipe σ vs ∧ tt σ2 H2 fun b H3 =>
    if b = true then wi1 σ2 H3 fun J1 H4 => Inner J1 g1 tt1 te vs1 σ2 Nx D H4 else Nx H3)
theorem w_lc2 {wi1 : TI} {g1 : TG} {tt1 : TT} {vs1 : List Nat} (h : wi σ H fun J H1 => Lc2Loop J g tt wi1 g1 tt1 te vs vs1 σ Q H1) : tLc2 wi g tt wi1 g1 tt1 te vs vs1 σ H Q := h
theorem w_comp2 {wi1 : TI} {g1 : TG} {tt1 : TT} {vs1 : List Nat} (w : Walk J n G Y) (P : Nat → List V → Hp → Prop) (hY : ∀ i H x H', Y i H x H' → Ex H H') (hG : ∀ H', Ex H H' → G H') (h0 : P 0 [] H)
    (hs : ∀ i x acc D B H1 H', i < n → Ex H B → P i acc B → B D = none → Ex B H1 → H1 D = some (.lst acc) → H D = none → Y i H1 x H' → Ex H1 H' → g x (wipe σ vs) H' fun σ2 H2 => wipe σ2 vs = wipe σ vs ∧ tt σ2 H2 fun b H3 =>
      if b = true then wi1 σ2 H3 fun J1 H4 => Inner J1 g1 tt1 te vs1 σ2 (CPv P H D (i + 1)) D H4 else CPv P H D (i + 1) H3)
    (hd : ∀ D B H' acc, H D = none → Ex H B → Ex B H' → B D = none → H' D = some (.lst acc) → P n acc B → Q (.ref D) H') : Lc2Loop J g tt wi1 g1 tt1 te vs vs1 σ Q H := fun D hD => by
  refine ⟨fun i m H' => m = n - i ∧ i ≤ n ∧ CPv P H D i H', ⟨n, by simp, Nat.zero_le _, ⟨[], H, Ex.refl H, h0, hD, Ex.new hD, upd_same⟩⟩, ?_⟩
  rintro i m H' ⟨rfl, hi, p⟩
  obtain ⟨acc, B, e1, p, b, e2, hx⟩ := id p
  have q := hG H' (e1.trans e2)
  by_cases hlt : i < n
  · exact .inr ⟨w.goes i H' hlt q, CPv P H D (i + 1), fun H2 p' => ⟨n - (i + 1), by omega, rfl, hlt, p'⟩, fun x H2 y => hs i x acc D B H' H2 hlt e1 p b e2 hx hD (w.yields i H' x H2 hlt q y) (hY _ _ _ _ (w.yields i H' x H2 hlt q y))⟩
  · have e : i = n := by omega
    subst e
    exact .inl ⟨w.stops H' q, hd D B H' acc hD e1 e2 b hx p⟩
theorem w_inner {J1 : It} {n1 : Nat} {G1 : Hp → Prop} {Y1 : Nat → Hp → V → Hp → Prop} {g1 : TG} {tt1 : TT} {vs1 : List Nat} {D : Addr} {Nx : Hp → Prop} {Hb H4 : Hp} (w : Walk J1 n1 G1 Y1) (P : Nat → List V → Hp → Prop) (hY : ∀ i H x H', Y1 i H x H' → Ex H H') (hG : ∀ H', Ex Hb H' → G1 H')
    (hD : Hb D = none) (h0 : CPv P Hb D 0 H4)
    (hs : ∀ i x acc B H1 H', i < n1 → Ex Hb B → P i acc B → B D = none → Ex B H1 → H1 D = some (.lst acc) → Y1 i H1 x H' → Ex H1 H' → g1 x (wipe σ vs1) H' fun σ2 H2 => wipe σ2 vs1 = wipe σ vs1 ∧ tt1 σ2 H2 fun b H3 =>
      if b = true then te σ2 H3 (CYes P Hb D i) else CPv P Hb D (i + 1) H3)
    (hd : ∀ B H' acc, Ex Hb B → Ex B H' → B D = none → H' D = some (.lst acc) → P n1 acc B → Nx H') : Inner J1 g1 tt1 te vs1 σ Nx D H4 := by
  refine ⟨fun i m H' => m = n1 - i ∧ i ≤ n1 ∧ CPv P Hb D i H', ⟨n1, by simp, Nat.zero_le _, h0⟩, ?_⟩
  rintro i m H' ⟨rfl, hi, p⟩
  obtain ⟨acc, B, e1, p, b, e2, hx⟩ := id p
  have q := hG H' (e1.trans e2)
  by_cases hlt : i < n1
  · exact .inr ⟨w.goes i H' hlt q, CPv P Hb D (i + 1), fun H2 p' => ⟨n1 - (i + 1), by omega, rfl, hlt, p'⟩, fun x H2 y => hs i x acc B H' H2 hlt e1 p b e2 hx (w.yields i H' x H2 hlt q y) (hY _ _ _ _ (w.yields i H' x H2 hlt q y))⟩
  · have e : i = n1 := by omega
    subst e
    exact .inl ⟨w.stops H' q, hd B H' acc e1 e2 b hx p⟩
theorem w_gt2 {a : Addr} {i j : Nat} {x y : V} {Q : L2.St → Hp → Prop} (h : SqT K H a [x, y]) (k : Q ((σ.set i (some x)).set j (some y)) H) : gTup K 2 (gCons (gName i) (gCons (gName j) gNil)) (.ref a) σ H Q :=
  ⟨a, [x, y], rfl, h, rfl, x, [y], rfl, y, [], rfl, rfl, k⟩
theorem w_yes {P : Bool → Hp → Prop} (h : P true H) : tYes σ H P := h
/-! .. of ints -/
def PIs (P : Nat → List Int → Prop) : Nat → List V → Hp → Prop := fun i vs _ => ∃ acc : List Int, vs = acc.map V.int ∧ P i acc ∧ acc.length ≤ i
theorem w_compI (w : Walk J n G Y) (P : Nat → List Int → Prop) (hY : ∀ i H x H', Y i H x H' → Ex H H') (hG : ∀ H', Ex H H' → G H') (h0 : P 0 [])
    (hs : ∀ i x (acc : List Int) D H1 H', i < n → P i acc → acc.length ≤ i → Ex H H1 → H1 D = some (.lst (acc.map V.int)) → H D = none → Y i H1 x H' → Ex H1 H' → g x (wipe σ vs) H' fun σ2 H2 => wipe σ2 vs = wipe σ vs ∧ tt σ2 H2 fun b H3 =>
      if b = true then te σ2 H3 (CYes (PIs P) H D i) else CPv (PIs P) H D (i + 1) H3)
    (hd : ∀ D H' (acc : List Int), H D = none → Ex H H' → H' D = some (.lst (acc.map V.int)) → P n acc → acc.length ≤ n → Q (.ref D) H') : LcLoop J g tt te vs σ Q H :=
  w_comp w (PIs P) hY hG ⟨[], rfl, h0, Nat.zero_le _⟩ (fun i x acc D B H1 H' hi e1 ⟨ns, en, p, l⟩ b e2 hx hD y eY => by
    subst en
    exact hs i x ns D H1 H' hi p l (e1.trans e2) hx hD y eY) (fun D B H' acc hD e1 e2 b hx ⟨ns, en, p, l⟩ => by
    subst en
    exact hd D H' ns hD (e1.trans e2) hx p l)
theorem cyI {P : Nat → List Int → Prop} {D : Addr} {i : Nat} {H1 H4 : Hp} {acc : List Int} {m : Int} (hD : H D = none) (e : Ex H H1) (hx : H1 D = some (.lst (acc.map V.int))) (hl : acc.length ≤ i) (hi : i ≤ 100000) (e4 : Ex H1 H4) (p : P (i + 1) (acc ++ [m])) : CYes (PIs P) H D i (.int m) H4 :=
  cyes hD e hx (by rw [List.length_map]; omega) e4 ⟨acc ++ [m], by rw [List.map_append]; rfl, p, by rw [List.length_append]; exact Nat.succ_le_succ hl⟩
theorem cnI {P : Nat → List Int → Prop} {D : Addr} {i : Nat} {H1 H3 : Hp} {acc : List Int} (hD : H D = none) (e : Ex H H1) (hx : H1 D = some (.lst (acc.map V.int))) (hl : acc.length ≤ i) (e4 : Ex H1 H3) (p : P (i + 1) acc) : CPv (PIs P) H D (i + 1) H3 :=
  cno hD e hx e4 ⟨acc, rfl, p, Nat.le_succ_of_le hl⟩
theorem yAt {xs : List V} : ∀ i H x H', YAt xs i H x H' → Ex H H' := fun i H x H' y => by rw [y.1]; exact Ex.refl H
theorem yFn {f : Nat → V} : ∀ i H x H', YFn f i H x H' → Ex H H' := fun i H x H' y => by rw [y.1]; exact Ex.refl H
theorem yPair {xs ys : Nat → Option V} : ∀ i H x H', YPair xs ys i H x H' → Ex H H' := fun i H x H' ⟨T, a, b, h1, h2, h3, _⟩ => by rw [h3]; exact Ex.new h2
end
/-! ### a list that stands sealed: its items are known by a word alone -/
section
variable {P : Program} {w : World} {K : PySem.W.Frag} {mg : Str → Option Value} {base : Heap} {k : Nat} {f : Addr} {fd : FuncData} {ps : List Str} {sp sp' : Sp}
def SealP (t : Addr) (G : List V → Prop) (h : Heap) : Prop := ∃ xs, G xs ∧ xs.length ≤ sizeLine ∧ ∃ (its : List Value) (n : Nat), Vals xs its ∧ h.get? t = some { cls := .type "list", data := .seq its.toArray n }
def Sealed (t : Addr) (G : List V → Prop) : HO := .ext (SealP t G)
theorem stay_upd {H : Hp} {h : Heap} {t a : Addr} {o u : HO} (x : ObjOk P w H h a o) (hb : ∀ y, H t ≠ some (.own y)) (ht : ∀ xs, H t ≠ some (.tup xs)) : ObjOk P w (upd H t u) h a o :=
  x.stay (fun _ _ _ q => q) (fun b q => by rw [upd_ne (fun e => by subst e; exact hb _ q)]; exact q) fun b xs q => by rw [upd_ne (fun e => by subst e; exact ht _ q)]; exact q
theorem seal_open {H : Hp} {h : Heap} {t : Addr} {G : List V → Prop} (ok : HOk P w H h) (e : H t = some (Sealed t G)) : ∃ xs, G xs ∧ HOk P w (upd H t (.lst xs)) h := by
  obtain ⟨⟨xs, g, z, its, n, r, q⟩, _, _⟩ : SealP t G h ∧ (∃ o, h.get? t = some o) ∧ _ := ok t _ e
  refine ⟨xs, g, fun a o ea => ?_⟩
  by_cases ha : a = t
  · subst ha
    rw [upd_same] at ea
    cases ea
    exact ⟨z, its, n, r, q⟩
  · rw [upd_ne ha] at ea
    exact stay_upd (ok a o ea) (fun y q => by rw [e] at q; cases q) fun xs q => by rw [e] at q; cases q
theorem seal_close {H : Hp} {h : Heap} {t : Addr} {G : List V → Prop} {xs : List V} (ok : HOk P w H h) (e : H t = some (.lst xs)) (g : G xs) : HOk P w (upd H t (Sealed t G)) h := fun a o ea => by
  by_cases ha : a = t
  · subst ha
    rw [upd_same] at ea
    cases ea
    obtain ⟨z, its, n, r, q⟩ := ok a _ e
    exact ⟨⟨xs, g, z, its, n, r, q⟩, ⟨_, q⟩, fun h1 h2 ⟨xs, g, z, its, n, r, q⟩ hk => ⟨xs, g, z, its, n, r, hk _ q⟩⟩
  · rw [upd_ne ha] at ea
    exact stay_upd (ok a o ea) (fun y q => by rw [e] at q; cases q) fun xs q => by rw [e] at q; cases q
/-- a def that works on the list itself, called where it stands sealed -/
theorem fn_unseal (F : FnOk P w K mg base CX0 k f fd ps sp) (len : ∀ vs H Q E, sp' vs H Q E → vs.length = ps.length)
    (h : ∀ vs H Q E, sp' vs H Q E → ∃ t G, H t = some (Sealed t G) ∧ ∀ xs, G xs → sp vs (upd H t (.lst xs)) Q E) : FnOk P w K mg base CX0 k f fd ps sp' := by
  refine ⟨len, fun A outer s H args us vs Q E hr e0 hb hv hs => ?_⟩
  obtain ⟨t, G, et, hx⟩ := h vs H Q E hs
  obtain ⟨xs, g, ok⟩ := seal_open e0.hok et
  have nt : ∀ b, H b = none → b ≠ t := fun b q e => by rw [e, et] at q; cases q
  have e1 : Env0 P w K mg base A outer s (upd H t (.lst xs)) := ⟨e0.frames, e0.mod, fun b o q => ⟨(e0.bs b o q).1, by rw [upd_ne (nt b (e0.bs b o q).2)]; exact (e0.bs b o q).2⟩, e0.bsz, e0.funs, fun b q => by rw [upd_ne (nt b (e0.frf b q))]; exact e0.frf b q, ok, e0.bare⟩
  refine codeAny_mono (F.run A outer s _ args us vs Q E hr e1 hb hv (hx xs g)) fun r s' hq => ?_
  cases r with
  | error e => exact hq
  | ok fl =>
    cases fl with
    | ret u =>
      obtain ⟨v, H', os, bare, un, hok, rv, q⟩ := hq
      have ne : ∀ {b o}, H b = some o → o ≠ Sealed t G → b ≠ t := fun {b o} q n e => n (by rw [e, et] at q; exact (Option.some.inj q).symm)
      refine ⟨v, H', os, bare, ⟨fun b o q n => un.keep b o q (by rw [upd_ne (nt b n)]; exact n), fun b o q n => un.slot b o q (by rw [upd_ne (nt b n)]; exact n), fun b o q n => un.free b o q (by rw [upd_ne (nt b n)]; exact n), un.there, fun b xs q => ?_, fun b o u q => ?_, fun b ps q => ?_⟩, hok, rv, q⟩
      · exact un.tups b xs (by rw [upd_ne (ne q (fun z => by cases z))]; exact q)
      · exact un.frzs b o u (by rw [upd_ne (ne q (fun z => by cases z))]; exact q)
      · exact un.tbls b ps (by rw [upd_ne (ne q (fun z => by cases z))]; exact q)
    | next => exact False.elim hq
    | brk => exact False.elim hq
    | cont => exact False.elim hq
/-- .. and sealed again, or for the first time -/
theorem fn_seal (F : FnOk P w K mg base CX0 k f fd ps sp) (len : ∀ vs H Q E, sp' vs H Q E → vs.length = ps.length)
    (h : ∀ vs H Q E, sp' vs H Q E → sp vs H (fun v H' => ∃ t ys G, H' t = some (.lst ys) ∧ G ys ∧ Q v (upd H' t (Sealed t G))) E) : FnOk P w K mg base CX0 k f fd ps sp' := by
  refine ⟨len, fun A outer s H args us vs Q E hr e0 hb hv hs => ?_⟩
  refine codeAny_mono (F.run A outer s _ args us vs _ E hr e0 hb hv (h vs H Q E hs)) fun r s' hq => ?_
  cases r with
  | error e => exact hq
  | ok fl =>
    cases fl with
    | ret u =>
      obtain ⟨v, H', os, bare, un, hok, rv, t, ys, G, et, g, q⟩ := hq
      have nt : ∀ b, H' b = none → b ≠ t := fun b q e => by rw [e, et] at q; cases q
      refine ⟨v, _, os, bare, ⟨un.keep, un.slot, fun b o q n hx => ?_, un.there, fun b xs q => ?_, fun b o u q => ?_, fun b ps q => ?_⟩, seal_close hok et g, rv, q⟩
      · have z := un.free b o q n hx
        rw [upd_ne (nt b z)]
        exact z
      · have z := un.tups b xs q
        rw [upd_ne (fun e => by rw [e, et] at z; cases z)]
        exact z
      · have z := un.frzs b o u q
        rw [upd_ne (fun e => by rw [e, et] at z; cases z)]
        exact z
      · obtain ⟨m, z⟩ := un.tbls b ps q
        refine ⟨m, ?_⟩
        rw [upd_ne (fun e => by rw [e, et] at z; cases z)]
        exact z
    | next => exact False.elim hq
    | brk => exact False.elim hq
    | cont => exact False.elim hq
end
section
variable {X : Cx}
/-- i ** j, both written -/
theorem pe_powC {i j : Int} {z : Int} {a b : Nat} {p1 p2 p3 : Pos} (h : i ^ j.toNat = z) (hc : CPow i j) : PE X (.BinOp (.Constant (.int i) a p1) .Pow (.Constant (.int j) b p2) p3) (tC (.int z)) := by
  refine ⟨fun pins s σ H Q I q => ?_⟩
  exact (pe_op op_pow pe_int pe_int).run pins s σ H Q I ⟨i, j, rfl, rfl, hc, by show Q (.int (i ^ j.toNat)) H; rw [h]; exact q⟩
end
/-! ### the rules with the written part K told (within a comprehension it can't be read off) -/
section
variable {X : Cx} {T id : String} {name : Str} {o e e2 : Expr} {es : List Expr} {t ta : TA} {to te : TE} {r : V → List V → Hp → VK → Prop} {apos cpos p pos tpos : Pos} {elts : List Expr} {kk : Nat} {tg : Expr}
theorem ix_K (K : PySem.W.Frag) (h : X.K = K := by rfl) : IxR X (rIx K) := h ▸ ix_seq
theorem sl_K (K : PySem.W.Frag) (h : X.K = K := by rfl) : SlR X (rSlL K) := h ▸ sl_list
theorem eq_K (K : PySem.W.Frag) (hu : X.A.units + 64 < cLine) (h : X.K = K := by rfl) : OpR X (compareOp .Eq) (rEqA K) := h ▸ op_eqA hu
theorem ne_K (K : PySem.W.Frag) (hu : X.A.units + 64 < cLine) (h : X.K = K := by rfl) : OpR X (compareOp .NotEq) (rNeA K) := h ▸ op_neA hu
theorem in_K (K : PySem.W.Frag) (h : X.K = K := by rfl) : OpR X (compareOp .In) (rIn K false) := h ▸ op_in_seq
theorem ni_K (K : PySem.W.Frag) (h : X.K = K := by rfl) : OpR X (compareOp .NotIn) (rIn K true) := h ▸ op_notIn_seq
theorem len_K (K : PySem.W.Frag) (h : X.K = K := by rfl) : CallR X (.builtin "len") (rLen K) := h ▸ call_len_seq
theorem lst_K (K : PySem.W.Frag) (h : X.K = K := by rfl) : CallR X (.type "list") (rLst K) := h ▸ call_list_of
theorem int_K (K : PySem.W.Frag) (_ : X.K = K := by rfl) : CallR X (.type "int") rInt := call_int1
theorem sum_K (K : PySem.W.Frag) (hc : X.calm = true := by rfl) (h : X.K = K := by rfl) : CallR X (.builtin "sum") (rSum K) := h ▸ cr_sum hc
theorem isi_K (K : PySem.W.Frag) (h : X.K = K := by rfl) : CallR X (.builtin "isinstance") (rIsi K) := h ▸ call_isi
theorem tru_K (K : PySem.W.Frag) (ha : PE X e to) (he : ∀ whole, isTrue e X.env whole = (do let v ← whole; standAt e.pos; holding [v] (truthy v))) (h : X.K = K := by rfl) : PT X e (tTru K to) := h ▸ pt_truth ha he
theorem pi_lstK (K : PySem.W.Frag) {l : Expr} {tl : TE} (hl : PE X l tl) (h : X.K = K := by rfl) : PI X tg l (iList K tl) := h ▸ pi_list hl
theorem pi_enumK (K : PySem.W.Frag) (hg : Gl X "enumerate") (hm : X.mg "enumerate" = none) (ha : PA X [e] ta) (h : X.K = K := by rfl) (hs : starEach [e] X.env = [(false, eval e X.env)] := by rfl) :
    PI X (.Tuple elts kk tpos) (.Call (.Name "enumerate" p) [e] [] pos) (iEnum K ta) := h ▸ pi_enum hg hm ha hs
theorem pg_tupK (K : PySem.W.Frag) {k : Nat} {n : Nat} {t : TGs} (hc : X.calm = true) (h : PGs X es t) (h2 : X.K = K := by rfl) (hn : (assignEach es X.env).length = n := by rfl) (hst : (assignEach es X.env).findIdx? (·.1) = none := by rfl) : PG X (.Tuple es k pos) (gTup K n t) := h2 ▸ pg_tup hc h hn hst
theorem bm_K (K : PySem.W.Frag) (pa : PlainAttrs T) (slot : Slot T name id) (hty : typeOf (.builtin id) = pure (.type "method_descriptor")) (hm : MtR X id r) (ho : PE X o to) (ha : PA X (e :: es) t) (h : X.K = K := by rfl)
    (hbase : attributeBase o name X.env (eval o X.env) = eval o X.env := by rfl)
    (hfew : ((backTo cpos (starEach (e :: es) X.env)).all (fun x => !x.1) && (backToKw cpos (keywordEach [] X.env)).all (fun x => x.1.isSome)
      && decide ((e :: es).length + ([] : List Keyword).length + (if ([] : List Keyword).isEmpty then 0 else 1) < 30)) = true := by rfl)
    (hline : (apos.endLine == cpos.line) = true := by rfl) (hs : starEach (e :: es) X.env = (false, eval e X.env) :: starEach es X.env := by rfl) (hplain : (backTo cpos (starEach es X.env)).any (·.1) = false := by rfl) :
    PE X (.Call (.Attribute o name apos) (e :: es) [] cpos) (tBM K T r to t) := h ▸ pe_bm pa slot hty hm ho ha hbase hfew hline hs hplain
theorem bm0_K (K : PySem.W.Frag) (pa : PlainAttrs T) (slot : Slot T name id) (hty : typeOf (.builtin id) = pure (.type "method_descriptor")) (hm : MtR X id r) (ho : PE X o to) (h : X.K = K := by rfl)
    (hbase : attributeBase o name X.env (eval o X.env) = eval o X.env := by rfl) (hline : (apos.endLine == cpos.line) = true := by rfl) : PE X (.Call (.Attribute o name apos) [] [] cpos) (tBM0 K T r to) := h ▸ pe_bm0 pa slot hty hm ho hbase hline
end
end PL
namespace PG
open PySem PySem.Spec PyProof.Rows L2 GxR
set_option maxHeartbeats 4000000
/-! ### all(test for x in a list of ints), the test reads one captured int -/
/-- the test of the int n where the captured name y holds z -/
def EltZ (prog : Program) (w : World) (scope : Scope) (x y : Str) (elt : Expr) (pb : Int → Int → Bool) : Prop :=
  ∀ (ce : Env) (A2 : Around) (E2 : Value → Shared → Prop) (n z : Int) (t u : Tok) (s2 : Shared) (m2 : Str → Option Value) (c : Addr), ce.scope = scope → s2.heap.Ns ce.locals m2 → m2 x = some (.int n t) → ce.cells.lookup y = some c →
    s2.heap.IsCell c (some (.int z u)) → wpAny (model prog w) A2 (eval elt ce) (fun r s3 => r = .bool (pb z n) ∧ Keeps s2 s3) E2 s2
theorem chain_int {prog : Program} {w : World} {A : Around} {E : Value → Shared → Prop} {s : Shared} {a b : Int} {t u : Tok} {Q : Value → Shared → Prop} (h : Q (.bool (decide (a ≤ b))) s) : wpAny (model prog w) A (compareOp .LtE (.int a t) (.int b u)) Q E s := le_int h
/-- 0 <= x < y -/
theorem elt_in {prog : Program} {w : World} {scope : Scope} {x y : Str} {j : Nat} {p1 p2 p3 p4 : Pos} (hk : scope.kind = .function) (hx : scope.names.lookup x = some .local) (hy : scope.names.lookup y = some .free)
    (dx : (x == ("__debug__" : Str)) = false := by decide) (dy : (y == ("__debug__" : Str)) = false := by decide) (cy : (y == ("__classdict__" : Str)) = false := by decide)
    (hm : lastMarks [.LtE, .Lt] [.Name x p2, .Name y p3] = false := by with_unfolding_all rfl) :
    EltZ prog w scope x y (.Compare (.Constant (.int 0) j p1) [.LtE, .Lt] [.Name x p2, .Name y p3] p4) (fun z n => decide (0 ≤ n) && decide (n < z)) := by
  intro ce A2 E2 n z t u s2 m2 c hs hn hx2 hc hcell
  have lx : ∀ {Q : Value → Shared → Prop} {s3 : Shared}, s3.heap = s2.heap → Q (.int n t) s3 → wpAny (model prog w) A2 (eval (.Name x p2) ce) Q E2 s3 := fun {Q s3} e q =>
    wpAny_Name (wpAny_loadName_local (by rw [hs]; exact hk) (show ce.scope.names.lookup x = _ by rw [hs]; exact hx) (by rw [e]; exact hn) hx2 q) dx
  have ly : ∀ {Q : Value → Shared → Prop} {s3 : Shared}, s3.heap = s2.heap → Q (.int z u) s3 → wpAny (model prog w) A2 (eval (.Name y p3) ce) Q E2 s3 := fun {Q s3} e q =>
    wpAny_Name (wpAny_loadName_free (by rw [hs]; exact hk) (show ce.scope.names.lookup y = _ by rw [hs]; exact hy) hc (by rw [e]; exact hcell) q cy) dy
  refine Compare_chain (wpAny_Constant_int (chain_link (lx rfl (chain_int ?_)))) hm
  refine wpAny_truthy_bool ?_
  by_cases h0 : 0 ≤ n
  · rw [decide_eq_true h0]
    exact ite_tt (chain_last (ly rfl (lt_int ⟨by show _ = Value.bool (decide (0 ≤ n) && _); rw [decide_eq_true h0, Bool.true_and], keeps_tok s2 _⟩)))
  · rw [decide_eq_false h0]
    exact ite_ff ⟨by show _ = Value.bool (decide (0 ≤ n) && _); rw [decide_eq_false h0, Bool.false_and], keeps_tok s2 _⟩
/-- the test at place j -/
def trI (pb : Int → Bool) (l : List Int) (j : Nat) : Bool := ((l[j]?).map pb).getD false
theorem all_trI (l : List Int) (pb : Int → Bool) : (List.range l.length).all (trI pb l) = l.all pb := by
  refine Bool.eq_iff_iff.mpr ⟨fun h => List.all_eq_true.mpr fun b hb => ?_, fun h => List.all_eq_true.mpr fun j hj => ?_⟩
  · obtain ⟨j, hj, e⟩ := List.getElem_of_mem hb
    have q := List.all_eq_true.mp h j (List.mem_range.mpr hj)
    unfold trI at q
    rw [List.getElem?_eq_getElem hj, e] at q
    exact q
  · have hl := List.mem_range.mp hj
    unfold trI
    rw [List.getElem?_eq_getElem hl]
    exact List.all_eq_true.mp h _ (List.getElem_mem hl)
/-- the generator g over the ints ns, not yet walked -/
def ReadyZ (X : Cx) (pins : List (Addr × Obj)) (σ : L2.St) (H1 : Hp) (P : Addr) (ns : List Int) (pb : Int → Bool) (g : Addr) (s5 : Shared) : Prop :=
  ∃ (fp wr : List Addr) (G : Array GenState → Array GenState → Prop) (F : Nat → Value → Prop) (S : Nat → Shared → Prop), WalksS X.prog X.w X.A.in1 g fp wr G ns.length F S ∧ S 0 s5 ∧ TruthOf X.prog X.w X.A.in1 F (trI pb ns) ∧
    ∀ s6, Moved wr G s5 s6 → ∃ H2, Tabbed P H1 H2 ∧ Inv X pins σ H2 s6
section
variable {X : Cx} {pins : List (Addr × Obj)} {σ : L2.St} {H : Hp} {s : Shared}
theorem gen_ints {c P : Addr} {elt iter : Expr} {x y : Str} {px gp : Pos} {scope : Scope} {pb : Int → Int → Bool} {te : TE} {k i : Nat} {Q' : Value → Shared → Prop} {R : Int → List Int → Hp → Prop}
    (hr : Room k X.A) (TB : TabB X.base X.mg c P) (hco : X.env.code = .ref c) (S : GenS X.env scope x) (hi : PE X iter te) (hN : X.N[i]? = some y) (hy : X.env.scope.names.lookup y = some .cell)
    (hcl : ∀ cs : List (Str × Addr), (cloFrom cs scope.names []).lookup y = some ((cs.lookup y).getD 0)) (hel : EltZ X.prog X.w scope x y elt pb) (hs : ∀ v, genFold iter X.env v = pure v) (I : Inv X pins σ H s)
    (h : te σ H fun v H1 => ∃ (l : Addr) (ns : List Int) (z : Int), v = .ref l ∧ SqL X.K H1 l (ns.map V.int) ∧ TabG H1 P ∧ σ[i]? = some (some (.int z)) ∧ R z ns H1) (hQ : ∀ z ns H1 g s5, R z ns H1 → ReadyZ X pins σ H1 P ns (pb z) g s5 → Q' (.ref g) s5) :
    wpAny (model X.prog X.w) X.A (eval (.GeneratorExp elt [⟨.Name x px, iter, [], 0⟩] scope gp) X.env) Q' X.xe s := by
  refine wpAny_GeneratorExp_walksQ hr.hd S.co (closure_ok S.free) S.cell S.dot S.loc S.kind (Nat.lt_of_le_of_lt (Nat.le_refl _) hr.depth) (thn (hi.run pins s σ H _ I h) fun xv s1 ⟨v, H1, I1, r1, l, ns, z, ev, hl, ⟨ps, hP, ht⟩, hz, q1⟩ => ?_) hs
  subst ev
  cases r1
  obtain ⟨its, rv, hli, hsz⟩ := I1.list hl
  have isl := hli.isList
  have len : its.length = ns.length := by rw [← rv.length, List.length_map]
  -- the captured int's cell
  obtain ⟨m, _, look⟩ := id I1.loc
  obtain ⟨zv, rz, lk⟩ := look i y _ hN hz (.inr (.inl hy))
  obtain ⟨cc, ecc, icc, zt, ezv⟩ : ∃ cc, X.env.cells.lookup y = some cc ∧ s1.heap.IsCell cc (some zv) ∧ ∃ zt, zv = Value.int z zt := by
    rcases lk with ⟨e, _⟩ | ⟨_, cc, e1, e2⟩
    · have e' : X.env.scope.names.lookup y = some .local := e
      rw [hy] at e'
      cases e'
    · exact ⟨cc, e1, e2, rz⟩
  subst ezv
  have itm : ∀ (j : Nat) (v : Value), its.toArray[j]? = some v → ∃ (a : Int) (u : Tok), ns[j]? = some a ∧ v = .int a u := fun j v hv => by
    have hv2 : its[j]? = some v := by simpa using hv
    have hj2 : j < ns.length := by rw [← len]; exact (List.getElem?_eq_some_iff.mp hv2).1
    have hb : (ns.map V.int)[j]? = some (V.int ns[j]) := by rw [List.getElem?_map, List.getElem?_eq_getElem hj2]; rfl
    obtain ⟨u, hu, ru⟩ := rv.get hb
    rw [hv2] at hu
    cases hu
    obtain ⟨t, e⟩ := (show ∃ t, v = Value.int ns[j] t from ru)
    exact ⟨_, t, List.getElem?_eq_getElem hj2, e⟩
  refine wpAny_pyIter_list isl ?_
  generalize ho : ({ cls := .type "list_iterator", data := .fields #[.ref l, .int 0 0] } : Obj) = o
  have itr : (s1.heap.push o).IsListIter s1.heap.objs.size l 0 := by subst ho; exact ⟨_, Heap.get?_push_size _ rfl, rfl, rfl⟩
  have lsz : l < s1.heap.objs.size := let ⟨_, e, _⟩ := isl; Heap.lt_size e
  have Ps : s1.heap.get? P = some { cls := .none, data := .fields ps } := I1.hok P _ hP
  have Psz : P < s1.heap.objs.size := Heap.lt_size Ps
  have P2 : (s1.heap.push o).get? P = some { cls := .none, data := .fields ps } := Heap.get?_push_of_some _ Ps
  have cd : PySem.W.CodeHd (s1.heap.push o) c P := TB.code.keeps fun b u e => Heap.get?_push_of_some _ (I1.bk b u e)
  have lim : (s1.heap.push o).NoLimit := I1.nolimit.push o
  refine ⟨lim, wpAny_mono (Q := fun code s3 => ∃ (h3 : Heap) (tk : Nat) (ps3 : Array Value), s3 = { s1 with heap := h3, toks := tk } ∧ Heap.ExtBut P (s1.heap.push o) h3 ∧ (s1.heap.push o).objs.size ≤ h3.objs.size ∧
    h3.get? P = some { cls := .none, data := .fields ps3 } ∧ (∃ more, ps3 = ps ++ more) ∧ TriplesOk ps3.toList) ?_ (fun code s3 hs3 => ?_) fun _ _ e => e⟩
  · cases hf : codeAmong gp ps.toList with
    | some cv => exact wpAny_genexprCode_hit hco (cd.code P2 ht) hf ⟨s1.heap.push o, s1.toks, ps, rfl, Heap.ExtBut.refl _ _, Nat.le_refl _, P2, ⟨#[], by simp⟩, ht⟩
    | none =>
      refine wpAny_genexprCodeX hco (cd.code P2 ht) (cd.tab P2) hf fun c2 h3 tk hx hge hlt hco2 _ htab2 _ => ?_
      obtain ⟨o1, vs, f1, tf, fl, tg, inF, tx, tt, op, _, _, _, _, _, _, _, _, _, htr, _⟩ := hco2
      exact ⟨h3, tk, _, rfl, hx, Nat.le_trans hge (Nat.le_of_lt hlt), htab2.2, ⟨_, rfl⟩, htr⟩
  obtain ⟨h3, tk, ps3, rfl, hx, hge, hP3, hmore, ht3⟩ := hs3
  obtain ⟨bm, ob, e1, e2, e3, e4, e5, e6, e7, e8⟩ := TB.bm
  have cP : cStatics ≠ P := fun e => by
    obtain ⟨_, ⟨o2, es, ep, hb, hd, _⟩, _⟩ := I1.nolimit
    rw [e, Ps] at hb
    cases hb
    cases hd
  have csz : cStatics < s1.heap.objs.size := let ⟨_, hns, _⟩ := I1.nolimit; hns.lt
  have sz2 : (s1.heap.push o).objs.size = s1.heap.objs.size + 1 := Heap.size_push ..
  have kp3 : ∀ b u, b ≠ P → s1.heap.get? b = some u → h3.get? b = some u := fun b u hb e => hx b u hb (Heap.get?_push_of_some _ e)
  refine wpAny_builtinsFor (m := X.mg) (by rw [I1.ok.glob]; exact ((I1.mod.glob.keeps I1.bk).push o).extBut hx TB.gP) e1 e2 (kp3 _ _ e4 (I1.bk _ _ e5)) e6 e7 e8 ?_
  have lP : l ≠ P := fun z => by
    obtain ⟨_, e, hc1, _, hd1⟩ := id isl
    rw [z, Ps] at e
    cases e
    cases hd1
  have ccP : cc ≠ P := fun e => by
    obtain ⟨o2, hb, hd⟩ := icc
    rw [e, Ps] at hb
    cases hb
    cases hd
  obtain ⟨oc, goc, doc⟩ := id icc
  have csz2 : cc < s1.heap.objs.size := Heap.lt_size goc
  refine ⟨s1.heap.objs.size, [s1.heap.objs.size, l], [s1.heap.objs.size], its.toArray.size, (fun j v => its.toArray[j]? = some v), (fun j h => h.IsListIter s1.heap.objs.size l j ∧ h.IsList l its.toArray), (fun _ => true), (fun j r => ∃ a : Int, ns[j]? = some a ∧ r = .bool (pb z a)), rfl,
    (fun A2 hA => Walks.list hA _ _ (Nat.ne_of_lt lsz) _), ⟨itr.at fun u e => hx _ u (Nat.ne_of_gt Psz) e, let ⟨ob2, e, r⟩ := id isl; ⟨ob2, kp3 _ _ lP e, r⟩⟩, (fun b hb => ?_), lim.extBut hx cP, (fun e => ?_), (fun href kh => ⟨fun A2 E2 j v s2 m2 hA hv hn hm hk => ?_, fun A2 E2 j v s2 m2 hA hv hp hn hm hk => ?_⟩), fun g h5 tk5 gs hgb hag hsz5 hk5 W5 hat => ?_⟩
  · have hb2 : b = s1.heap.objs.size ∨ b = l := by simpa using hb
    show (b : Nat) < h3.objs.size
    rcases hb2 with e | e
    · rw [e]; exact Nat.lt_of_lt_of_le (Nat.lt_of_lt_of_eq (Nat.lt_succ_self _) sz2.symm) hge
    · rw [e]; exact Nat.lt_of_lt_of_le (Nat.lt_trans lsz (Nat.lt_of_lt_of_eq (Nat.lt_succ_self _) sz2.symm)) hge
  · have e2 : cStatics = s1.heap.objs.size := by simpa using e
    exact Nat.ne_of_lt csz e2
  · simp only [List.forIn_nil]
    exact wpAny_pure ⟨rfl, keeps_refl _⟩
  · obtain ⟨a, u, ha, rfl⟩ := itm j v hv
    have nw : cc ∉ [s1.heap.objs.size] := fun e => Nat.ne_of_lt csz2 (by simpa using e)
    have hcc : s2.heap.IsCell cc (some (.int z zt)) := ⟨oc, hk cc (List.mem_range.mpr (Nat.lt_of_lt_of_le (Nat.lt_trans csz2 (Nat.lt_of_lt_of_eq (Nat.lt_succ_self _) sz2.symm)) hge)) nw oc (kh cc oc (kp3 cc oc ccP goc)), doc⟩
    refine wpAny_mono (hel _ A2 E2 a z u zt s2 m2 cc rfl hn hm ?_ hcc) (fun r s3 q => ⟨⟨a, ha, q.1⟩, q.2⟩) fun _ _ e => e
    show (cloFrom X.env.cells scope.names []).lookup y = some cc
    rw [hcl, ecc]
    rfl
  · simp only [GxR.passing_true, List.length_range] at W5
    have n5 : its.toArray.size = ns.length := by rw [List.size_toArray, len]
    rw [n5] at W5 hat
    refine hQ z ns H1 g _ q1 ⟨_, _, _, _, _, W5.in4_1, hat, ?_, fun s6 hm => ?_⟩
    · intro j r sj Qj Ej hy2 hQj
      obtain ⟨i2, hij, a, ha, er⟩ := hy2
      obtain ⟨hj, ej⟩ := List.getElem?_eq_some_iff.mp hij
      rw [List.getElem_range] at ej
      subst ej er
      have hQ2 : Qj (trI (pb z) ns j) sj := hQj
      unfold trI at hQ2
      rw [ha] at hQ2
      exact wpAny_truthy_bool hQ2
    · obtain ⟨more, em⟩ := hmore
      have nwr : ∀ b u, s1.heap.get? b = some u → b ∉ h3.objs.size :: [s1.heap.objs.size] := fun b u e hb => by
        have hl2 := Heap.lt_size e
        have hb2 : b = h3.objs.size ∨ b = s1.heap.objs.size := by simpa using hb
        rcases hb2 with e2 | e2
        · rw [e2] at hl2
          exact absurd (Nat.lt_of_lt_of_le (Nat.lt_of_lt_of_eq (Nat.lt_succ_of_lt hl2) sz2.symm) hge) (Nat.lt_irrefl _)
        · rw [e2] at hl2
          exact Nat.lt_irrefl _ hl2
      have J := inv_tab (more := more) (h' := s6.heap) (g' := s6.gens) (d' := s6.drawn) (t' := s6.toks) I1 hP (fun b u hb e => hm.heap b u (nwr b u e) (hk5 b u (kp3 b u hb e))) (by rw [← em]; exact hm.heap P _ (nwr P _ Ps) (hk5 P _ hP3)) (AllBare.movedS (I1.bare.push hgb) hm)
      rw [sh_eta s1 s6 hm.os] at J
      exact ⟨_, ⟨⟨ps ++ more, upd_same, by rw [← em]; exact ht3⟩, fun b hb => upd_ne hb⟩, J⟩
/-- all(test for x in e), the test of slot i's int -/
def tAllZ (K : PySem.W.Frag) (P : Addr) (i : Nat) (pb : Int → Int → Bool) (te : TE) : TE := fun σ H Q => te σ H fun v H1 => ∃ (l : Addr) (ns : List Int) (z : Int), v = .ref l ∧ SqL K H1 l (ns.map V.int) ∧ TabG H1 P ∧ σ[i]? = some (some (.int z)) ∧ ∀ H2, Tabbed P H1 H2 → Q (.bl (ns.all (pb z))) H2
theorem pe_allZ {c P : Addr} {elt iter : Expr} {x y : Str} {px p pos gp : Pos} {scope : Scope} {pb : Int → Int → Bool} {te : TE} {k i : Nat}
    (hr : Room k X.A) (hg : Gl X "all") (hm : X.mg "all" = none) (hb : bootBuiltins "all" = some (.builtin "all")) (TB : TabB X.base X.mg c P) (hco : X.env.code = .ref c) (S : GenS X.env scope x) (hi : PE X iter te) (hN : X.N[i]? = some y) (hy : X.env.scope.names.lookup y = some .cell)
    (hcl : ∀ cs : List (Str × Addr), (cloFrom cs scope.names []).lookup y = some ((cs.lookup y).getD 0)) (hel : EltZ X.prog X.w scope x y elt pb) (hs : ∀ v, genFold iter X.env v = pure v)
    (he : starEach [.GeneratorExp elt [⟨.Name x px, iter, [], 0⟩] scope gp] X.env = (false, eval (.GeneratorExp elt [⟨.Name x px, iter, [], 0⟩] scope gp) X.env) :: starEach [] X.env := by rfl) :
    PE X (.Call (.Name "all" p) [.GeneratorExp elt [⟨.Name x px, iter, [], 0⟩] scope gp] [] pos) (tAllZ X.K P i pb te) := by
  refine ⟨fun pins s σ H Q I h => wpAny_Call_Name_kw (ld_blt I hg hm hb (PyProof.Rows.callWith_builtin1 ?_ he (by rfl)))⟩
  rw [he]
  show wpAny _ _ (spliced ((false, _) :: backTo pos (starEach [] X.env))) _ _ s
  refine Calls.spliced_cons (gen_ints (R := fun z ns H1 => ∀ H2, Tabbed P H1 H2 → Q (.bl (ns.all (pb z))) H2) hr TB hco S hi hN hy hcl hel hs I h fun z ns H1 g s5 hR hG => ?_)
  obtain ⟨fp, wr, G, F, S2, W, hst, htr, hI⟩ := hG
  refine Calls.spliced_nil (call_all_walkS (W.self 0 _ _ _ hst ⟨g, fp, wr, G, _, F, S2, _, rfl, W, hst, htr, fun s6 hmv => ?_⟩))
  obtain ⟨H2, hT, J⟩ := hI s6 hmv
  refine ⟨.bl _, H2, J, rfl, ?_⟩
  rw [all_trI ns (pb z)]
  exact hR H2 hT
end
end PG
namespace PG
open PySem PySem.Spec PyProof.Rows L2 GxR PL
set_option maxHeartbeats 4000000
/-! ### a def's table of code objects that stands sealed -/
def TabP (P : Addr) (p0 : Array Value) (h : Heap) : Prop := ∃ more : Array Value, h.get? P = some { cls := .none, data := .fields (p0 ++ more) } ∧ TriplesOk (p0 ++ more).toList
def TabS (P : Addr) (p0 : Array Value) : HO := .ext (TabP P p0)
section
variable {PR : Program} {w : World} {K : PySem.W.Frag} {mg : Str → Option Value} {base : Heap} {k : Nat} {f P : Addr} {fd : FuncData} {ps : List Str} {sp sp' : Sp}
theorem tabS_open {H : Hp} {h : Heap} {p0 : Array Value} (ok : HOk PR w H h) (e : H P = some (TabS P p0)) : ∃ more : Array Value, TriplesOk (p0 ++ more).toList ∧ HOk PR w (upd H P (.tbl (p0 ++ more))) h := by
  obtain ⟨⟨more, g, ht⟩, _, _⟩ : TabP P p0 h ∧ (∃ o, h.get? P = some o) ∧ _ := ok P _ e
  refine ⟨more, ht, fun a o ea => ?_⟩
  by_cases ha : a = P
  · subst ha
    rw [upd_same] at ea
    cases ea
    exact g
  · rw [upd_ne ha] at ea
    exact stay_upd (ok a o ea) (fun y q => by rw [e] at q; cases q) fun xs q => by rw [e] at q; cases q
theorem tabS_close {H : Hp} {h : Heap} {p0 more : Array Value} (ok : HOk PR w H h) (e : H P = some (.tbl (p0 ++ more))) (ht : TriplesOk (p0 ++ more).toList) : HOk PR w (upd H P (TabS P p0)) h := fun a o ea => by
  by_cases ha : a = P
  · subst ha
    rw [upd_same] at ea
    cases ea
    have g : h.get? a = some { cls := .none, data := .fields (p0 ++ more) } := ok a _ e
    exact ⟨⟨more, g, ht⟩, ⟨_, g⟩, fun h1 h2 ⟨m2, g2, t2⟩ hk => ⟨m2, hk _ g2, t2⟩⟩
  · rw [upd_ne ha] at ea
    exact stay_upd (ok a o ea) (fun y q => by rw [e] at q; cases q) fun xs q => by rw [e] at q; cases q
/-- a def whose body works on the table, called where it stands sealed -/
theorem fn_tab (P : Addr) (F : FnOk PR w K mg base CX0 k f fd ps sp) (len : ∀ vs H Q E, sp' vs H Q E → vs.length = ps.length)
    (h : ∀ vs H Q E, sp' vs H Q E → ∃ p0, H P = some (TabS P p0) ∧ ∀ p1, TriplesOk p1.toList → sp vs (upd H P (.tbl p1)) (fun v H' => TabG H' P ∧ Q v (upd H' P (TabS P p0))) E) : FnOk PR w K mg base CX0 k f fd ps sp' := by
  refine ⟨len, fun A outer s H args us vs Q E hr e0 hb hv hs => ?_⟩
  obtain ⟨p0, et, hx⟩ := h vs H Q E hs
  obtain ⟨more, ht, ok⟩ := tabS_open e0.hok et
  have nt : ∀ b, H b = none → b ≠ P := fun b q e => by rw [e, et] at q; cases q
  have e1 : Env0 PR w K mg base A outer s (upd H P (.tbl (p0 ++ more))) := ⟨e0.frames, e0.mod, fun b o q => ⟨(e0.bs b o q).1, by rw [upd_ne (nt b (e0.bs b o q).2)]; exact (e0.bs b o q).2⟩, e0.bsz, e0.funs, fun b q => by rw [upd_ne (nt b (e0.frf b q))]; exact e0.frf b q, ok, e0.bare⟩
  refine codeAny_mono (F.run A outer s _ args us vs _ E hr e1 hb hv (hx _ ht)) fun r s' hq => ?_
  cases r with
  | error e => exact hq
  | ok fl =>
    cases fl with
    | ret u =>
      obtain ⟨v, H', os, bare, un, hok, rv, ⟨p2, e2, t2⟩, q⟩ := hq
      obtain ⟨m3, e3⟩ := un.tbls P (p0 ++ more) upd_same
      have e4 : p2 = p0 ++ (more ++ m3) := by
        rw [e2] at e3
        have z : HO.tbl p2 = HO.tbl (p0 ++ more ++ m3) := Option.some.inj e3
        injection z with z
        rw [z, Array.append_assoc]
      subst e4
      have ne : ∀ {b o}, H b = some o → o ≠ TabS P p0 → b ≠ P := fun {b o} q n e => n (by rw [e, et] at q; exact (Option.some.inj q).symm)
      have nt2 : ∀ {b : Addr} {o : HO}, H' b = some o → (∀ z, o ≠ .tbl z) → b ≠ P := fun {b o} q n e => by
        rw [e, e2] at q
        exact n _ (Option.some.inj q).symm
      refine ⟨v, _, os, bare, ⟨fun b o q n => un.keep b o q (by rw [upd_ne (nt b n)]; exact n), fun b o q n => un.slot b o q (by rw [upd_ne (nt b n)]; exact n), fun b o q n hx => ?_, un.there, fun b xs q => ?_, fun b o u q => ?_, fun b qs q => ?_⟩, tabS_close hok e2 t2, rv, q⟩
      · rw [upd_ne (nt b n)]
        exact un.free b o q (by rw [upd_ne (nt b n)]; exact n) hx
      · have nb := ne q (fun z => by cases z)
        rw [upd_ne nb]
        exact un.tups b xs (by rw [upd_ne nb]; exact q)
      · have nb := ne q (fun z => by cases z)
        rw [upd_ne nb]
        exact un.frzs b o u (by rw [upd_ne nb]; exact q)
      · have nb := ne q (fun z => by cases z)
        rw [upd_ne nb]
        exact un.tbls b qs (by rw [upd_ne nb]; exact q)
    | next => exact False.elim hq
    | brk => exact False.elim hq
    | cont => exact False.elim hq
theorem trip0 : TriplesOk (#[] : Array Value).toList := trivial
/-- sealed at the door -/
theorem fn_tab0 (P : Addr) (F : FnOk PR w K mg base CX0 k f fd ps sp) (len : ∀ vs H Q E, sp' vs H Q E → vs.length = ps.length)
    (h : ∀ vs H Q E, sp' vs H Q E → H P = some (.tbl #[]) ∧ sp vs (upd H P (TabS P #[])) (fun v H' => H' P = some (TabS P #[]) ∧ ∀ p1, Q v (upd H' P (.tbl p1))) E) : FnOk PR w K mg base CX0 k f fd ps sp' := by
  refine ⟨len, fun A outer s H args us vs Q E hr e0 hb hv hs => ?_⟩
  obtain ⟨et, hx⟩ := h vs H Q E hs
  have nt : ∀ b, H b = none → b ≠ P := fun b q e => by rw [e, et] at q; cases q
  have em : (#[] : Array Value) ++ #[] = #[] := by simp
  have e1 : Env0 PR w K mg base A outer s (upd H P (TabS P #[])) := ⟨e0.frames, e0.mod, fun b o q => ⟨(e0.bs b o q).1, by rw [upd_ne (nt b (e0.bs b o q).2)]; exact (e0.bs b o q).2⟩, e0.bsz, e0.funs, fun b q => by rw [upd_ne (nt b (e0.frf b q))]; exact e0.frf b q,
    tabS_close (more := #[]) e0.hok (by rw [em]; exact et) (by rw [em]; exact trip0), e0.bare⟩
  refine codeAny_mono (F.run A outer s _ args us vs _ E hr e1 hb hv hx) fun r s' hq => ?_
  cases r with
  | error e => exact hq
  | ok fl =>
    cases fl with
    | ret u =>
      obtain ⟨v, H', os, bare, un, hok, rv, e2, q⟩ := hq
      obtain ⟨m3, t3, ok3⟩ := tabS_open hok e2
      have ne : ∀ {b o}, H b = some o → o ≠ .tbl #[] → b ≠ P := fun {b o} q n e => n (by rw [e, et] at q; exact (Option.some.inj q).symm)
      refine ⟨v, _, os, bare, ⟨fun b o q n => un.keep b o q (by rw [upd_ne (nt b n)]; exact n), fun b o q n => un.slot b o q (by rw [upd_ne (nt b n)]; exact n), fun b o q n hx => ?_, un.there, fun b xs q => ?_, fun b o u q => ?_, fun b qs qt => ?_⟩, ok3, rv, q _⟩
      · rw [upd_ne (nt b n)]
        exact un.free b o q (by rw [upd_ne (nt b n)]; exact n) hx
      · have nb := ne q (fun z => by cases z)
        rw [upd_ne nb]
        exact un.tups b xs (by rw [upd_ne nb]; exact q)
      · have nb := ne q (fun z => by cases z)
        rw [upd_ne nb]
        exact un.frzs b o u (by rw [upd_ne nb]; exact q)
      · by_cases nb : b = P
        · subst nb
          have z := et.symm.trans ‹H b = some (.tbl qs)›
          cases z
          exact ⟨m3, upd_same⟩
        · rw [upd_ne nb]
          exact un.tbls b qs (by rw [upd_ne nb]; exact qt)
    | next => exact False.elim hq
    | brk => exact False.elim hq
    | cont => exact False.elim hq
end
/-! ### a def whose code object is told -/
section
variable {PR : Program} {w : World} {K : PySem.W.Frag} {mg : Str → Option Value} {base : Heap}
theorem fun_okC {x qual : Str} {st : Stmt} {f c : Addr} {fd : FuncData} {N ps : List Str} {k : Nat} {sp : Sp} (F : Fun K x qual st f fd) (hc : fd.code = .ref c) (S : FnScope N ps (defScope st)) (len : ∀ vs H Q E, sp vs H Q E → vs.length = ps.length)
    (hbody : ∀ (A : Around) (outer : List Env) (s : Shared) (H : Hp) (vs : List V) (Q : VK) (E : XK), Room k (A.deeper (envOfC qual (defScope st) s.heap.objs.size f (.ref c))) → sp vs H Q E →
      ∃ t, PSs (cxOf CX0 PR w K mg base N qual (defScope st) f (.ref c) A outer s H E).nox (defBody st) t ∧ t { nx := fun _ H' => Q .non H', rt := Q } (start N vs) H) : FnOk PR w K mg base CX0 (k + 1) f fd ps sp := by
  obtain ⟨oc, od, kV, doc, pm, an, cdv, ct, osl, rfl, lk, hcd⟩ := F.ex
  obtain rfl : cdv = .ref c := hc
  refine fn_of lk hcd S len fun A outer s H vs Q E hr hsp => ?_
  obtain ⟨t, h, q⟩ := hbody A outer s H vs Q E hr hsp
  exact ⟨t, h.nox, q⟩
end
end PG
namespace PG
open PySem PySem.Spec PyProof.Rows L2
theorem genS_of {env : Env} {scope : Scope} {x : Str} {out : List (Str × NameKind)} (hk : scope.kind = .function) (hco : scope.isCoroutine = false) (hcell : ∀ y ∈ scope.names, y.2 ≠ .cell) (hdot : scope.names.lookup (".0" : Str) = some NameKind.local)
    (hloc : scope.names.lookup x = some .local) (hf : ∀ y ∈ scope.names, y.2 = .free → out.lookup y.1 = some .cell) (hc : ∀ x, out.lookup x = some .cell → ∃ c, env.cells.lookup x = some c) : GxR.GenS env scope x :=
  ⟨hk, hco, hcell, hdot, hloc, fun y hy e => hc y.1 (hf y hy e)⟩
end PG
namespace PO
open PySem PySem.Spec PyProof.Rows L2 PL
set_option maxHeartbeats 4000000
/-! ### sorted(d), d a dict whose keys are pairs of ints -/
def pairOf (H : Hp) (a : Addr) : Int × Int := match H a with
  | some (.tup [.int i, .int j]) => (i, j)
  | _ => (0, 0)
def addrOf : Value → Addr
  | .ref a => a
  | _ => 0
def keyPair : List Key → Int × Int
  | [.inl i, .inl j] => (i, j)
  | _ => (0, 0)
def LexLe (p q : Int × Int) : Prop := p.1 < q.1 ∨ (p.1 = q.1 ∧ p.2 ≤ q.2)
def rSortedDT : List V → Hp → VK → Prop := fun xs H Q => ∃ (d : Addr) (kvs : List (List Key × V)), xs = [.ref d] ∧ Rd H d (.dT kvs) ∧ (∀ kv ∈ kvs, ∃ i j : Int, kv.1 = [.inl i, .inl j]) ∧
  ∀ (p : Addr) (bs : List Addr) (L : List (Int × Int)), H p = none → L.Perm (kvs.map fun kv => keyPair kv.1) → L.Pairwise LexLe → bs.map (fun b => H b) = L.map (fun q => some (.tup [.int q.1, .int q.2])) → Q (.ref p) (upd H p (.lst (bs.map V.ref)))
theorem call_sortedDT {X : Cx} (hc : X.calm = true) : CallR X (.builtin "sorted") rSortedDT := by
  intro pins s σ H xs us Q I r h
  obtain ⟨d, kvs, rfl, hd, hks, q⟩ := h
  obtain ⟨u, rfl, rx⟩ := vals1 r
  cases rx
  obtain ⟨z, hs, ks, pr, o, es, ep, ho, hx, hdt, he, hn⟩ := (show ObjOk X.prog X.w H s.heap d (.dT kvs) from hd.ok I.hok)
  have l1 : es.size = ks.length := size_of_entries he
  have l2 : kvs.length = ks.length := Paired.length pr
  -- each key is a pair that is tracked
  have pk : ∀ x ∈ ks, H x.2.1 = some (.tup [.int (pairOf H x.2.1).1, .int (pairOf H x.2.1).2]) ∧ keyPair x.1 = pairOf H x.2.1 := by
    have gen : ∀ {l : List (List Key × V)} {m : List (List Key × Addr × Value)}, KT H l m → (∀ kv ∈ l, ∃ i j : Int, kv.1 = [.inl i, .inl j]) → ∀ x ∈ m, H x.2.1 = some (.tup [.int (pairOf H x.2.1).1, .int (pairOf H x.2.1).2]) ∧ keyPair x.1 = pairOf H x.2.1 := by
      intro l m t
      induction t with
      | nil => intro _ x hx; exact nomatch hx
      | @cons p2 q2 ps qs hq t ih =>
        intro hl x hx
        rcases List.mem_cons.mp hx with e | hx
        · subst e
          obtain ⟨i, j, e⟩ := hl p2 List.mem_cons_self
          have e2 : H x.2.1 = some (.tup [.int i, .int j]) := by rw [hq.2.1, e]; rfl
          have e3 : pairOf H x.2.1 = (i, j) := by unfold pairOf; rw [e2]
          rw [e3]
          exact ⟨e2, by rw [← hq.1, e]; rfl⟩
        · exact ih (fun kv hkv => hl kv (List.mem_cons_of_mem _ hkv)) x hx
    exact gen pr hks
  have ek : (kvs.map fun kv => keyPair kv.1) = ks.map fun x => pairOf H x.2.1 := by
    have gen : ∀ {l : List (List Key × V)} {m : List (List Key × Addr × Value)}, KT H l m → (l.map fun kv => keyPair kv.1) = m.map fun x => keyPair x.1 := by
      intro l m t
      induction t with
      | nil => rfl
      | @cons p2 q2 ps qs hq t ih => rw [List.map_cons, List.map_cons, ih, hq.1]
    rw [gen pr]
    exact List.map_congr_left fun x hx => (pk x hx).2
  refine Calls.call_function_entry PyProof.Rows.kind_sorted PyProof.Rows.plain_sorted PyProof.Rows.entry_sorted (PyProof.Rows.args_sorted1 _) ?_
  unfold Builtin.«sorted»
  refine wpAny_bind (m := checkCount "sorted" 1 1 _) (wpAny_pure (wpAny_bind (PySem.W.kdu_collect (A := X.A.in1) (kdl_raw hs hx hdt) (I.ok.hd hc) ho (by omega) fun h2 tk acc kp it => ?_)))
  have ea : acc.toList = ks.map fun x => Value.ref x.2.1 := by
    have hl : acc.toList.length = ks.length := by rw [Array.length_toList, it.1]; exact l1
    refine List.ext_getElem? fun j => ?_
    rw [List.getElem?_map]
    cases hj : acc.toList[j]? with
    | none =>
      rw [List.getElem?_eq_none_iff] at hj
      rw [List.getElem?_eq_none_iff.mpr (by omega)]
      rfl
    | some v =>
      obtain ⟨en, e1, e2⟩ := it.2 j v (by rw [← Array.getElem?_toList]; exact hj)
      have e3 : (ks.map (entryOfKey (tupleKind (mixKind X.prog X.w))))[j]? = some en := by rw [← he, Array.getElem?_toList]; exact e1
      rw [List.getElem?_map] at e3
      cases hk : ks[j]? with
      | none => rw [hk] at e3; cases e3
      | some x =>
        rw [hk] at e3
        cases e3
        rw [e2]
        rfl
  have J : Inv X pins σ H { s with heap := h2, toks := tk } := I.kept kp
  have hz : acc.toList.length ≤ sizeLine := by rw [ea, List.length_map, ← l2]; exact z
  refine wpAny_bind (wpAny_newList ?_ hz)
  have hoL : (h2.push (seqObj "list" acc.toList.toArray 0)).get? h2.objs.size = some (seqObj "list" acc.toList.toArray 0) := Heap.get?_push_size _ rfl
  have prs : ∀ v ∈ acc.toList, Srt.IsPair (h2.push (seqObj "list" acc.toList.toArray 0)) v (pairOf H (addrOf v)).1 (pairOf H (addrOf v)).2 := fun v hv => by
    rw [ea] at hv
    obtain ⟨x, hxk, rfl⟩ := List.mem_map.mp hv
    obtain ⟨_, its2, r2, o2, g1, g2, n2, g3⟩ := J.hok _ _ (pk x hxk).1
    obtain ⟨u1, u2, rfl, ri, rj⟩ := vals2 r2
    obtain ⟨t1, rfl⟩ := ri
    obtain ⟨t2, rfl⟩ := rj
    exact ⟨_, o2, t1, t2, n2, rfl, Heap.get?_push_of_some _ g1, g2, g3⟩
  show wpAny _ _ _ _ _ { s with heap := h2.push (seqObj "list" acc.toList.toArray 0), toks := tk }
  refine wpAny_bind (wpAny_holding (wpAny_call_entry PyProof.Rows.slot_list_sort ⟨_, hoL, rfl⟩ PyProof.Rows.entry_list_sort (SrtO.list_sort_ord (s := { s with heap := h2.push (seqObj "list" acc.toList.toArray 0), toks := tk }) (SrtO.swo_lex fun v => pairOf H (addrOf v)) hoL hz
    (fun g2 => SrtO.pairs_sortableO (s := { s with heap := h2.push (seqObj "list" acc.toList.toArray 0), toks := tk }) (by omega) prs fun ob e => ?_) fun out hso hst => ⟨_, rfl, ?_⟩) (PyProof.Rows.args_list_sort _)))
  · have e' : some ob = some (seqObj "list" acc.toList.toArray 0) := e.symm.trans hoL
    cases e'
    intro c
    exact absurd (Value.type.inj c) (by decide)
  have mem : ∀ v ∈ out, ∃ x ∈ ks, v = Value.ref x.2.1 := fun v hv => by
    have m := hst.perm.mem_iff.mp hv
    rw [ea] at m
    obtain ⟨x, h1, h2⟩ := List.mem_map.mp m
    exact ⟨x, h1, h2.symm⟩
  obtain ⟨n3, hn3⟩ := PyProof.Rows.sortedHeap_at (vs := acc.toList) (out := out.toArray) hoL
  have rel : Vals ((out.map addrOf).map V.ref) out := by
    have gen : ∀ l : List Value, (∀ v ∈ l, ∃ x ∈ ks, v = Value.ref x.2.1) → Vals ((l.map addrOf).map V.ref) l := fun l => by
      induction l with
      | nil => exact fun _ => .nil
      | cons v l ih =>
        intro hl
        obtain ⟨x, _, rfl⟩ := hl v List.mem_cons_self
        exact .cons rfl (ih fun w hw => hl w (List.mem_cons_of_mem _ hw))
    exact gen out mem
  refine wpAny_pure ⟨_, rfl, .ref h2.objs.size, upd H h2.objs.size (.lst ((out.map addrOf).map V.ref)), J.laid (t' := tk) (fun b u e => ?_) (Nat.le_refl _)
    (show ObjOk X.prog X.w _ _ _ (.lst ((out.map addrOf).map V.ref)) from ⟨by rw [List.length_map, List.length_map, hst.perm.length_eq]; exact hz, out, n3, rel, hn3⟩), rfl, q _ (out.map addrOf) ((out.map addrOf).map (pairOf H)) (J.hok.fresh (Nat.le_refl _)) ?_ ?_ ?_⟩
  · have hb : b < h2.objs.size := Heap.lt_size e
    rw [PyProof.Rows.sortedHeap_old (Nat.ne_of_lt hb) (Nat.lt_of_lt_of_eq (Nat.lt_succ_of_lt hb) (size_push' ..).symm)]
    exact Heap.get?_push_of_some _ e
  · rw [ek]
    have p2 := (hst.perm.map addrOf).map (pairOf H)
    rw [ea, List.map_map, List.map_map, List.map_map] at p2
    rw [List.map_map]
    exact p2
  · rw [List.map_map, List.pairwise_map]
    refine hso.imp fun {a b} hab => ?_
    have e := SrtO.lexB_no.mp hab
    show LexLe (pairOf H (addrOf a)) (pairOf H (addrOf b))
    unfold LexLe
    omega
  · rw [List.map_map, List.map_map, List.map_map]
    refine List.map_congr_left fun v hv => ?_
    obtain ⟨x, hxk, rfl⟩ := mem v hv
    exact (pk x hxk).1
end PO
namespace PL
open PySem PySem.Spec PyProof.Rows L2 Evl
set_option maxHeartbeats 4000000
/-! ### own classes: what is known of their defs -/
structure HasM (P : Program) (w : World) (K : PySem.W.Frag) (mg : Str → Option Value) (base : Heap) (C : Addr) (m : Str) (k : Nat) (sp : Sp) : Prop where
  ex : ∃ (f : Addr) (fd : FuncData) (ps : List Str), Meth K C m f ∧ Binds K fd ps [] ∧ FnOk P w K mg base CX0 k f fd ps sp
structure HasI (P : Program) (w : World) (K : PySem.W.Frag) (mg : Str → Option Value) (base : Heap) (C : Addr) (k : Nat) (sp : Sp) : Prop where
  ex : ∃ (f : Addr) (fd : FuncData) (ps : List Str), Mk K C f ∧ Binds K fd ps [] ∧ FnOk P w K mg base CX0 k f fd ps sp
structure HasP (P : Program) (w : World) (K : PySem.W.Frag) (mg : Str → Option Value) (base : Heap) (C : Addr) (n : Str) (k : Nat) (sp : Sp) : Prop where
  ex : ∃ (p g : Addr) (fd : FuncData) (ps : List Str), PropOf K C n p g ∧ Binds K fd ps [] ∧ FnOk P w K mg base CX0 k g fd ps sp
section
variable {X : Cx} {k : Nat} {C : Addr} {sp : Sp} {x m n : Str} {p pos apos : Pos} {o e : Expr} {es : List Expr} {ta : TE} {t : TA}
theorem pe_mH (h : HasM X.prog X.w X.K X.mg X.base C m k sp) (c : Cls X.K C) (hr : Room k X.A) {pl : Sem Bool} (he : PE X o ta) (ha : PA X (e :: es) t) (hst : starEach (e :: es) X.env = (false, eval e X.env) :: starEach es X.env := by rfl) (hpl : (backTo pos (starEach es X.env)).any (·.1) = false := by rfl)
    (ht : eval (.Call (.Attribute o m apos) (e :: es) [] pos) X.env = (do let ov ← eval o X.env; standAt apos.atName; let (f, first) ← holding [ov] (getMethod ov m pl); callWith pos f first (backTo pos (starEach (e :: es) X.env)) (backToKw pos (keywordEach [] X.env))) := by rfl) :
    PE X (.Call (.Attribute o m apos) (e :: es) [] pos) (tMeth C m sp [] E0 ta t) := by
  obtain ⟨f, fd, ps, h1, h2, h3⟩ := h.ex
  exact pe_meth (pl := pl) he c h1 h3 hr h2 .nil pass0 ha hst hpl ht
theorem pe_mH0 (h : HasM X.prog X.w X.K X.mg X.base C m k sp) (c : Cls X.K C) (hr : Room k X.A) {pl : Sem Bool} (he : PE X o ta)
    (ht : eval (.Call (.Attribute o m apos) [] [] pos) X.env = (do let ov ← eval o X.env; standAt apos.atName; let (f, first) ← holding [ov] (getMethod ov m pl); callWith pos f first (backTo pos (starEach [] X.env)) (backToKw pos (keywordEach [] X.env))) := by rfl) :
    PE X (.Call (.Attribute o m apos) [] [] pos) (tMeth C m sp [] E0 ta tNil) := by
  obtain ⟨f, fd, ps, h1, h2, h3⟩ := h.ex
  exact pe_meth0 (pl := pl) he c h1 h3 hr h2 .nil pass0 ht
theorem pe_iH (h : HasI X.prog X.w X.K X.mg X.base C k sp) (hm : X.mg x = some (.ref C)) (hr : Room (k + 1) X.A) (hg : Gl X x) (ha : PA X (e :: es) t) (hdb : (x == ("__debug__" : Str)) = false := by decide) (he : starEach (e :: es) X.env = (false, eval e X.env) :: starEach es X.env := by rfl)
    (hpl : (backTo pos (starEach es X.env)).any (·.1) = false := by rfl) : PE X (.Call (.Name x p) (e :: es) [] pos) (tMake C sp [] E0 t) := by
  obtain ⟨f, fd, ps, h1, h2, h3⟩ := h.ex
  exact pe_make h1 h3 hr hg hm h2 .nil pass0 ha hdb he hpl
theorem pe_pH (h : HasP X.prog X.w X.K X.mg X.base C n k sp) (c : Cls X.K C) (hr : Room (k + 1) X.A) (he : PE X e ta) (hab : attributeBase e n X.env (eval e X.env) = eval e X.env := by rfl) : PE X (.Attribute e n pos) (tProp C sp [] E0 ta) := by
  obtain ⟨q, g, fd, ps, h1, h2, h3⟩ := h.ex
  exact pe_prop he c h1 h3 hr h2 .nil pass0 hab
theorem fld_K (K : PySem.W.Frag) (he : PE X e ta) (h : X.K = K := by rfl) (hb : attributeBase e n X.env (eval e X.env) = eval e X.env := by rfl) : PE X (.Attribute e n pos) (tFld K ta n) := h ▸ pe_fld he hb
theorem pe_clsN (hm : X.mg x = some (.ref C)) (hg : Gl X x) (hd : (x == ("__debug__" : Str)) = false := by decide) : PE X (.Name x pos) (tC (.ref C)) := pe_glob hg hm rfl hd
end
/-! ### in, not in: a list or tuple of flat items, data of any depth, a dict -/
section
variable {X : Cx}
def rDIn (neg : Bool) : R2 := fun y x H Q => ∃ a o, x = .ref a ∧ DGet H a y o ∧ Q (.bl (if neg then !o.isSome else o.isSome)) H
theorem op_dIn (hu : X.A.units + 1 < cLine) : OpR X (compareOp .In) (rDIn false) := by
  intro pins s σ H y x iv u Q I ry rx h
  obtain ⟨a, ov, rfl, g, q⟩ := h
  cases rx
  exact d_in hu I g ry fun s3 I3 => ⟨.bl ov.isSome, H, I3, rfl, q⟩
theorem op_dNotIn (hu : X.A.units + 1 < cLine) : OpR X (compareOp .NotIn) (rDIn true) := by
  intro pins s σ H y x iv u Q I ry rx h
  obtain ⟨a, ov, rfl, g, q⟩ := h
  cases rx
  exact d_notIn hu I g ry fun s3 I3 => ⟨.bl (!ov.isSome), H, I3, rfl, q⟩
def rInA (K : PySem.W.Frag) : R2 := fun x y H Q => (rIn K false x y H Q ∨ rInD K x y H Q) ∨ rDIn false x y H Q
def rNiA (K : PySem.W.Frag) : R2 := fun x y H Q => (rIn K true x y H Q ∨ rNotInD K x y H Q) ∨ rDIn true x y H Q
theorem room65 {k : Nat} {A : Around} (r : Room k A) : A.units + 65 < cLine := by have := r.un; omega
theorem inA_K (K : PySem.W.Frag) {k : Nat} (hr : Room k X.A) (h : X.K = K := by rfl) : OpR X (compareOp .In) (rInA K) := h ▸ (op_in_seq.or (op_inD (room65 hr))).or (op_dIn (hu_of hr))
theorem niA_K (K : PySem.W.Frag) {k : Nat} (hr : Room k X.A) (h : X.K = K := by rfl) : OpR X (compareOp .NotIn) (rNiA K) := h ▸ (op_notIn_seq.or (op_notInD (room65 hr))).or (op_dNotIn (hu_of hr))
/-! .. is, is not: None, bools -/
def rIsA : R2 := fun x y H Q => (y = .non ∧ Q (.bl (decide (x = .non))) H) ∨ rIsB x y H Q
def rIsnA : R2 := fun x y H Q => (y = .non ∧ Q (.bl (!decide (x = .non))) H) ∨ rNotB x y H Q
theorem op_isA : OpR X (compareOp .Is) rIsA := op_isN.or op_isBl
theorem op_isnA : OpR X (compareOp .IsNot) rIsnA := op_notN.or op_notBl
/-! .. x[i]: a list, a tuple, a dict -/
def rIxD : R2 := fun x y H Q => ∃ a v, x = .ref a ∧ DGet H a y (some v) ∧ Q v H
theorem ix_dict (hu : X.A.units + 1 < cLine) : IxR X rIxD := by
  intro value slice pins s σ H x y v u Q I rx ry h hs
  obtain ⟨a, z, rfl, g, q⟩ := h
  cases rx
  have hT := dict_typeIs I g
  have fin : wpAny (model X.prog X.w) X.A (subscripted slice false (.ref a) u) (fun r s3 => wpAny (model X.prog X.w) X.A (letTemporaryGo value (.ref a) r >>= fun _ => pure r) (EP X pins σ Q) X.xe s3) X.xe s := by
    rw [hs]
    exact wpAny_operating (d_getItem hu I g ry fun w s3 I3 rw2 => wpAny_bind (wpAny_letTemporaryGo (wpAny_pure ⟨z, H, I3, rw2, q⟩)))
  unfold subscriptTail
  refine wpAny_bind (?_ : wpAny _ _ _ _ _ _)
  rw [getitemInPython_of_ne hT.not_modules]
  refine wpAny_bind (wpAny_specialOf hT PySem.F.slot_dict_getitem.lookup ?_)
  first | exact wpAny_pure (wpAny_bind fin) | exact wpAny_bind (wpAny_pure (wpAny_bind fin)) | exact wpAny_bind fin
def rIxA (K : PySem.W.Frag) : R2 := fun x y H Q => rIx K x y H Q ∨ rIxD x y H Q
theorem ixA_K (K : PySem.W.Frag) {k : Nat} (hr : Room k X.A) (h : X.K = K := by rfl) : IxR X (rIxA K) := h ▸ ix_seq.or (ix_dict (hu_of hr))
/-! .. x[i] = v: a list, a dict -/
def rSetD : V → V → V → Hp → (Hp → Prop) → Prop := fun o i v H Q => ∃ a H2, o = .ref a ∧ DPut H a i v H2 ∧ Q H2
theorem set_dict (hu : X.A.units + 1 < cLine) : PSet X rSetD := by
  intro pins s σ H o i v ov iv u Q I ro ri rv h
  obtain ⟨a, H2, rfl, g, q⟩ := h
  cases ro
  exact d_setItem hu I g ri rv fun s4 I4 => ⟨H2, I4, q⟩
def rSetA : V → V → V → Hp → (Hp → Prop) → Prop := fun o i v H Q => rSetL o i v H Q ∨ rSetD o i v H Q
theorem setA {k : Nat} (hr : Room k X.A) : PSet X rSetA := by
  intro pins s σ H o i v ov iv u Q I ro ri rv h
  rcases h with h | h
  · exact set_list pins s σ H o i v ov iv u Q I ro ri rv h
  · exact set_dict (hu_of hr) pins s σ H o i v ov iv u Q I ro ri rv h
/-! .. len: a list, a tuple, a dict -/
theorem get2_K {o e f : Expr} {apos cpos : Pos} {td ty tx : TE} {k : Nat} (hr : Room k X.A) (ho : PE X o td) (he : PE X e ty) (hf : PE X f tx) (m : M2 X o "get" apos e f cpos := by exact ⟨rfl, rfl, rfl, rfl⟩) : PE X (.Call (.Attribute o "get" apos) [e, f] [] cpos) (tDGet2 td ty tx) := pe_dget2 (hu_of hr) ho he hf m
theorem any_K (K : PySem.W.Frag) (hc : X.calm = true := by rfl) (h : X.K = K := by rfl) : CallR X (.builtin "any") (rAny K) := h ▸ cr_any hc
theorem all_K (K : PySem.W.Frag) (hc : X.calm = true := by rfl) (h : X.K = K := by rfl) : CallR X (.builtin "all") (rAll K) := h ▸ cr_all hc
theorem sfld_K (K : PySem.W.Frag) {o value : Expr} {f : Str} {pos pos' : Pos} {ta tv : TE} (ha : PE X o ta) (hv : PE X value tv) (h : X.K = K := by rfl) (hs : swapsWith value (some (.Attribute o f pos')) pos.line X.env = pure false := by rfl) : PS X (.Assign [.Attribute o f pos'] value pos) (sFld K ta tv f) := h ▸ ps_fld ha hv hs
theorem lenSet_K (K : PySem.W.Frag) {a : Expr} {ta : TE} {p p2 q pos : Pos} (hg : Gl X "len") (hm : X.mg "len" = none) (hg2 : Gl X "set") (hm2 : X.mg "set" = none) (ha : PE X a ta) (h : X.K = K := by rfl) (hc : X.calm = true := by rfl) (na : starEach [a] X.env = (false, eval a X.env) :: starEach [] X.env := by rfl) :
    PE X (.Call (.Name "len" p) [.Call (.Name "set" p2) [a] [] q] [] pos) (RZ.tLenSetI K ta) := h ▸ RZ.pe_lenSetI hg hm hg2 hm2 ha hc na
theorem allZ_K (K : PySem.W.Frag) {c P : Addr} {elt iter : Expr} {x y : Str} {px p pos gp : Pos} {scope : Scope} {pb : Int → Int → Bool} {te : TE} {k i : Nat} (hr : Room k X.A) (hg : Gl X "all") (hm : X.mg "all" = none) (hb : bootBuiltins "all" = some (.builtin "all")) (TB : GxR.TabB X.base X.mg c P) (hco : X.env.code = .ref c)
    (S : GxR.GenS X.env scope x) (hi : PE X iter te) (hN : X.N[i]? = some y) (hy : X.env.scope.names.lookup y = some .cell) (hcl : ∀ cs : List (Str × Addr), (cloFrom cs scope.names []).lookup y = some ((cs.lookup y).getD 0)) (hel : PG.EltZ X.prog X.w scope x y elt pb) (hs : ∀ v, genFold iter X.env v = pure v) (h : X.K = K := by rfl)
    (he : starEach [.GeneratorExp elt [⟨.Name x px, iter, [], 0⟩] scope gp] X.env = (false, eval (.GeneratorExp elt [⟨.Name x px, iter, [], 0⟩] scope gp) X.env) :: starEach [] X.env := by rfl) :
    PE X (.Call (.Name "all" p) [.GeneratorExp elt [⟨.Name x px, iter, [], 0⟩] scope gp] [] pos) (PG.tAllZ K P i pb te) := h ▸ PG.pe_allZ hr hg hm hb TB hco S hi hN hy hcl hel hs he
theorem idx_K (K : PySem.W.Frag) (h : X.K = K := by rfl) : MtR X "list.index" (rIndex K) := h ▸ mt_index
/-! a class's constant -/
theorem cval_K (K : PySem.W.Frag) {e : Expr} {f : Str} {pos : Pos} {ta : TE} (he : PE X e ta) (h : X.K = K := by rfl) (hb : attributeBase e f X.env (eval e X.env) = eval e X.env := by rfl) : PE X (.Attribute e f pos) (ClX.tCVal K ta f) := h ▸ ClX.pe_cval he hb
end
/-! ### steps -/
section
variable {K : PySem.W.Frag} {σ : L2.St} {H : Hp} {Q : VK} {ta tb te tc td tx : TE} {tv : TA} {v x y : V} {D : Ends} {i : Nat} {P : Bool → Hp → Prop}
def rFld (K : PySem.W.Frag) (f : Str) (Q : VK) (x : V) (H : Hp) : Prop := ∃ a C dx fs v, x = .ref a ∧ H a = some (.ins C dx fs) ∧ Cls K C ∧ NoAttr K C f ∧ fs.lookup f = some v ∧ Q v H
theorem w_fld {f : Str} (h : ta σ H fun x H1 => rFld K f Q x H1) : tFld K ta f σ H Q := h
theorem w_fldI {a C dx : Addr} {fs : List (Str × V)} {f : Str} (h : H a = some (.ins C dx fs)) (c : Cls K C) (n : NoAttr K C f) (l : fs.lookup f = some v) (k : Q v H) : rFld K f Q (.ref a) H := ⟨a, C, dx, fs, v, rfl, h, c, n, l, k⟩
def rsFld (K : PySem.W.Frag) (f : Str) (y : V) (R : Hp → Prop) (x : V) (H : Hp) : Prop := ∃ a C dx fs, x = .ref a ∧ H a = some (.ins C dx fs) ∧ Cls K C ∧ NoAttr K C f ∧ fs.length < 1000 ∧ R (upd H a (.ins C dx (putF f y fs)))
theorem w_sfld {f : Str} (h : tb σ H fun y H1 => ta σ H1 fun x H2 => rsFld K f y (D.nx σ) x H2) : sFld K ta tb f D σ H := h
theorem w_sfldI {a C dx : Addr} {fs fs2 : List (Str × V)} {f : Str} {R : Hp → Prop} (h : H a = some (.ins C dx fs)) (c : Cls K C) (n : NoAttr K C f) (l : putF f y fs = fs2) (z : fs.length < 1000) (k : ∀ H', Chg a H H' → H' a = some (.ins C dx fs2) → R H') : rsFld K f y R (.ref a) H :=
  ⟨a, C, dx, fs, rfl, h, c, n, z, by rw [l]; exact k _ chg_upd upd_same⟩
def rProp (C : Addr) (sp : Sp) (Q : VK) (x : V) (H : Hp) : Prop := ∃ a dx fs, x = .ref a ∧ H a = some (.ins C dx fs) ∧ sp [.ref a] H Q E0
theorem w_prop {C : Addr} {sp : Sp} (h : ta σ H fun x H1 => rProp C sp Q x H1) : tProp C sp [] E0 ta σ H Q := h
theorem w_propI {a C dx : Addr} {fs : List (Str × V)} {sp : Sp} (h : H a = some (.ins C dx fs)) (k : sp [.ref a] H Q E0) : rProp C sp Q (.ref a) H := ⟨a, dx, fs, rfl, h, k⟩
def rMeth (C : Addr) (m : Str) (sp : Sp) (tv : TA) (σ : L2.St) (Q : VK) (x : V) (H : Hp) : Prop := ∃ a dx fs, x = .ref a ∧ H a = some (.ins C dx fs) ∧ fs.lookup m = none ∧ tv σ H fun vs H2 => sp (x :: (vs ++ [])) H2 Q E0
theorem w_meth {C : Addr} {m : Str} {sp : Sp} (h : ta σ H fun x H1 => rMeth C m sp tv σ Q x H1) : tMeth C m sp [] E0 ta tv σ H Q := h
theorem w_methI {a C dx : Addr} {fs : List (Str × V)} {m : Str} {sp : Sp} (h : H a = some (.ins C dx fs)) (l : fs.lookup m = none) (k : tv σ H fun vs H2 => sp (.ref a :: (vs ++ [])) H2 Q E0) : rMeth C m sp tv σ Q (.ref a) H := ⟨a, dx, fs, rfl, h, l, k⟩
/-- a new instance, empty -/
def rMake (C : Addr) (sp : Sp) (Q : VK) (vs : List V) (H1 : Hp) : Prop := ∀ x dx, H1 x = none → H1 dx = none → dx ≠ x → sp (.ref x :: (vs ++ [])) (upd (upd H1 dx (.own x)) x (.ins C dx [])) (fun v H2 => v = .non ∧ Q (.ref x) H2) E0
theorem w_make {C : Addr} {sp : Sp} (h : tv σ H fun vs H1 => rMake C sp Q vs H1) : tMake C sp [] E0 tv σ H Q := h
theorem w_makeI {C : Addr} {sp : Sp} {vs : List V} (h : ∀ x dx H2, H x = none → Ex H H2 → H2 x = some (.ins C dx []) → sp (.ref x :: (vs ++ [])) H2 (fun v H3 => v = .non ∧ Q (.ref x) H3) E0) : rMake C sp Q vs H := fun x dx h1 h2 ne =>
  h x dx _ h1 (fun a o q => by rw [upd_ne (ne_of_none q h1), upd_ne (ne_of_none q h2)]; exact q) upd_same
theorem w_cval {f : Str} (h : ta σ H fun x H1 => ∃ C mc v u, x = .ref C ∧ ClX.CRead K C mc ∧ ClX.CVal K C mc f v u ∧ Q v H1) : ClX.tCVal K ta f σ H Q := h
theorem w_cvalI {C : Addr} {mc : Value} {f : Str} {A : V → Prop} (r : ClX.CRead K C mc) (c : ∃ u, ClX.CVal K C mc f v u) (h : A v) : ∃ D mc v u, V.ref C = .ref D ∧ ClX.CRead K D mc ∧ ClX.CVal K D mc f v u ∧ A v := let ⟨u, c⟩ := c; ⟨C, mc, v, u, rfl, r, c, h⟩
def rLenSet (K : PySem.W.Frag) (Q : VK) (x : V) (H : Hp) : Prop := ∃ (l : Addr) (ns : List Int), x = .ref l ∧ SqL K H l (ns.map V.int) ∧ ns.Nodup ∧ ns.length ≤ 4000 ∧ Q (.int (ns.length : Nat)) H
theorem w_lenSet (h : ta σ H fun x H1 => rLenSet K Q x H1) : RZ.tLenSetI K ta σ H Q := h
theorem w_lenSetI {l : Addr} {ns : List Int} (h : SqL K H l (ns.map V.int)) (n : ns.Nodup) (z : ns.length ≤ 4000) (k : Q (.int (ns.length : Nat)) H) : rLenSet K Q (.ref l) H := ⟨l, ns, rfl, h, n, z, k⟩
def rAllZ (K : PySem.W.Frag) (P : Addr) (i : Nat) (pb : Int → Int → Bool) (σ : L2.St) (Q : VK) (v : V) (H : Hp) : Prop := ∃ (l : Addr) (ns : List Int) (z : Int), v = .ref l ∧ SqL K H l (ns.map V.int) ∧ GxR.TabG H P ∧ σ[i]? = some (some (.int z)) ∧ ∀ H2, GxR.Tabbed P H H2 → Q (.bl (ns.all (pb z))) H2
theorem w_allZ {P : Addr} {pb : Int → Int → Bool} (h : ta σ H fun x H1 => rAllZ K P i pb σ Q x H1) : PG.tAllZ K P i pb ta σ H Q := h
theorem w_lenR {a : Addr} {xs : List V} (h : SqL K H a xs) (k : Q (.int (xs.length : Nat)) H) : rLen K [V.ref a] H Q := ⟨a, _, rfl, .inl h, k⟩
theorem w_dT (h : ∀ p H', H p = none → Ex H H' → H' p = some (.dT []) → Q (.ref p) H') : tDNewT σ H Q := fun p hp => h p _ hp (Ex.new hp) upd_same
theorem w_dK (h : ∀ p H', H p = none → Ex H H' → H' p = some (.dK []) → Q (.ref p) H') : tDNewK σ H Q := fun p hp => h p _ hp (Ex.new hp) upd_same
theorem w_never : tNever D σ H ↔ False := Iff.rfl
/-! lists, tuples, dicts by one subscript -/
theorem w_ixCA {a : Addr} {xs : List V} {i : Int} (h : SqL K H a xs) (hv : atI xs i = some v) (k : Q v H) : rIxA K (.ref a) (.int i) H Q := .inl (w_ixC h hv k)
theorem w_ixTA {a : Addr} {xs : List V} {i : Int} (h : SqT K H a xs) (hv : atI xs i = some v) (k : Q v H) : rIxA K (.ref a) (.int i) H Q := .inl (w_ixT h hv k)
theorem w_ixIA {a : Addr} {ns : List Int} {i : Int} (h : SqL K H a (ns.map V.int)) (h0 : 0 ≤ i) (h1 : i < ns.length) (k : ∀ n, ns[i.toNat]? = some n → Q (.int n) H) : rIxA K (.ref a) (.int i) H Q := .inl (w_ixI h h0 h1 k)
theorem w_ixTI {a : Addr} {ns : List Int} {i : Int} (h : SqT K H a (ns.map V.int)) (h0 : 0 ≤ i) (h1 : i < ns.length) (k : ∀ n ∈ ns, Q (.int n) H) : rIxA K (.ref a) (.int i) H Q := by
  have hl : i.toNat < ns.length := by omega
  refine w_ixTA h (v := .int ns[i.toNat]) (at_nat h0 ?_) (k _ (List.getElem_mem hl))
  rw [List.getElem?_map, List.getElem?_eq_getElem hl]
  rfl
theorem w_ixN {a : Addr} {xs : List V} {i : Int} (h : SqL K H a xs) (h0 : 0 ≤ i) (hv : xs[i.toNat]? = some v) (k : Q v H) : rIxA K (.ref a) (.int i) H Q := w_ixCA h (at_nat h0 hv) k
theorem w_ixDA {a : Addr} (g : DGet H a y (some v)) (k : Q v H) : rIxA K (.ref a) y H Q := .inr ⟨a, v, rfl, g, k⟩
theorem w_setCA {l : Addr} {xs : List V} {k : Int} {j : Nat} {R : Hp → Prop} (h : H l = some (.lst xs)) (hk : ixN xs.length k = some j) (q : ∀ H', Chg l H H' → H' l = some (.lst (xs.set j v)) → R H') : rSetA (.ref l) (.int k) v H R := .inl (w_setC h hk q)
theorem w_putK {a : Addr} {kvs : List (Key × V)} {k : Key} {R : Hp → Prop} (h : H a = some (.dK kvs)) (hl : kvs.length ≤ 100000) (q : ∀ H', Chg a H H' → H' a = some (.dK (putK kvs k v)) → R H') : rSetA (.ref a) (kV k) v H R :=
  .inr ⟨a, _, rfl, .k h (Nat.lt_of_le_of_lt hl (by decide)), q _ chg_upd upd_same⟩
theorem w_putT {a b : Addr} {kvs : List (List Key × V)} {k : List Key} {R : Hp → Prop} (h : H a = some (.dT kvs)) (hb : H b = some (.tup (k.map kV))) (hl : kvs.length ≤ 100000) (q : ∀ H', Chg a H H' → H' a = some (.dT (putK kvs k v)) → R H') : rSetA (.ref a) (.ref b) v H R :=
  .inr ⟨a, _, rfl, .t h hb (Nat.lt_of_le_of_lt hl (by decide)), q _ chg_upd upd_same⟩
/-! in -/
theorem inV_ints {ns : List Int} {i : Int} : inV (.int i) (ns.map V.int) = decide (i ∈ ns) := by
  induction ns with
  | nil => simp [inV]
  | cons n ns ih =>
    have e : inV (.int i) ((n :: ns).map V.int) = (eqV (.int n) (.int i) || inV (.int i) (ns.map V.int)) := rfl
    rw [e, ih]
    have e2 : eqV (.int n) (.int i) = decide (n = i) := by simp only [eqV]; exact Bool.eq_iff_iff.mpr (by simp)
    rw [e2]
    by_cases h : n = i
    · subst h; simp
    · have h2 : ¬ i = n := fun z => h z.symm
      simp [h, h2]
theorem flat_ints (ns : List Int) : (ns.map V.int).all flatV = true := List.all_eq_true.mpr fun x hx => by obtain ⟨n, _, rfl⟩ := List.mem_map.mp hx; rfl
theorem w_inI {a : Addr} {ns : List Int} {i : Int} (h : SqL K H a (ns.map V.int)) (k : Q (.bl (decide (i ∈ ns))) H) : rInA K (.int i) (.ref a) H Q := .inl (.inl ⟨a, _, rfl, .inl h, rfl, flat_ints ns, by rw [if_neg Bool.false_ne_true, inV_ints]; exact k⟩)
theorem w_niI {a : Addr} {ns : List Int} {i : Int} (h : SqL K H a (ns.map V.int)) (k : Q (.bl (!decide (i ∈ ns))) H) : rNiA K (.int i) (.ref a) H Q := .inl (.inl ⟨a, _, rfl, .inl h, rfl, flat_ints ns, by rw [if_pos rfl, inV_ints]; exact k⟩)
theorem w_inDA {a : Addr} {o : Option V} (g : DGet H a y o) (k : Q (.bl o.isSome) H) : rInA K y (.ref a) H Q := .inr ⟨a, o, rfl, g, by rw [if_neg Bool.false_ne_true]; exact k⟩
theorem w_niDA {a : Addr} {o : Option V} (g : DGet H a y o) (k : Q (.bl (!o.isSome)) H) : rNiA K y (.ref a) H Q := .inr ⟨a, o, rfl, g, by rw [if_pos rfl]; exact k⟩
theorem w_isN (k : Q (.bl (decide (x = .non))) H) : (fun (x y : V) (H : Hp) (Q : VK) => y = .non ∧ Q (.bl (decide (x = .non))) H) x .non H Q := ⟨rfl, k⟩
theorem w_eqS {a b : Str} (k : Q (.bl (decide (a = b))) H) : rEqA K (.str a) (.str b) H Q := .inl ⟨rfl, by
  have e : decide (V.str a = V.str b) = decide (a = b) := by simp
  rw [e]; exact k⟩
def rGet2 (ty tx : TE) (σ : L2.St) (Q : VK) (x : V) (H1 : Hp) : Prop := ∃ a, x = .ref a ∧ IsD H1 a ∧ ty σ H1 fun y H2 => tx σ H2 fun z H3 => ∃ o, DGet H3 a y o ∧ Q (o.getD z) H3
theorem w_dget2 {ty tx : TE} (h : td σ H fun x H1 => rGet2 ty tx σ Q x H1) : tDGet2 td ty tx σ H Q := h
theorem w_get2K {ty tx : TE} {a : Addr} {kvs : List (Key × V)} (h : H a = some (.dK kvs)) (k : ty σ H fun y H2 => tx σ H2 fun z H3 => ∃ o, DGet H3 a y o ∧ Q (o.getD z) H3) : rGet2 ty tx σ Q (.ref a) H := ⟨a, rfl, .inl ⟨kvs, .inl h⟩, k⟩
theorem w_gn {i : Nat} {R : L2.St → Hp → Prop} (h : R (σ.set i (some x)) H) : gName i x σ H R := h
theorem w_truLA {a : Addr} {xs : List V} {A : Bool → Prop} (s : SqL K H a xs) (h : A (!xs.isEmpty)) : ∃ k, TruV K (.ref a) H k ∧ A k := ⟨_, .inl ⟨xs, s, rfl⟩, h⟩
theorem map_erase {α β : Type} (f : α → β) : ∀ (l : List α) (i : Nat), (l.map f).eraseIdx i = (l.eraseIdx i).map f
  | [], _ => by simp
  | a :: l, 0 => rfl
  | a :: l, i + 1 => congrArg (f a :: ·) (map_erase f l i)
theorem perm_at {α : Type} : ∀ {l : List α} {i : Nat} (h : i < l.length), (l[i] :: l.eraseIdx i).Perm l
  | a :: l, 0, _ => List.Perm.refl _
  | a :: l, i + 1, h => (List.Perm.swap _ _ _).trans (List.Perm.cons a (perm_at (l := l) (i := i) (by simpa using h)))
theorem w_popAt {l : Addr} {ns : List Int} {d : Int} {y : Int} (h : H l = some (.lst (ns.map V.int))) (h0 : 0 ≤ d) (hy : ns[d.toNat]? = some y) (hs : d < 2 ^ 62) (k : ∀ H', Chg l H H' → H' l = some (.lst ((ns.eraseIdx d.toNat).map V.int)) → Q (.int y) H') : rPopAt (.ref l) [.int d] H Q := by
  have hl := (List.getElem?_eq_some_iff.mp hy).1
  have hz : d < (ns.length : Int) := by omega
  have e := k (upd H l (.lst ((ns.eraseIdx d.toNat).map V.int))) chg_upd upd_same
  by_cases big : d < 2 ^ 63
  · refine ⟨l, _, d, d.toNat, .int y, rfl, rfl, h, by omega, big, seqIndex_of h0 (by rw [List.length_map]; exact hz), by rw [List.getElem?_map, hy]; rfl, ?_⟩
    rw [map_erase]
    exact e
  · exact absurd hs (by omega)
/-! tests whose answer does not matter -/
def Tot (c : TT) (σ : L2.St) (H : Hp) : Prop := ∀ R : Bool → Hp → Prop, (∀ b, R b H) → c σ H R
theorem tot_eq {i : Nat} {k a : Int} (h : σ[i]? = some (some (.int k))) : Tot (tTest (tOp (rEqA K) (tVar i) (tC (.int a)))) σ H := fun R r => ⟨_, h, w_eqI ⟨_, rfl, r _⟩⟩
theorem tot_I {i : Nat} {k a : Int} {g : Int → Int → Bool} (h : σ[i]? = some (some (.int k))) : Tot (tTest (tOp (rI0 fun i j => .bl (g i j)) (tVar i) (tC (.int a)))) σ H := fun R r => ⟨_, h, ⟨_, _, rfl, rfl, ⟨_, rfl, r _⟩⟩⟩
theorem Tot.or {c d : TT} (h1 : Tot c σ H) (h2 : Tot d σ H) : Tot (tOr c d) σ H := fun R r => h1 _ fun b => by cases b with
  | true => exact iteT (r true)
  | false => exact iteF (h2 R r)
theorem Tot.and {c d : TT} (h1 : Tot c σ H) (h2 : Tot d σ H) : Tot (tAnd c d) σ H := fun R r => h1 _ fun b => by cases b with
  | true => exact iteT (h2 R r)
  | false => exact iteF (r false)
theorem w_ifAny {c : TT} {t u : TS} (h : Tot c σ H) (a : t D σ H) (b : u D σ H) : tIfS c t u D σ H := h _ fun k => by cases k with
  | true => exact iteT a
  | false => exact iteF b
/-! list(range(n)) -/
def rLrg (Q : VK) (x : V) (H1 : Hp) : Prop := ∃ n, x = .int n ∧ RgOk 0 n ∧ ∀ q, H1 q = none → Q (.ref q) (upd H1 q (.lst (rgV 0 n)))
theorem w_lrg (h : ta σ H fun x H1 => rLrg Q x H1) : tLstRg (tRg1 ta) σ H Q := h
def rangeI (n : Int) : List Int := (List.range n.toNat).map fun (k : Nat) => (k : Int)
theorem w_lrgI {n : Int} (h0 : 0 ≤ n) (h1 : n ≤ 100000) (k : ∀ p H', H p = none → Ex H H' → H' p = some (.lst ((rangeI n).map V.int)) → Q (.ref p) H') : rLrg Q (.int n) H :=
  ⟨n, rfl, .of_le (Int.le_refl _) (by omega) (by decide) h0, fun p hp => k p _ hp (Ex.new hp) (by
    rw [upd_same]
    unfold rgV rangeI
    rw [List.map_map, Int.sub_zero]
    exact congrArg (fun z => some (HO.lst z)) (List.map_congr_left fun i _ => congrArg V.int (Int.zero_add _)))⟩
/-! pairs compared -/
def pairD (q : Int × Int) : PyData := .tuple [.int q.1, .int q.2]
theorem dp_pair {t : Addr} {q : Int × Int} (h : H t = some (.tup [.int q.1, .int q.2])) : Dp K H (.ref t) (pairD q) := .tup (.inl (.inl h)) (.cons (.int _) (.cons (.int _) .nil))
theorem pairD_sh (q : Int × Int) : SeqAt.shaped (pairD q) = true := by
  show ((pairD q).canLay0 && decide ((pairD q).depth ≤ 64)) = true
  simp [pairD, PyData.canLay0, PyData.canLayAll0, PyData.depth, PyData.depthAll]
theorem pairsD_sh (L : List (Int × Int)) : SeqAt.shaped (.list (L.map pairD)) = true := by
  have h1 : PyData.canLayAll0 (L.map pairD) = true := by
    induction L with
    | nil => simp [PyData.canLayAll0]
    | cons q L ih => simp [PyData.canLayAll0, pairD, PyData.canLay0, ih]
  have h2 : PyData.depthAll (L.map pairD) ≤ 1 := by
    induction L with
    | nil => simp [PyData.depthAll]
    | cons q L ih =>
      have e : (pairD q).depth = 1 := by simp [pairD, PyData.depth, PyData.depthAll]
      have h3 : PyData.canLayAll0 (L.map pairD) = true := by simp [PyData.canLayAll0] at h1; exact h1.2
      have := ih h3
      simp only [List.map_cons, PyData.depthAll]
      omega
  show (PyData.canLay0 (.list (L.map pairD)) && decide (PyData.depth (.list (L.map pairD)) ≤ 64)) = true
  rw [Bool.and_eq_true]
  refine ⟨by simp only [PyData.canLay0]; exact h1, decide_eq_true ?_⟩
  simp only [PyData.depth]
  omega
theorem pairD_eqv (z w : Int × Int) : PyData.eqv (pairD z) (pairD w) = decide (z = w) := by
  obtain ⟨a, b⟩ := z
  obtain ⟨c, d⟩ := w
  have e : PyData.eqv (pairD (a, b)) (pairD (c, d)) = ((a == c) && ((b == d) && true)) := by simp only [pairD, PyData.eqv, PyData.eqvAll]
  rw [e, Bool.eq_iff_iff]
  simp
theorem any_pair (q : Int × Int) : ∀ L : List (Int × Int), ((L.map pairD).any fun z => PyData.eqv z (pairD q)) = decide (q ∈ L)
  | [] => by simp
  | z :: L => by
    rw [List.map_cons, List.any_cons, any_pair q L, pairD_eqv]
    by_cases h : z = q
    · rw [decide_eq_true h, Bool.true_or, decide_eq_true (h ▸ List.mem_cons_self)]
    · rw [decide_eq_false h, Bool.false_or]
      exact decide_eq_decide.mpr ⟨fun m => List.mem_cons_of_mem _ m, fun m => (List.mem_cons.mp m).resolve_left fun e => h e.symm⟩
/-! while -/
def WBody (W : Nat → L2.St → Hp → Prop) (m : Nat) (tb : TS) (D : Ends) (σ : L2.St) (H1 : Hp) : Prop := ∃ N : L2.St → Hp → Prop, (∀ σ' H', N σ' H' → ∃ m', m' < m ∧ W m' σ' H') ∧ tb { D with nx := N, ct := N, bk := D.nx } σ H1
theorem w_while {c : TT} {tb : TS} (W : Nat → L2.St → Hp → Prop) (m : Nat) (h0 : W m σ H) (hs : ∀ m σ H, W m σ H → c σ H fun b H1 => if b = true then WBody W m tb D σ H1 else D.nx σ H1) : tWhile c tb D σ H := ⟨W, ⟨m, h0⟩, hs⟩
theorem w_wbody {W : Nat → L2.St → Hp → Prop} {m : Nat} {tb : TS} (h : tb { D with nx := fun σ' H' => ∃ m', m' < m ∧ W m' σ' H', ct := fun σ' H' => ∃ m', m' < m ∧ W m' σ' H', bk := D.nx } σ H) : WBody W m tb D σ H := ⟨_, fun _ _ x => x, h⟩
theorem w_eqNI {i : Int} (k : Q (.bl false) H) : rEqA K .non (.int i) H Q := .inl ⟨rfl, (show decide (V.non = V.int i) = false from by simp) ▸ k⟩
theorem w_rep {l : Addr} {k : Int} {xs : List V} (h : H l = some (.lst xs)) (h0 : 0 ≤ k) (hz : xs.length * k.toNat ≤ 100000) (hk : k ≤ 100000) (q : ∀ p H', H p = none → Ex H H' → H' p = some (.lst (List.replicate k.toNat xs).flatten) → Q (.ref p) H') : rMulA (.ref l) (.int k) H Q :=
  .inr ⟨l, k, xs, rfl, rfl, h, by omega, by omega, Nat.le_trans hz (by decide), fun p hp => q p _ hp (Ex.new hp) upd_same⟩
/-! l.index(e) -/
/-- what stands ahead of the first e -/
def ahead (l : List Int) (e : Int) : List Int := l.takeWhile fun x => x != e
theorem ahead_take : ∀ (l : List Int) (e : Int), l.take (ahead l e).length = ahead l e
  | [], _ => rfl
  | a :: l, e => by
    unfold ahead
    rw [List.takeWhile_cons]
    by_cases h : (a != e) = true
    · rw [if_pos h, List.length_cons, List.take_succ_cons]
      exact congrArg (a :: ·) (ahead_take l e)
    · rw [if_neg h]
      rfl
theorem ahead_at : ∀ {l : List Int} {e : Int}, e ∈ l → l[(ahead l e).length]? = some e
  | a :: l, e, h => by
    unfold ahead
    rw [List.takeWhile_cons]
    by_cases q : (a != e) = true
    · rw [if_pos q, List.length_cons, List.getElem?_cons_succ]
      have ne : a ≠ e := by simpa using q
      exact ahead_at ((List.mem_cons.mp h).resolve_left fun z => ne z.symm)
    · rw [if_neg q]
      have e2 : a = e := by simpa using q
      rw [e2]
      rfl
theorem ahead_no : ∀ {l : List Int} {e : Int}, e ∉ ahead l e
  | [], e => by simp [ahead]
  | a :: l, e => by
    unfold ahead
    rw [List.takeWhile_cons]
    by_cases q : (a != e) = true
    · rw [if_pos q]
      intro h
      have ne : a ≠ e := by simpa using q
      exact ahead_no ((List.mem_cons.mp h).resolve_left fun z => ne z.symm)
    · rw [if_neg q]
      simp
theorem ahead_lt {l : List Int} {e : Int} (h : e ∈ l) : (ahead l e).length < l.length := (List.getElem?_eq_some_iff.mp (ahead_at h)).1
theorem w_indexI {a : Addr} {l : List Int} {e : Int} (h : SqL K H a (l.map V.int)) (he : e ∈ l) (k : Q (.int (ahead l e).length) H) : rIndex K (.ref a) [.int e] H Q := by
  refine ⟨a, _, _, (ahead l e).length, .int e, rfl, rfl, h, rfl, flat_ints l, ?_, ?_, fun m z hm hz => ?_, k⟩
  · rw [List.getElem?_map, ahead_at he]; rfl
  · simp [eqV]
  · rw [List.getElem?_map] at hz
    cases hq : l[m]? with
    | none => rw [hq] at hz; cases hz
    | some y =>
      rw [hq] at hz
      cases hz
      have m2 : y ∈ ahead l e := by
        rw [← ahead_take l e]
        exact List.mem_of_getElem? (i := m) (by rw [List.getElem?_take_of_lt hm]; exact hq)
      have ne : y ≠ e := fun z => ahead_no (z ▸ m2)
      simpa [eqV] using ne
/-! objects behind a list of addresses -/
def Objs (H : Hp) (ps : List Addr) (os : List HO) : Prop := ps.map (fun a => H a) = os.map some
theorem Objs.get {ps : List Addr} {os : List HO} (h : Objs H ps os) {i : Nat} {o : HO} (e : os[i]? = some o) : ∃ a, ps[i]? = some a ∧ H a = some o := by
  have q := congrArg (fun l => l[i]?) h
  simp only [List.getElem?_map, e] at q
  cases hp : ps[i]? with
  | none => rw [hp] at q; cases q
  | some a => rw [hp] at q; exact ⟨a, rfl, Option.some.inj q⟩
theorem Objs.back {ps : List Addr} {os : List HO} (h : Objs H ps os) {i : Nat} {a : Addr} (e : ps[i]? = some a) : ∃ o, os[i]? = some o ∧ H a = some o := by
  have q := congrArg (fun l => l[i]?) h
  simp only [List.getElem?_map, e] at q
  cases hp : os[i]? with
  | none => rw [hp] at q; cases q
  | some o => rw [hp] at q; exact ⟨o, rfl, Option.some.inj q⟩
theorem Objs.len {ps : List Addr} {os : List HO} (h : Objs H ps os) : ps.length = os.length := by
  have q := congrArg List.length h
  rw [List.length_map, List.length_map] at q
  exact q
theorem Objs.nil : Objs H [] [] := rfl
theorem Objs.app {ps qs : List Addr} {os us : List HO} (h : Objs H ps os) (h2 : Objs H qs us) : Objs H (ps ++ qs) (os ++ us) := by
  unfold Objs at *
  rw [List.map_append, List.map_append, h, h2]
theorem Objs.one {a : Addr} {o : HO} (h : H a = some o) : Objs H [a] [o] := by unfold Objs; rw [List.map_singleton, h]; rfl
theorem Objs.ex {H' : Hp} {ps : List Addr} {os : List HO} (h : Objs H ps os) (e : Ex H H') : Objs H' ps os := by
  unfold Objs at *
  rw [← h]
  refine List.map_congr_left fun a ha => ?_
  obtain ⟨i, hi⟩ := List.mem_iff_getElem?.mp ha
  obtain ⟨o, _, q⟩ := Objs.back (H := H) h hi
  rw [q, e _ _ q]
theorem Objs.at {ps : List Addr} {os : List HO} (h : Objs H ps os) {a : Addr} (m : a ∈ ps) : ∃ o, H a = some o := by
  obtain ⟨i, hi⟩ := List.mem_iff_getElem?.mp m
  obtain ⟨o, _, q⟩ := h.back hi
  exact ⟨o, q⟩
theorem Objs.chg {H' : Hp} {l : Addr} {ps : List Addr} {os : List HO} (h : Objs H ps os) (c : Chg l H H') (n : l ∉ ps) : Objs H' ps os := by
  unfold Objs at *
  rw [← h]
  exact List.map_congr_left fun a ha => c a fun e => n (e ▸ ha)
theorem w_listR {a : Addr} {xs : List V} (h : SqL K H a xs) (k : ∀ p H', H p = none → Ex H H' → H' p = some (.lst xs) → Q (.ref p) H') : rLst K [V.ref a] H Q := ⟨a, _, rfl, .inl h, fun p hp => k p _ hp (Ex.new hp) upd_same⟩
theorem take_succ {α : Type} {xs : List α} {i : Nat} {x : α} (h : xs[i]? = some x) : xs.take (i + 1) = xs.take i ++ [x] := by rw [List.take_add_one, h]; rfl
theorem dp_pairs {ps : List Addr} : ∀ {L : List (Int × Int)}, Objs H ps (L.map fun q => .tup [.int q.1, .int q.2]) → DpAll K H (ps.map V.ref) (L.map pairD) := by
  induction ps with
  | nil =>
    intro L h
    cases L with
    | nil => exact .nil
    | cons q L => cases h
  | cons a ps ih =>
    intro L h
    cases L with
    | nil => cases h
    | cons q L =>
      have e : H a = some (.tup [.int q.1, .int q.2]) := (List.cons.inj h).1
      exact .cons (dp_pair e) (ih (L := L) (List.cons.inj h).2)
theorem w_inP {t p : Addr} {q : Int × Int} {L : List (Int × Int)} {ps : List Addr} (ht : H t = some (.tup [.int q.1, .int q.2])) (hp : H p = some (.lst (ps.map V.ref))) (ho : Objs H ps (L.map fun q => .tup [.int q.1, .int q.2])) (k : Q (.bl (decide (q ∈ L))) H) : rInA K (.ref t) (.ref p) H Q :=
  .inl (.inr ⟨pairD q, L.map pairD, dp_pair ht, .lst (.inl (.inl hp)) (dp_pairs ho), pairD_sh q, pairsD_sh L, by rw [any_pair]; exact k⟩)
theorem refs_get {ps : List Addr} {i : Nat} {a : Addr} (h : ps[i]? = some a) : (ps.map V.ref)[i]? = some (.ref a) := by rw [List.getElem?_map, h]; rfl
end
end PL
namespace PE
open PySem PySem.Spec PyProof.Rows L2
/-- the code tables of the module's own defs are empty where the law starts -/
def TabOf (q : Program) (K : PySem.W.Frag) (h : Heap) : Prop := ∀ (x : Str) (f c P : Addr) (o : Obj) (fd : FuncData) (e : Value) (dd : Option Addr) (vs : Array Value) (sl : Array (Option Value)), ((recsOf q).any fun e => e.name == x) = true → PySem.W.nsIn K mainGlobals x = some (some (.ref f)) → K.lookup f = some o → o.data = .func fd → fd.code = .ref c → K.lookup c = some ⟨e, dd, .fields vs, sl⟩ → vs[11]? = some (.ref P) →
  PySem.W.CodeHd h c P ∧ h.get? P = some { cls := .none, data := .fields #[] }
theorem no_tab {K : PySem.W.Frag} {h : Heap} {P : Addr} (X : K.In h) (hK : PySem.W.noTabs K = true) (hP : h.get? P = some { cls := .none, data := .fields #[] }) : K.lookup P = none := by
  cases e : K.lookup P with
  | none => rfl
  | some o =>
    have e1 := X _ _ e
    rw [hP] at e1
    cases e1
    have h2 := List.all_eq_true.mp hK (P, _) (PySem.W.mem_of_lookupK e)
    exact absurd (show false = true from h2) Bool.false_ne_true
theorem walk_tabs {l : PySem.W.OpenLaw} {n k : Nat} {q : Program} {loose : List Str} {XP : (Str → Option Value) → Heap → Prop} {YP : World → Heap → Prop} {d : DefRec} {K : Params → PySem.W.Frag} {CX : World → CXT} {x : Str}
    (hn : l.most = some n) (hn2 : n ≤ sizeLine) (hdf : d.params.defaults = []) (hr : Room k callerA) (hY : ∀ (w : World) (h : Heap), YP w h → (K w.params).In h)
    (F : ∀ (w : World) (mg : Str → Option Value) (fa : Addr) (h : Heap), (K w.params).In h → h.Ns mainGlobals mg → mg d.name = some (.ref fa) → TabOf q (K w.params) h → LamX.LawAtS l w (K w.params) (CX w) k n x mg fa h)
    (hCX : ∀ (w : World) (H : Hp) (s : Shared) (e : Value) (s' : Shared), CX w [] H s (fun _ _ _ => False) e s' → False) :
    PySem.W.WalkO q loose XP YP l.row.toRowW d [] (fun f vs => PySem.call f vs) := by
  refine Att.attach_callB hn hdf fun w s₀ s₁ mg mb fa o pm cd doc a vs ns G Y ho hd hcd hmg hobj hints hlen hbits hg => ?_
  have KX := hY w _ Y
  have own : TabOf q (K w.params) s₁.heap := fun x f c P o1 fd1 e dd vs1 sl hrec hx k1 k2 k3 k4 k5 => by
    obtain ⟨dL, hm, hn1⟩ := List.any_eq_true.mp hrec
    have hn2 : dL.name = x := beq_iff_eq.mp hn1
    obtain ⟨a', o', fd', c', P', h1, h2, h3, h4, h5, h6⟩ := G.T.tab dL hm
    rw [hn2, PySem.W.mg_of KX G.T.g hx] at h1
    cases h1
    have g1 := KX _ _ k1
    rw [g1] at h2
    cases h2
    rw [k2] at h3
    cases h3
    rw [k3] at h4
    cases h4
    have h6' := h6
    obtain ⟨⟨oc, vc, e1, _, e3, e4⟩, hP⟩ := h6'
    have g2 := KX _ _ k4
    rw [g2] at e1
    cases e1
    cases e3
    rw [k5] at e4
    cases e4
    exact ⟨PySem.W.CodeHd.of h5 h6, hP⟩
  obtain ⟨fd, cs, sp, hT, nT, C, hb, hsp, hF⟩ := F w mg fa _ KX G.T.g hmg own
  exact LamX.law_callTs KX G.T.g G.T.b G.T.builtins G.T.nolimit hg hT nT C G.T.bmain hobj hints (Nat.le_trans hlen hn2) hr hF hb (fun H hH hS => hsp H a ns hlen hbits hH hS) fun H e s' => hCX w H s₁ e s'
end PE
namespace PX
open PySem PySem.Spec PySem.Calls PyProof.Rows L2 PySem.W
set_option maxHeartbeats 1000000
/-! ### super().__init__(..) of an own exception over ValueError -/
section
variable {prog : Program} {w : World} {A : Around} {E : Value → Shared → Prop} {h : Heap} {g : Array GenState} {d : Drawn} {t : Nat} {os : OsState}
variable {nm q : Str} {C N : Addr} {bs bm : List Value} {hdct : Bool} {sn : List Str} {sub : List Value} {ab : Bool} {col : Option Bool} {dd : Option Addr} {k0 k1 k2 k3 k5 : Option Value}
theorem call_mw {u e t0 : Addr} {rest : List Value} {Q : Value → Shared → Prop}
    (hC : h.get? C = some (excClassObj nm q C N bs bm hdct sn sub ab col dd k0 k1 k2 k3 k5 "ValueError.__new__")) (he : h.get? e = some (HandSPX.excO C t0)) (hu : h.get? u = some (kxs_mw "ValueError.__init__" e)) (hrest : rest.length ≤ sizeLine)
    (hq : ∀ h' t1, (∀ b o, b ≠ e → h.get? b = some o → h'.get? b = some o) → h'.get? e = some (HandSPX.excO C t1) → Q .none ⟨h', g, d, t, os⟩) :
    wpAny (model prog w) A (call (.ref u) rest) Q E ⟨h, g, d, t, os⟩ := by
  refine wpAny_call (codeAny_of_tree ?_)
  show wpAny _ A.in1 (callAny (.ref u) ⟨rest, []⟩) _ _ _
  simp only [callAny]
  refine wpAny_bind (wpAny_load hu ?_)
  simp only [kxs_mw, show (Value.type "method-wrapper" == Value.type "method" || Value.type "method-wrapper" == Value.type "builtin_function_or_method" || Value.type "method-wrapper" == Value.type "method-wrapper") = true by decide, if_true]
  refine W.KFB.if_so (by decide) ?_
  refine wpAny_bind (ESX.check_bound F.excBase_ValueError hC he rfl ?_)
  refine wpAny_bind (wpAny_pure (wpAny_pure ?_))
  refine ⟨Code.quiet_builtin _ (by decide +kernel), codeAny_builtin F.excBase_ValueError.initEntry ?_⟩
  rw [Around.under_plainId F.excBase_ValueError.init.plain _]
  wp_walk
  refine hq _ h.objs.size (fun b o hb ho => ?_) ?_
  · rw [Heap.get?_update_other _ _ (Ne.symm hb)]
    exact Heap.get?_push_of_some _ ho
  · rw [Heap.get?_update_self _ (Heap.get?_push_of_some _ he) rfl]
    rfl
end
/-- what the written part says of super() in the class at C -/
structure SupK (P : Program) (K : Frag) (C f cda cc : Addr) (fd : FuncData) : Prop where
  oex : OexC K C
  fn : ∃ (oc : Value) (od : Option Addr) (osl : Array (Option Value)), K.lookup f = some ⟨oc, od, .func fd, osl⟩
  code : ∃ (ccl : Value) (cdd : Option Addr) (ccs : Array (Option Value)) (vs : Array Value) (file : Str) (tf : Tok), K.lookup cda = some ⟨ccl, cdd, .fields vs, ccs⟩ ∧ vs[2]? = some (.str file tf) ∧ ((P.main.file : Str) == file) = true
  cell : ∃ (cl : Value) (cld : Option Addr) (csl : Array (Option Value)), K.lookup cc = some ⟨cl, cld, .cell (some (.ref C)), csl⟩
  sub : mroIn K C (.ref C) = some true
  top : (P.main.scope.names.lookup ("super" : Str)).isSome = false
  opq : nsIn K cStatics "thirdparty.any" = some none
  ini : ks_superIn K C C "__init__" = some (some (.builtin "ValueError.__init__"))
  ve : subIn K (.ref C) (.type "ValueError") = some true
/-- the scope of such an __init__ -/
structure SScope (N P : List Str) (sc : Scope) : Prop where
  kind : sc.kind = .function
  co : sc.isCoroutine = false
  gen : sc.isGenerator = false
  nd : N.Nodup
  pre : N.take P.length = P
  par : ∀ x ∈ P, sc.names.lookup x = some .local
  nocell : ∀ y ∈ sc.names, y.2 ≠ .cell
  free : ∀ y ∈ sc.names, y.2 = .free → y.1 = "__class__"
  sup : sc.names.lookup ("super" : Str) = some .globalImplicit
  cls : sc.names.lookup ("__class__" : Str) = some .free
theorem super_boot : bootBuiltins "super" = some (.type "super") := by kernel_rfl
section
variable {X : Cx} {C f cda cc a : Addr} {fd : FuncData} {qual : Str} {scope : Scope} {L : Addr} {body : List Stmt} {e : Expr} {es : List Expr} {ta : TA} {ar : Arg} {p0 p1 p2 pos : Pos} {N ps : List Str}
theorem super_call (hX : X.env = ksEnv qual scope L f (.ref cda) cc) (T : SupK X.prog X.K C f cda cc fd) (S : SScope N ps scope) (hN : X.N = N) (hself : (fd.params.posonlyargs ++ fd.params.args).head? = some ar) (h0 : ps[0]? = some ar.arg) (hg : X.mg "super" = none)
    (ha : PA X (e :: es) ta) {pins : List (Addr × Obj)} {s : Shared} {σ : L2.St} {H : Hp} {Q : Hp → Prop} (I : Inv X pins σ H s) (hσ : σ[0]? = some (some (V.ref a))) (hH : H a = some (exo a C none))
    (hq : ta σ H fun us H1 => us.length ≤ 1000 ∧ H1 a = some (exo a C none) ∧ Q H1) {pl : Sem Bool}
    (hc : eval (.Call (.Attribute (.Call (.Name "super" p0) [] [] p1) "__init__" p2) (e :: es) [] pos) X.env = (do
      let ov ← attributeBase (.Call (.Name "super" p0) [] [] p1) "__init__" X.env (eval (.Call (.Name "super" p0) [] [] p1) X.env)
      standAt p2.atName
      let (f, first) ← holding [ov] (getMethod ov "__init__" pl)
      callWith pos f first (backTo pos (starEach (e :: es) X.env)) []) := by rfl)
    (he : starEach (e :: es) X.env = (false, eval e X.env) :: starEach es X.env := by rfl) (hpl : (backTo pos (starEach es X.env)).any (·.1) = false := by rfl) :
    _root_.PySem.wpAt (model X.prog X.w) X.A (.func body X.env) (eval (.Call (.Attribute (.Call (.Name "super" p0) [] [] p1) "__init__" p2) (e :: es) [] pos) X.env) (fun _ s' => ∃ H1, Inv X pins σ H1 s' ∧ Q H1) X.xe s := by
  obtain ⟨oc, od, osl, lf⟩ := T.fn
  obtain ⟨ccl, cdd, ccs, vs, file, tf, lcode, hvs, hfile⟩ := T.code
  obtain ⟨cl, cld, csl, lcell⟩ := T.cell
  obtain ⟨nm, q, N', bs, bm, sn, sub, ab, col, dd, k0, k1, k2, k3, k5, hC, hbm⟩ := T.oex.cls
  have hcl : clsIn X.K C = some { name := nm, bases := bs, mro := .ref C :: bm, ns := N', qualname := q, hasDict := true, slotNames := sn, subclasses := sub, abstract := ab, collection := col, hasDel := false } := by unfold clsIn; rw [hC] <;> rfl
  have KX := I.kIn
  have kk : ∀ x : Str, X.env.kindOf x = scope.names.lookup x := fun x => by rw [hX]; rfl
  obtain ⟨m, hns, hl⟩ := I.loc
  have hNa : X.N[0]? = some ar.arg := by
    rw [hN]
    have := S.pre
    rw [← this] at h0
    rw [List.getElem?_take] at h0
    split at h0
    · exact h0
    · cases h0
  have hpar : scope.names.lookup ar.arg = some .local := S.par _ (List.mem_of_getElem? h0)
  obtain ⟨u, ru, lk⟩ := hl 0 ar.arg (.ref a) hNa hσ (.inl (by rw [hX]; exact hpar))
  obtain rfl : u = Value.ref a := ru
  have hm : m ar.arg = some (.ref a) := by
    rcases lk with ⟨_, z⟩ | ⟨z, _⟩
    · exact z
    · rw [kk, hpar] at z
      rcases z with z | z <;> cases z
  obtain ⟨t1, ho⟩ := exo_at I.hok hH
  obtain ⟨mb, hb1, hb2⟩ := I.mod.blt
  refine ks_wpAt_MethodCall (pl := pl) ?_ hc
  refine ks_wpAt_super_base (by rw [kk]; exact S.sup) (by rw [kk]; exact S.cls) (by decide) (by rw [hX]) (KX _ _ lf) rfl hself (by rw [hX]) (KX _ _ lcode) rfl hvs hfile T.top ?_
  refine ks_loadName_global I.ok.kind (by rw [kk]; exact S.sup) (loadGlobal_builtin (by rw [I.ok.glob]; exact I.mod.glob.keeps I.bk) hg (by rw [I.ok.blt]; exact hb1.keeps I.bk) ((hb2 _ (by decide +kernel)).trans super_boot) ⟨rfl, ?_⟩)
  refine wpAny_loadName_free I.ok.kind (by rw [kk]; exact S.cls) (by rw [hX]; rfl) ⟨_, KX _ _ lcell, rfl⟩ ?_
  refine wpAny_loadName_local I.ok.kind (by rw [kk]; exact hpar) hns hm ?_
  obtain ⟨hp, g, d, tk, os⟩ := s
  refine ks_wpAny_isType_cls (KX _ _ hC) rfl ⟨rfl, ?_⟩
  refine ks_wpAny_call_super (KX _ _ hC) rfl ho rfl (fun _ z => nomatch z) (looks_mroIn KX T.sub) (fun h1 e1 k1 => ?_)
  have I1 : Inv X pins σ H ⟨h1, g, d, tk, os⟩ := I.kept (t' := tk) k1
  have KX1 := I1.kIn
  have ho1 := k1 _ _ ho
  have hin : Looks (model X.prog X.w) h1 (isInstance (.ref a) (.type "ValueError")) true := (InstAt.type (ox := _) (od := none) ⟨ho1, rfl, rfl, trivial⟩).andThen (looks_subIn KX1 T.ve)
  have hini := T.ini
  unfold ks_superIn at hini
  rw [hcl] at hini
  have haC : a ≠ C := ks_ne KX1 (ox := _) (odx := none) ⟨ho1, rfl, rfl, trivial⟩ hcl
  refine kxs_getMethod kxs_ValueError e1 (looks_opaque KX1 T.opq) (l₀ := .ref C :: bm) (fun A Q E s k q => wpAny_bind ((looks_clsIn KX1 hcl) A _ E s k (wpAny_pure q))) rfl KX1 hini hin haC (by decide) ?_
  have I2 : Inv X pins σ H ⟨h1.push (kxs_mw "ValueError.__init__" a), g, d, tk + 1, os⟩ := I1.kept (t' := tk + 1) fun b o e => Heap.get?_push_of_some _ e
  have gu : (h1.push (kxs_mw "ValueError.__init__" a)).get? h1.objs.size = some (kxs_mw "ValueError.__init__" a) := Heap.get?_push_at rfl rfl
  have I3 : Inv X ((h1.objs.size, kxs_mw "ValueError.__init__" a) :: pins) σ H ⟨h1.push (kxs_mw "ValueError.__init__" a), g, d, tk + 1, os⟩ := I2.pins_of fun p hp => by
    rcases List.mem_cons.mp hp with rfl | hp
    · exact ⟨gu, I1.hok.fresh (Nat.le_refl _), Nat.ne_of_gt I1.lt, I1.nofs (Nat.le_refl _), fun _ z => nomatch z⟩
    · exact I2.pin p (List.mem_append_right _ hp)
  have run := ha.run pos _ _ σ H _ I3 hq
  rw [he] at run ⊢
  refine kxs_callWith (i := "ValueError.__init__") (x := a) (by show (false || (backTo pos (starEach es X.env)).any (·.1)) = false; rw [hpl]; rfl) ?_
  refine evalArgs_plain (thn run fun us s1 ⟨vs, H1, J, rv, hz, ea, q⟩ => ?_)
  have pu := J.pin _ (List.mem_append_right _ List.mem_cons_self)
  have J1 : Inv X pins σ H1 s1 := J.pins_of fun p hp => J.pin p (List.mem_append_right _ (List.mem_cons_of_mem _ hp))
  refine ⟨pu.1, ?_⟩
  obtain ⟨t2, ho2⟩ := exo_at J1.hok ea
  obtain ⟨hp2, g2, d2, tk2, os2⟩ := s1
  refine call_mw (J1.kIn _ _ hC) ho2 pu.1 (by show us.length ≤ _; rw [← Paired.length rv, sizeLine_eq]; omega) fun h' t3 k3 hx => ?_
  have J2 := J1.write (t' := tk2) (x := a) (e := a) (o := exo a C none) (by rw [ea]; exact True.intro) (.inl rfl) k3 ⟨_, hx⟩ (exo_ok hx)
  have eu : upd H1 a (exo a C none) = H1 := by
    funext b
    by_cases hb : b = a
    · rw [hb, upd_same, ea]
    · rw [upd_ne hb]
  rw [eu] at J2
  exact ⟨H1, J2, q⟩
end
/-! ### such an __init__ as a def -/
def cxS (CX : CXT) (P : Program) (w : World) (K : Frag) (mg : Str → Option Value) (base : Heap) (N : List Str) (qual : Str) (scope : Scope) (f cda cc : Addr) (A : Around) (outer : List Env) (s : Shared) (H : Hp) (E : XK) : Cx where
  prog := P
  w := w
  K := K
  mg := mg
  base := base
  A := A.deeper (ksEnv qual scope s.heap.objs.size f (.ref cda) cc)
  N := N
  s_0 := s
  H_0 := H
  env := ksEnv qual scope s.heap.objs.size f (.ref cda) cc
  outer := outer
  stack := ksEnv qual scope s.heap.objs.size f (.ref cda) cc :: outer
  ex := []
  calm := true
  fn := fun _ => false
  pn := []
  xe := fun e s' => wpAny (model P w) (A.deeper (ksEnv qual scope s.heap.objs.size f (.ref cda) cc)) (leaving (ksEnv qual scope s.heap.objs.size f (.ref cda) cc) e) (fun _ s'' => CX outer H s E e s'') (fun e' s'' => CX outer H s E e' s'') s'
theorem rev_lookup {y : Str} {u : Value} : ∀ {ps : List Str} {us : List Value} {i : Nat}, ps.Nodup → ps[i]? = some y → us[i]? = some u → (ps.zip us).reverse.lookup y = some u := by
  have key : ∀ (l : List (Str × Value)), (l.map (·.1)).Nodup → (y, u) ∈ l → l.lookup y = some u := by
    intro l
    induction l with
    | nil => intro _ m; exact nomatch m
    | cons p l ih =>
      intro nd m
      obtain ⟨k, z⟩ := p
      rw [List.map_cons, List.nodup_cons] at nd
      rcases List.mem_cons.mp m with e | m'
      · cases e
        simp [List.lookup]
      · have hne : (y == k) = false := by
          rw [beq_eq_false_iff_ne]
          rintro rfl
          exact nd.1 (List.mem_map.mpr ⟨(_, u), m', rfl⟩)
        rw [List.lookup_cons, hne]
        exact ih nd.2 m'
  intro ps us i nd h1 h2
  refine key _ ?_ (List.mem_reverse.mpr (List.mem_of_getElem? (i := i) ?_))
  · rw [List.map_reverse]
    refine List.pairwise_reverse.mpr (List.Pairwise.imp (fun h => Ne.symm h) (nd.sublist ?_))
    have : ∀ (ps : List Str) (us : List Value), ((ps.zip us).map (·.1)).Sublist ps := by
      intro ps
      induction ps with
      | nil => intro us; simp
      | cons p ps ih =>
        intro us
        cases us with
        | nil => simp
        | cons u us => rw [List.zip_cons_cons, List.map_cons]; exact (ih us).cons₂ _
    exact this ps us
  · rw [List.getElem?_zip_eq_some]
    exact ⟨h1, h2⟩
section
variable {CX : CXT} {P : Program} {w : World} {K : Frag} {mg : Str → Option Value} {base : Heap} {N ps : List Str} {qual : Str} {scope : Scope} {C f cda cc : Addr} {A : Around} {outer : List Env} {s : Shared} {H : Hp} {E : XK} {us : List Value} {vs : List V} {fd : FuncData}
theorem inv_startS (T : SupK P K C f cda cc fd) (S : SScope N ps scope) (hd : A.handled = none) (e0 : Env0 P w K mg base A outer s H) (hl : vs.length = ps.length) (r : Vals vs us) {h1 : Heap} {tk : Nat}
    (hns : h1.Ns s.heap.objs.size fun x => (ps.zip us).reverse.lookup x) (hk : ∀ b o, s.heap.get? b = some o → h1.get? b = some o) :
    Inv (cxS CX P w K mg base N qual scope f cda cc A outer s H E) [] (start N vs) H { s with heap := h1, toks := tk } := by
  have hpl : ps.length ≤ N.length := by have := congrArg List.length S.pre; rw [List.length_take] at this; omega
  have noA : ∀ b : Addr, b ∉ (cxS CX P w K mg base N qual scope f cda cc A outer s H E).ex := fun b z => absurd (show b ∈ ([] : List Addr) from z) (by simp)
  obtain ⟨cl, cld, csl, lcell⟩ := T.cell
  have hcb := e0.mod.kin _ _ lcell
  have one : ∀ {y : Str} {c : Addr}, ([(("__class__" : Str), cc)] : List (Str × Addr)).lookup y = some c → y = "__class__" ∧ c = cc := by
    intro y c h
    rw [List.lookup_cons] at h
    cases e : (y == ("__class__" : Str)) with
    | true =>
      rw [e] at h
      exact ⟨beq_iff_eq.mp e, (Option.some.inj h).symm⟩
    | false =>
      rw [e] at h
      cases h
  refine ⟨⟨e0.mod, S.kind, rfl, rfl, Nat.le_refl _, fun y z c h1 h2 => ?_, fun y hy => ?_, fun y c z _ => (nomatch z), fun _ => hd, Around.frames_deeper e0.frames, .inr ⟨rfl, rfl⟩, fun b z => absurd z (noA b), e0.bs, e0.bsz, fun b _ _ => noA b, fun b z => absurd z (noA b), e0.funs, e0.frf⟩,
    rfl, e0.bare, Un.kept hk, ⟨_, hns, fun i y v h1 h2 h3 => ?_⟩, fun y c h => ?_, e0.hok.fresh (Nat.le_refl _), fun y c h => ?_, fun p hp => absurd (show p ∈ ([] : List (Addr × Obj)) from hp) (by simp), e0.hok.kept hk, ?_⟩
  · rw [(one h1).1, (one h2).1]
  · have hy : scope.names.lookup y = some .cell ∨ scope.names.lookup y = some .free := hy
    rcases hy with hy | hy
    · exact absurd rfl (S.nocell _ (PySem.mem_of_lookup hy))
    · have := S.free _ (PySem.mem_of_lookup hy) rfl
      exact ⟨cc, by rw [show y = "__class__" from this]; rfl⟩
  · have hi : i < vs.length := by
      unfold L2.start at h2
      by_cases hi : i < vs.length
      · exact hi
      · rw [List.getElem?_append_right (by simpa using hi)] at h2
        rw [List.getElem?_replicate] at h2
        split at h2 <;> cases h2
    have ha : vs[i]? = some v := by
      unfold L2.start at h2
      rw [List.getElem?_append_left (by simpa using hi), List.getElem?_map] at h2
      cases e : vs[i]? with
      | none => rw [e] at h2; cases h2
      | some a => rw [e] at h2; cases h2; rfl
    obtain ⟨u, hu, rv⟩ := r.get ha
    have hp : ps[i]? = some y := by
      rw [← S.pre, List.getElem?_take_of_lt (by omega)]; exact h1
    have ndP : ps.Nodup := by rw [← S.pre]; exact S.nd.sublist (List.take_sublist _ _)
    exact ⟨u, rv, .inl ⟨S.par y (List.mem_of_getElem? hp), rev_lookup ndP hp hu⟩⟩
  · rw [(one h).2]
    exact ⟨_, _, hk _ _ (e0.bs _ _ hcb).1, rfl⟩
  · rw [(one h).2]
    exact (e0.bs _ _ hcb).2
  · unfold L2.start
    show _ = N.length
    rw [List.length_append, List.length_map, List.length_replicate]
    omega
theorem fn_super {k : Nat} {name : Str} {params : Arguments} {first : Stmt} {rest : List Stmt} {dV kV doc pm ct oc : Value} {an od : Option Addr} {osl : Array (Option Value)} {sp : Sp} {e : Expr} {es : List Expr} {ar : Arg} {p0 p1 p2 p3 p4 : Pos}
    (lk : K.lookup f = some ⟨oc, od, .func (ksFn name qual params (first :: rest) scope dV kV doc pm an (.ref cda) ct cc), osl⟩) (hcd : codeIn K (.ref cda) qual = true) (S : SScope N ps scope) (len : ∀ vs H Q E, sp vs H Q E → vs.length = ps.length)
    (T : SupK P K C f cda cc (ksFn name qual params (first :: rest) scope dV kV doc pm an (.ref cda) ct cc)) (hself : (params.posonlyargs ++ params.args).head? = some ar) (h0 : ps[0]? = some ar.arg) (hg : mg "super" = none)
    (hfirst : first = .Expr (.Call (.Attribute (.Call (.Name "super" p0) [] [] p1) "__init__" p2) (e :: es) [] p3) p4)
    (hsw : ∀ env : Env, swapsWith (.Call (.Attribute (.Call (.Name "super" p0) [] [] p1) "__init__" p2) (e :: es) [] p3) none p4.line env = pure false)
    (hpl : ∀ env : Env, starEach (e :: es) env = (false, eval e env) :: starEach es env ∧ (backTo p3 (starEach es env)).any (·.1) = false)
    (hc : ∀ env : Env, ∃ pl : Sem Bool, eval (.Call (.Attribute (.Call (.Name "super" p0) [] [] p1) "__init__" p2) (e :: es) [] p3) env = (do
      let ov ← attributeBase (.Call (.Name "super" p0) [] [] p1) "__init__" env (eval (.Call (.Name "super" p0) [] [] p1) env)
      standAt p2.atName
      let (f, first) ← holding [ov] (getMethod ov "__init__" pl)
      callWith p3 f first (backTo p3 (starEach (e :: es) env)) []))
    (hbody : ∀ (A : Around) (outer : List Env) (s : Shared) (H : Hp) (vs : List V) (Q : VK) (E : XK), Room k (A.deeper (ksEnv qual scope s.heap.objs.size f (.ref cda) cc)) → sp vs H Q E →
      ∃ (ta : TA) (t : TS) (a : Addr), PA (cxS CX P w K mg base N qual scope f cda cc A outer s H E) (e :: es) ta ∧ PSs (cxS CX P w K mg base N qual scope f cda cc A outer s H E) rest t ∧ vs[0]? = some (.ref a) ∧ H a = some (exo a C none) ∧
        ta (start N vs) H fun us H1 => us.length ≤ 1000 ∧ H1 a = some (exo a C none) ∧ t { nx := fun _ H' => Q .non H', rt := Q } (start N vs) H1) :
    FnOk P w K mg base CX (k + 1) f (ksFn name qual params (first :: rest) scope dV kV doc pm an (.ref cda) ct cc) ps sp := by
  refine ⟨len, fun A outer s H args us vs Q E hr e0 hb r hsp => ?_⟩
  have hl := len _ _ _ _ hsp
  have KX : K.In s.heap := e0.mod.kin.keeps fun b o e => (e0.bs b o e).1
  have lim : s.heap.NoLimit := e0.mod.nolimit.keeps fun b o e => (e0.bs b o e).1
  refine ks_codeAny_call_defAt hr.depth (KX _ _ lk) rfl lim (codeRec_of KX hcd) rfl hb S.nocell (fun ⟨n, v⟩ hy => S.par n (List.of_mem_zip hy).1) (fun h₁ hns hk => ?_) S.co S.gen S.kind
  obtain ⟨ta, t, a, hta, ht, hv0, hH, hq⟩ := hbody A outer s H vs Q E (hr.deeper _) hsp
  have I : Inv (cxS CX P w K mg base N qual scope f cda cc A outer s H E) [] (start N vs) H { s with heap := h₁, toks := s.toks + (ps.zip us).length } := inv_startS T S hr.hd e0 hl r hns hk
  have hσ : (start N vs)[0]? = some (some (V.ref a)) := by
    unfold L2.start
    have hlt : 0 < vs.length := (List.getElem?_eq_some_iff.mp hv0).1
    rw [List.getElem?_append_left (by simpa using hlt), List.getElem?_map, hv0]
    rfl
  obtain ⟨pl, hc⟩ := hc (ksEnv qual scope s.heap.objs.size f (.ref cda) cc)
  obtain ⟨hst, hpl⟩ := hpl (ksEnv qual scope s.heap.objs.size f (.ref cda) cc)
  have main := super_call (body := first :: rest) (X := cxS CX P w K mg base N qual scope f cda cc A outer s H E) (Q := fun H1 => t { nx := fun _ H' => Q .non H', rt := Q } (start N vs) H1) rfl T S rfl hself h0 hg hta I hσ hH hq (pl := pl) hc hst hpl
  have e1 : ∀ env, exec first env = exec (.Expr (.Call (.Attribute (.Call (.Name "super" p0) [] [] p1) "__init__" p2) (e :: es) [] p3) p4) env := fun env => by rw [hfirst]
  refine ks_wpAt_execs_cons ?_
  rw [e1]
  refine (ks_wpAt_Expr_any (ks_wpAt_mono main (fun u s1 hs => ?_) fun _ _ x => x) I.quiet (hsw _))
  obtain ⟨H1, I1, q1⟩ := hs
  refine _root_.PySem.wpAt_of_wpAny (wpAny_mono (ht.run [] s1 (start N vs) H1 _ I1 q1) (fun fl s' hs => ?_) fun e s' hs => hs)
  have fin : ∀ {σ' : L2.St} {H' : Hp} {v : V} {u : Value}, Inv (cxS CX P w K mg base N qual scope f cda cc A outer s H E) [] σ' H' s' → RelV v u → Q v H' → CE outer P w H s Q u s' :=
    fun {σ' H' v u} J rv q => ⟨v, H', J.os, J.bare, J.base, J.hok, rv, q⟩
  cases fl with
  | ret u =>
    obtain ⟨v, σ', H', J, rv, q⟩ := hs
    exact fin J rv q
  | next =>
    obtain ⟨σ', H', J, q⟩ := hs
    exact fin (v := V.non) (u := Value.none) J rfl q
  | brk =>
    obtain ⟨_, _, _, q⟩ := hs
    exact False.elim q
  | cont =>
    obtain ⟨_, _, _, q⟩ := hs
    exact False.elim q
end
end PX
namespace PX
open PySem PySem.Spec PySem.Calls PyProof.Rows L2 PySem.W
set_option maxHeartbeats 1000000
/-! ### texts of values: some text, of bounded length -/
theorem txt_int {i : Int} (h : i.natAbs.log2 < 1920) : (Str.ofString (toString i)).length ≤ 1921 := by
  have e := int_text_length_le (k := 1920) (by decide) h
  rw [PySem.ofString_length]
  exact e
/-- a value that is no object and whose text is short -/
def Fs : V → Prop
  | .non => True
  | .bl _ => True
  | .int i => i.natAbs.log2 < 1920
  | .str y => y.length ≤ 1900 ∧ (reprText y).length ≤ 1900
  | _ => False
def FmV (H : Hp) (x : V) : Prop := Fs x ∨ ∃ (a : Addr) (xs : List V), x = .ref a ∧ H a = some (.tup xs) ∧ xs.length ≤ 10 ∧ ∀ z ∈ xs, Fs z
theorem fs_repr {prog : Program} {w : World} : ∀ {xs : List V} {its : List Value}, Vals xs its → (∀ z ∈ xs, Fs z) → ∃ ts : List Str, ReprAll prog w its ts ∧ piled ts ≤ 1930 * xs.length
  | [], _, r, _ => by
    cases r
    exact ⟨[], .nil, Nat.le_refl _⟩
  | x :: xs, _, r, h => by
    cases r with
    | cons r1 r2 =>
      obtain ⟨ts, h1, h2⟩ := fs_repr (prog := prog) (w := w) r2 fun z hz => h z (List.mem_cons_of_mem _ hz)
      have hx := h x List.mem_cons_self
      have fin : ∀ {u : Value} {t : Str}, ReprIs prog w u t → t.length ≤ 1925 → ∃ ts : List Str, ReprAll prog w (u :: _) ts ∧ piled ts ≤ 1930 * (xs.length + 1) := fun {u t} q l => ⟨t :: ts, .cons q h1, by rw [piled_cons]; omega⟩
      cases x with
      | non =>
        obtain rfl := r1
        exact fin ReprIs.none (by decide +kernel)
      | bl b =>
        obtain rfl := r1
        exact fin (ReprIs.bool b) (by cases b <;> decide +kernel)
      | int i =>
        obtain ⟨t, rfl⟩ := r1
        exact fin (ReprIs.int t hx) (Nat.le_trans (txt_int hx) (by decide))
      | str y =>
        obtain ⟨t, rfl⟩ := r1
        exact fin (ReprIs.str y t (by rw [sizeLine_eq]; have := hx.2; omega)) (by have := hx.2; omega)
      | _ => exact hx.elim
section
variable {X : Cx}
def tFmtA (te : TE) : TE := fun σ H Q => te σ H fun x H1 => FmV H1 x ∧ ∀ m : Str, m.length ≤ 25000 → Q (.str m) H1
theorem pe_fmtA {e : Expr} {te : TE} {pos : Pos} {k : Nat} (hr : Room k X.A) (he : PE X e te) : PE X (.FormattedValue e (-1) none pos) (tFmtA te) := by
  refine ⟨fun pins s σ H Q I h => ?_⟩
  refine wpAny_FormattedValue_plain (thn (he.run pins s σ H _ I h) fun v s1 hv => ?_)
  obtain ⟨x, H1, I1, r1, hx, q⟩ := hv
  rcases hx with hx | ⟨a, xs, rfl, ht, hn, hz⟩
  · cases x with
    | non =>
      obtain rfl := r1
      exact wpAny_formatField_none ⟨.str "None", H1, I1.tok _, ⟨_, rfl⟩, q _ (by decide +kernel)⟩
    | bl b =>
      obtain rfl := r1
      exact wpAny_formatField_bool ⟨.str (if b then "True" else "False"), H1, I1.tok _, ⟨_, rfl⟩, q _ (by cases b <;> decide +kernel)⟩
    | int i =>
      obtain ⟨t, rfl⟩ := r1
      exact wpAny_formatField_int hx ⟨.str (toString i), H1, I1.tok _, ⟨_, rfl⟩, q _ (Nat.le_trans (txt_int hx) (by decide))⟩
    | str y =>
      obtain ⟨t, rfl⟩ := r1
      have hy : y.length ≤ 25000 := Nat.le_trans hx.1 (by decide)
      exact wpAny_formatField_str ⟨.str y, H1, I1, ⟨t, rfl⟩, q _ hy⟩ ⟨.str y, H1, I1.tok _, ⟨_, rfl⟩, q _ hy⟩ (by rw [sizeLine_eq]; omega)
    | _ => exact hx.elim
  · obtain rfl : v = Value.ref a := r1
    obtain ⟨its, rv, ⟨o, ho, hcl, n, hd⟩, _⟩ := I1.tuple (.inl (.inl ht) : SqT X.K H1 a xs)
    obtain ⟨ts, h1, h2⟩ := fs_repr (prog := X.prog) (w := X.w) rv hz
    have htx := fmt_text ts
    have hu := hr.un
    refine fmt_tuple (ts := ts) (by omega) ho hcl hd h1 (by rw [sizeLine_eq]; omega) fun m u tk hm => ⟨.str m, H1, I1.tok _, ⟨u, rfl⟩, q m (by omega)⟩
/-- a text, of bounded length, come what may -/
def Tx (te : TE) (σ : L2.St) (H : Hp) : Prop := ∀ Q : VK, (∀ m : Str, m.length ≤ 25000 → Q (.str m) H) → te σ H Q
theorem tx_c {s : Str} {σ : L2.St} {H : Hp} (h : s.length ≤ 25000 := by decide +kernel) : Tx (tC (.str s)) σ H := fun Q q => q s h
theorem tx_a {i : Nat} {v : V} {σ : L2.St} {H : Hp} (h : σ[i]? = some (some v)) (f : FmV H v) : Tx (tFmtA (tVar i)) σ H := fun Q q => ⟨v, h, f, q⟩
theorem tx_r {i : Nat} {v : V} {σ : L2.St} {H : Hp} (h : σ[i]? = some (some v)) (f : (∃ y : Str, v = .str y ∧ (reprText y).length ≤ 25000) ∨ ∃ j : Int, v = .int j ∧ j.natAbs.log2 < 1920) : Tx (tFmtR (tVar i)) σ H := fun Q q => by
  refine ⟨v, h, ?_⟩
  rcases f with ⟨y, rfl, hy⟩ | ⟨j, rfl, hj⟩
  · exact .inl ⟨y, rfl, by rw [sizeLine_eq]; omega, q _ hy⟩
  · exact .inr ⟨j, rfl, hj, q _ (Nat.le_trans (txt_int hj) (by decide))⟩
theorem tx_js : ∀ {ts : List TE} {acc : Str} {σ : L2.St} {H : Hp} {Q : Str → Hp → Prop}, (∀ t ∈ ts, Tx t σ H) → acc.length + 25000 * ts.length ≤ 1000000 → (∀ out : Str, Q out H) → tJs ts acc σ H Q
  | [], acc, σ, H, Q, _, _, q => q acc
  | t :: ts, acc, σ, H, Q, h, hl, q => h t List.mem_cons_self _ fun m hm => by
    rw [List.length_cons] at hl
    have e := strLen_append acc m
    exact ⟨m, rfl, by rw [e, sizeLine_eq]; omega, tx_js (fun t ht => h t (List.mem_cons_of_mem _ ht)) (by rw [e]; omega) q⟩
end
end PX
namespace PX
open PySem PySem.Spec PySem.Calls PyProof.Rows L2 PySem.W
set_option maxHeartbeats 1000000
/-! ### an own exception's __init__: super().__init__(text), then the fields -/
/-- the def of an __init__ that says super() -/
structure FunS (K : Frag) (x qual : Str) (st : Stmt) (f cda cc : Addr) (fd : FuncData) : Prop where
  ex : ∃ (oc : Value) (od : Option Addr) (kV doc pm : Value) (an : Option Addr) (ct : Value) (osl : Array (Option Value)),
    fd = ksFn x qual (defArgs st) (defBody st) (defScope st) .none kV doc pm an (.ref cda) ct cc ∧ K.lookup f = some ⟨oc, od, .func fd, osl⟩ ∧ codeIn K (.ref cda) qual = true
/-- self.f = x, one after another -/
def tOsts (K : Frag) : List (Str × Nat) → TS
  | [] => tNext
  | (f, i) :: r => tSeq (tOst K f (tVar 0) (tVar i)) (tOsts K r)
theorem upd2 {H : Hp} {d : Addr} {x y : HO} : upd (upd H d x) d y = upd H d y := by
  funext b
  by_cases h : b = d
  · rw [h, upd_same, upd_same]
  · rw [upd_ne h, upd_ne h, upd_ne h]
theorem upd_comm {H : Hp} {a d : Addr} {x y : HO} (h : d ≠ a) : upd (upd H d x) a y = upd (upd H a y) d x := by
  funext b
  by_cases h1 : b = a
  · rw [h1, upd_same, upd_ne (Ne.symm h), upd_same]
  · by_cases h2 : b = d
    · rw [h2, upd_ne h, upd_same, upd_same]
    · rw [upd_ne h1, upd_ne h2, upd_ne h2, upd_ne h1]
section
variable {K : Frag} {C a : Addr} {σ : L2.St} {D : Ends}
theorem osts_old (T : OexC K C) (h0 : σ[0]? = some (some (V.ref a))) {dx : Addr} {H0 : Hp} (hd : dx ≠ a) : ∀ (r : List (Str × Nat)) (ws : List V) (fs : List (Str × V)), fs.length + r.length ≤ 900 → (∀ p ∈ r, findIn K (.ref C) p.1 = some none) → r.length = ws.length →
    (∀ (j : Nat) (p : Str × Nat), r[j]? = some p → σ[p.2]? = some (ws[j]?)) → D.nx σ (upd (upd H0 dx (exd dx (((r.map (·.1)).zip ws).reverse ++ fs))) a (exo a C (some dx))) → tOsts K r D σ (upd (upd H0 dx (exd dx fs)) a (exo a C (some dx)))
  | [], [], fs, _, _, _, _, h => by simpa [tOsts, tNext] using h
  | (f, i) :: r, w :: ws, fs, hl, hn, he, hv, h => by
    have e0 := hv 0 (f, i) rfl
    refine ⟨w, e0, V.ref a, h0, a, C, rfl, T, hn _ List.mem_cons_self, .inr ⟨dx, fs, upd_same, by rw [upd_ne hd, upd_same], by rw [List.length_cons] at hl; omega, ?_⟩⟩
    show tOsts K r D σ _
    have e1 : upd (upd (upd H0 dx (exd dx fs)) a (exo a C (some dx))) dx (exd dx ((f, w) :: fs)) = upd (upd H0 dx (exd dx ((f, w) :: fs))) a (exo a C (some dx)) := by rw [← upd_comm hd, upd2]
    rw [e1]
    refine osts_old T h0 hd r ws _ (by rw [List.length_cons] at hl ⊢; omega) (fun p hp => hn p (List.mem_cons_of_mem _ hp)) (by simpa using he) (fun j p hj => hv (j + 1) p hj) ?_
    simpa using h
theorem osts_new (T : OexC K C) (h0 : σ[0]? = some (some (V.ref a))) {H : Hp} (ha : H a = some (exo a C none)) {f : Str} {i : Nat} {r : List (Str × Nat)} {w : V} {ws : List V} (hl : r.length ≤ 800) (hn : ∀ p ∈ (f, i) :: r, findIn K (.ref C) p.1 = some none) (he : r.length = ws.length)
    (hv : ∀ (j : Nat) (p : Str × Nat), ((f, i) :: r)[j]? = some p → σ[p.2]? = some ((w :: ws)[j]?)) (h : ∀ d, H d = none → d ≠ a → D.nx σ (upd (upd H d (exd d (((((f, i) :: r).map (·.1)).zip (w :: ws)).reverse))) a (exo a C (some d)))) : tOsts K ((f, i) :: r) D σ H := by
  have e0 := hv 0 (f, i) rfl
  refine ⟨w, e0, V.ref a, h0, a, C, rfl, T, hn _ List.mem_cons_self, .inl ⟨ha, fun dx n ne => ?_⟩⟩
  show tOsts K r D σ _
  refine osts_old T h0 ne r ws [(f, w)] (by simp; omega) (fun p hp => hn p (List.mem_cons_of_mem _ hp)) he (fun j p hj => hv (j + 1) p hj) ?_
  have := h dx n ne
  simpa using this
end
/-- what C(..) leaves behind -/
def spX (C : Addr) (nms : List Str) (fi : List Nat) : Sp := fun vs H Q _ => ∃ (a : Addr) (ws : List V), vs = .ref a :: ws ∧ ws.length = nms.length ∧ H a = some (exo a C none) ∧ (∀ i ∈ fi, ∀ v, ws[i]? = some v → FmV H v) ∧
  ∀ d, H d = none → d ≠ a → Q .non (upd (upd H d (exd d (nms.zip ws).reverse)) a (exo a C (some d)))
theorem spX_len {C : Addr} {nms ps : List Str} {fi : List Nat} (h : ps.length = nms.length + 1) : ∀ vs H Q E, spX C nms fi vs H Q E → vs.length = ps.length := by
  rintro vs H Q E ⟨a, ws, rfl, hl, _⟩
  rw [List.length_cons, hl, h]
/-- the fields of the parameters 1, 2, .. -/
def fls (nms : List Str) : List (Str × Nat) := nms.zip (List.range' 1 nms.length)
theorem fls_at {nms : List Str} {j : Nat} {p : Str × Nat} (h : (fls nms)[j]? = some p) : nms[j]? = some p.1 ∧ p.2 = j + 1 := by
  unfold fls at h
  rw [List.getElem?_zip_eq_some] at h
  obtain ⟨h1, h2⟩ := h
  rw [List.getElem?_range' (List.getElem?_eq_some_iff.mp h1).1] at h2
  have hlt := (List.getElem?_eq_some_iff.mp h1).1
  refine ⟨h1, ?_⟩
  have := Option.some.inj h2
  omega
theorem fls_map {nms : List Str} : (fls nms).map (·.1) = nms := by
  unfold fls
  rw [List.map_fst_zip]
  simp
section
variable {CX : CXT} {P : Program} {w : World} {K : Frag} {mg : Str → Option Value} {base : Heap}
/-- THE RULE: such an __init__ -/
theorem ex_init {x qual : Str} {st first : Stmt} {rest : List Stmt} {f cda cc C : Addr} {fd : FuncData} {N ps nms : List Str} {n0 : Str} {fi : List Nat} {k : Nat} {e : Expr} {ar : Arg} {p0 p1 p2 p3 p4 : Pos} {te : TE}
    (F : FunS K x qual st f cda cc fd) (S : SScope N ps (defScope st)) (T : SupK P K C f cda cc fd) (hb : defBody st = first :: rest)
    (hself : ((defArgs st).posonlyargs ++ (defArgs st).args).head? = some ar) (hps : ps = ar.arg :: nms) (hnm : nms = n0 :: nms.tail) (hnl : nms.length ≤ 100) (hN : N = ps) (hg : mg "super" = none) (hno : ∀ g ∈ nms, findIn K (.ref C) g = some none)
    (hfirst : first = .Expr (.Call (.Attribute (.Call (.Name "super" p0) [] [] p1) "__init__" p2) [e] [] p3) p4)
    (hsw : ∀ env : Env, swapsWith (.Call (.Attribute (.Call (.Name "super" p0) [] [] p1) "__init__" p2) [e] [] p3) none p4.line env = pure false)
    (hpl : ∀ env : Env, starEach [e] env = (false, eval e env) :: starEach [] env ∧ (backTo p3 (starEach [] env)).any (·.1) = false)
    (hc : ∀ env : Env, ∃ pl : Sem Bool, eval (.Call (.Attribute (.Call (.Name "super" p0) [] [] p1) "__init__" p2) [e] [] p3) env = (do
      let ov ← attributeBase (.Call (.Name "super" p0) [] [] p1) "__init__" env (eval (.Call (.Name "super" p0) [] [] p1) env)
      standAt p2.atName
      let (f, first) ← holding [ov] (getMethod ov "__init__" pl)
      callWith p3 f first (backTo p3 (starEach [e] env)) []))
    (hte : ∀ (A : Around) (outer : List Env) (s : Shared) (H : Hp) (E : XK), Room k (A.deeper (ksEnv qual (defScope st) s.heap.objs.size f (.ref cda) cc)) →
      PE (cxS CX P w K mg base N qual (defScope st) f cda cc A outer s H E) e te ∧ PSs (cxS CX P w K mg base N qual (defScope st) f cda cc A outer s H E) rest (tOsts K (fls nms)))
    (htx : ∀ (a : Addr) (ws : List V) (H : Hp), ws.length = nms.length → (∀ i ∈ fi, ∀ v, ws[i]? = some v → FmV H v) → ∀ Q : VK, (∀ m : Str, Q (.str m) H) → te ((V.ref a :: ws).map some) H Q) :
    FnOk P w K mg base CX (k + 1) f fd ps (spX C nms fi) := by
  obtain ⟨oc, od, kV, doc, pm, an, ct, osl, rfl, lk, hcd⟩ := F.ex
  rw [hb] at lk T ⊢
  refine fn_super (e := e) (es := []) (p0 := p0) (p1 := p1) (p2 := p2) (p3 := p3) (p4 := p4) lk hcd S (spX_len (by rw [hps]; rfl)) T hself (by rw [hps]; rfl) hg hfirst hsw hpl hc fun A outer s H vs Q E hr hsp => ?_
  obtain ⟨a, ws, rfl, hl, ha, hf, hQ⟩ := hsp
  obtain ⟨h1, h2⟩ := hte A outer s H E hr
  have hst : L2.start N (V.ref a :: ws) = (V.ref a :: ws).map some := by
    unfold L2.start
    rw [hN, hps, List.length_cons, List.length_cons, hl, Nat.sub_self]
    simp
  refine ⟨_, _, a, pa_cons h1 pa_nil (hs := (hpl _).1), h2, rfl, ha, ?_⟩
  rw [hst]
  refine htx a ws H hl hf _ fun m => ?_
  refine ⟨by simp, ha, ?_⟩
  obtain ⟨w0, ws', rfl⟩ : ∃ w0 ws', ws = w0 :: ws' := by
    cases ws with
    | nil => rw [hnm] at hl; simp at hl
    | cons w0 ws' => exact ⟨w0, ws', rfl⟩
  have hfl : fls nms = (n0, 1) :: (fls nms).tail := by
    unfold fls
    rw [hnm]
    rfl
  have hmap := fls_map (nms := nms)
  have hlen : (fls nms).length = nms.length := by rw [← List.length_map (f := (·.1)), hmap]
  rw [hfl]
  refine osts_new (w := w0) (ws := ws') T.oex (by simp) ha (by simp only [List.length_tail]; omega) (fun p hp => ?_) (by simp only [List.length_tail]; rw [hlen, ← hl]; rfl) (fun j p hj => ?_) fun d n ne => ?_
  · rw [← hfl] at hp
    exact hno _ (by rw [← hmap]; exact List.mem_map_of_mem (f := (·.1)) hp)
  · rw [← hfl] at hj
    obtain ⟨h3, h4⟩ := fls_at hj
    rw [h4]
    have hjl : j < nms.length := (List.getElem?_eq_some_iff.mp h3).1
    rw [← hl] at hjl
    rw [List.getElem?_map, List.getElem?_cons_succ, List.getElem?_eq_getElem hjl]
    rfl
  · rw [← hfl, hmap]
    exact hQ d n ne
end
/-- C(..) where it is raised -/
theorem mk_spX {C : Addr} {nms : List Str} {fi : List Nat} {ta : TA} {σ : L2.St} {H : Hp} {Q : XK} (h : ta σ H fun ws H1 => ws.length = nms.length ∧ nms.length ≤ 900 ∧ (∀ i ∈ fi, ∀ v, ws[i]? = some v → FmV H1 v) ∧ ∀ d, H1 d = none → Q (.ref C) (some d) (upd H1 d (.xd (nms.zip ws).reverse)))
    (hm : ∀ (R R' : List V → Hp → Prop), (∀ us H, R us H → R' us H) → ta σ H R → ta σ H R') : tMkO C (spX C nms fi) [] ta σ H Q := by
  refine hm _ _ (fun ws H1 ⟨hl, hz, hf, hq⟩ => ⟨by omega, fun a n => ⟨a, ws, by simp, hl, upd_same, fun i hi v hv => ?_, fun d nd ne => ?_⟩⟩) h
  · rcases hf i hi v hv with f | ⟨b, xs, rfl, hb, r⟩
    · exact .inl f
    · exact .inr ⟨b, xs, rfl, by rw [upd_ne fun e => by rw [e, n] at hb; cases hb]; exact hb, r⟩
  · rw [upd_ne ne] at nd
    refine ⟨rfl, d, _, upd_same, by rw [upd_ne ne, upd_same], nd, ?_⟩
    have e : upd (del (upd (upd (upd H1 a (exo a C none)) d (exd d (nms.zip ws).reverse)) a (exo a C (some d))) a) d (.xd (nms.zip ws).reverse) = upd H1 d (.xd (nms.zip ws).reverse) := by
      funext b
      by_cases h1 : b = d
      · rw [h1, upd_same, upd_same]
      · rw [upd_ne h1, upd_ne h1]
        by_cases h2 : b = a
        · rw [h2, del_same, n]
        · rw [del_ne h2, upd_ne h2, upd_ne h1, upd_ne h2]
    rw [e]
    exact hq d nd
/-! the texts of an __init__ -/
theorem tx_p {a : Addr} {ws : List V} {H : Hp} {n : Nat} {fi : List Nat} (j : Nat) (hl : ws.length = n) (hf : ∀ i ∈ fi, ∀ v, ws[i]? = some v → FmV H v) (hj : j ∈ fi := by decide) (hn : j < n := by decide) : Tx (tFmtA (tVar (j + 1))) ((V.ref a :: ws).map some) H := by
  have h : j < ws.length := by omega
  refine tx_a (v := ws[j]) ?_ (hf j hj _ (List.getElem?_eq_getElem h))
  rw [List.getElem?_map, List.getElem?_cons_succ, List.getElem?_eq_getElem h]
  rfl
theorem txs_nil {σ : L2.St} {H : Hp} : ∀ t ∈ ([] : List TE), Tx t σ H := fun _ m => nomatch m
theorem txs_cons {σ : L2.St} {H : Hp} {t : TE} {ts : List TE} (h : Tx t σ H) (r : ∀ t ∈ ts, Tx t σ H) : ∀ t' ∈ t :: ts, Tx t' σ H := fun t' m => (List.mem_cons.mp m).elim (fun e => e ▸ h) (r t')
end PX
namespace PX
open PySem PySem.Spec PySem.Calls PyProof.Rows PySem.W
set_option maxHeartbeats 1000000
/-! ### isinstance of a caught exception that has a dict -/
section
variable {prog : Program} {w : World} {A : Around} {E : Value → Shared → Prop} {s : Shared} {K : Frag} {x D : Addr} {ox : Obj} {od : Option Obj}
theorem findObj_dataD {C : Addr} {name : Str} {a g : Value} (hc : (clsIn K C).isSome = true) (ha : findIn K (.ref C) name = some (some a)) (hg : specialIn K a "__get__" = some (some g)) (ht : takesIn K a = some true) : findObj K C od name = some (.bind g a) := by
  obtain ⟨cd, hc⟩ := Option.isSome_iff_exists.mp hc
  unfold findObj
  rw [hc, Option.bind_some, ha, Option.bind_some]
  simp [hg, ht]
theorem kin_classD {Q : Option Value → Shared → Prop} (hga : findIn K (.ref D) "__getattribute__" = some (some (.builtin "BaseException.__getattribute__"))) (hgt : findIn K (.ref D) "__getattr__" = some none) (hsub : subIn K (.ref D) (.type "BaseException") = some true)
    (hdct : hasDictIn K D = true) (ha : findIn K (.ref D) "__class__" = some (some (.builtin "object.__class__")))
    (hn : specialIn K (.builtin "object.__class__") "__get__" = some (some (.builtin "getset_descriptor.__get__"))) (htk : takesIn K (.builtin "object.__class__") = some true) (hm : mroIn K D (.type "object") = some true)
    (X : K.In s.heap) (I : InstAt s.heap x ox D od) (h : Q (some (.ref D)) { s with toks := s.toks + 1 }) : wpAny (model prog w) A (getAttr? (.ref x) "__class__") Q E s := by
  have hf : findObj K D od "__class__" = some (.bind (.builtin "getset_descriptor.__get__") (.builtin "object.__class__")) := findObj_dataD (by obtain ⟨cd, hc, _⟩ := any_some hdct; rw [hc]; rfl) ha hn htk
  obtain ⟨hp, g, d, t, os⟩ := s
  have L0 := I.type (M := model prog w)
  have L1 := looks_findIn (M := model prog w) X hga
  have L2 := looks_findIn (M := model prog w) X hgt
  have L3 := looks_find (M := model prog w) X I hf
  have sub : Looks (model prog w) hp (isInstance (.ref x) (.type "BaseException")) true := L0.andThen (looks_subIn X hsub)
  have hx0 : (false && onTheHeap (Value.builtin "BaseException.__getattribute__")) = false := rfl
  have hx2 : (Value.builtin "BaseException.__getattribute__" == Value.builtin "object.__getattribute__") = false := by decide +kernel
  have hx1 : (onTheHeap (Value.ref D) && Value.builtin "BaseException.__getattribute__" == Value.builtin "object.__getattribute__") = false := by rw [hx2]; rfl
  unfold getAttr? getAttrBy? getAttrBy
  refine wpAny_bind (wpAny_mkText (wpAny_bind (wpAny_attempt (wpAny_holding (wpAny_bind (L0.at (wpAny_bind (L1.at ?_))))))))
  show wpAny _ _ (if (onTheHeap (Value.ref D) && Value.builtin "BaseException.__getattribute__" == Value.builtin "object.__getattribute__") = true then _ else _) _ _ _
  rw [hx1, if_neg Bool.false_ne_true]
  unfold getAttrByItsOwn hookBefore
  refine wpAny_bind ?_
  rw [if_pos (show onTheHeap (Value.ref D) = true from rfl)]
  refine L2.at ?_
  refine wpAny_bind (wpAny_attempt (wpAny_holding ?_))
  unfold callGetattribute
  rw [hx0, if_neg Bool.false_ne_true]
  unfold boundAndCalled
  rw [PySem.F.excAttr_ValueError.ga.bind (.ref x)]
  refine wpAny_bind (wpAny_pure ?_)
  show wpAny _ _ (call (.builtin "BaseException.__getattribute__") [.ref x, .str "__class__" t]) _ _ _
  refine wpAny_call (codeAny_call_builtin PySem.F.excAttr_ValueError.ga.plain PySem.F.entry_bexc_ga ?_)
  refine @check_slot (model prog w) _ _ ⟨hp, g, d, t + 1, os⟩ "BaseException.__getattribute__" "BaseException" "__getattribute__" (.ref x) [.str "__class__" t] [] _ (by decide +kernel) (by decide +kernel) sub (PySem.F.args_bexc_ga (.ref x) (.str "__class__" t)) ?_
  unfold Builtin.«object.__getattribute__»
  refine wpAny_bind (wpAny_of_eq (a := ((Value.ref x : Value), [Value.str "__class__" t])) (by first | rfl | (simp only [slotArgs]; rfl)) ?_)
  refine wpAny_bind (wpAny_pure (wpAny_bind (L0.at (wpAny_bind (L3.at ?_)))))
  show wpAny _ _ (holding [Value.builtin "object.__class__"] (call (.builtin "getset_descriptor.__get__") [.builtin "object.__class__", .ref x, .ref D]) >>= ret) _ _ _
  refine wpAny_bind (wpAny_holding (wpAny_call (class_get (s := ⟨hp, g, d, t + 1, os⟩) (ox := ox) (od := od) X I hm ?_)))
  refine wpAny_pure ?_
  show wpAny _ _ (handedOut (.ref D)) _ _ _
  rw [handedOut_of (v := .ref D) rfl]
  first
    | exact wpAny_pure (wpAny_pure h)
    | exact wpAny_pure h
    | exact wpAny_pure (wpAny_bind (wpAny_pure (wpAny_pure h)))
theorem kitx_excD (hga : findIn K (.ref D) "__getattribute__" = some (some (.builtin "BaseException.__getattribute__"))) (hgt : findIn K (.ref D) "__getattr__" = some none) (hsub : subIn K (.ref D) (.type "BaseException") = some true) (hdct : hasDictIn K D = true) (ha : findIn K (.ref D) "__class__" = some (some (.builtin "object.__class__")))
    (hn : specialIn K (.builtin "object.__class__") "__get__" = some (some (.builtin "getset_descriptor.__get__"))) (htk : takesIn K (.builtin "object.__class__") = some true) (hm : mroIn K D (.type "object") = some true) :
    KitX K (.ref x) (.ref D) (fun h => InstAt h x ox D od) where
  ty := fun _ _ _ I => I.type
  it := fun _ _ X _ => by
    obtain ⟨cdD, hcD, _⟩ := any_some hdct
    unfold clsIn at hcD
    split at hcD
    · rename_i c' d' cd' sl' ho
      intro A' Q' E' s' k q
      unfold isType loadHead
      exact wpAny_bind (wpAny_loadPart (k _ _ (X _ _ ho)) (wpAny_pure q))
    · cases hcD
  ne := fun h tp dd its n sl X htp => by
    obtain ⟨cdD, hcD, _⟩ := any_some hdct
    refine Bool.eq_false_iff.mpr fun q => ?_
    have e : D = tp := Value.ref.inj (beq_iff_eq.mp q)
    subst e
    unfold clsIn at hcD
    split at hcD
    · rename_i c' d' cd' sl' ho
      have z := (X _ _ ho).symm.trans htp
      cases z
    · cases hcD
  ca := fun X I k => kin_classD hga hgt hsub hdct ha hn htk hm X I k
end
end PX
namespace PX
open PySem PySem.Spec PySem.Calls PyProof.Rows L2
/-- isinstance(e, c), e the exception that the suite holds -/
def rIsD (K : PySem.W.Frag) (a : Addr) (cls : Value) (d : Option Addr) : List V → Hp → VK → Prop := fun xs H Q => ∃ (c : V) (cv : Value) (D : Addr) (b : Bool), xs = [.ref a, c] ∧ (∀ u, RelV c u → u = cv) ∧ cls = .ref D ∧ ExcC K D ∧ (d = none ∨ ∃ dd fs, d = some dd ∧ H dd = some (.xd fs)) ∧ PySem.W.kitOne K (.ref D) cv = some b ∧ Q (.bl b) H
theorem call_isD {X : Cx} {a : Addr} {cls : Value} {d : Option Addr} {oe : Obj} {pn : List (Addr × Obj)} (hz : Zc cls d oe) (hf : ∃ vs, oe.data = .fields vs) : CallR (X.suite a ((a, oe) :: pn)) (.builtin "isinstance") (rIsD X.K a cls d) := by
  intro pins s σ H xs us Q I r h
  obtain ⟨c, cv, D, b, rfl, hcv, rfl, C, hd, e, q⟩ := h
  cases r with
  | cons rx rr =>
    cases rr with
    | cons rt rr =>
      cases rr
      cases rx
      have ec := hcv _ rt
      subst ec
      obtain ⟨hget, _⟩ := I.pin (a, oe) (List.mem_append.mpr (.inl List.mem_cons_self))
      obtain ⟨vs, hv⟩ := hf
      have J : ∃ od, PySem.W.InstAt s.heap a oe D od := by
        obtain ⟨oc, ood, oda, osl⟩ := oe
        obtain ⟨h1, h2⟩ := hz
        dsimp only at h1 h2 hv
        subst h1 h2 hv
        rcases hd with hd | ⟨dd, fs, hd, hx⟩
        · subst hd
          exact ⟨none, hget, rfl, rfl, trivial⟩
        · subst hd
          have hx : ObjOk X.prog X.w H s.heap dd (.xd fs) := I.hok dd _ hx
          obtain ⟨mA, hns, hr⟩ := hx
          obtain ⟨od, ho, hl⟩ := lookIn_ns hns
          exact ⟨some od, hget, rfl, rfl, ho⟩
      obtain ⟨od, J⟩ := J
      exact PySem.W.kia_one (kitx_excD C.hg C.hk C.hs C.hd C.ha C.hn C.ht C.hm) I.kIn J e (fun z => nomatch z) fun tk => ⟨.bl b, H, I.kept (t' := tk) fun _ _ z => z, rfl, q⟩
end PX
namespace DL
open PySem PySem.Spec PyProof.Rows L2 Evl PL
set_option maxHeartbeats 1000000
/-! ### what is known of the heap throughout -/
def Plain : HO → Prop
  | .lst _ => True | .dK _ => True | .dT _ => True | .ins _ _ _ => True
  | _ => False
structure GS where
  ok : Hp → Prop
  ex : ∀ {H H' : Hp}, ok H → Ex H H' → ok H'
  up : ∀ {H : Hp} {a : Addr} {o u : HO}, ok H → H a = some u → Plain u → ok (upd H a o)
/-! ### values without a heap -/
inductive D where
  | non | bl (b : Bool) | int (i : Int) | str (s : Str) | ty (n : String) | adr (a : Addr)
  | tup (l : List D)
  | lst (o : Bool) (l : List D)
  | dK (o : Bool) (ks : List Key) (l : List D)
  | dT (o : Bool) (ks : List (List Key)) (l : List D)
  | ins (o : Bool) (C : Addr) (fs : List Str) (l : List D)
  /-- a thing told by its objects -/
  | raw (a : Addr) (l : List (Addr × HO))
  /-- a caught exception: its object, its dict -/
  | xo (a dd : Addr) (fs : List Str) (l : List D)
mutual
def D.frz : D → D
  | .tup l => .tup (D.frzs l)
  | .lst _ l => .lst false (D.frzs l)
  | .dK _ ks l => .dK false ks (D.frzs l)
  | .dT _ ks l => .dT false ks (D.frzs l)
  | .ins _ C fs l => .ins false C fs (D.frzs l)
  | .xo a dd fs l => .xo a dd fs (D.frzs l)
  | d => d
def D.frzs : List D → List D
  | [] => []
  | d :: l => d.frz :: D.frzs l
end
/-- an object of the heap that is told by itself (a sealed list, a set ..): never a list, a tuple, a dict, an instance -/
def Odd : HO → Prop
  | .lst _ => False | .tup _ => False | .dK _ => False | .dT _ => False | .ins _ _ _ => False | .own _ => False
  | _ => True
mutual
inductive Rep (H : Hp) : (Addr → Prop) → V → D → List Addr → Prop
  | non {O} : Rep H O .non .non []
  | bl {O b} : Rep H O (.bl b) (.bl b) []
  | int {O i} : Rep H O (.int i) (.int i) []
  | str {O s} : Rep H O (.str s) (.str s) []
  | ty {O n} : Rep H O (.ty n) (.ty n) []
  | adr {O a} : Rep H O (.ref a) (.adr a) []
  | tup {O a vs ds A} : H a = some (.tup vs) → Reps H O vs ds A → Rep H O (.ref a) (.tup ds) A
  | lstO {O a vs ds A} : H a = some (.lst vs) → O a → Reps H O vs ds A → Rep H O (.ref a) (.lst true ds) (a :: A)
  | lst {O a vs ds} : H a = some (.lst vs) → ¬ O a → Reps H O vs ds [] → Rep H O (.ref a) (.lst false ds) []
  | dKO {O a ks vs ds A} : H a = some (.dK (ks.zip vs)) → O a → (ks.length = vs.length ∧ ks.Nodup) → Reps H O vs ds A → Rep H O (.ref a) (.dK true ks ds) (a :: A)
  | dK {O a ks vs ds} : H a = some (.dK (ks.zip vs)) → ¬ O a → (ks.length = vs.length ∧ ks.Nodup) → Reps H O vs ds [] → Rep H O (.ref a) (.dK false ks ds) []
  | dTO {O a ks vs ds A} : H a = some (.dT (ks.zip vs)) → O a → (ks.length = vs.length ∧ ks.Nodup) → Reps H O vs ds A → Rep H O (.ref a) (.dT true ks ds) (a :: A)
  | dT {O a ks vs ds} : H a = some (.dT (ks.zip vs)) → ¬ O a → (ks.length = vs.length ∧ ks.Nodup) → Reps H O vs ds [] → Rep H O (.ref a) (.dT false ks ds) []
  | insO {O a C dx fs vs ds A} : H a = some (.ins C dx (fs.zip vs)) → O a → (fs.length = vs.length ∧ fs.Nodup) → Reps H O vs ds A → Rep H O (.ref a) (.ins true C fs ds) (a :: A)
  | ins {O a C dx fs vs ds} : H a = some (.ins C dx (fs.zip vs)) → ¬ O a → (fs.length = vs.length ∧ fs.Nodup) → Reps H O vs ds [] → Rep H O (.ref a) (.ins false C fs ds) []
  | raw {O a l} : (∀ p ∈ l, H p.1 = some p.2 ∧ Odd p.2 ∧ ¬ O p.1) → Rep H O (.ref a) (.raw a l) []
  | xo {O a dd fs vs ds} : H dd = some (.xd (fs.zip vs)) → ¬ O dd → fs.length = vs.length → Reps H O vs ds [] → Rep H O (.ref a) (.xo a dd fs ds) []
inductive Reps (H : Hp) : (Addr → Prop) → List V → List D → List Addr → Prop
  | nil {O} : Reps H O [] [] []
  | cons {O v d A vs ds B} : Rep H O v d A → Reps H O vs ds B → Reps H O (v :: vs) (d :: ds) (A ++ B)
end
/-- H' keeps what is shared and the cells of A -/
structure Kp (H H' : Hp) (O O' : Addr → Prop) (A : List Addr) : Prop where
  sh : ∀ a o, H a = some o → ¬ O a → H' a = some o ∧ ¬ O' a
  ow : ∀ a o, H a = some o → a ∈ A → H' a = some o ∧ O' a
  tu : ∀ a xs, H a = some (.tup xs) → H' a = some (.tup xs)
theorem Kp.sub {H H' : Hp} {O O' : Addr → Prop} {A B : List Addr} (k : Kp H H' O O' A) (h : ∀ a ∈ B, a ∈ A) : Kp H H' O O' B := ⟨k.sh, fun a o e m => k.ow a o e (h a m), k.tu⟩
mutual
theorem Rep.keep {H H' : Hp} {O O' : Addr → Prop} : ∀ {v d A}, Rep H O v d A → Kp H H' O O' A → Rep H' O' v d A
  | _, _, _, .non, _ => .non
  | _, _, _, .bl, _ => .bl
  | _, _, _, .int, _ => .int
  | _, _, _, .str, _ => .str
  | _, _, _, .ty, _ => .ty
  | _, _, _, .adr, _ => .adr
  | _, _, _, .tup h r, k => .tup (k.tu _ _ h) (r.keep k)
  | _, _, _, .lstO h _ r, k => .lstO (k.ow _ _ h List.mem_cons_self).1 (k.ow _ _ h List.mem_cons_self).2 (r.keep (k.sub fun _ m => List.mem_cons_of_mem _ m))
  | _, _, _, .lst h n r, k => .lst (k.sh _ _ h n).1 (k.sh _ _ h n).2 (r.keep k)
  | _, _, _, .dKO h _ l r, k => .dKO (k.ow _ _ h List.mem_cons_self).1 (k.ow _ _ h List.mem_cons_self).2 l (r.keep (k.sub fun _ m => List.mem_cons_of_mem _ m))
  | _, _, _, .dK h n l r, k => .dK (k.sh _ _ h n).1 (k.sh _ _ h n).2 l (r.keep k)
  | _, _, _, .dTO h _ l r, k => .dTO (k.ow _ _ h List.mem_cons_self).1 (k.ow _ _ h List.mem_cons_self).2 l (r.keep (k.sub fun _ m => List.mem_cons_of_mem _ m))
  | _, _, _, .dT h n l r, k => .dT (k.sh _ _ h n).1 (k.sh _ _ h n).2 l (r.keep k)
  | _, _, _, .insO h _ l r, k => .insO (k.ow _ _ h List.mem_cons_self).1 (k.ow _ _ h List.mem_cons_self).2 l (r.keep (k.sub fun _ m => List.mem_cons_of_mem _ m))
  | _, _, _, .ins h n l r, k => .ins (k.sh _ _ h n).1 (k.sh _ _ h n).2 l (r.keep k)
  | _, _, _, .raw h, k => .raw fun p m => ⟨(k.sh _ _ (h p m).1 (h p m).2.2).1, (h p m).2.1, (k.sh _ _ (h p m).1 (h p m).2.2).2⟩
  | _, _, _, .xo h n l r, k => .xo (k.sh _ _ h n).1 (k.sh _ _ h n).2 l (r.keep k)
theorem Reps.keep {H H' : Hp} {O O' : Addr → Prop} : ∀ {vs ds A}, Reps H O vs ds A → Kp H H' O O' A → Reps H' O' vs ds A
  | _, _, _, .nil, _ => .nil
  | _, _, _, .cons r s, k => .cons (r.keep (k.sub fun _ m => List.mem_append_left _ m)) (s.keep (k.sub fun _ m => List.mem_append_right _ m))
end
mutual
/-- what is owned is let go: it is shared from now on -/
theorem Rep.frz {H : Hp} {O O' : Addr → Prop} : ∀ {v d A}, Rep H O v d A → (∀ a, ¬ O a → ¬ O' a) → (∀ a ∈ A, ¬ O' a) → Rep H O' v d.frz []
  | _, _, _, .non, _, _ => .non
  | _, _, _, .bl, _, _ => .bl
  | _, _, _, .int, _, _ => .int
  | _, _, _, .str, _, _ => .str
  | _, _, _, .ty, _, _ => .ty
  | _, _, _, .adr, _, _ => .adr
  | _, _, _, .tup h r, k, z => .tup h (r.frz k z)
  | _, _, _, .lstO h _ r, k, z => .lst h (z _ List.mem_cons_self) (r.frz k fun a m => z a (List.mem_cons_of_mem _ m))
  | _, _, _, .lst h n r, k, z => .lst h (k _ n) (r.frz k z)
  | _, _, _, .dKO h _ l r, k, z => .dK h (z _ List.mem_cons_self) l (r.frz k fun a m => z a (List.mem_cons_of_mem _ m))
  | _, _, _, .dK h n l r, k, z => .dK h (k _ n) l (r.frz k z)
  | _, _, _, .dTO h _ l r, k, z => .dT h (z _ List.mem_cons_self) l (r.frz k fun a m => z a (List.mem_cons_of_mem _ m))
  | _, _, _, .dT h n l r, k, z => .dT h (k _ n) l (r.frz k z)
  | _, _, _, .insO h _ l r, k, z => .ins h (z _ List.mem_cons_self) l (r.frz k fun a m => z a (List.mem_cons_of_mem _ m))
  | _, _, _, .ins h n l r, k, z => .ins h (k _ n) l (r.frz k z)
  | _, _, _, .raw h, k, z => .raw fun p m => ⟨(h p m).1, (h p m).2.1, k _ (h p m).2.2⟩
  | _, _, _, .xo h n l r, k, z => .xo h (k _ n) l (r.frz k z)
theorem Reps.frz {H : Hp} {O O' : Addr → Prop} : ∀ {vs ds A}, Reps H O vs ds A → (∀ a, ¬ O a → ¬ O' a) → (∀ a ∈ A, ¬ O' a) → Reps H O' vs (D.frzs ds) []
  | _, _, _, .nil, _, _ => .nil
  | _, _, _, .cons r s, k, z => .cons (A := []) (B := []) (r.frz k fun a m => z a (List.mem_append_left _ m)) (s.frz k fun a m => z a (List.mem_append_right _ m))
end
mutual
/-- what is owned is in the heap and among O -/
theorem Rep.own {H : Hp} {O : Addr → Prop} : ∀ {v d A}, Rep H O v d A → ∀ a ∈ A, O a ∧ H a ≠ none
  | _, _, _, .tup _ r => r.own
  | _, _, _, .lstO h o r => fun a m => (List.mem_cons.mp m).elim (fun e => by subst e; exact ⟨o, by rw [h]; simp⟩) (r.own a)
  | _, _, _, .dKO h o _ r => fun a m => (List.mem_cons.mp m).elim (fun e => by subst e; exact ⟨o, by rw [h]; simp⟩) (r.own a)
  | _, _, _, .dTO h o _ r => fun a m => (List.mem_cons.mp m).elim (fun e => by subst e; exact ⟨o, by rw [h]; simp⟩) (r.own a)
  | _, _, _, .insO h o _ r => fun a m => (List.mem_cons.mp m).elim (fun e => by subst e; exact ⟨o, by rw [h]; simp⟩) (r.own a)
  | _, _, _, .non => fun _ m => nomatch m
  | _, _, _, .bl => fun _ m => nomatch m
  | _, _, _, .int => fun _ m => nomatch m
  | _, _, _, .str => fun _ m => nomatch m
  | _, _, _, .ty => fun _ m => nomatch m
  | _, _, _, .adr => fun _ m => nomatch m
  | _, _, _, .lst _ _ _ => fun _ m => nomatch m
  | _, _, _, .dK _ _ _ _ => fun _ m => nomatch m
  | _, _, _, .dT _ _ _ _ => fun _ m => nomatch m
  | _, _, _, .ins _ _ _ _ => fun _ m => nomatch m
  | _, _, _, .raw _ => fun _ m => nomatch m
  | _, _, _, .xo _ _ _ _ => fun _ m => nomatch m
theorem Reps.own {H : Hp} {O : Addr → Prop} : ∀ {vs ds A}, Reps H O vs ds A → ∀ a ∈ A, O a ∧ H a ≠ none
  | _, _, _, .nil => fun _ m => nomatch m
  | _, _, _, .cons r s => fun a m => (List.mem_append.mp m).elim (r.own a) (s.own a)
end
mutual
/-- what is owned is a list, a dict, an instance -/
theorem Rep.ownP {H : Hp} {O : Addr → Prop} : ∀ {v d A}, Rep H O v d A → ∀ a ∈ A, ∃ o, H a = some o ∧ Plain o
  | _, _, _, .tup _ r => r.ownP
  | _, _, _, .lstO h o r => fun a m => (List.mem_cons.mp m).elim (fun e => by subst e; exact ⟨_, h, trivial⟩) (r.ownP a)
  | _, _, _, .dKO h o _ r => fun a m => (List.mem_cons.mp m).elim (fun e => by subst e; exact ⟨_, h, trivial⟩) (r.ownP a)
  | _, _, _, .dTO h o _ r => fun a m => (List.mem_cons.mp m).elim (fun e => by subst e; exact ⟨_, h, trivial⟩) (r.ownP a)
  | _, _, _, .insO h o _ r => fun a m => (List.mem_cons.mp m).elim (fun e => by subst e; exact ⟨_, h, trivial⟩) (r.ownP a)
  | _, _, _, .non => fun _ m => nomatch m
  | _, _, _, .bl => fun _ m => nomatch m
  | _, _, _, .int => fun _ m => nomatch m
  | _, _, _, .str => fun _ m => nomatch m
  | _, _, _, .ty => fun _ m => nomatch m
  | _, _, _, .adr => fun _ m => nomatch m
  | _, _, _, .lst _ _ _ => fun _ m => nomatch m
  | _, _, _, .dK _ _ _ _ => fun _ m => nomatch m
  | _, _, _, .dT _ _ _ _ => fun _ m => nomatch m
  | _, _, _, .ins _ _ _ _ => fun _ m => nomatch m
  | _, _, _, .raw _ => fun _ m => nomatch m
  | _, _, _, .xo _ _ _ _ => fun _ m => nomatch m
theorem Reps.ownP {H : Hp} {O : Addr → Prop} : ∀ {vs ds A}, Reps H O vs ds A → ∀ a ∈ A, ∃ o, H a = some o ∧ Plain o
  | _, _, _, .nil => fun _ m => nomatch m
  | _, _, _, .cons r s => fun a m => (List.mem_append.mp m).elim (r.ownP a) (s.ownP a)
end
theorem Reps.length {H : Hp} {O : Addr → Prop} : ∀ {vs ds A}, Reps H O vs ds A → vs.length = ds.length
  | _, _, _, .nil => rfl
  | _, _, _, .cons _ s => congrArg Nat.succ s.length
/-- the shared part of a list -/
theorem Reps.get {H : Hp} {O : Addr → Prop} : ∀ {vs ds A} {i : Nat} {d : D}, Reps H O vs ds A → ds[i]? = some d → ∃ v B, vs[i]? = some v ∧ Rep H O v d B ∧ ∀ a ∈ B, a ∈ A
  | _, _, _, _, _, .nil, e => by simp at e
  | _, _, _, 0, _, .cons r _, e => by
    cases e
    exact ⟨_, _, rfl, r, fun _ m => List.mem_append_left _ m⟩
  | _, _, _, i + 1, _, .cons _ s, e => by
    obtain ⟨v, B, h1, h2, h3⟩ := s.get (i := i) (by simpa using e)
    exact ⟨v, B, by simpa using h1, h2, fun a m => List.mem_append_right _ (h3 a m)⟩
theorem Reps.getN {H : Hp} {O : Addr → Prop} {vs : List V} {ds : List D} {i : Nat} {d : D} (r : Reps H O vs ds []) (e : ds[i]? = some d) : ∃ v, vs[i]? = some v ∧ Rep H O v d [] := by
  obtain ⟨v, B, h1, h2, h3⟩ := r.get e
  have : B = [] := List.eq_nil_iff_forall_not_mem.mpr fun a m => nomatch h3 a m
  subst this
  exact ⟨v, h1, h2⟩
theorem Reps.append {H : Hp} {O : Addr → Prop} : ∀ {vs ds A vs' ds' B}, Reps H O vs ds A → Reps H O vs' ds' B → Reps H O (vs ++ vs') (ds ++ ds') (A ++ B)
  | _, _, _, _, _, _, .nil, s => s
  | _, _, _, _, _, _, .cons r t, s => by
    rw [List.append_assoc]
    exact .cons r (t.append s)
end DL
namespace DL
open PySem PySem.Spec PyProof.Rows L2 Evl PL
set_option maxHeartbeats 1000000
variable {Γ : GS}
abbrev Env := List (Option D)
mutual
/-- no part of it is shared and may be changed -/
def D.clean : D → Bool
  | .tup l => D.cleans l
  | .lst o l => o && D.cleans l
  | .dK o _ l => o && D.cleans l
  | .dT o _ l => o && D.cleans l
  | .ins o _ _ l => o && D.cleans l
  | .raw _ _ => false
  | .xo _ _ _ _ => false
  | _ => true
def D.cleans : List D → Bool
  | [] => true
  | d :: l => d.clean && D.cleans l
end
mutual
theorem Rep.clean {H : Hp} {O O' : Addr → Prop} : ∀ {v d A}, Rep H O v d A → d.clean = true → (∀ a ∈ A, O' a) → Rep H O' v d A
  | _, _, _, .non, _, _ => .non
  | _, _, _, .bl, _, _ => .bl
  | _, _, _, .int, _, _ => .int
  | _, _, _, .str, _, _ => .str
  | _, _, _, .ty, _, _ => .ty
  | _, _, _, .adr, _, _ => .adr
  | _, _, _, .tup h r, k, z => .tup h (r.clean (by simpa [D.clean] using k) z)
  | _, _, _, .lstO h _ r, k, z => .lstO h (z _ List.mem_cons_self) (r.clean (by simpa [D.clean] using k) fun a m => z a (List.mem_cons_of_mem _ m))
  | _, _, _, .lst h n r, k, z => by simp [D.clean] at k
  | _, _, _, .dKO h _ l r, k, z => .dKO h (z _ List.mem_cons_self) l (r.clean (by simpa [D.clean] using k) fun a m => z a (List.mem_cons_of_mem _ m))
  | _, _, _, .dK h n l r, k, z => by simp [D.clean] at k
  | _, _, _, .dTO h _ l r, k, z => .dTO h (z _ List.mem_cons_self) l (r.clean (by simpa [D.clean] using k) fun a m => z a (List.mem_cons_of_mem _ m))
  | _, _, _, .dT h n l r, k, z => by simp [D.clean] at k
  | _, _, _, .insO h _ l r, k, z => .insO h (z _ List.mem_cons_self) l (r.clean (by simpa [D.clean] using k) fun a m => z a (List.mem_cons_of_mem _ m))
  | _, _, _, .ins h n l r, k, z => by simp [D.clean] at k
  | _, _, _, .raw h, k, z => by simp [D.clean] at k
  | _, _, _, .xo h n l r, k, z => by simp [D.clean] at k
theorem Reps.clean {H : Hp} {O O' : Addr → Prop} : ∀ {vs ds A}, Reps H O vs ds A → D.cleans ds = true → (∀ a ∈ A, O' a) → Reps H O' vs ds A
  | _, _, _, .nil, _, _ => .nil
  | _, _, _, .cons r s, k, z => by
    simp only [D.cleans, Bool.and_eq_true] at k
    exact .cons (r.clean k.1 fun a m => z a (List.mem_append_left _ m)) (s.clean k.2 fun a m => z a (List.mem_append_right _ m))
end
/-- the slots and what they stand for; the owned cells slot by slot -/
inductive SR (H : Hp) (O : Addr → Prop) : L2.St → Env → List (List Addr) → Prop
  | nil : SR H O [] [] []
  | no {x σ ρ AA} : SR H O σ ρ AA → SR H O (x :: σ) (none :: ρ) ([] :: AA)
  | so {v d B σ ρ AA} : Rep H O v d B → SR H O σ ρ AA → SR H O (some v :: σ) (some d :: ρ) (B :: AA)
section
variable {H H' : Hp} {O O' : Addr → Prop}
theorem SR.get : ∀ {σ ρ AA} {i : Nat} {d : D}, SR H O σ ρ AA → ρ[i]? = some (some d) → ∃ v B, σ[i]? = some (some v) ∧ AA[i]? = some B ∧ Rep H O v d B
  | _, _, _, _, _, .nil, e => by simp at e
  | _, _, _, 0, _, .no _, e => by simp at e
  | _, _, _, 0, _, .so r _, e => by
    simp at e
    subst e
    exact ⟨_, _, rfl, rfl, r⟩
  | _, _, _, i + 1, _, .no s, e => by
    obtain ⟨v, B, h⟩ := s.get (i := i) (by simpa using e)
    exact ⟨v, B, by simpa using h⟩
  | _, _, _, i + 1, _, .so _ s, e => by
    obtain ⟨v, B, h⟩ := s.get (i := i) (by simpa using e)
    exact ⟨v, B, by simpa using h⟩
theorem SR.ownP : ∀ {σ ρ AA}, SR H O σ ρ AA → ∀ a ∈ AA.flatten, ∃ o, H a = some o ∧ Plain o
  | _, _, _, .nil => fun _ m => nomatch m
  | _, _, _, .no s => fun a m => s.ownP a (by simpa using m)
  | _, _, _, .so r s => fun a m => by
    rw [List.flatten_cons] at m
    exact (List.mem_append.mp m).elim (r.ownP a) (s.ownP a)
theorem SR.keep : ∀ {σ ρ AA}, SR H O σ ρ AA → Kp H H' O O' AA.flatten → SR H' O' σ ρ AA
  | _, _, _, .nil, _ => .nil
  | _, _, _, .no s, k => .no (s.keep (k.sub fun a m => by simpa using m))
  | _, _, _, .so r s, k => .so (r.keep (k.sub fun a m => by rw [List.flatten_cons]; exact List.mem_append_left _ m)) (s.keep (k.sub fun a m => by rw [List.flatten_cons]; exact List.mem_append_right _ m))
theorem SR.len : ∀ {σ ρ AA}, SR H O σ ρ AA → σ.length = ρ.length ∧ AA.length = ρ.length
  | _, _, _, .nil => ⟨rfl, rfl⟩
  | _, _, _, .no s => by have := s.len; simp [this]
  | _, _, _, .so _ s => by have := s.len; simp [this]
/-- slot i changes, the others are kept -/
theorem SR.upd : ∀ {σ ρ AA} {i : Nat} {v : V} {d : D} {B : List Addr}, SR H O σ ρ AA → Kp H H' O O' (AA.set i []).flatten → Rep H' O' v d B → SR H' O' (σ.set i (some v)) (ρ.set i (some d)) (AA.set i B)
  | _, _, _, _, _, _, _, .nil, _, _ => .nil
  | _, _, _, 0, _, _, _, .no s, k, q => .so q (s.keep (k.sub fun a m => by simpa using m))
  | _, _, _, 0, _, _, _, .so _ s, k, q => .so q (s.keep (k.sub fun a m => by simpa using m))
  | _, _, _, i + 1, _, _, _, .no s, k, q => .no (s.upd (i := i) (k.sub fun a m => by simpa using m) q)
  | _, _, _, i + 1, _, _, _, .so r s, k, q => .so (r.keep (k.sub fun a m => by simp [m])) (s.upd (i := i) (k.sub fun a m => by rw [List.set_cons_succ, List.flatten_cons]; exact List.mem_append_right _ m) q)
end
theorem flat_set {AA : List (List Addr)} {i : Nat} {B : List Addr} {a : Addr} : a ∈ (AA.set i B).flatten → a ∈ (AA.set i []).flatten ∨ a ∈ B := by
  induction AA generalizing i with
  | nil => simp
  | cons A AA ih =>
    cases i with
    | zero => simp only [List.set_cons_zero, List.flatten_cons, List.mem_append, List.nil_append]; exact fun h => h.symm
    | succ i =>
      simp only [List.set_cons_succ, List.flatten_cons, List.mem_append]
      exact fun h => h.elim (fun h => .inl (.inl h)) fun h => (ih h).elim (fun h => .inl (.inr h)) .inr
theorem flat_set_nil {AA : List (List Addr)} {i : Nat} {a : Addr} : a ∈ (AA.set i []).flatten → a ∈ AA.flatten := by
  induction AA generalizing i with
  | nil => simp
  | cons A AA ih =>
    cases i with
    | zero => simp only [List.set_cons_zero, List.flatten_cons, List.mem_append, List.nil_append]; exact .inr
    | succ i =>
      simp only [List.set_cons_succ, List.flatten_cons, List.mem_append]
      exact fun h => h.imp id ih
theorem flat_set_in {AA : List (List Addr)} {i : Nat} {B : List Addr} {a : Addr} (h : i < AA.length) (m : a ∈ B) : a ∈ (AA.set i B).flatten :=
  List.mem_flatten.mpr ⟨B, List.mem_iff_getElem.mpr ⟨i, by simpa using h, by simp⟩, m⟩
theorem flat_get {AA : List (List Addr)} {i : Nat} {B : List Addr} {a : Addr} (h : AA[i]? = some B) (m : a ∈ B) : a ∈ AA.flatten :=
  List.mem_flatten.mpr ⟨B, List.mem_of_getElem? h, m⟩
theorem flat_set_self {AA : List (List Addr)} {i : Nat} {B : List Addr} {a : Addr} (m : a ∈ (AA.set i []).flatten) : a ∈ (AA.set i B).flatten := by
  induction AA generalizing i with
  | nil => simp at m
  | cons A AA ih =>
    cases i with
    | zero => simp only [List.set_cons_zero, List.flatten_cons, List.mem_append, List.nil_append] at *; exact .inr m
    | succ i =>
      simp only [List.set_cons_succ, List.flatten_cons, List.mem_append] at *
      exact m.imp id ih
theorem nd_set {AA : List (List Addr)} {i : Nat} {B : List Addr} (h : AA.flatten.Nodup) (hB : B.Nodup) (hd : ∀ a ∈ B, a ∉ (AA.set i []).flatten) : (AA.set i B).flatten.Nodup := by
  induction AA generalizing i with
  | nil => simp
  | cons A AA ih =>
    rw [List.flatten_cons, List.nodup_append] at h
    cases i with
    | zero =>
      simp only [List.set_cons_zero, List.flatten_cons, List.nil_append] at hd ⊢
      exact List.nodup_append.mpr ⟨hB, h.2.1, fun a ha b hb e => hd a ha (e ▸ hb)⟩
    | succ i =>
      simp only [List.set_cons_succ, List.flatten_cons, List.mem_append, not_or] at hd ⊢
      refine List.nodup_append.mpr ⟨h.1, ih h.2.1 fun a m => (hd a m).2, fun a ha b hb e => ?_⟩
      subst e
      rcases flat_set hb with q | q
      · exact h.2.2 a ha a (flat_set_nil q) rfl
      · exact (hd a q).1 ha
theorem nd_other {AA : List (List Addr)} {i : Nat} {B : List Addr} (h : AA.flatten.Nodup) (e : AA[i]? = some B) : ∀ a ∈ B, a ∉ (AA.set i []).flatten := by
  induction AA generalizing i with
  | nil => simp at e
  | cons A AA ih =>
    rw [List.flatten_cons, List.nodup_append] at h
    intro a ha
    cases i with
    | zero =>
      simp at e
      subst e
      simp only [List.set_cons_zero, List.flatten_cons, List.nil_append]
      exact fun hb => h.2.2 a ha a hb rfl
    | succ i =>
      simp only [List.getElem?_cons_succ] at e
      simp only [List.set_cons_succ, List.flatten_cons, List.mem_append, not_or]
      exact ⟨fun hb => h.2.2 a hb a (flat_get e ha) rfl, ih h.2.1 e a ha⟩
theorem nd_at {AA : List (List Addr)} {i : Nat} {B : List Addr} (h : AA.flatten.Nodup) (e : AA[i]? = some B) : B.Nodup := by
  induction AA generalizing i with
  | nil => simp at e
  | cons A AA ih =>
    rw [List.flatten_cons, List.nodup_append] at h
    cases i with
    | zero =>
      simp at e
      subst e
      exact h.1
    | succ i => exact ih h.2.1 (by simpa using e)
/-- where a def was entered: the heap, what others own, what it may change -/
structure Bas where
  H0 : Hp
  O0 : Addr → Prop
  M : Addr → Prop
  σ0 : L2.St := []
  pn : List Nat := []
def Bas.O (b : Bas) (AA : List (List Addr)) (a : Addr) : Prop := b.O0 a ∨ a ∈ AA.flatten
structure SI (Γ : GS) (b : Bas) (H : Hp) (σ : L2.St) (ρ : Env) (AA : List (List Addr)) : Prop where
  sr : SR H (b.O AA) σ ρ AA
  nd : AA.flatten.Nodup
  fr : ∀ a ∈ AA.flatten, b.M a ∨ b.H0 a = none
  o0 : ∀ a, b.O0 a → b.H0 a ≠ none ∧ ¬ b.M a
  ex : ∀ a o, b.H0 a = some o → ¬ b.M a → H a = some o
  pn : ∀ i ∈ b.pn, σ[i]? = b.σ0[i]?
  gi : Γ.ok H
theorem SI.not0 {b : Bas} {H : Hp} {σ : L2.St} {ρ : Env} {AA : List (List Addr)} (s : SI Γ b H σ ρ AA) {a : Addr} (m : a ∈ AA.flatten) : ¬ b.O0 a := fun z => (s.fr a m).elim (s.o0 a z).2 (s.o0 a z).1
theorem SI.has0 {b : Bas} {H : Hp} {σ : L2.St} {ρ : Env} {AA : List (List Addr)} (s : SI Γ b H σ ρ AA) {a : Addr} (z : b.O0 a) : H a ≠ none := by
  obtain ⟨h1, h2⟩ := s.o0 a z
  cases e : b.H0 a with
  | none => exact absurd e h1
  | some o => rw [s.ex a o e h2]; simp
theorem SI.sub0 {b : Bas} {H : Hp} {σ : L2.St} {ρ : Env} {AA : List (List Addr)} (s : SI Γ b H σ ρ AA) {a : Addr} (n : H a = none) : b.M a ∨ b.H0 a = none := by
  by_cases h : b.M a
  · exact .inl h
  · refine .inr ?_
    cases e : b.H0 a with
    | none => rfl
    | some o => rw [s.ex a o e h] at n; cases n
/-- nothing that is shared has changed -/
def Evo (b : Bas) (H : Hp) (AA : List (List Addr)) (H' : Hp) (AA' : List (List Addr)) : Prop := (∀ a o, H a = some o → ¬ b.O AA a → H' a = some o ∧ ¬ b.O AA' a) ∧ ∀ a xs, H a = some (.tup xs) → H' a = some (.tup xs)
theorem Evo.refl {b : Bas} {H : Hp} {AA : List (List Addr)} : Evo b H AA H AA := ⟨fun _ _ h n => ⟨h, n⟩, fun _ _ h => h⟩
theorem Evo.trans {b : Bas} {H H1 H2 : Hp} {AA AA1 AA2 : List (List Addr)} (x : Evo b H AA H1 AA1) (y : Evo b H1 AA1 H2 AA2) : Evo b H AA H2 AA2 :=
  ⟨fun a o h n => y.1 a o (x.1 a o h n).1 (x.1 a o h n).2, fun a o h => y.2 a o (x.2 a o h)⟩
theorem Evo.ex {b : Bas} {H H' : Hp} {AA : List (List Addr)} (e : Ex H H') : Evo b H AA H' AA := ⟨fun a o h n => ⟨e a o h, n⟩, fun a o h => e a _ h⟩
theorem Evo.kp {b : Bas} {H H' : Hp} {AA AA' : List (List Addr)} (e : Evo b H AA H' AA') : Kp H H' (b.O AA) (b.O AA') [] := ⟨e.1, fun _ _ _ m => (nomatch m), e.2⟩
theorem kp_ex {H H' : Hp} {O : Addr → Prop} {A : List Addr} (e : Ex H H') (h : ∀ a ∈ A, O a) : Kp H H' O O A := ⟨fun a o h n => ⟨e a o h, n⟩, fun a o q m => ⟨e a o q, h a m⟩, fun a o h => e a _ h⟩
theorem SI.exx {b : Bas} {H H' : Hp} {σ : L2.St} {ρ : Env} {AA : List (List Addr)} (s : SI Γ b H σ ρ AA) (e : Ex H H') : SI Γ b H' σ ρ AA :=
  ⟨s.sr.keep (kp_ex e fun _ m => .inr m), s.nd, s.fr, s.o0, fun a o h n => e a o (s.ex a o h n), s.pn, Γ.ex s.gi e⟩
def frz1 (i : Nat) (ρ : Env) : Env := match ρ[i]? with
  | some (some d) => ρ.set i (some d.frz)
  | _ => ρ
def frzAt : List Nat → Env → Env
  | [], ρ => ρ
  | i :: vs, ρ => frzAt vs (frz1 i ρ)
/-- the cells of the slots vs -/
def Own (AA : List (List Addr)) (vs : List Nat) (a : Addr) : Prop := ∃ i B, i ∈ vs ∧ AA[i]? = some B ∧ a ∈ B
theorem frz1_len {i : Nat} {ρ : Env} : (frz1 i ρ).length = ρ.length := by
  unfold frz1
  split <;> simp
theorem frzAt_len {vs : List Nat} {ρ : Env} : (frzAt vs ρ).length = ρ.length := by
  induction vs generalizing ρ with
  | nil => rfl
  | cons i vs ih => rw [frzAt, ih, frz1_len]
theorem SR.dead {H : Hp} {O : Addr → Prop} : ∀ {σ ρ AA} {i : Nat}, SR H O σ ρ AA → (∀ d, ρ[i]? ≠ some (some d)) → AA.set i [] = AA
  | _, _, _, _, .nil, _ => rfl
  | _, _, _, 0, .no _, _ => rfl
  | _, _, _, 0, .so _ _, h => absurd rfl (h _)
  | _, _, _, i + 1, .no s, h => by rw [List.set_cons_succ, s.dead (i := i) (by simpa using h)]
  | _, _, _, i + 1, .so _ s, h => by rw [List.set_cons_succ, s.dead (i := i) (by simpa using h)]
theorem SI.frz1 {b : Bas} {H : Hp} {σ : L2.St} {ρ : Env} {AA : List (List Addr)} (i : Nat) (s : SI Γ b H σ ρ AA) : SI Γ b H σ (frz1 i ρ) (AA.set i []) ∧ Evo b H AA H (AA.set i []) := by
  have ev : Evo b H AA H (AA.set i []) := ⟨fun a o h n => ⟨h, fun z => n (z.imp id flat_set_nil)⟩, fun _ _ h => h⟩
  refine ⟨?_, ev⟩
  unfold DL.frz1
  split
  · rename_i d hd
    obtain ⟨v, B, h1, h2, r⟩ := s.sr.get hd
    have hn := nd_other s.nd h2
    have sv : σ = σ.set i (some v) := by
      refine List.ext_getElem? fun k => ?_
      rw [List.getElem?_set]
      by_cases hk : i = k
      · subst hk
        rw [if_pos rfl, if_pos (List.getElem?_eq_some_iff.mp h1).1, h1]
      · rw [if_neg hk]
    have main := s.sr.upd (H' := H) (O' := b.O (AA.set i [])) (i := i) (v := v) (d := d.frz) (B := []) ⟨ev.1, fun a o h m => ⟨h, .inr m⟩, fun _ _ h => h⟩
      (r.frz (fun a n z => n (z.imp id flat_set_nil)) fun a m z => z.elim (s.not0 (flat_get h2 m)) (hn a m))
    rw [← sv] at main
    exact ⟨main, nd_set s.nd List.nodup_nil (fun _ m => (nomatch m)), fun a m => s.fr a (flat_set_nil m), s.o0, s.ex, s.pn, s.gi⟩
  · rename_i hd
    rw [s.sr.dead (i := i) fun d q => hd d q]
    exact s
theorem SI.frzAt {b : Bas} {H : Hp} {σ : L2.St} : ∀ (vs : List Nat) {ρ : Env} {AA : List (List Addr)}, SI Γ b H σ ρ AA → ∃ AA', SI Γ b H σ (frzAt vs ρ) AA' ∧ Evo b H AA H AA' ∧ (∀ a ∈ AA'.flatten, a ∈ AA.flatten ∧ ¬ Own AA vs a) ∧ ∀ i, i ∉ vs → AA'[i]? = AA[i]?
  | [], ρ, AA, s => ⟨AA, s, .refl, fun a m => ⟨m, fun ⟨_, _, h, _⟩ => nomatch h⟩, fun _ _ => rfl⟩
  | i :: vs, ρ, AA, s => by
    obtain ⟨s1, e1⟩ := s.frz1 i
    obtain ⟨AA', s2, e2, h2, h3⟩ := SI.frzAt vs s1
    refine ⟨AA', s2, e1.trans e2, fun a m => ⟨flat_set_nil (h2 a m).1, ?_⟩, fun k hk => ?_⟩
    · rintro ⟨k, B, hk, hB, ha⟩
      by_cases e : k = i
      · subst e
        exact nd_other s.nd hB a ha (h2 a m).1
      · refine (h2 a m).2 ⟨k, B, (List.mem_cons.mp hk).resolve_left e, ?_, ha⟩
        rw [List.getElem?_set_ne (fun z => e z.symm)]
        exact hB
    · rw [h3 k fun z => hk (List.mem_cons_of_mem _ z), List.getElem?_set_ne fun z => hk (List.mem_cons.mpr (.inl z.symm))]
end DL
namespace DL
open PySem PySem.Spec PyProof.Rows L2 Evl PL
set_option maxHeartbeats 1000000
variable {Γ : GS}
/-! ### expressions -/
/-- an exception: its class, its fields -/
structure XD where
  cls : Value
  nm : List Str
  fs : List D
abbrev FE := Env → (D → Prop) → (XD → Prop) → Prop
abbrev FT := Env → (Bool → Prop) → (XD → Prop) → Prop
abbrev FA := Env → (List D → Prop) → (XD → Prop) → Prop
/-- O: what others own -/
structure SE (Γ : GS) (O : Addr → Prop) (H : Hp) (σ : L2.St) (ρ : Env) (AA : List (List Addr)) : Prop where
  sr : SR H (fun a => O a ∨ a ∈ AA.flatten) σ ρ AA
  nd : AA.flatten.Nodup
  o0 : ∀ a, O a → H a ≠ none ∧ a ∉ AA.flatten
  gi : Γ.ok H
theorem SI.se {b : Bas} {H : Hp} {σ : L2.St} {ρ : Env} {AA : List (List Addr)} (s : SI Γ b H σ ρ AA) : SE Γ b.O0 H σ ρ AA := ⟨s.sr, s.nd, fun _ z => ⟨s.has0 z, fun m => s.not0 m z⟩, s.gi⟩
/-- what a result may share with: not with what others own, nor with the slots but vs -/
def Ox (O : Addr → Prop) (AA : List (List Addr)) (vs : List Nat) (B : List Addr) (a : Addr) : Prop := a ∈ B ∨ O a ∨ (a ∈ AA.flatten ∧ ¬ Own AA vs a)
def XR (H : Hp) (O : Addr → Prop) (x : XD) (cls : Value) (dd : Option Addr) : Prop := cls = x.cls ∧ ((dd = none ∧ x.nm = []) ∨ ∃ (d : Addr) (vs : List V), dd = some d ∧ H d = some (.xd (x.nm.zip vs)) ∧ ¬ O d ∧ vs.length = x.nm.length ∧ Reps H O vs x.fs [])
structure New (H : Hp) (B : List Addr) : Prop where
  fr : ∀ a ∈ B, H a = none
  nd : B.Nodup
theorem New.nil {H : Hp} : New H [] := ⟨fun _ m => (nomatch m), .nil⟩
theorem ex_none {H H' : Hp} {a : Addr} (e : Ex H H') (h : H' a = none) : H a = none := by
  cases q : H a with
  | none => rfl
  | some o => rw [e a o q] at h; cases h
theorem New.app {H H1 : Hp} {A B : List Addr} (x : New H A) (y : New H1 B) (e : Ex H H1) (hA : ∀ a ∈ A, H1 a ≠ none) : New H (A ++ B) :=
  ⟨fun a m => (List.mem_append.mp m).elim (x.fr a) fun m => ex_none e (y.fr a m), List.nodup_append.mpr ⟨x.nd, y.nd, fun a ha b hb z => by subst z; exact hA a ha (y.fr a hb)⟩⟩
theorem New.one {H : Hp} {p : Addr} (h : H p = none) : New H [p] := ⟨fun a m => by rw [List.mem_singleton.mp m]; exact h, by simp⟩
def LE (Γ : GS) (W : WX) (vs : List Nat) (te : TE) (fe : FE) : Prop := ∀ (O : Addr → Prop) (σ : L2.St) (ρ : Env) (H : Hp) (AA : List (List Addr)) (K : D → Prop) (X : XD → Prop) (Q : VK), SE Γ O H σ ρ AA → fe ρ K X →
  (∀ d v H' B, K d → Ex H H' → New H B → Rep H' (Ox O AA vs B) v d B → Q v H') →
  (∀ x cls dd H', X x → Ex H H' → XR H' (fun a => O a ∨ a ∈ AA.flatten) x cls dd → W cls dd σ H') → te σ H Q
def LT (Γ : GS) (W : WX) (tt : TT) (ft : FT) : Prop := ∀ (O : Addr → Prop) (σ : L2.St) (ρ : Env) (H : Hp) (AA : List (List Addr)) (K : Bool → Prop) (X : XD → Prop) (Q : Bool → Hp → Prop), SE Γ O H σ ρ AA → ft ρ K X →
  (∀ c H', K c → Ex H H' → Q c H') →
  (∀ x cls dd H', X x → Ex H H' → XR H' (fun a => O a ∨ a ∈ AA.flatten) x cls dd → W cls dd σ H') → tt σ H Q
def LA (Γ : GS) (W : WX) (vs : List Nat) (ta : TA) (fa : FA) : Prop := ∀ (O : Addr → Prop) (σ : L2.St) (ρ : Env) (H : Hp) (AA : List (List Addr)) (K : List D → Prop) (X : XD → Prop) (Q : List V → Hp → Prop), SE Γ O H σ ρ AA → fa ρ K X →
  (∀ ds us H' B, K ds → Ex H H' → New H B → Reps H' (Ox O AA vs B) us ds B → Q us H') →
  (∀ x cls dd H', X x → Ex H H' → XR H' (fun a => O a ∨ a ∈ AA.flatten) x cls dd → W cls dd σ H') → ta σ H Q
section
variable {O : Addr → Prop} {σ : L2.St} {ρ : Env} {H H1 H' : Hp} {AA : List (List Addr)} {B : List Addr} {vs ws : List Nat}
/-- others own B as well -/
theorem SE.more (s : SE Γ O H σ ρ AA) (e : Ex H H1) (n : New H B) (h : ∀ a ∈ B, H1 a ≠ none) (hs : ∀ a ∈ AA.flatten, H a ≠ none) : SE Γ (fun a => O a ∨ a ∈ B) H1 σ ρ AA := by
  refine ⟨s.sr.keep ⟨fun a o q z => ⟨e a o q, fun y => ?_⟩, fun a o q m => ⟨e a o q, .inr m⟩, fun a o q => e a _ q⟩, s.nd, fun a z => z.elim (fun z => ⟨fun q => ?_, (s.o0 a z).2⟩) fun z => ⟨h a z, fun m => hs a m (n.fr a z)⟩, Γ.ex s.gi e⟩
  · rcases y with (y | y) | y
    · exact z (.inl y)
    · rw [n.fr a y] at q; cases q
    · exact z (.inr y)
  · exact (s.o0 a z).1 (ex_none e q)
theorem SR.has : ∀ {O : Addr → Prop} {σ ρ AA}, SR H O σ ρ AA → ∀ a ∈ AA.flatten, H a ≠ none
  | _, _, _, _, .nil => fun _ m => by simp at m
  | _, _, _, _, .no s => fun a m => s.has a (by simpa using m)
  | _, _, _, _, .so r s => fun a m => by
    rw [List.flatten_cons] at m
    exact (List.mem_append.mp m).elim (fun m => (r.own a m).2) (s.has a)
theorem SE.has (s : SE Γ O H σ ρ AA) : ∀ a ∈ AA.flatten, H a ≠ none := s.sr.has
theorem SE.ex (s : SE Γ O H σ ρ AA) (e : Ex H H1) : SE Γ O H1 σ ρ AA :=
  ⟨s.sr.keep (kp_ex e fun _ m => .inr m), s.nd, fun a z => ⟨fun q => (s.o0 a z).1 (ex_none e q), (s.o0 a z).2⟩, Γ.ex s.gi e⟩
/-- the first of two results is kept -/
theorem keep1 {H2 : Hp} {A : List Addr} {v : V} {d : D} (r : Rep H1 (Ox O AA vs A) v d A) (e : Ex H1 H2) (n : New H1 B) : Rep H2 (Ox O AA (vs ++ ws) (A ++ B)) v d A :=
  r.keep ⟨fun a o q z => ⟨e a o q, fun y => by
    rcases y with y | y | y
    · rcases List.mem_append.mp y with y | y
      · exact z (.inl y)
      · rw [n.fr a y] at q; cases q
    · exact z (.inr (.inl y))
    · exact z (.inr (.inr ⟨y.1, fun ⟨i, C, h1, h2⟩ => y.2 ⟨i, C, List.mem_append_left _ h1, h2⟩⟩))⟩, fun a o q m => ⟨e a o q, .inl (List.mem_append_left _ m)⟩, fun a o q => e a _ q⟩
theorem keeps1 {H2 : Hp} {A : List Addr} {us : List V} {ds : List D} (r : Reps H1 (Ox O AA vs A) us ds A) (e : Ex H1 H2) (n : New H1 B) : Reps H2 (Ox O AA (vs ++ ws) (A ++ B)) us ds A :=
  r.keep ⟨fun a o q z => ⟨e a o q, fun y => by
    rcases y with y | y | y
    · rcases List.mem_append.mp y with y | y
      · exact z (.inl y)
      · rw [n.fr a y] at q; cases q
    · exact z (.inr (.inl y))
    · exact z (.inr (.inr ⟨y.1, fun ⟨i, C, h1, h2⟩ => y.2 ⟨i, C, List.mem_append_left _ h1, h2⟩⟩))⟩, fun a o q m => ⟨e a o q, .inl (List.mem_append_left _ m)⟩, fun a o q => e a _ q⟩
/-- the second, found where others owned A as well -/
theorem keep2 {A : List Addr} {v : V} {d : D} (r : Rep H1 (Ox (fun a => O a ∨ a ∈ A) AA ws B) v d B) : Rep H1 (Ox O AA (vs ++ ws) (A ++ B)) v d B :=
  r.keep ⟨fun a o q z => ⟨q, fun y => by
    rcases y with y | y | y
    · rcases List.mem_append.mp y with y | y
      · exact z (.inr (.inl (.inr y)))
      · exact z (.inl y)
    · exact z (.inr (.inl (.inl y)))
    · exact z (.inr (.inr ⟨y.1, fun ⟨i, C, h1, h2⟩ => y.2 ⟨i, C, List.mem_append_right _ h1, h2⟩⟩))⟩, fun a o q m => ⟨q, .inl (List.mem_append_right _ m)⟩, fun _ _ q => q⟩
theorem keeps2 {A : List Addr} {us : List V} {ds : List D} (r : Reps H1 (Ox (fun a => O a ∨ a ∈ A) AA ws B) us ds B) : Reps H1 (Ox O AA (vs ++ ws) (A ++ B)) us ds B :=
  r.keep ⟨fun a o q z => ⟨q, fun y => by
    rcases y with y | y | y
    · rcases List.mem_append.mp y with y | y
      · exact z (.inr (.inl (.inr y)))
      · exact z (.inl y)
    · exact z (.inr (.inl (.inl y)))
    · exact z (.inr (.inr ⟨y.1, fun ⟨i, C, h1, h2⟩ => y.2 ⟨i, C, List.mem_append_right _ h1, h2⟩⟩))⟩, fun a o q m => ⟨q, .inl (List.mem_append_right _ m)⟩, fun _ _ q => q⟩
/-- shared with the slots vs at most -/
theorem xr_less {x : XD} {cls : Value} {dd : Option Addr} {O' : Addr → Prop} (r : XR H O' x cls dd) (h : ∀ a, O a → O' a) : XR H O x cls dd := by
  obtain ⟨e, r⟩ := r
  refine ⟨e, r.imp id fun ⟨d, vs, h1, h2, nO, h3, h4⟩ => ⟨d, vs, h1, h2, fun y => nO (h d y), h3, h4.keep ⟨fun a o q z => ⟨q, fun y => z (h a y)⟩, fun _ _ _ m => (nomatch m), fun _ _ q => q⟩⟩⟩
end
/-- two in a row -/
theorem le_two {W : WX} {vs ws : List Nat} {ta tb : TE} {fa fb : FE} (ha : LE Γ W vs ta fa) (hb : LE Γ W ws tb fb) {O : Addr → Prop} {σ : L2.St} {ρ : Env} {H : Hp} {AA : List (List Addr)} {K : D → D → Prop} {X : XD → Prop} {Q : V → V → Hp → Prop} (s : SE Γ O H σ ρ AA)
    (h : fa ρ (fun x => fb ρ (fun y => K x y) X) X) (hQ : ∀ x y v u H' A B, K x y → Ex H H' → New H (A ++ B) → Rep H' (Ox O AA (vs ++ ws) (A ++ B)) v x A → Rep H' (Ox O AA (vs ++ ws) (A ++ B)) u y B → Q v u H')
    (hX : ∀ x cls dd H', X x → Ex H H' → XR H' (fun a => O a ∨ a ∈ AA.flatten) x cls dd → W cls dd σ H') : ta σ H fun v H1 => tb σ H1 fun u H2 => Q v u H2 := by
  refine ha O σ ρ H AA _ X _ s h (fun x v H1 A k1 e1 n1 r1 => ?_) hX
  have hA : ∀ a ∈ A, H1 a ≠ none := fun a m => (r1.own a m).2
  refine hb _ σ ρ H1 AA _ X _ (s.more e1 n1 hA s.has) k1 (fun y u H2 B k2 e2 n2 r2 => ?_) (fun x cls dd H' hx e2 r => hX x cls dd H' hx (e1.trans e2) (xr_less r fun a z => z.imp .inl id))
  exact hQ x y v u H2 A B k2 (e1.trans e2) (n1.app n2 e1 hA) (keep1 r1 e2 n2) (keep2 r2)
/-! #### what stands by itself -/
def D.scal : D → Option V
  | .non => some .non | .bl b => some (.bl b) | .int i => some (.int i) | .str s => some (.str s) | .ty n => some (.ty n) | .adr a => some (.ref a)
  | _ => none
theorem rep_scal {H : Hp} {O : Addr → Prop} {d : D} {v : V} (h : d.scal = some v) : Rep H O v d [] := by
  cases d <;> simp [D.scal] at h <;> subst h <;> constructor
theorem Rep.scal {H : Hp} {O : Addr → Prop} {d : D} {v u : V} {A : List Addr} (r : Rep H O u d A) (h : d.scal = some v) : u = v ∧ A = [] := by
  cases r <;> simp [D.scal] at h <;> exact ⟨h, rfl⟩
def dC (d : D) : FE := fun _ K _ => K d
theorem le_c {W : WX} {v : V} {d : D} (h : d.scal = some v) : LE Γ W [] (tC v) (dC d) := fun O σ ρ H AA K X Q _ k q _ => q d v H [] k (Ex.refl H) .nil (rep_scal h)
def dVar (i : Nat) : FE := fun ρ K _ => ∃ d, ρ[i]? = some (some d) ∧ K d.frz
theorem le_var {W : WX} {i : Nat} : LE Γ W [i] (tVar i) (dVar i) := by
  intro O σ ρ H AA K X Q s h q _
  obtain ⟨d, e, k⟩ := h
  obtain ⟨v, B, h1, h2, r⟩ := s.sr.get e
  refine ⟨v, h1, q _ v H [] k (Ex.refl H) .nil (r.frz (fun a n z => n ?_) fun a m z => ?_)⟩
  · rcases z with z | z | z
    · exact nomatch z
    · exact .inl z
    · exact .inr z.1
  · rcases z with z | z | z
    · exact nomatch z
    · exact (s.o0 a z).2 (flat_get h2 m)
    · exact z.2 ⟨i, B, List.mem_singleton.mpr rfl, h2, m⟩
/-- a binary operation by values: r; its answer a scalar -/
def RS (r : R2) (g : D → D → (D → Prop) → Prop) : Prop := ∀ (x y : D) (v u : V) (H : Hp) (O O2 : Addr → Prop) (A B : List Addr) (K : D → Prop) (Q : VK), Rep H O v x A → Rep H O2 u y B → g x y K → (∀ d w, d.scal = some w → K d → Q w H) → r v u H Q
def dOp (g : D → D → (D → Prop) → Prop) (a b : FE) : FE := fun ρ K X => a ρ (fun x => b ρ (fun y => g x y K) X) X
theorem le_op {W : WX} {vs ws : List Nat} {ta tb : TE} {fa fb : FE} {r : R2} {g : D → D → (D → Prop) → Prop} (hr : RS r g) (ha : LE Γ W vs ta fa) (hb : LE Γ W ws tb fb) : LE Γ W [] (tOp r ta tb) (dOp g fa fb) := by
  intro O σ ρ H AA K X Q s h q hX
  refine le_two (K := fun x y => g x y K) ha hb s h (fun x y v u H' A B k e n r1 r2 => ?_) hX
  exact hr x y v u H' _ _ A B K Q r1 r2 k fun d w hs hk => q d w H' [] hk e .nil (rep_scal hs)
/-! ints -/
def gI (C : Int → Int → Prop) (g : Int → Int → D) : D → D → (D → Prop) → Prop
  | .int i, .int j => fun K => C i j ∧ K (g i j)
  | _, _ => fun _ => False
theorem rs_int0 {g : Int → Int → V} {g' : Int → Int → D} (hg : ∀ i j, (g' i j).scal = some (g i j)) : RS (rI0 g) (gI (fun _ _ => True) g') := by
  intro x y v u H O O2 A B K Q r1 r2 h q
  cases x <;> cases y <;> simp only [gI] at h
  cases r1
  cases r2
  exact ⟨_, _, rfl, rfl, q _ _ (hg _ _) h.2⟩
theorem rs_int {C : Int → Int → Prop} {g : Int → Int → V} {g' : Int → Int → D} (hg : ∀ i j, (g' i j).scal = some (g i j)) : RS (rI C g) (gI C g') := by
  intro x y v u H O O2 A B K Q r1 r2 h q
  cases x <;> cases y <;> simp only [gI] at h
  cases r1
  cases r2
  exact ⟨_, _, rfl, rfl, h.1, q _ _ (hg _ _) h.2⟩
end DL
namespace DL
open PySem PySem.Spec PyProof.Rows L2 Evl PL
set_option maxHeartbeats 1000000
variable {Γ : GS}
/-! ### data compared -/
mutual
def D.py : D → PyData
  | .bl b => .bool b | .int i => .int i | .str s => .str s
  | .tup l => .tuple (D.pys l) | .lst _ l => .list (D.pys l)
  | _ => .none
def D.pys : List D → List PyData
  | [] => []
  | d :: l => d.py :: D.pys l
end
mutual
/-- data, of depth n at most -/
def D.ok : Nat → D → Bool
  | _, .non => true | _, .bl _ => true | _, .int _ => true | _, .str s => PyData.canLay0 (.str s)
  | n + 1, .tup l => D.oks n l
  | n + 1, .lst _ l => D.oks n l
  | _, _ => false
def D.oks : Nat → List D → Bool
  | _, [] => true
  | n, d :: l => D.ok n d && D.oks n l
end
section
variable {K : PySem.W.Frag} {H : Hp} {O : Addr → Prop}
mutual
theorem Rep.dp : ∀ {v d A} {n : Nat}, Rep H O v d A → d.ok n = true → Dp K H v d.py
  | _, _, _, _, .non, _ => .non
  | _, _, _, _, .bl, _ => .bl _
  | _, _, _, _, .int, _ => .int _
  | _, _, _, _, .str, _ => .str _
  | _, _, _, 0, .tup _ _, k => by simp [D.ok] at k
  | _, _, _, n + 1, .tup h r, k => .tup (.inl (.inl h)) (r.dp (n := n) (by simpa [D.ok] using k))
  | _, _, _, 0, .lstO _ _ _, k => by simp [D.ok] at k
  | _, _, _, n + 1, .lstO h _ r, k => .lst (.inl (.inl h)) (r.dp (n := n) (by simpa [D.ok] using k))
  | _, _, _, 0, .lst _ _ _, k => by simp [D.ok] at k
  | _, _, _, n + 1, .lst h _ r, k => .lst (.inl (.inl h)) (r.dp (n := n) (by simpa [D.ok] using k))
  | _, _, _, _, .ty, k => by simp [D.ok] at k
  | _, _, _, _, .adr, k => by simp [D.ok] at k
  | _, _, _, _, .dKO _ _ _ _, k => by simp [D.ok] at k
  | _, _, _, _, .dK _ _ _ _, k => by simp [D.ok] at k
  | _, _, _, _, .dTO _ _ _ _, k => by simp [D.ok] at k
  | _, _, _, _, .dT _ _ _ _, k => by simp [D.ok] at k
  | _, _, _, _, .insO _ _ _ _, k => by simp [D.ok] at k
  | _, _, _, _, .ins _ _ _ _, k => by simp [D.ok] at k
  | _, _, _, _, .raw _, k => by simp [D.ok] at k
  | _, _, _, _, .xo _ _ _ _, k => by simp [D.ok] at k
theorem Reps.dp : ∀ {vs ds A} {n : Nat}, Reps H O vs ds A → D.oks n ds = true → DpAll K H vs (D.pys ds)
  | _, _, _, _, .nil, _ => .nil
  | _, _, _, _, .cons r s, k => by
    simp only [D.oks, Bool.and_eq_true] at k
    exact .cons (r.dp k.1) (s.dp k.2)
end
end
mutual
theorem ok_lay : ∀ (n : Nat) (d : D), d.ok n = true → PyData.canLay0 d.py = true ∧ d.py.depth ≤ n
  | _, .non, _ => by simp [D.py, PyData.canLay0, PyData.depth]
  | _, .bl _, _ => by simp [D.py, PyData.canLay0, PyData.depth]
  | _, .int _, _ => by simp [D.py, PyData.canLay0, PyData.depth]
  | _, .str s, h => by
    simp only [D.ok] at h
    simp only [D.py]
    exact ⟨h, by simp [PyData.depth]⟩
  | 0, .tup _, h => by simp [D.ok] at h
  | n + 1, .tup l, h => by
    have := oks_lay n l (by simpa [D.ok] using h)
    simp only [D.py, PyData.canLay0, PyData.depth]
    exact ⟨this.1, by omega⟩
  | 0, .lst _ _, h => by simp [D.ok] at h
  | n + 1, .lst _ l, h => by
    have := oks_lay n l (by simpa [D.ok] using h)
    simp only [D.py, PyData.canLay0, PyData.depth]
    exact ⟨this.1, by omega⟩
  | _, .ty _, h => by simp [D.ok] at h
  | _, .adr _, h => by simp [D.ok] at h
  | _, .dK _ _ _, h => by simp [D.ok] at h
  | _, .dT _ _ _, h => by simp [D.ok] at h
  | _, .ins _ _ _ _, h => by simp [D.ok] at h
  | _, .raw _ _, h => by simp [D.ok] at h
  | _, .xo _ _ _ _, h => by simp [D.ok] at h
theorem oks_lay : ∀ (n : Nat) (l : List D), D.oks n l = true → PyData.canLayAll0 (D.pys l) = true ∧ PyData.depthAll (D.pys l) ≤ n
  | _, [], _ => by simp [D.pys, PyData.canLayAll0, PyData.depthAll]
  | n, d :: l, h => by
    simp only [D.oks, Bool.and_eq_true] at h
    have h1 := ok_lay n d h.1
    have h2 := oks_lay n l h.2
    simp only [D.pys, PyData.canLayAll0, PyData.depthAll]
    exact ⟨by rw [h1.1, h2.1]; rfl, by omega⟩
end
theorem ok_shaped {d : D} (h : d.ok 60 = true) : SeqAt.shaped d.py = true := by
  have := ok_lay 60 d h
  unfold SeqAt.shaped
  rw [this.1, Bool.true_and, decide_eq_true_eq]
  omega
def deq (x y : D) : Bool := PyData.eqv x.py y.py
def gEq (x y : D) (K : D → Prop) : Prop := x.ok 60 = true ∧ y.ok 60 = true ∧ K (.bl (deq x y))
def gNe (x y : D) (K : D → Prop) : Prop := x.ok 60 = true ∧ y.ok 60 = true ∧ K (.bl (!deq x y))
section
variable {Kf : PySem.W.Frag}
theorem rs_eq : RS (rEqA Kf) gEq := fun x y v u H O O2 A B K Q r1 r2 h q => .inr ⟨_, _, r1.dp h.1, r2.dp h.2.1, ok_shaped h.1, ok_shaped h.2.1, q (.bl _) _ rfl h.2.2⟩
theorem rs_ne : RS (rNeA Kf) gNe := fun x y v u H O O2 A B K Q r1 r2 h q => .inr ⟨_, _, r1.dp h.1, r2.dp h.2.1, ok_shaped h.1, ok_shaped h.2.1, q (.bl _) _ rfl h.2.2⟩
/-! in -/
def D.key : D → Option Key
  | .int i => some (.inl i) | .str s => some (.inr s)
  | _ => none
def D.keys : List D → Option (List Key)
  | [] => some []
  | d :: l => match d.key, D.keys l with
    | some k, some ks => some (k :: ks)
    | _, _ => none
def D.flat : D → Bool
  | .non => true | .bl _ => true | .int _ => true | .str _ => true
  | _ => false
def gIn (neg : Bool) (x y : D) (K : D → Prop) : Prop := match y with
  | .lst _ l => x.ok 60 = true ∧ D.oks 59 l = true ∧ K (.bl (neg ^^ l.any fun z => deq z x))
  | .tup l => x.flat = true ∧ l.all D.flat = true ∧ K (.bl (neg ^^ l.any fun z => deq z x))
  | .dK _ ks _ => ∃ k, x.key = some k ∧ K (.bl (neg ^^ ks.any (fun z => decide (z = k))))
  | .dT _ ks _ => ∃ l k, x = .tup l ∧ D.keys l = some k ∧ K (.bl (neg ^^ ks.any (fun z => decide (z = k))))
  | _ => False
theorem rep_key {H : Hp} {O : Addr → Prop} {v : V} {d : D} {A : List Addr} {k : Key} (r : Rep H O v d A) (h : d.key = some k) : v = kV k := by
  cases r <;> simp [D.key] at h <;> subst h <;> rfl
theorem rep_keys {H : Hp} {O : Addr → Prop} : ∀ {vs : List V} {ds : List D} {A : List Addr} {k : List Key}, Reps H O vs ds A → D.keys ds = some k → vs = k.map kV
  | _, _, _, _, .nil, h => by simp [D.keys] at h; subst h; rfl
  | _, _, _, _, .cons (d := d) (ds := ds) r s, h => by
    simp only [D.keys] at h
    cases h1 : d.key with
    | none => simp [h1] at h
    | some k1 =>
      cases h2 : D.keys ds with
      | none => simp [h1, h2] at h
      | some k2 =>
        simp [h1, h2] at h
        subst h
        rw [rep_key r h1, rep_keys s h2]
        rfl
theorem valV_zip {κ : Type} [DecidableEq κ] (k : κ) : ∀ (ks : List κ) (vs : List V), ks.length = vs.length → (valV (ks.zip vs) k).isSome = ks.any (fun z => decide (z = k))
  | [], [], _ => by simp [valV]
  | k' :: ks, v :: vs, h => by
    have ih := valV_zip k ks vs (by simpa using h)
    rw [List.zip_cons_cons]
    by_cases e : k' = k
    · rw [valV_pos (p := (k', v)) e]
      simp [e]
    · rw [valV_neg (p := (k', v)) e, ih]
      simp [e]
theorem flat_py {H : Hp} {O O2 : Addr → Prop} {v u : V} {x y : D} {A B : List Addr} (r : Rep H O v x A) (s : Rep H O2 u y B) (h : x.flat = true) (g : y.flat = true) : eqV v u = deq x y ∧ flatV v = true := by
  cases r <;> simp [D.flat] at h <;> cases s <;> simp [D.flat] at g <;> simp [eqV, flatV, deq, D.py, PyData.eqv]
theorem flats_py {H : Hp} {O O2 : Addr → Prop} {u : V} {y : D} {B : List Addr} (s : Rep H O2 u y B) (g : y.flat = true) : ∀ {vs : List V} {ds : List D} {A : List Addr}, Reps H O vs ds A → ds.all D.flat = true → vs.all flatV = true ∧ inV u vs = ds.any fun z => deq z y
  | _, _, _, .nil, _ => by simp [inV]
  | _, _, _, .cons (d := d) (v := v) r t, h => by
    simp only [List.all_cons, Bool.and_eq_true] at h
    have ih := flats_py s g t h.2
    have e := flat_py r s h.1 g
    refine ⟨by simp [e.2, ih.1], ?_⟩
    have := ih.2
    unfold inV at this ⊢
    rw [List.any_cons, List.any_cons, this, e.1]
theorem any_pys (x : D) : ∀ l : List D, (D.pys l).any (fun z => PyData.eqv z x.py) = l.any fun z => deq z x
  | [] => by simp [D.pys]
  | d :: l => by
    simp only [D.pys, List.any_cons, any_pys x l]
    rfl
theorem rd_dK {H : Hp} {O : Addr → Prop} {u : V} {o : Bool} {ks : List Key} {l : List D} {B : List Addr} (r : Rep H O u (.dK o ks l) B) : ∃ a vs C, u = .ref a ∧ H a = some (.dK (ks.zip vs)) ∧ ks.length = vs.length ∧ Reps H O vs l C := by
  cases r with
  | dKO h _ e r => exact ⟨_, _, _, rfl, h, e.1, r⟩
  | dK h _ e r => exact ⟨_, _, _, rfl, h, e.1, r⟩
theorem rd_dT {H : Hp} {O : Addr → Prop} {u : V} {o : Bool} {ks : List (List Key)} {l : List D} {B : List Addr} (r : Rep H O u (.dT o ks l) B) : ∃ a vs C, u = .ref a ∧ H a = some (.dT (ks.zip vs)) ∧ ks.length = vs.length ∧ Reps H O vs l C := by
  cases r with
  | dTO h _ e r => exact ⟨_, _, _, rfl, h, e.1, r⟩
  | dT h _ e r => exact ⟨_, _, _, rfl, h, e.1, r⟩
theorem rd_lst {H : Hp} {O : Addr → Prop} {u : V} {o : Bool} {l : List D} {B : List Addr} (r : Rep H O u (.lst o l) B) : ∃ a vs C, u = .ref a ∧ H a = some (.lst vs) ∧ Reps H O vs l C := by
  cases r with
  | lstO h _ r => exact ⟨_, _, _, rfl, h, r⟩
  | lst h _ r => exact ⟨_, _, _, rfl, h, r⟩
theorem rd_tup {H : Hp} {O : Addr → Prop} {u : V} {l : List D} {B : List Addr} (r : Rep H O u (.tup l) B) : ∃ a vs, u = .ref a ∧ H a = some (.tup vs) ∧ Reps H O vs l B := by
  cases r with
  | tup h r => exact ⟨_, _, rfl, h, r⟩
theorem rs_in {neg : Bool} {x y : D} {v u : V} {H : Hp} {O O2 : Addr → Prop} {A B : List Addr} {K : D → Prop} {Q : VK} (r1 : Rep H O v x A) (r2 : Rep H O2 u y B) (h : gIn neg x y K) (q : ∀ d w, d.scal = some w → K d → Q w H) :
    ((∃ p xs, u = .ref p ∧ (SqL Kf H p xs ∨ SqT Kf H p xs) ∧ flatV v = true ∧ xs.all flatV = true ∧ Q (.bl (if neg then !inV v xs else inV v xs)) H) ∨
      ∃ d ds, Dp Kf H v d ∧ Dp Kf H u (.list ds) ∧ SeqAt.shaped d = true ∧ SeqAt.shaped (.list ds) = true ∧ Q (.bl (neg ^^ ds.any fun z => PyData.eqv z d)) H) ∨ rDIn neg v u H Q := by
  cases y <;> simp only [gIn] at h
  case tup l =>
    obtain ⟨a, vs, rfl, ha, r⟩ := rd_tup r2
    obtain ⟨h1, h2, k⟩ := h
    have e := flats_py r1 h1 r h2
    refine .inl (.inl ⟨a, vs, rfl, .inr (.inl (.inl ha)), (flat_py r1 r1 h1 h1).2, e.1, q (.bl _) _ rfl ?_⟩)
    rw [e.2]
    cases neg <;> simpa using k
  case lst o l =>
    obtain ⟨h1, h2, k⟩ := h
    refine .inl (.inr ⟨_, _, r1.dp h1, r2.dp (n := 60) (by simpa [D.ok] using h2), ok_shaped h1, ?_, q (.bl _) _ rfl ?_⟩)
    · have := ok_shaped (d := .lst o l) (by simpa [D.ok] using h2)
      simpa [D.py] using this
    · rw [any_pys]
      exact k
  case dK o ks l =>
    obtain ⟨a, vs, C, rfl, ha, e, r⟩ := rd_dK r2
    obtain ⟨k, hk, kk⟩ := h
    refine .inr ⟨a, _, rfl, .inl ⟨_, k, .inl ha, rep_key r1 hk, rfl⟩, q (.bl _) _ rfl ?_⟩
    have := valV_zip k ks vs e
    rw [this]
    cases neg <;> simpa using kk
  case dT o ks l =>
    obtain ⟨a, vs, C, rfl, ha, e, r⟩ := rd_dT r2
    obtain ⟨l2, k, rfl, hk, kk⟩ := h
    obtain ⟨b, ws, rfl, hb, r3⟩ := rd_tup r1
    refine .inr ⟨a, _, rfl, .inr ⟨_, k, b, .inl ha, rfl, by rw [hb, rep_keys r3 hk], rfl⟩, q (.bl _) _ rfl ?_⟩
    have := valV_zip k ks vs e
    rw [this]
    cases neg <;> simpa using kk
theorem rs_inT : RS (rInA Kf) (gIn false) := fun x y v u H O O2 A B K Q r1 r2 h q => by
  rcases rs_in (Kf := Kf) r1 r2 h q with (h | h) | h
  · exact .inl (.inl h)
  · exact .inl (.inr (by simpa [rInD] using h))
  · exact .inr h
theorem rs_inF : RS (rNiA Kf) (gIn true) := fun x y v u H O O2 A B K Q r1 r2 h q => by
  rcases rs_in (Kf := Kf) r1 r2 h q with (h | h) | h
  · exact .inl (.inl h)
  · exact .inl (.inr (by simpa [rNotInD] using h))
  · exact .inr h
/-! is -/
def D.isNon : D → Bool
  | .non => true
  | _ => false
def gIs (neg : Bool) (x y : D) (K : D → Prop) : Prop := match y with
  | .non => K (.bl (neg ^^ x.isNon))
  | _ => False
theorem rep_non {H : Hp} {O : Addr → Prop} {v : V} {x : D} {A : List Addr} (r : Rep H O v x A) : decide (v = V.non) = x.isNon := by
  cases r <;> simp [D.isNon]
theorem rs_is : RS rIsA (gIs false) := fun x y v u H O O2 A B K Q r1 r2 h q => by
  cases y <;> simp only [gIs] at h
  cases r2
  refine .inl ⟨rfl, q (.bl _) _ rfl ?_⟩
  rw [rep_non r1]
  simpa using h
theorem rs_isn : RS rIsnA (gIs true) := fun x y v u H O O2 A B K Q r1 r2 h q => by
  cases y <;> simp only [gIs] at h
  cases r2
  refine .inl ⟨rfl, q (.bl _) _ rfl ?_⟩
  rw [rep_non r1]
  simpa using h
end
end DL
namespace DL
open PySem PySem.Spec PyProof.Rows L2 Evl PL
set_option maxHeartbeats 1000000
variable {Γ : GS}
/-! ### operations whose answer may be an object: both sides frozen -/
abbrev Ou (O : Addr → Prop) (C : List Addr) (a : Addr) : Prop := a ∈ C ∨ O a
def RG (r : R2) (g : D → D → (D → Prop) → Prop) : Prop := ∀ (x y : D) (v u : V) (H : Hp) (O : Addr → Prop) (K : D → Prop) (Q : VK), Rep H O v x [] → Rep H O u y [] → g x y K →
  (∀ d w H' C, K d → Ex H H' → New H C → Rep H' (Ou O C) w d C → Q w H') → r v u H Q
/-- frozen, seen from the result -/
theorem frz_r {H : Hp} {O : Addr → Prop} {AA : List (List Addr)} {vs : List Nat} {A B : List Addr} {v : V} {d : D} (r : Rep H (Ox O AA vs A) v d B) (h : ∀ a ∈ B, a ∈ A) (n : ∀ a ∈ A, ¬ Ox O AA vs [] a) : Rep H (Ox O AA vs []) v d.frz [] :=
  r.frz (fun a z y => z (.inr (y.resolve_left fun m => nomatch m))) fun a m => n a (h a m)
theorem new_ox {H : Hp} {O : Addr → Prop} {σ : L2.St} {ρ : Env} {AA : List (List Addr)} {vs : List Nat} {A : List Addr} (s : SE Γ O H σ ρ AA) (n : New H A) : ∀ a ∈ A, ¬ Ox O AA vs [] a := fun a m z => by
  rcases z with z | z | z
  · exact nomatch z
  · exact (s.o0 a z).1 (n.fr a m)
  · exact s.has a z.1 (n.fr a m)
theorem ou_ox {O : Addr → Prop} {AA : List (List Addr)} {vs : List Nat} {C : List Addr} {H : Hp} {v : V} {d : D} (r : Rep H (Ou (Ox O AA vs []) C) v d C) : Rep H (Ox O AA vs C) v d C :=
  r.keep ⟨fun a o h z => ⟨h, fun y => z (y.imp id fun y => .inr y)⟩, fun a o h m => ⟨h, .inl m⟩, fun _ _ h => h⟩
theorem new_ex {H H' : Hp} {C : List Addr} (e : Ex H H') (n : New H' C) : New H C := ⟨fun a m => ex_none e (n.fr a m), n.nd⟩
def dOpG (g : D → D → (D → Prop) → Prop) (a b : FE) : FE := fun ρ K X => a ρ (fun x => b ρ (fun y => g x.frz y.frz K) X) X
theorem le_opG {W : WX} {vs ws : List Nat} {ta tb : TE} {fa fb : FE} {r : R2} {g : D → D → (D → Prop) → Prop} (hr : RG r g) (ha : LE Γ W vs ta fa) (hb : LE Γ W ws tb fb) : LE Γ W (vs ++ ws) (tOp r ta tb) (dOpG g fa fb) := by
  intro O σ ρ H AA K X Q s h q hX
  refine le_two (K := fun x y => g x.frz y.frz K) ha hb s h (fun x y v u H' A B k e n r1 r2 => ?_) hX
  have nn := new_ox (vs := vs ++ ws) s n
  exact hr _ _ v u H' _ K Q (frz_r r1 (fun a m => List.mem_append_left _ m) nn) (frz_r r2 (fun a m => List.mem_append_right _ m) nn) k fun d w H2 C hk e2 n2 r3 => q d w H2 C hk (e.trans e2) (new_ex e n2) (ou_ox r3)
/-- a scalar's rule is one of these -/
theorem RS.rg {r : R2} {g : D → D → (D → Prop) → Prop} (h : RS r g) : RG r g := fun x y v u H O K Q r1 r2 k q => h x y v u H O O [] [] K Q r1 r2 k fun d w hs hk => q d w H [] hk (Ex.refl H) .nil (rep_scal hs)
theorem RG.or {r r' : R2} {g g' : D → D → (D → Prop) → Prop} (h : RG r g) (h' : RG r' g') : RG (fun x y H Q => r x y H Q ∨ r' x y H Q) (fun x y K => g x y K ∨ g' x y K) := fun x y v u H O K Q r1 r2 k q =>
  k.imp (fun k => h x y v u H O K Q r1 r2 k q) fun k => h' x y v u H O K Q r1 r2 k q
theorem RG.imp {r : R2} {g g' : D → D → (D → Prop) → Prop} (h : RG r g) (i : ∀ x y K, g' x y K → g x y K) : RG r g' := fun x y v u H O K Q r1 r2 k q => h x y v u H O K Q r1 r2 (i _ _ _ k) q
/-- a new list of frozen items -/
theorem mk_lst {H : Hp} {O : Addr → Prop} {p : Addr} {vs : List V} {ds : List D} (hp : H p = none) (r : Reps H O vs ds []) : Rep (upd H p (.lst vs)) (Ou O [p]) (.ref p) (.lst true ds) [p] :=
  .lstO upd_same (.inl (List.mem_singleton.mpr rfl)) (r.keep ⟨fun a o h n => ⟨Ex.new hp a o h, fun z => z.elim (fun m => by rw [List.mem_singleton.mp m, hp] at h; cases h) n⟩, fun _ _ _ m => (nomatch m), fun a o h => Ex.new hp a _ h⟩)
theorem mk_tup {H : Hp} {O : Addr → Prop} {p : Addr} {vs : List V} {ds : List D} (hp : H p = none) (r : Reps H O vs ds []) : Rep (upd H p (.tup vs)) (Ou O []) (.ref p) (.tup ds) [] :=
  .tup upd_same (r.keep ⟨fun a o h n => ⟨Ex.new hp a o h, fun z => z.elim (fun m => nomatch m) n⟩, fun _ _ _ m => (nomatch m), fun a o h => Ex.new hp a _ h⟩)
theorem rd_lst0 {H : Hp} {O : Addr → Prop} {u : V} {o : Bool} {l : List D} (r : Rep H O u (.lst o l) []) : ∃ a vs, u = .ref a ∧ H a = some (.lst vs) ∧ Reps H O vs l [] := by
  cases r with
  | lst h _ r => exact ⟨_, _, rfl, h, r⟩
theorem rd_dK0 {H : Hp} {O : Addr → Prop} {u : V} {o : Bool} {ks : List Key} {l : List D} (r : Rep H O u (.dK o ks l) []) : ∃ a vs, u = .ref a ∧ H a = some (.dK (ks.zip vs)) ∧ ks.length = vs.length ∧ Reps H O vs l [] := by
  cases r with
  | dK h _ e r => exact ⟨_, _, rfl, h, e.1, r⟩
theorem rd_dT0 {H : Hp} {O : Addr → Prop} {u : V} {o : Bool} {ks : List (List Key)} {l : List D} (r : Rep H O u (.dT o ks l) []) : ∃ a vs, u = .ref a ∧ H a = some (.dT (ks.zip vs)) ∧ ks.length = vs.length ∧ Reps H O vs l [] := by
  cases r with
  | dT h _ e r => exact ⟨_, _, rfl, h, e.1, r⟩
theorem Reps.app0 {H : Hp} {O : Addr → Prop} {vs ws : List V} {ds es : List D} (r : Reps H O vs ds []) (s : Reps H O ws es []) : Reps H O (vs ++ ws) (ds ++ es) [] := r.append s
/-! + -/
def gCat : D → D → (D → Prop) → Prop
  | .lst _ xs, .lst _ ys => fun K => xs.length + ys.length ≤ 100000 ∧ K (.lst true (xs ++ ys))
  | _, _ => fun _ => False
theorem rg_cat : RG rCat gCat := by
  intro x y v u H O K Q r1 r2 h q
  cases x <;> cases y <;> simp only [gCat] at h
  obtain ⟨a, vs, rfl, ha, s1⟩ := rd_lst0 r1
  obtain ⟨b, ws, rfl, hb, s2⟩ := rd_lst0 r2
  refine ⟨a, b, vs, ws, rfl, rfl, ha, hb, Nat.le_trans (by rw [s1.length, s2.length]; exact h.1) (by decide), fun p hp => ?_⟩
  exact q _ _ _ [p] h.2 (Ex.new hp) (.one hp) (mk_lst hp (s1.app0 s2))
def gAdd : D → D → (D → Prop) → Prop
  | .int i, .int j => fun K => K (.int (i + j))
  | .lst _ xs, .lst _ ys => fun K => xs.length + ys.length ≤ 100000 ∧ K (.lst true (xs ++ ys))
  | _, _ => fun _ => False
theorem rg_add : RG rAddA gAdd := (RG.or (rs_int0 (g' := fun i j => .int (i + j)) fun _ _ => rfl).rg rg_cat).imp fun x y K h => by
  cases x <;> cases y <;> simp only [gAdd] at h
  · exact .inl ⟨trivial, h⟩
  · exact .inr h
def gMin : D → D → (D → Prop) → Prop
  | .int i, .int j => fun K => K (.int (i - j))
  | _, _ => fun _ => False
theorem RS.imp {r : R2} {g g' : D → D → (D → Prop) → Prop} (h : RS r g) (i : ∀ x y K, g' x y K → g x y K) : RS r g' := fun x y v u H O O2 A B K Q r1 r2 k q => h x y v u H O O2 A B K Q r1 r2 (i _ _ _ k) q
theorem rs_sub : RS (rI0 fun i j => .int (i - j)) gMin := (rs_int0 (g' := fun i j => .int (i - j)) fun _ _ => rfl).imp fun x y K h => by
  cases x <;> cases y <;> simp only [gMin] at h
  exact ⟨trivial, h⟩
/-- a * b: one side of 64 bits at most; list * n -/
def gMul : D → D → (D → Prop) → Prop
  | .int i, .int j => fun K => CMul i j ∧ K (.int (i * j))
  | .lst _ xs, .int k => fun K => -100000 ≤ k ∧ k ≤ 100000 ∧ xs.length * k.toNat ≤ 100000 ∧ K (.lst true (List.replicate k.toNat xs).flatten)
  | _, _ => fun _ => False
theorem reps_rep {H : Hp} {O : Addr → Prop} {vs : List V} {ds : List D} (r : Reps H O vs ds []) : ∀ n : Nat, Reps H O (List.replicate n vs).flatten (List.replicate n ds).flatten []
  | 0 => .nil
  | n + 1 => by
    rw [List.replicate_succ, List.replicate_succ, List.flatten_cons, List.flatten_cons]
    exact r.app0 (reps_rep r n)
theorem rg_mul : RG rMulA gMul := by
  intro x y v u H O K Q r1 r2 h q
  cases x <;> cases y <;> simp only [gMul] at h
  · cases r1
    cases r2
    exact .inl ⟨_, _, rfl, rfl, h.1, q _ _ H [] h.2 (Ex.refl H) .nil .int⟩
  · obtain ⟨a, vs, rfl, ha, s1⟩ := rd_lst0 r1
    cases r2
    rename_i k
    refine .inr ⟨a, k, vs, rfl, rfl, ha, by omega, by omega, Nat.le_trans (by rw [s1.length]; exact h.2.2.1) (by decide), fun p hp => ?_⟩
    exact q _ _ _ [p] h.2.2.2 (Ex.new hp) (.one hp) (mk_lst hp (reps_rep s1 _))
/-! x[i], d[k] -/
def lookD {κ : Type} [DecidableEq κ] (ks : List κ) (l : List D) (k : κ) : Option D := ((ks.zip l).find? fun kv => decide (kv.1 = k)).map (·.2)
theorem look_rep {κ : Type} [DecidableEq κ] {H : Hp} {O : Addr → Prop} (k : κ) : ∀ {ks : List κ} {vs : List V} {ds : List D} {d : D}, ks.length = vs.length → Reps H O vs ds [] → lookD ks ds k = some d → ∃ v, valV (ks.zip vs) k = some v ∧ Rep H O v d []
  | [], _, _, _, _, _, h => by simp [lookD] at h
  | _ :: _, [], _, _, e, _, _ => by simp at e
  | k' :: ks, v :: vs, [], _, _, r, _ => by cases r
  | k' :: ks, v :: vs, d' :: ds, d, e, r, h => by
    have hr : ∃ A B, Rep H O v d' A ∧ Reps H O vs ds B ∧ A ++ B = [] := by
      generalize hn : ([] : List Addr) = N at r
      cases r with
      | cons r1 r2 => exact ⟨_, _, r1, r2, rfl⟩
    obtain ⟨A, B, r1, r2, e0⟩ := hr
    obtain ⟨rfl, rfl⟩ := List.append_eq_nil_iff.mp e0
    rw [List.zip_cons_cons]
    by_cases hk : k' = k
    · rw [valV_pos (p := (k', v)) hk]
      unfold lookD at h
      rw [List.zip_cons_cons, List.find?_cons_of_pos (by simpa using hk)] at h
      cases h
      exact ⟨v, rfl, r1⟩
    · rw [valV_neg (p := (k', v)) hk]
      unfold lookD at h
      rw [List.zip_cons_cons, List.find?_cons_of_neg (by simpa using hk)] at h
      exact look_rep k (by simpa using e) r2 h
theorem look_none {κ : Type} [DecidableEq κ] (k : κ) : ∀ {ks : List κ} {vs : List V} {ds : List D}, ks.length = vs.length → vs.length = ds.length → lookD ks ds k = none → valV (ks.zip vs) k = none
  | [], _, _, _, _, _ => by simp [valV]
  | _ :: _, [], _, e, _, _ => by simp at e
  | k' :: ks, v :: vs, [], _, e, _ => by simp at e
  | k' :: ks, v :: vs, d' :: ds, e, e2, h => by
    rw [List.zip_cons_cons]
    unfold lookD at h
    rw [List.zip_cons_cons] at h
    by_cases hk : k' = k
    · rw [List.find?_cons_of_pos (by simpa using hk)] at h
      simp at h
    · rw [valV_neg (p := (k', v)) hk]
      rw [List.find?_cons_of_neg (by simpa using hk)] at h
      exact look_none k (by simpa using e) (by simpa using e2) h
def gIx (x y : D) (K : D → Prop) : Prop := match x with
  | .lst _ l => ∃ i d, y = .int i ∧ atI l i = some d ∧ K d
  | .tup l => ∃ i d, y = .int i ∧ atI l i = some d ∧ K d
  | .dK _ ks l => ∃ k d, y.key = some k ∧ lookD ks l k = some d ∧ K d
  | .dT _ ks l => ∃ z k d, y = .tup z ∧ D.keys z = some k ∧ lookD ks l k = some d ∧ K d
  | _ => False
theorem at_rep {H : Hp} {O : Addr → Prop} {vs : List V} {ds : List D} {i : Int} {d : D} (r : Reps H O vs ds []) (h : atI ds i = some d) : ∃ v, atI vs i = some v ∧ Rep H O v d [] := by
  unfold atI at h ⊢
  rw [r.length]
  cases e : ixN ds.length i with
  | none => rw [e] at h; cases h
  | some j =>
    rw [e] at h
    exact r.getN (i := j) h
theorem rg_ix {Kf : PySem.W.Frag} : RG (rIxA Kf) gIx := by
  intro x y v u H O K Q r1 r2 h q
  cases x <;> simp only [gIx] at h
  case lst o l =>
    obtain ⟨i, d, rfl, e, k⟩ := h
    obtain ⟨a, vs, rfl, ha, s⟩ := rd_lst0 r1
    cases r2
    obtain ⟨w, e2, r⟩ := at_rep s e
    exact .inl (.inl ⟨a, vs, i, w, rfl, rfl, .inl (.inl ha), e2, q d w H [] k (Ex.refl H) .nil (r.keep ⟨fun a o h n => ⟨h, fun z => z.elim (fun m => nomatch m) n⟩, fun _ _ _ m => (nomatch m), fun _ _ h => h⟩)⟩)
  case tup l =>
    obtain ⟨i, d, rfl, e, k⟩ := h
    obtain ⟨a, vs, rfl, ha, s⟩ := rd_tup r1
    cases r2
    obtain ⟨w, e2, r⟩ := at_rep s e
    exact .inl (.inr (.inl ⟨a, vs, i, w, rfl, rfl, .inl (.inl ha), e2, q d w H [] k (Ex.refl H) .nil (r.keep ⟨fun a o h n => ⟨h, fun z => z.elim (fun m => nomatch m) n⟩, fun _ _ _ m => (nomatch m), fun _ _ h => h⟩)⟩))
  case dK o ks l =>
    obtain ⟨k, d, hk, e, kk⟩ := h
    obtain ⟨a, vs, rfl, ha, e1, s⟩ := rd_dK0 r1
    obtain ⟨w, e2, r⟩ := look_rep k e1 s e
    exact .inr ⟨a, w, rfl, .inl ⟨_, k, .inl ha, rep_key r2 hk, e2.symm⟩, q d w H [] kk (Ex.refl H) .nil (r.keep ⟨fun a o h n => ⟨h, fun z => z.elim (fun m => nomatch m) n⟩, fun _ _ _ m => (nomatch m), fun _ _ h => h⟩)⟩
  case dT o ks l =>
    obtain ⟨z, k, d, rfl, hk, e, kk⟩ := h
    obtain ⟨a, vs, rfl, ha, e1, s⟩ := rd_dT0 r1
    obtain ⟨b, ws, rfl, hb, r3⟩ := rd_tup r2
    obtain ⟨w, e2, r⟩ := look_rep k e1 s e
    exact .inr ⟨a, w, rfl, .inr ⟨_, k, b, .inl ha, rfl, by rw [hb, rep_keys r3 hk], e2.symm⟩, q d w H [] kk (Ex.refl H) .nil (r.keep ⟨fun a o h n => ⟨h, fun z => z.elim (fun m => nomatch m) n⟩, fun _ _ _ m => (nomatch m), fun _ _ h => h⟩)⟩
/-! ### arguments, displays -/
def dNil : FA := fun _ K _ => K []
def dCons (a : FE) (t : FA) : FA := fun ρ K X => a ρ (fun x => t ρ (fun xs => K (x :: xs)) X) X
theorem la_nil {W : WX} : LA Γ W [] tNil dNil := fun O σ ρ H AA K X Q _ h q _ => q [] [] H [] h (Ex.refl H) .nil .nil
theorem la_cons {W : WX} {vs ws : List Nat} {ta : TE} {tr : TA} {fa : FE} {fr : FA} (ha : LE Γ W vs ta fa) (hr : LA Γ W ws tr fr) : LA Γ W (vs ++ ws) (tCons ta tr) (dCons fa fr) := by
  intro O σ ρ H AA K X Q s h q hX
  refine ha O σ ρ H AA _ X _ s h (fun x v H1 A k1 e1 n1 r1 => ?_) hX
  have hA : ∀ a ∈ A, H1 a ≠ none := fun a m => (r1.own a m).2
  refine hr _ σ ρ H1 AA _ X _ (s.more e1 n1 hA s.has) k1 (fun ys us H2 B k2 e2 n2 r2 => ?_) (fun x cls dd H' hx e2 r => hX x cls dd H' hx (e1.trans e2) (xr_less r fun a z => z.imp .inl id))
  exact q (x :: ys) (v :: us) H2 (A ++ B) k2 (e1.trans e2) (n1.app n2 e1 hA) (.cons (keep1 r1 e2 n2) (keeps2 r2))
def dLst (t : FA) : FE := fun ρ K X => t ρ (fun xs => xs.length ≤ 100000 ∧ K (.lst true xs)) X
def dTup (t : FA) : FE := fun ρ K X => t ρ (fun xs => xs.length ≤ 100000 ∧ K (.tup xs)) X
theorem le_lst {W : WX} {vs : List Nat} {t : TA} {f : FA} (h : LA Γ W vs t f) : LE Γ W vs (tLst t) (dLst f) := by
  intro O σ ρ H AA K X Q s hk q hX
  refine h O σ ρ H AA _ X _ s hk (fun ds us H1 B k e n r => ⟨Nat.le_trans (by rw [r.length]; exact k.1) (by decide), fun p hp => ?_⟩) hX
  have hB : ∀ a ∈ B, H1 a ≠ none := fun a m => (r.own a m).2
  refine q _ _ _ (p :: B) k.2 (e.trans (Ex.new hp)) ⟨fun a m => ?_, List.nodup_cons.mpr ⟨fun m => hB p m hp, n.nd⟩⟩ (.lstO upd_same (.inl List.mem_cons_self) (r.keep ⟨fun a o h1 z => ⟨Ex.new hp a o h1, fun y => z ?_⟩, fun a o h1 m => ⟨Ex.new hp a o h1, .inl (List.mem_cons_of_mem _ m)⟩, fun a o h1 => Ex.new hp a _ h1⟩))
  · rcases List.mem_cons.mp m with m | m
    · rw [m]; exact ex_none e hp
    · exact n.fr a m
  · rcases y with y | y
    · rcases List.mem_cons.mp y with y | y
      · rw [y, hp] at h1; cases h1
      · exact .inl y
    · exact .inr y
theorem le_tup {W : WX} {vs : List Nat} {t : TA} {f : FA} (h : LA Γ W vs t f) : LE Γ W vs (tTup t) (dTup f) := by
  intro O σ ρ H AA K X Q s hk q hX
  refine h O σ ρ H AA _ X _ s hk (fun ds us H1 B k e n r => ⟨Nat.le_trans (by rw [r.length]; exact k.1) (by decide), fun p hp => ?_⟩) hX
  exact q _ _ _ B k.2 (e.trans (Ex.new hp)) n (.tup upd_same (r.keep ⟨fun a o h1 z => ⟨Ex.new hp a o h1, z⟩, fun a o h1 m => ⟨Ex.new hp a o h1, .inl m⟩, fun a o h1 => Ex.new hp a _ h1⟩))
/-! ### calls of built-ins -/
def RC (r : List V → Hp → VK → Prop) (g : List D → (D → Prop) → Prop) : Prop := ∀ (xs : List D) (us : List V) (H : Hp) (O : Addr → Prop) (K : D → Prop) (Q : VK), Reps H O us xs [] → g xs K →
  (∀ d w H' C, K d → Ex H H' → New H C → Rep H' (Ou O C) w d C → Q w H') → r us H Q
def RCS (r : List V → Hp → VK → Prop) (g : List D → (D → Prop) → Prop) : Prop := ∀ (xs : List D) (us : List V) (H : Hp) (O : Addr → Prop) (A : List Addr) (K : D → Prop) (Q : VK), Reps H O us xs A → g xs K →
  (∀ d w, d.scal = some w → K d → Q w H) → r us H Q
def dCB (g : List D → (D → Prop) → Prop) (t : FA) : FE := fun ρ K X => t ρ (fun xs => g xs K) X
def dCBG (g : List D → (D → Prop) → Prop) (t : FA) : FE := fun ρ K X => t ρ (fun xs => g (D.frzs xs) K) X
theorem le_cbS {W : WX} {vs : List Nat} {t : TA} {f : FA} {r : List V → Hp → VK → Prop} {g : List D → (D → Prop) → Prop} (hr : RCS r g) (h : LA Γ W vs t f) : LE Γ W [] (tCB r t) (dCB g f) := by
  intro O σ ρ H AA K X Q s hk q hX
  exact h O σ ρ H AA _ X _ s hk (fun ds us H1 B k e n rr => hr ds us H1 _ B K Q rr k fun d w hs hkk => q d w H1 [] hkk e .nil (rep_scal hs)) hX
theorem le_cbG {W : WX} {vs : List Nat} {t : TA} {f : FA} {r : List V → Hp → VK → Prop} {g : List D → (D → Prop) → Prop} (hr : RC r g) (h : LA Γ W vs t f) : LE Γ W vs (tCB r t) (dCBG g f) := by
  intro O σ ρ H AA K X Q s hk q hX
  refine h O σ ρ H AA _ X _ s hk (fun ds us H1 B k e n rr => ?_) hX
  have nn := new_ox (vs := vs) s n
  exact hr _ us H1 (Ox O AA vs []) K Q (rr.frz (fun a z y => z (.inr (y.resolve_left fun m => nomatch m))) fun a m => nn a m) k fun d w H2 C hkk e2 n2 r3 => q d w H2 C hkk (e.trans e2) (new_ex e n2) (ou_ox r3)
/-- the answer of it is an object of its own: the slots are not shared with -/
theorem LE.fresh {W : WX} {vs : List Nat} {te : TE} {fe : FE} (h : LE Γ W vs te fe) (hc : ∀ ρ K X, fe ρ K X → fe ρ (fun d => d.clean = true ∧ K d) X) : LE Γ W [] te fe := by
  intro O σ ρ H AA K X Q s hk q hX
  exact h O σ ρ H AA _ X _ s (hc _ _ _ hk) (fun d v H' B k e n r => q d v H' B k.2 e n (r.clean k.1 fun a m => .inl m)) hX
def gLen : List D → (D → Prop) → Prop
  | [.lst _ l] => fun K => K (.int (l.length : Nat))
  | [.tup l] => fun K => K (.int (l.length : Nat))
  | _ => fun _ => False
theorem reps_one {H : Hp} {O : Addr → Prop} {us : List V} {d : D} {A : List Addr} (r : Reps H O us [d] A) : ∃ v, us = [v] ∧ Rep H O v d A := by
  cases r with
  | cons r s =>
    cases s
    exact ⟨_, rfl, by rw [List.append_nil]; exact r⟩
theorem rc_len {Kf : PySem.W.Frag} : RCS (PL.rLen Kf) gLen := by
  intro xs us H O A K Q r h q
  match xs, h with
  | [.lst o l], h =>
    obtain ⟨v, rfl, r1⟩ := reps_one r
    obtain ⟨a, vs, C, rfl, ha, s⟩ := rd_lst r1
    exact ⟨a, vs, rfl, .inl (.inl (.inl ha)), q (.int _) _ rfl (by rw [s.length]; exact h)⟩
  | [.tup l], h =>
    obtain ⟨v, rfl, r1⟩ := reps_one r
    obtain ⟨a, vs, rfl, ha, s⟩ := rd_tup r1
    exact ⟨a, vs, rfl, .inr (.inl (.inl ha)), q (.int _) _ rfl (by rw [s.length]; exact h)⟩
def gInt : List D → (D → Prop) → Prop
  | [.int i] => fun K => K (.int i)
  | [.bl b] => fun K => K (.int (if b then 1 else 0))
  | _ => fun _ => False
theorem rc_int : RCS PL.rInt gInt := by
  intro xs us H O A K Q r h q
  match xs, h with
  | [.int i], h =>
    obtain ⟨v, rfl, r1⟩ := reps_one r
    cases r1
    exact .inl ⟨i, rfl, q _ _ rfl h⟩
  | [.bl b], h =>
    obtain ⟨v, rfl, r1⟩ := reps_one r
    cases r1
    exact .inr ⟨b, rfl, q _ _ rfl h⟩
def gList : List D → (D → Prop) → Prop
  | [.lst _ l] => fun K => K (.lst true l)
  | [.tup l] => fun K => K (.lst true l)
  | _ => fun _ => False
theorem rc_list {Kf : PySem.W.Frag} : RC (PL.rLst Kf) gList := by
  intro xs us H O K Q r h q
  match xs, h with
  | [.lst o l], h =>
    obtain ⟨v, rfl, r1⟩ := reps_one r
    obtain ⟨a, vs, rfl, ha, s⟩ := rd_lst0 r1
    exact ⟨a, vs, rfl, .inl (.inl (.inl ha)), fun p hp => q _ _ _ [p] h (Ex.new hp) (.one hp) (mk_lst hp s)⟩
  | [.tup l], h =>
    obtain ⟨v, rfl, r1⟩ := reps_one r
    obtain ⟨a, vs, rfl, ha, s⟩ := rd_tup r1
    exact ⟨a, vs, rfl, .inr (.inl (.inl ha)), fun p hp => q _ _ _ [p] h (Ex.new hp) (.one hp) (mk_lst hp s)⟩
theorem reps_ints {H : Hp} {O : Addr → Prop} : ∀ {us : List V} {A : List Addr} {ns : List Int}, Reps H O us (ns.map D.int) A → us = ns.map V.int
  | _, _, [], r => by cases r; rfl
  | _, _, n :: ns, r => by
    cases r with
    | cons r s =>
      cases r
      rw [reps_ints s]
      rfl
theorem reps_bls {H : Hp} {O : Addr → Prop} : ∀ {us : List V} {A : List Addr} {ns : List Bool}, Reps H O us (ns.map D.bl) A → us = ns.map V.bl
  | _, _, [], r => by cases r; rfl
  | _, _, n :: ns, r => by
    cases r with
    | cons r s =>
      cases r
      rw [reps_bls s]
      rfl
theorem reps_int_mk {H : Hp} {O : Addr → Prop} : ∀ ns : List Int, Reps H O (ns.map V.int) (ns.map D.int) []
  | [] => .nil
  | n :: ns => .cons (A := []) (B := []) .int (reps_int_mk ns)
/-- a list of ints, of bools -/
def isInts (xs : List D) (ns : List Int) : Prop := ∃ o, xs = [.lst o (ns.map D.int)]
def isBls (xs : List D) (bs : List Bool) : Prop := ∃ o, xs = [.lst o (bs.map D.bl)]
theorem ints_at {Kf : PySem.W.Frag} {H : Hp} {O : Addr → Prop} {us : List V} {xs : List D} {A : List Addr} {ns : List Int} (r : Reps H O us xs A) (h : isInts xs ns) : ∃ a, us = [.ref a] ∧ H a = some (.lst (ns.map V.int)) := by
  obtain ⟨o, rfl⟩ := h
  obtain ⟨v, rfl, r1⟩ := reps_one r
  obtain ⟨a, vs, C, rfl, ha, s⟩ := rd_lst r1
  exact ⟨a, rfl, by rw [ha, reps_ints s]⟩
theorem rc_sum {Kf : PySem.W.Frag} : RCS (rSum Kf) fun xs K => ∃ ns, isInts xs ns ∧ K (.int ns.sum) := fun xs us H O A K Q r h q => by
  obtain ⟨ns, h, k⟩ := h
  obtain ⟨a, rfl, ha⟩ := ints_at (Kf := Kf) r h
  exact ⟨a, ns, rfl, .inl (.inl ha), q _ _ rfl k⟩
theorem rc_any {Kf : PySem.W.Frag} : RCS (rAny Kf) fun xs K => ∃ bs, isBls xs bs ∧ K (.bl (bs.any id)) := fun xs us H O A K Q r h q => by
  obtain ⟨bs, ⟨o, rfl⟩, k⟩ := h
  obtain ⟨v, rfl, r1⟩ := reps_one r
  obtain ⟨a, vs, C, rfl, ha, s⟩ := rd_lst r1
  exact ⟨a, bs, rfl, .inl (.inl (by rw [ha, reps_bls s])), q _ _ rfl k⟩
theorem rc_all {Kf : PySem.W.Frag} : RCS (rAll Kf) fun xs K => ∃ bs, isBls xs bs ∧ K (.bl (bs.all id)) := fun xs us H O A K Q r h q => by
  obtain ⟨bs, ⟨o, rfl⟩, k⟩ := h
  obtain ⟨v, rfl, r1⟩ := reps_one r
  obtain ⟨a, vs, C, rfl, ha, s⟩ := rd_lst r1
  exact ⟨a, bs, rfl, .inl (.inl (by rw [ha, reps_bls s])), q _ _ rfl k⟩
end DL
namespace DL
open PySem PySem.Spec PyProof.Rows L2 Evl PL
set_option maxHeartbeats 1000000
variable {Γ : GS}
/-! ### tests -/
def asBl (d : D) (K : Bool → Prop) : Prop := match d with
  | .bl b => K b
  | _ => False
def dTest (f : FE) : FT := fun ρ K X => f ρ (fun d => asBl d K) X
theorem lt_test {W : WX} {vs : List Nat} {t : TE} {f : FE} (h : LE Γ W vs t f) : LT Γ W (tTest t) (dTest f) := by
  intro O σ ρ H AA K X Q s hk q hX
  refine h O σ ρ H AA _ X _ s hk (fun d v H1 B k e n r => ?_) hX
  cases d <;> simp only [asBl] at k
  cases r
  exact ⟨_, rfl, q _ _ k e⟩
def gTru (d : D) (K : Bool → Prop) : Prop := match d with
  | .non => K false
  | .bl b => K b
  | .int i => K (i != 0)
  | .lst _ l => K (!l.isEmpty)
  | .tup l => K (!l.isEmpty)
  | .dK _ ks _ => K (!ks.isEmpty)
  | _ => False
theorem emp_len {α β : Type} {l : List α} {m : List β} (h : l.length = m.length) : l.isEmpty = m.isEmpty := by
  cases l <;> cases m <;> simp at h ⊢
theorem tru_rep {Kf : PySem.W.Frag} {H : Hp} {O : Addr → Prop} {v : V} {d : D} {A : List Addr} {K : Bool → Prop} (r : Rep H O v d A) (h : gTru d K) : ∃ k, TruV Kf v H k ∧ K k := by
  cases d <;> simp only [gTru] at h
  case non => cases r; exact ⟨false, rfl, h⟩
  case bl => cases r; exact ⟨_, rfl, h⟩
  case int => cases r; exact ⟨_, rfl, h⟩
  case tup => obtain ⟨a, vs, rfl, ha, s⟩ := rd_tup r; exact ⟨_, .inr (.inl ⟨vs, .inl (.inl ha), rfl⟩), by rw [emp_len s.length]; exact h⟩
  case lst => obtain ⟨a, vs, C, rfl, ha, s⟩ := rd_lst r; exact ⟨_, .inl ⟨vs, .inl (.inl ha), rfl⟩, by rw [emp_len s.length]; exact h⟩
  case dK o ks l =>
    obtain ⟨a, vs, C, rfl, ha, e, s⟩ := rd_dK r
    refine ⟨_, .inr (.inr ⟨_, ha, rfl⟩), ?_⟩
    rw [emp_len (l := ks.zip vs) (m := ks) (by rw [List.length_zip]; omega)]
    exact h
def dTru (f : FE) : FT := fun ρ K X => f ρ (fun d => gTru d K) X
theorem lt_tru {W : WX} {vs : List Nat} {Kf : PySem.W.Frag} {t : TE} {f : FE} (h : LE Γ W vs t f) : LT Γ W (PL.tTru Kf t) (dTru f) := by
  intro O σ ρ H AA K X Q s hk q hX
  refine h O σ ρ H AA _ X _ s hk (fun d v H1 B k e n r => ?_) hX
  obtain ⟨b, h1, h2⟩ := tru_rep (Kf := Kf) r k
  exact ⟨b, h1, q _ _ h2 e⟩
def dAnd (f g : FT) : FT := fun ρ K X => f ρ (fun b => if b = true then g ρ K X else K false) X
def dOr (f g : FT) : FT := fun ρ K X => f ρ (fun b => if b = true then K true else g ρ K X) X
def dNot (f : FT) : FT := fun ρ K X => f ρ (fun b => K (!b)) X
theorem lt_and {W : WX} {t u : TT} {f g : FT} (h : LT Γ W t f) (h2 : LT Γ W u g) : LT Γ W (tAnd t u) (dAnd f g) := by
  intro O σ ρ H AA K X Q s hk q hX
  refine h O σ ρ H AA _ X _ s hk (fun c H1 k e => ?_) hX
  cases c with
  | true => rw [if_pos rfl] at k ⊢; exact h2 O σ ρ H1 AA K X Q (s.ex e) k (fun c H2 k e2 => q c H2 k (e.trans e2)) fun x cls dd H' hx e2 => hX x cls dd H' hx (e.trans e2)
  | false => rw [if_neg Bool.false_ne_true] at k ⊢; exact q _ _ k e
theorem lt_or {W : WX} {t u : TT} {f g : FT} (h : LT Γ W t f) (h2 : LT Γ W u g) : LT Γ W (tOr t u) (dOr f g) := by
  intro O σ ρ H AA K X Q s hk q hX
  refine h O σ ρ H AA _ X _ s hk (fun c H1 k e => ?_) hX
  cases c with
  | true => rw [if_pos rfl] at k ⊢; exact q _ _ k e
  | false => rw [if_neg Bool.false_ne_true] at k ⊢; exact h2 O σ ρ H1 AA K X Q (s.ex e) k (fun c H2 k e2 => q c H2 k (e.trans e2)) fun x cls dd H' hx e2 => hX x cls dd H' hx (e.trans e2)
theorem lt_not {W : WX} {t : TT} {f : FT} (h : LT Γ W t f) : LT Γ W (tNot t) (dNot f) := fun O σ ρ H AA K X Q s hk q hX => h O σ ρ H AA _ X _ s hk (fun c H1 k e => q _ _ k e) hX
def dAndV (f g : FE) : FE := fun ρ K X => f ρ (fun d => asBl d fun b => if b = true then g ρ K X else K (.bl false)) X
def dOrV (f g : FE) : FE := fun ρ K X => f ρ (fun d => asBl d fun b => if b = true then K (.bl true) else g ρ K X) X
def dNotV (f : FE) : FE := fun ρ K X => f ρ (fun d => asBl d fun b => K (.bl !b)) X
theorem le_andV {W : WX} {vs ws : List Nat} {t u : TE} {f g : FE} (h : LE Γ W vs t f) (h2 : LE Γ W ws u g) : LE Γ W ws (tAndV t u) (dAndV f g) := by
  intro O σ ρ H AA K X Q s hk q hX
  refine h O σ ρ H AA _ X _ s hk (fun d v H1 B k e n r => ?_) hX
  cases d <;> simp only [asBl] at k
  cases r
  refine ⟨_, rfl, ?_⟩
  split at k
  · rename_i hb; rw [if_pos hb]; exact h2 O σ ρ H1 AA K X Q (s.ex e) k (fun d v H2 B k e2 n r => q d v H2 B k (e.trans e2) (new_ex e n) r) fun x cls dd H' hx e2 => hX x cls dd H' hx (e.trans e2)
  · rename_i hb; rw [if_neg hb]; exact q _ _ _ [] k e .nil .bl
theorem le_orV {W : WX} {vs ws : List Nat} {t u : TE} {f g : FE} (h : LE Γ W vs t f) (h2 : LE Γ W ws u g) : LE Γ W ws (tOrV t u) (dOrV f g) := by
  intro O σ ρ H AA K X Q s hk q hX
  refine h O σ ρ H AA _ X _ s hk (fun d v H1 B k e n r => ?_) hX
  cases d <;> simp only [asBl] at k
  cases r
  refine ⟨_, rfl, ?_⟩
  split at k
  · rename_i hb; rw [if_pos hb]; exact q _ _ _ [] k e .nil .bl
  · rename_i hb; rw [if_neg hb]; exact h2 O σ ρ H1 AA K X Q (s.ex e) k (fun d v H2 B k e2 n r => q d v H2 B k (e.trans e2) (new_ex e n) r) fun x cls dd H' hx e2 => hX x cls dd H' hx (e.trans e2)
theorem le_notV {W : WX} {vs : List Nat} {t : TE} {f : FE} (h : LE Γ W vs t f) : LE Γ W [] (tNotV t) (dNotV f) := by
  intro O σ ρ H AA K X Q s hk q hX
  refine h O σ ρ H AA _ X _ s hk (fun d v H1 B k e n r => ?_) hX
  cases d <;> simp only [asBl] at k
  cases r
  exact ⟨_, rfl, q _ _ _ [] k e .nil .bl⟩
theorem ox_sub {O : Addr → Prop} {AA : List (List Addr)} {vs ws : List Nat} {B : List Addr} {H : Hp} {v : V} {d : D} (h : ∀ i ∈ vs, i ∈ ws) (r : Rep H (Ox O AA vs B) v d B) : Rep H (Ox O AA ws B) v d B :=
  r.keep ⟨fun a o q z => ⟨q, fun y => z (y.imp id fun y => y.imp id fun y => ⟨y.1, fun ⟨i, C, h1, h2⟩ => y.2 ⟨i, C, h i h1, h2⟩⟩)⟩, fun a o q m => ⟨q, .inl m⟩, fun _ _ q => q⟩
def dIf (c : FT) (f g : FE) : FE := fun ρ K X => c ρ (fun b => if b = true then f ρ K X else g ρ K X) X
theorem le_if {W : WX} {vs ws : List Nat} {c : TT} {t u : TE} {fc : FT} {f g : FE} (hc : LT Γ W c fc) (h : LE Γ W vs t f) (h2 : LE Γ W ws u g) : LE Γ W (vs ++ ws) (tIf c t u) (dIf fc f g) := by
  intro O σ ρ H AA K X Q s hk q hX
  refine hc O σ ρ H AA _ X _ s hk (fun b H1 k e => ?_) hX
  split at k
  · rename_i hb; rw [if_pos hb]; exact h O σ ρ H1 AA K X Q (s.ex e) k (fun d v H2 B k e2 n r => q d v H2 B k (e.trans e2) (new_ex e n) (ox_sub (fun i m => List.mem_append_left _ m) r)) fun x cls dd H' hx e2 => hX x cls dd H' hx (e.trans e2)
  · rename_i hb; rw [if_neg hb]; exact h2 O σ ρ H1 AA K X Q (s.ex e) k (fun d v H2 B k e2 n r => q d v H2 B k (e.trans e2) (new_ex e n) (ox_sub (fun i m => List.mem_append_right _ m) r)) fun x cls dd H' hx e2 => hX x cls dd H' hx (e.trans e2)
def dChain (g g' : D → D → (D → Prop) → Prop) (a b c : FE) : FE := fun ρ K X => a ρ (fun x => b ρ (fun y => g x y fun z => asBl z fun k => if k = true then c ρ (fun u => g' y u K) X else K (.bl false)) X) X
theorem le_chain {W : WX} {vs ws us : List Nat} {ta tb tc : TE} {fa fb fc : FE} {r r' : R2} {g g' : D → D → (D → Prop) → Prop} (hr : RS r g) (hr' : RS r' g') (ha : LE Γ W vs ta fa) (hb : LE Γ W ws tb fb) (hc : LE Γ W us tc fc) : LE Γ W [] (tChain r r' ta tb tc) (dChain g g' fa fb fc) := by
  intro O σ ρ H AA K X Q s h q hX
  refine le_two (K := fun x y => g x y fun z => asBl z fun k => if k = true then fc ρ (fun u => g' y u K) X else K (.bl false)) ha hb s h (fun x y v u H' A B k e n r1 r2 => ?_) hX
  refine hr x y v u H' _ _ A B _ _ r1 r2 k fun d w hs hk => ?_
  cases d <;> simp only [asBl] at hk
  simp only [D.scal, Option.some.injEq] at hs
  subst hs
  refine ⟨_, rfl, ?_⟩
  split at hk
  · rename_i hb'; rw [if_pos hb']
    have hB : ∀ a ∈ B, H' a ≠ none := fun a m => (r2.own a m).2
    have nB : New H B := ⟨fun a m => n.fr a (List.mem_append_right _ m), (List.nodup_append.mp n.nd).2.1⟩
    refine hc (fun a => O a ∨ a ∈ B) σ ρ H' AA _ X _ (s.more e nB hB s.has) hk (fun z w2 H3 C k3 e3 n3 r3 => ?_) (fun x cls dd H2 hx e2 r => hX x cls dd H2 hx (e.trans e2) (xr_less r fun a z => z.imp .inl id))
    exact hr' y z u w2 H3 _ _ B C K Q (r2.keep (kp_ex e3 fun a m => (r2.own a m).1)) r3 k3 fun d w hs hk => q d w H3 [] hk (e.trans e3) .nil (rep_scal hs)
  · rename_i hb'; rw [if_neg hb']; exact q _ _ _ [] hk e .nil .bl
end DL
namespace DL
open PySem PySem.Spec PyProof.Rows L2 Evl PL
set_option maxHeartbeats 1000000
variable {Γ : GS}
/-! ### targets -/
abbrev Ov (O : Addr → Prop) (AA : List (List Addr)) (B : List Addr) (a : Addr) : Prop := a ∈ B ∨ O a ∨ a ∈ AA.flatten
abbrev Op (O : Addr → Prop) (B : List Addr) (a : Addr) : Prop := O a ∨ a ∈ B
abbrev FG := D → Env → (Env → Prop) → Prop
abbrev FGs := List D → Env → (Env → Prop) → Prop
/-- ts: the slots that change -/
def LG (Γ : GS) (ts : List Nat) (g : TG) (fg : FG) : Prop := ∀ (O : Addr → Prop) (σ : L2.St) (ρ : Env) (H : Hp) (AA : List (List Addr)) (v : V) (d : D) (B : List Addr) (K : Env → Prop) (Q : L2.St → Hp → Prop), SE Γ (Op O B) H σ ρ AA → Rep H (Ov O AA B) v d B → B.Nodup → (∀ a ∈ B, ¬ O a) → fg d ρ K →
  (∀ σ' ρ' AA', K ρ' → SE Γ O H σ' ρ' AA' → (∀ a ∈ AA'.flatten, a ∈ AA.flatten ∨ a ∈ B) → σ'.length = σ.length → (∀ i, i ∉ ts → σ'[i]? = σ[i]? ∧ AA'[i]? = AA[i]?) → Q σ' H) → g v σ H Q
def LGs (Γ : GS) (ts : List Nat) (g : TGs) (fg : FGs) : Prop := ∀ (O : Addr → Prop) (σ : L2.St) (ρ : Env) (H : Hp) (AA : List (List Addr)) (vs : List V) (ds : List D) (B : List Addr) (K : Env → Prop) (Q : L2.St → Hp → Prop), SE Γ (Op O B) H σ ρ AA → Reps H (Ov O AA B) vs ds B → B.Nodup → (∀ a ∈ B, ¬ O a) → fg ds ρ K →
  (∀ σ' ρ' AA', K ρ' → SE Γ O H σ' ρ' AA' → (∀ a ∈ AA'.flatten, a ∈ AA.flatten ∨ a ∈ B) → σ'.length = σ.length → (∀ i, i ∉ ts → σ'[i]? = σ[i]? ∧ AA'[i]? = AA[i]?) → Q σ' H) → g vs σ H Q
theorem SE.congr {O O' : Addr → Prop} {H : Hp} {σ : L2.St} {ρ : Env} {AA : List (List Addr)} (s : SE Γ O H σ ρ AA) (h : ∀ a, O a ↔ O' a) : SE Γ O' H σ ρ AA :=
  ⟨s.sr.keep ⟨fun a o q n => ⟨q, fun z => n (z.imp (h a).mpr id)⟩, fun a o q m => ⟨q, .inr m⟩, fun _ _ q => q⟩, s.nd, fun a z => s.o0 a ((h a).mpr z), s.gi⟩
/-- a slot gets a value that stands apart -/
theorem SE.bind {O : Addr → Prop} {H : Hp} {σ : L2.St} {ρ : Env} {AA : List (List Addr)} {j : Nat} {v : V} {d : D} {B : List Addr} (s : SE Γ (Op O B) H σ ρ AA) (r : Rep H (Ov O AA B) v d B) (nB : B.Nodup) (dB : ∀ a ∈ B, ¬ O a) (hj : j < ρ.length) :
    SE Γ O H (σ.set j (some v)) (ρ.set j (some d)) (AA.set j B) := by
  have hl : j < AA.length := by rw [s.sr.len.2]; exact hj
  refine ⟨s.sr.upd ⟨fun a o h n => ⟨h, fun z => ?_⟩, fun a o h m => ⟨h, .inr (flat_set_self m)⟩, fun _ _ h => h⟩ (r.keep ⟨fun a o h n => ⟨h, fun z => n ?_⟩, fun a o h m => ⟨h, .inr (flat_set_in hl m)⟩, fun _ _ h => h⟩), nd_set s.nd nB fun a m z => (s.o0 a (.inr m)).2 (flat_set_nil z), fun a z => ⟨(s.o0 a (.inl z)).1, fun m => ?_⟩, s.gi⟩
  · rcases z with z | z
    · exact n (.inl (.inl z))
    · exact (flat_set z).elim (fun z => n (.inr (flat_set_nil z))) fun z => n (.inl (.inr z))
  · rcases z with z | z
    · exact .inr (.inl z)
    · exact (flat_set z).elim (fun z => .inr (.inr (flat_set_nil z))) .inl
  · exact (flat_set m).elim (fun m => (s.o0 a (.inl z)).2 (flat_set_nil m)) fun m => dB a m z
def dName (i : Nat) : FG := fun d ρ K => i < ρ.length ∧ K (ρ.set i (some d))
theorem lg_name {i : Nat} : LG Γ [i] (gName i) (dName i) := fun O σ ρ H AA v d B K Q s r nB dB h q =>
  q _ _ _ h.2 (s.bind r nB dB h.1) (fun a m => (flat_set m).imp flat_set_nil id) (by simp) fun k hk => ⟨List.getElem?_set_ne fun z => hk (by simp [z]), List.getElem?_set_ne fun z => hk (by simp [z])⟩
def dGNil : FGs := fun ds ρ K => ds = [] ∧ K ρ
def dGCons (f : FG) (g : FGs) : FGs := fun ds ρ K => ∃ d r, ds = d :: r ∧ f d ρ fun ρ' => g r ρ' K
theorem lg_nil : LGs Γ [] gNil dGNil := fun O σ ρ H AA vs ds B K Q s r nB dB h q => by
  obtain ⟨rfl, k⟩ := h
  cases r
  exact ⟨rfl, q _ _ AA k (s.congr fun a => by simp) (fun a m => .inl m) rfl fun _ _ => ⟨rfl, rfl⟩⟩
theorem lg_cons {ts us : List Nat} {g : TG} {gs : TGs} {f : FG} {fs : FGs} (h1 : LG Γ ts g f) (h2 : LGs Γ us gs fs) : LGs Γ (ts ++ us) (gCons g gs) (dGCons f fs) := fun O σ ρ H AA vs ds B K Q s r nB dB h q => by
  obtain ⟨d, dr, rfl, k⟩ := h
  cases r with
  | @cons v _ A vr _ B r1 r2 =>
    obtain ⟨n1, n2, n3⟩ := List.nodup_append.mp nB
    refine ⟨v, vr, rfl, h1 (Op O B) σ ρ H AA v d A _ _ (s.congr fun a => ?_) (r1.keep ⟨fun a o h n => ⟨h, fun z => n ?_⟩, fun a o h m => ⟨h, .inl m⟩, fun _ _ h => h⟩) n1 (fun a m z => ?_) k fun σ1 ρ1 AA1 k1 s1 sub l1 o1 => ?_⟩
    · show (O a ∨ a ∈ A ++ B) ↔ ((O a ∨ a ∈ B) ∨ a ∈ A)
      rw [List.mem_append]
      constructor
      · rintro (h | h | h)
        · exact .inl (.inl h)
        · exact .inr h
        · exact .inl (.inr h)
      · rintro ((h | h) | h)
        · exact .inl h
        · exact .inr (.inr h)
        · exact .inr (.inl h)
    · rcases z with z | (z | z) | z
      · exact .inl (List.mem_append_left _ z)
      · exact .inr (.inl z)
      · exact .inl (List.mem_append_right _ z)
      · exact .inr (.inr z)
    · exact z.elim (dB a (List.mem_append_left _ m)) fun z => n3 a m a z rfl
    · refine h2 O σ1 ρ1 H AA1 vr dr B K Q s1 (r2.keep ⟨fun a o h n => ⟨h, fun z => n ?_⟩, fun a o h m => ⟨h, .inl m⟩, fun _ _ h => h⟩) n2 (fun a m => dB a (List.mem_append_right _ m)) k1 fun σ2 ρ2 AA2 k2 s2 sub2 l2 o2 => ?_
      · rcases z with z | z | z
        · exact .inl (List.mem_append_right _ z)
        · exact .inr (.inl z)
        · exact (sub a z).elim (fun z => .inr (.inr z)) fun z => .inl (List.mem_append_left _ z)
      · refine q _ _ _ k2 s2 (fun a m => ?_) (l2.trans l1) fun i hi => ⟨(o2 i fun m => hi (List.mem_append_right _ m)).1.trans (o1 i fun m => hi (List.mem_append_left _ m)).1, (o2 i fun m => hi (List.mem_append_right _ m)).2.trans (o1 i fun m => hi (List.mem_append_left _ m)).2⟩
        rcases sub2 a m with m | m
        · exact (sub a m).imp id fun m => List.mem_append_left _ m
        · exact .inr (List.mem_append_right _ m)
def dGTup (n : Nat) (f : FGs) : FG := fun d ρ K => match d with
  | .tup l => l.length = n ∧ f l ρ K
  | _ => False
theorem lg_tup {Kf : PySem.W.Frag} {n : Nat} {ts : List Nat} {g : TGs} {f : FGs} (h : LGs Γ ts g f) : LG Γ ts (gTup Kf n g) (dGTup n f) := fun O σ ρ H AA v d B K Q s r nB dB k q => by
  cases d <;> simp only [dGTup] at k
  obtain ⟨a, vs, rfl, ha, r⟩ := rd_tup r
  exact ⟨a, vs, rfl, .inl (.inl ha), by rw [r.length]; exact k.1, h O σ ρ H AA vs _ B K Q s r nB dB k.2 q⟩
/-! ### what is walked -/
abbrev FI := Env → (List D → Prop) → (XD → Prop) → Prop
/-- J walks ds, from H1 on, as long as what is not O1's stays -/
def WalkD (J : It) (ds : List D) (H1 : Hp) (O1 : Addr → Prop) : Prop := ∃ G Y, Walk J ds.length G Y ∧ (∀ H2 O2, Kp H1 H2 O1 O2 [] → G H2) ∧
  ∀ i x H2 H3 O2, Kp H1 H2 O1 O2 [] → Y i H2 x H3 → Ex H2 H3 ∧ ∃ d, ds[i]? = some d ∧ Rep H3 O2 x d []
def LI (Γ : GS) (W : WX) (vs : List Nat) (wi : TI) (fi : FI) : Prop := ∀ (O : Addr → Prop) (σ : L2.St) (ρ : Env) (H : Hp) (AA : List (List Addr)) (K : List D → Prop) (X : XD → Prop) (R : It → Hp → Prop), SE Γ O H σ ρ AA → fi ρ K X →
  (∀ ds J H', K ds → Ex H H' → WalkD J ds H' (Ox O AA vs []) → R J H') →
  (∀ x cls dd H', X x → Ex H H' → XR H' (fun a => O a ∨ a ∈ AA.flatten) x cls dd → W cls dd σ H') → wi σ H R
def rngD (a b : Int) : List D := (List.range (b - a).toNat).map fun i => .int (a + (i : Nat))
def dRng1 (t : FA) : FI := fun ρ K X => t ρ (fun xs => match xs with
  | [.int j] => -(2 ^ 62) ≤ j ∧ j < 2 ^ 62 ∧ K (rngD 0 j)
  | _ => False) X
def dRng2 (t : FA) : FI := fun ρ K X => t ρ (fun xs => match xs with
  | [.int i, .int j] => -(2 ^ 62) ≤ i ∧ i < 2 ^ 62 ∧ -(2 ^ 62) ≤ j ∧ j < 2 ^ 62 ∧ K (rngD i j)
  | _ => False) X
theorem walk_rng {lo hi : Int} {H1 : Hp} {O1 : Addr → Prop} : WalkD (Itr lo (hi - lo).toNat) (rngD lo hi) H1 O1 :=
  ⟨_, _, by
    have e : (rngD lo hi).length = (hi - lo).toNat := by unfold rngD; rw [List.length_map, List.length_range]
    rw [e]
    exact (walk_range (lo := lo) (n := (hi - lo).toNat)).mono (G' := fun _ => True) (Y' := fun i H x H' => i < (hi - lo).toNat ∧ YFn (fun i => .int (lo + (i : Nat))) i H x H') (fun _ _ => trivial) fun i H x H' hi _ y => ⟨hi, y⟩, fun _ _ _ => trivial, fun i x H2 H3 O2 k y => by
    obtain ⟨hi2, rfl, rfl⟩ := y
    refine ⟨Ex.refl _, .int (lo + (i : Nat)), ?_, .int⟩
    unfold rngD
    rw [List.getElem?_map, List.getElem?_range hi2]
    rfl⟩
theorem reps_two {H : Hp} {O : Addr → Prop} {us : List V} {d e : D} {A : List Addr} (r : Reps H O us [d, e] A) : ∃ v u B C, us = [v, u] ∧ Rep H O v d B ∧ Rep H O u e C ∧ A = B ++ C := by
  cases r with
  | cons r s =>
    obtain ⟨u, rfl, s2⟩ := reps_one s
    exact ⟨_, u, _, _, rfl, r, s2, rfl⟩
theorem li_rng1 {W : WX} {vs : List Nat} {t : TA} {f : FA} (h : LA Γ W vs t f) : LI Γ W [] (iRng1 t) (dRng1 f) := by
  intro O σ ρ H AA K X R s hk q hX
  refine h O σ ρ H AA _ X _ s hk (fun ds us H1 B k e n r => ?_) hX
  match ds, k with
  | [.int j], k =>
    obtain ⟨v, rfl, r1⟩ := reps_one r
    cases r1
    refine ⟨j, rfl, k.1, k.2.1, q _ _ _ k.2.2 e ?_⟩
    have := walk_rng (lo := 0) (hi := j) (H1 := H1) (O1 := Ox O AA [] [])
    rw [Int.sub_zero] at this
    exact this
theorem li_rng2 {W : WX} {vs : List Nat} {t : TA} {f : FA} (h : LA Γ W vs t f) : LI Γ W [] (iRng2 t) (dRng2 f) := by
  intro O σ ρ H AA K X R s hk q hX
  refine h O σ ρ H AA _ X _ s hk (fun ds us H1 B k e n r => ?_) hX
  match ds, k with
  | [.int i, .int j], k =>
    obtain ⟨v, u, B1, B2, rfl, r1, r2, _⟩ := reps_two r
    cases r1
    cases r2
    exact ⟨i, j, rfl, ⟨k.1, k.2.1, k.2.2.1, k.2.2.2.1⟩, q _ _ _ k.2.2.2.2 e walk_rng⟩
/-- for x in e: a list -/
def dIl (f : FE) : FI := fun ρ K X => f ρ (fun d => match d with
  | .lst _ l => K (D.frzs l)
  | _ => False) X
theorem D.frzs_len : ∀ l : List D, (D.frzs l).length = l.length
  | [] => rfl
  | _ :: l => congrArg Nat.succ (D.frzs_len l)
theorem kp_rep {H1 H2 : Hp} {O1 O2 : Addr → Prop} {v : V} {d : D} (r : Rep H1 O1 v d []) (k : Kp H1 H2 O1 O2 []) : Rep H2 O2 v d [] := r.keep k
theorem frz_ox {H1 : Hp} {O : Addr → Prop} {AA : List (List Addr)} {vs : List Nat} {B C : List Addr} {us : List V} {ds : List D} {σ : L2.St} {ρ : Env} {H : Hp} (s : SE Γ O H σ ρ AA) (n : New H B) (hC : ∀ a ∈ C, a ∈ B) (r : Reps H1 (Ox O AA vs B) us ds C) : Reps H1 (Ox O AA vs []) us (D.frzs ds) [] :=
  r.frz (fun a z y => z (.inr (y.resolve_left fun m => nomatch m))) fun a m => new_ox s n a (hC a m)
theorem rd_lstB {H : Hp} {O : Addr → Prop} {u : V} {o : Bool} {l : List D} {B : List Addr} (r : Rep H O u (.lst o l) B) : ∃ a vs C, u = .ref a ∧ H a = some (.lst vs) ∧ Reps H O vs l C ∧ (∀ b ∈ C, b ∈ B) ∧ (a ∈ B ∨ ¬ O a) := by
  cases r with
  | lstO h _ r => exact ⟨_, _, _, rfl, h, r, fun _ m => List.mem_cons_of_mem _ m, .inl List.mem_cons_self⟩
  | lst h n r => exact ⟨_, _, _, rfl, h, r, fun _ m => m, .inr n⟩
theorem ox_not {O : Addr → Prop} {AA : List (List Addr)} {vs : List Nat} {B : List Addr} {σ : L2.St} {ρ : Env} {H : Hp} {a : Addr} (s : SE Γ O H σ ρ AA) (n : New H B) (h : a ∈ B ∨ ¬ Ox O AA vs B a) : ¬ Ox O AA vs [] a :=
  h.elim (new_ox s n a) fun z y => z (.inr (y.resolve_left fun m => nomatch m))
theorem li_lst {W : WX} {vs : List Nat} {Kf : PySem.W.Frag} {t : TE} {f : FE} (h : LE Γ W vs t f) : LI Γ W vs (iList Kf t) (dIl f) := by
  intro O σ ρ H AA K X R s hk q hX
  refine h O σ ρ H AA _ X _ s hk (fun d v H1 B k e n r => ?_) hX
  cases d <;> simp only at k
  rename_i o l
  obtain ⟨a, us, C, rfl, ha, r1, sub, aB⟩ := rd_lstB r
  have hz := frz_ox s n sub r1
  have na := ox_not s n aB
  refine ⟨a, rfl, ⟨us, .inl (.inl ha)⟩, q _ _ _ k e ⟨fun H2 => SqL Kf H2 a us, YAt us, ?_, fun H2 O2 kp => .inl (.inl (kp.sh a _ ha na).1), fun i x H2 H3 O2 kp y => ?_⟩⟩
  · rw [← hz.length]
    exact walk_list
  · obtain ⟨rfl, hx⟩ := y
    have hi : i < (D.frzs l).length := by rw [← hz.length]; exact (List.getElem?_eq_some_iff.mp hx).1
    obtain ⟨v2, h1, h2⟩ := hz.getN (List.getElem?_eq_getElem hi)
    rw [hx] at h1
    cases h1
    exact ⟨Ex.refl _, _, List.getElem?_eq_getElem hi, h2.keep kp⟩
/-- for i, x in enumerate(e): a list -/
def enumD (l : List D) : List D := l.mapIdx fun i d => .tup [.int (i : Nat), d]
def dEnum (t : FA) : FI := fun ρ K X => t ρ (fun xs => match xs with
  | [.lst _ l] => K (enumD (D.frzs l))
  | _ => False) X
theorem li_enum {W : WX} {vs : List Nat} {Kf : PySem.W.Frag} {t : TA} {f : FA} (h : LA Γ W vs t f) : LI Γ W vs (iEnum Kf t) (dEnum f) := by
  intro O σ ρ H AA K X R s hk q hX
  refine h O σ ρ H AA _ X _ s hk (fun ds us0 H1 B k e n r => ?_) hX
  match ds, k with
  | [.lst o l], k =>
    obtain ⟨v, rfl, r0⟩ := reps_one r
    obtain ⟨a, us, C, rfl, ha, r1, sub, aB⟩ := rd_lstB r0
    have hz := frz_ox s n sub r1
    have na := ox_not s n aB
    refine ⟨a, us, rfl, .inl (.inl ha), q _ _ _ k e ⟨fun H2 => SqL Kf H2 a us, YPair (fun i => some (.int (i : Nat))) (fun i => us[i]?), ?_, fun H2 O2 kp => .inl (.inl (kp.sh a _ ha na).1), fun i x H2 H3 O2 kp y => ?_⟩⟩
    · have e2 : (enumD (D.frzs l)).length = us.length := by unfold enumD; rw [List.length_mapIdx, hz.length]
      rw [e2]
      exact walk_enum
    · obtain ⟨T, x1, x2, rfl, hT, rfl, e1, e2⟩ := y
      cases e1
      have e2 : us[i]? = some x2 := e2
      have hi : i < (D.frzs l).length := by rw [← hz.length]; exact (List.getElem?_eq_some_iff.mp e2).1
      obtain ⟨v2, h1, h2⟩ := hz.getN (List.getElem?_eq_getElem hi)
      rw [e2] at h1
      cases h1
      refine ⟨Ex.new hT, .tup [.int (i : Nat), (D.frzs l)[i]], ?_, .tup upd_same (.cons (A := []) (B := []) .int (.cons (A := []) (B := []) ((h2.keep kp).keep ⟨fun a o h n => ⟨Ex.new hT a o h, n⟩, fun _ _ _ m => (nomatch m), fun a o h => Ex.new hT a _ h⟩) .nil))⟩
      unfold enumD
      rw [List.getElem?_mapIdx, List.getElem?_eq_getElem hi]
      rfl
end DL
namespace DL
open PySem PySem.Spec PyProof.Rows L2 Evl PL
set_option maxHeartbeats 1000000
variable {Γ : GS}
/-! ### list comprehensions -/
def W0 : WX := fun _ _ _ _ => False
def X0 : XD → Prop := fun _ => False
def wipeE (ρ : Env) : List Nat → Env
  | [] => ρ
  | v :: vs => (wipeE ρ vs).set v none
def wipeA (AA : List (List Addr)) : List Nat → List (List Addr)
  | [] => AA
  | v :: vs => (wipeA AA vs).set v []
theorem SR.no1 {H : Hp} {O O' : Addr → Prop} : ∀ {σ ρ AA} {i : Nat}, SR H O σ ρ AA → Kp H H O O' (AA.set i []).flatten → SR H O' (σ.set i none) (ρ.set i none) (AA.set i [])
  | _, _, _, _, .nil, _ => .nil
  | _, _, _, 0, .no s, k => .no (s.keep (k.sub fun a m => by simpa using m))
  | _, _, _, 0, .so _ s, k => .no (s.keep (k.sub fun a m => by simpa using m))
  | _, _, _, i + 1, .no s, k => .no (s.no1 (i := i) (k.sub fun a m => by simpa using m))
  | _, _, _, i + 1, .so r s, k => .so (r.keep (k.sub fun a m => by simp [m])) (s.no1 (i := i) (k.sub fun a m => by rw [List.set_cons_succ, List.flatten_cons]; exact List.mem_append_right _ m))
theorem wipeA_sub {AA : List (List Addr)} {a : Addr} : ∀ {vs : List Nat}, a ∈ (wipeA AA vs).flatten → a ∈ AA.flatten
  | [], m => m
  | _ :: _, m => wipeA_sub (flat_set_nil m)
theorem wipeA_at {AA : List (List Addr)} {i : Nat} : ∀ {vs : List Nat}, i ∉ vs → (wipeA AA vs)[i]? = AA[i]?
  | [], _ => rfl
  | v :: vs, h => by
    show ((wipeA AA vs).set v [])[i]? = _
    rw [List.getElem?_set_ne fun z => h (by simp [z])]
    exact wipeA_at fun m => h (List.mem_cons_of_mem _ m)
/-- the slots vs are wiped: their cells are others' -/
theorem SE.wipe {O : Addr → Prop} {H : Hp} {σ : L2.St} {ρ : Env} {AA : List (List Addr)} (s : SE Γ O H σ ρ AA) : ∀ vs : List Nat, SE Γ (fun a => O a ∨ (a ∈ AA.flatten ∧ a ∉ (wipeA AA vs).flatten)) H (wipe σ vs) (wipeE ρ vs) (wipeA AA vs)
  | [] => s.congr fun a => ⟨.inl, fun z => z.elim id fun z => absurd z.1 z.2⟩
  | v :: vs => by
    have ih := SE.wipe s vs
    refine ⟨ih.sr.no1 (i := v) ⟨fun a o h n => ⟨h, fun z => n ?_⟩, fun a o h m => ⟨h, .inr m⟩, fun _ _ h => h⟩, nd_set ih.nd .nil fun _ m => (nomatch m), fun a z => ⟨?_, ?_⟩, s.gi⟩
    · rcases z with (z | z) | z
      · exact .inl (.inl z)
      · by_cases h2 : a ∈ (wipeA AA vs).flatten
        · exact .inr h2
        · exact .inl (.inr ⟨z.1, h2⟩)
      · exact .inr (flat_set_nil z)
    · rcases z with z | z
      · exact (ih.o0 a (.inl z)).1
      · exact s.has a z.1
    · rcases z with z | z
      · exact fun m => (ih.o0 a (.inl z)).2 (flat_set_nil m)
      · exact z.2
theorem SE.frzAt {O : Addr → Prop} {H : Hp} {σ : L2.St} {ρ : Env} {AA : List (List Addr)} (s : SE Γ O H σ ρ AA) (vs : List Nat) :
    ∃ AA', SE Γ O H σ (frzAt vs ρ) AA' ∧ (∀ a ∈ AA'.flatten, a ∈ AA.flatten ∧ ¬ Own AA vs a) ∧ ∀ i, i ∉ vs → AA'[i]? = AA[i]? := by
  obtain ⟨AA', s', _, h1, h2⟩ := SI.frzAt (b := ⟨H, O, fun a => a ∈ AA.flatten, [], []⟩) vs (ρ := ρ) (AA := AA) (H := H) (σ := σ) ⟨s.sr, s.nd, fun a m => .inl m, fun a z => s.o0 a z, fun a o h _ => h, fun _ m => (nomatch m), s.gi⟩
  exact ⟨AA', ⟨s'.sr, s'.nd, fun a z => ⟨(s.o0 a z).1, fun m => (s.o0 a z).2 (h1 a m).1⟩, s.gi⟩, h1, h2⟩
theorem wipe_wipe {σ σ' : L2.St} : ∀ {vs : List Nat}, σ'.length = σ.length → (∀ i, i ∉ vs → σ'[i]? = σ[i]?) → wipe σ' vs = wipe σ vs := by
  have get : ∀ (σ : L2.St) (vs : List Nat) (i : Nat), (wipe σ vs)[i]? = if i ∈ vs then (σ[i]?).map fun _ => none else σ[i]? := by
    intro σ vs i
    induction vs with
    | nil => simp [wipe]
    | cons v vs ih =>
      unfold wipe
      rw [List.getElem?_set]
      by_cases h : v = i
      · subst h
        rw [if_pos rfl, if_pos List.mem_cons_self, wipe_length]
        by_cases hl : v < σ.length
        · rw [if_pos hl, List.getElem?_eq_getElem hl]
          rfl
        · rw [if_neg hl, List.getElem?_eq_none_iff.mpr (by omega)]
          rfl
      · rw [if_neg h, ih]
        have : (i ∈ v :: vs) ↔ i ∈ vs := by
          rw [List.mem_cons]
          exact ⟨fun z => z.resolve_left fun z => h z.symm, .inr⟩
        simp only [this]
  intro vs hl h
  refine List.ext_getElem? fun i => ?_
  rw [get, get]
  by_cases m : i ∈ vs
  · rw [if_pos m, if_pos m]
    by_cases q : i < σ.length
    · rw [List.getElem?_eq_getElem q, List.getElem?_eq_getElem (by omega)]
      rfl
    · rw [List.getElem?_eq_none_iff.mpr (by omega), List.getElem?_eq_none_iff.mpr (by omega)]
  · rw [if_neg m, if_neg m]
    exact h i m
theorem wipe_idem {σ : L2.St} {vs : List Nat} : wipe (wipe σ vs) vs = wipe σ vs := wipe_wipe (wipe_length _ _) fun i h => by
  induction vs with
  | nil => rfl
  | cons v vs ih =>
    unfold wipe
    rw [List.getElem?_set_ne fun z => h (by simp [z])]
    exact ih fun m => h (List.mem_cons_of_mem _ m)
def compD (st : D → List D → (List D → Prop) → Prop) : List D → List D → (List D → Prop) → Prop
  | [], acc, K => K acc
  | d :: ds, acc, K => st d acc fun acc' => compD st ds acc' K
/-- a turn of a comprehension -/
def lcStep (fg : FG) (ft : FT) (fe : FE) (ρ : Env) (d : D) (acc : List D) (k : List D → Prop) : Prop :=
  fg d ρ fun ρ2 => ft ρ2 (fun b => if b = true then fe ρ2 (fun y => k (acc ++ [y])) X0 else k acc) X0
def dLc (fi : FI) (vs vsl : List Nat) (fg : FG) (ft : FT) (fe : FE) : FE := fun ρ K X =>
  fi ρ (fun ds => ds.length ≤ 100000 ∧ compD (lcStep fg ft fe (wipeE (DL.frzAt vs ρ) vsl)) ds [] fun acc => K (.lst true acc)) X
theorem nd_uniq {AA : List (List Addr)} {i j : Nat} {A B : List Addr} {a : Addr} (h : AA.flatten.Nodup) (e : AA[i]? = some A) (e2 : AA[j]? = some B) (m : a ∈ A) (m2 : a ∈ B) : i = j := by
  by_cases q : i = j
  · exact q
  · exact absurd (flat_get (AA := AA.set i []) (i := j) (by rw [List.getElem?_set_ne q]; exact e2) m2) (nd_other h e a m)
theorem wipeA_of {AA : List (List Addr)} {a : Addr} : ∀ {vs : List Nat}, a ∈ (wipeA AA vs).flatten → ∃ j A, j ∉ vs ∧ AA[j]? = some A ∧ a ∈ A
  | [], m => by
    obtain ⟨A, h1, h2⟩ := List.mem_flatten.mp (show a ∈ AA.flatten from m)
    obtain ⟨j, hj, e⟩ := List.mem_iff_getElem.mp h1
    exact ⟨j, A, by simp, by rw [List.getElem?_eq_getElem hj, e], h2⟩
  | v :: vs, m => by
    obtain ⟨A, h1, h2⟩ := List.mem_flatten.mp (show a ∈ ((wipeA AA vs).set v []).flatten from m)
    obtain ⟨j, hj, e⟩ := List.mem_iff_getElem.mp h1
    have e2 : ((wipeA AA vs).set v [])[j]? = some A := by rw [List.getElem?_eq_getElem hj, e]
    by_cases q : v = j
    · subst q
      rw [List.getElem?_set_self (by simpa using hj)] at e2
      cases e2
      exact nomatch h2
    · rw [List.getElem?_set_ne q] at e2
      by_cases q2 : j ∈ vs
      · have : ∀ {us : List Nat}, j ∈ us → ∀ {A : List Addr}, (wipeA AA us)[j]? = some A → A = [] := by
          intro us
          induction us with
          | nil => intro h; exact nomatch h
          | cons u us ih =>
            intro h A hA
            by_cases q3 : u = j
            · subst q3
              have hl : u < (wipeA AA us).length := by
                have := (List.getElem?_eq_some_iff.mp hA).1
                simpa [wipeA] using this
              rw [show wipeA AA (u :: us) = (wipeA AA us).set u [] from rfl, List.getElem?_set_self hl] at hA
              cases hA
              rfl
            · rw [show wipeA AA (u :: us) = (wipeA AA us).set u [] from rfl, List.getElem?_set_ne q3] at hA
              exact ih ((List.mem_cons.mp h).resolve_left fun z => q3 z.symm) hA
        rw [this q2 e2] at h2
        exact nomatch h2
      · rw [wipeA_at q2] at e2
        exact ⟨j, A, fun z => (List.mem_cons.mp z).elim (fun z => q z.symm) q2, e2, h2⟩
/-- what is kept while the list at D grows -/
theorem kp_upd {H H1 : Hp} {O O' : Addr → Prop} {p : Addr} {xs ys : List V} {A : List Addr} (e : Ex H H1) (hp : H1 p = some (.lst xs)) (hO : O p) (h1 : ∀ a, ¬ O a → H a ≠ none → ¬ O' a) (h2 : ∀ a ∈ A, O' a) (hA : p ∉ A) : Kp H (upd H1 p (.lst ys)) O O' A :=
  ⟨fun a o h n => ⟨by rw [upd_ne fun e => n (by rw [e]; exact hO)]; exact e _ _ h, h1 a n (by rw [h]; simp)⟩, fun a o h m => ⟨by rw [upd_ne fun e => hA (by rw [← e]; exact m)]; exact e _ _ h, h2 a m⟩, fun a zs h => by
    have h := e _ _ h
    rw [upd_ne fun e => by rw [e, hp] at h; cases h]
    exact h⟩
theorem le_lc {W : WX} {vs ws vsl ts : List Nat} {wi : TI} {fi : FI} {g : TG} {fg : FG} {tt : TT} {ft : FT} {te : TE} {fe : FE} (hi : LI Γ W vs wi fi) (hg : LG Γ ts g fg) (hts : ∀ i ∈ ts, i ∈ vsl) (ht : LT Γ W0 tt ft) (he : LE Γ W0 ws te fe) :
    LE Γ W (vs ++ ws) (tLc wi g tt te vsl) (dLc fi vs vsl fg ft fe) := by
  intro O σ ρ H AA K X Q s hk q hX
  refine hi O σ ρ H AA _ X _ s hk (fun ds J H1 k e w => ?_) hX
  intro D0 hD
  obtain ⟨G, Y, wk, wG, wY⟩ := w
  obtain ⟨AF, sF, subF, atF⟩ := (s.ex e).frzAt vs
  have sW := sF.wipe vsl
  generalize hOw : (fun a => O a ∨ (a ∈ AF.flatten ∧ a ∉ (wipeA AF vsl).flatten)) = Ow at sW
  have hD0 : H D0 = none := ex_none e hD
  -- the state between turns
  let Inv : Nat → Hp → Prop := fun i H' => ∃ (acc : List D) (us : List V) (B : List Addr), i ≤ ds.length ∧ compD (lcStep fg ft fe (wipeE (DL.frzAt vs ρ) vsl)) (ds.drop i) acc (fun acc => K (.lst true acc)) ∧ acc.length ≤ i ∧ Ex H1 H' ∧ H' D0 = some (.lst us) ∧
    Reps H' (Ox O AA (vs ++ ws) (D0 :: B)) us acc B ∧ New H1 B ∧ D0 ∉ B
  have noO : ∀ a, Ow a → H1 a ≠ none := fun a z => (sW.o0 a z).1
  refine ⟨fun i m H' => m = ds.length - i ∧ Inv i H', ⟨ds.length, by simp, [], [], [], Nat.zero_le _, by rw [List.drop_zero]; exact k.2, Nat.le_refl _, Ex.new hD, upd_same, .nil, .nil, by simp⟩, ?_⟩
  rintro i m H' ⟨rfl, acc, us, B, hi2, hc, hl, ex1, hDs, rB, nB, nD⟩
  have kpW : Kp H1 H' (Ox O AA vs []) (Ox O AA vs []) [] := ⟨fun a o h n => ⟨ex1 a o h, n⟩, fun _ _ _ m => (nomatch m), fun a o h => ex1 a _ h⟩
  have hG := wG H' _ kpW
  by_cases hlt : i < ds.length
  · refine .inr ⟨wk.goes i H' hlt hG, fun H2 => Inv (i + 1) H2, fun H2 h2 => ⟨ds.length - (i + 1), by omega, rfl, h2⟩, fun x H2 hy => ?_⟩
    -- others own what is being built
    let O2 : Addr → Prop := fun a => Ow a ∨ a ∈ D0 :: B
    have nDB : New H1 (D0 :: B) := ⟨fun a m => (List.mem_cons.mp m).elim (fun e => by rw [e]; exact hD) (nB.fr a), List.nodup_cons.mpr ⟨nD, nB.nd⟩⟩
    have hasB : ∀ a ∈ D0 :: B, H' a ≠ none := fun a m => (List.mem_cons.mp m).elim (fun e => by rw [e, hDs]; simp) fun m => (rB.own a m).2
    have s2 : SE Γ O2 H' (wipe σ vsl) (wipeE (DL.frzAt vs ρ) vsl) (wipeA AF vsl) := sW.more ex1 nDB hasB sW.has
    have kpY : Kp H1 H' (Ox O AA vs []) (fun a => O2 a ∨ a ∈ (wipeA AF vsl).flatten) [] := by
      refine ⟨fun a o h n => ⟨ex1 a o h, fun z => ?_⟩, fun _ _ _ m => (nomatch m), fun a o h => ex1 a _ h⟩
      have inF : a ∉ AF.flatten := fun m => n (.inr (.inr (subF a m)))
      rcases z with (z | z) | z
      · rw [← hOw] at z
        exact z.elim (fun z => n (.inr (.inl z))) fun z => inF z.1
      · have := nDB.fr a z
        rw [h] at this
        cases this
      · exact inF (wipeA_sub z)
    obtain ⟨exY, d, hd, rd⟩ := wY i x H' H2 (fun a => O2 a ∨ a ∈ (wipeA AF vsl).flatten) kpY (wk.yields i H' x H2 hlt hG hy)
    rw [List.drop_eq_getElem_cons hlt] at hc
    have hde : ds[i] = d := by rw [List.getElem?_eq_getElem hlt] at hd; exact Option.some.inj hd
    rw [hde] at hc
    refine hg O2 (wipe σ vsl) _ H2 (wipeA AF vsl) x d [] _ _ ((s2.ex exY).congr fun a => by simp [Op]) (rd.keep ⟨fun a o h n => ⟨h, fun z => n (z.resolve_left fun m => nomatch m)⟩, fun _ _ _ m => (nomatch m), fun _ _ h => h⟩) .nil (fun _ m => nomatch m) hc fun σ2 ρ2 A2 k2 s3 sub2 l2 o2 => ⟨?_, ?_⟩
    · rw [wipe_wipe (σ := wipe σ vsl) (σ' := σ2) l2 fun i hi => (o2 i fun m => hi (hts i m)).1, wipe_idem]
    · -- the tests
      refine ht O2 σ2 ρ2 H2 A2 _ X0 _ s3 k2 (fun b H3 k3 e3 => ?_) fun x cls dd H' hx => hx.elim
      have exA : Ex H' H3 := exY.trans e3
      have hD3 : H3 D0 = some (.lst us) := exA _ _ hDs
      cases b with
      | false =>
        rw [if_neg Bool.false_ne_true] at k3 ⊢
        exact ⟨acc, us, B, hlt, k3, Nat.le_succ_of_le hl, ex1.trans exA, hD3, rB.keep (kp_ex exA fun a m => .inl (List.mem_cons_of_mem _ m)), nB, nD⟩
      | true =>
        rw [if_pos rfl] at k3 ⊢
        refine he O2 σ2 ρ2 H3 A2 _ X0 _ (s3.ex e3) k3 (fun y v H4 C k4 e4 nC rC => ?_) fun x cls dd H' hx => hx.elim
        have exC : Ex H' H4 := exA.trans e4
        have hD4 := e4 _ _ hD3
        refine ⟨us, hD4, Nat.lt_of_le_of_lt (Nat.le_trans (by rw [rB.length]; exact Nat.le_trans hl (Nat.le_trans hi2 k.1)) (by decide : 100000 ≤ 100000)) (by decide), acc ++ [y], us ++ [v], B ++ C, hlt, k4, by rw [List.length_append]; exact Nat.succ_le_succ hl, fun a o h => ?_, upd_same, ?_, ?_, ?_⟩
        · rw [upd_ne fun e => by rw [e, hD] at h; cases h]
          exact exC _ _ (ex1 _ _ h)
        · have nDC : D0 ∉ C := fun m => by have := nC.fr D0 m; rw [hD3] at this; cases this
          refine Reps.append (rB.keep (kp_upd exC hD4 (.inl List.mem_cons_self) (fun a n hn z => ?_) (fun a m => .inl (List.mem_cons_of_mem _ (List.mem_append_left _ m))) nD)) ?_
          · rcases z with z | z
            · rcases List.mem_cons.mp z with z | z
              · exact n (.inl (by rw [z]; exact List.mem_cons_self))
              · rcases List.mem_append.mp z with z | z
                · exact n (.inl (List.mem_cons_of_mem _ z))
                · exact hn (ex_none exA (nC.fr a z))
            · exact n (.inr z)
          · have := (Reps.cons rC .nil).keep (kp_upd (O' := Ox O AA (vs ++ ws) (D0 :: (B ++ C))) (ys := us ++ [v]) (Ex.refl _) hD4 (.inr (.inl (.inr List.mem_cons_self))) (fun a n hn z => ?_) (fun a m => .inl (List.mem_cons_of_mem _ (List.mem_append_right _ (by simpa using m)))) (by simpa using nDC))
            · rw [List.append_nil] at this
              exact this
            · rcases z with z | z | z
              · rcases List.mem_cons.mp z with z | z
                · exact n (.inr (.inl (.inr (by rw [z]; exact List.mem_cons_self))))
                · rcases List.mem_append.mp z with z | z
                  · exact n (.inr (.inl (.inr (List.mem_cons_of_mem _ z))))
                  · exact n (.inl z)
              · exact n (.inr (.inl (.inl (by rw [← hOw]; exact .inl z))))
              · obtain ⟨A0, h1, h2⟩ := List.mem_flatten.mp z.1
                obtain ⟨j, hj, e5⟩ := List.mem_iff_getElem.mp h1
                have e6 : AA[j]? = some A0 := by rw [List.getElem?_eq_getElem hj, e5]
                have j1 : j ∉ vs := fun m => z.2 ⟨j, A0, List.mem_append_left _ m, e6, h2⟩
                have j2 : j ∉ ws := fun m => z.2 ⟨j, A0, List.mem_append_right _ m, e6, h2⟩
                have e7 : AF[j]? = some A0 := by rw [atF j j1]; exact e6
                by_cases hv : a ∈ (wipeA AF vsl).flatten
                · by_cases j3 : j ∈ vsl
                  · obtain ⟨j', A', m1, m2, m3⟩ := wipeA_of hv
                    exact m1 (nd_uniq sF.nd e7 m2 h2 m3 ▸ j3)
                  · have e8 : A2[j]? = some A0 := by rw [(o2 j fun m => j3 (hts j m)).2, wipeA_at j3]; exact e7
                    refine n (.inr (.inr ⟨flat_get e8 h2, ?_⟩))
                    rintro ⟨j', A', m1, m2, m3⟩
                    exact j2 (nd_uniq s3.nd e8 m2 h2 m3 ▸ m1)
                · exact n (.inr (.inl (.inl (by rw [← hOw]; exact .inr ⟨flat_get e7 h2, hv⟩))))
        · exact nB.app (new_ex (ex1.trans exA) nC |> fun z => (⟨nC.fr, nC.nd⟩ : New H3 C)) (ex1.trans exA) fun a m => by
            have := (rB.own a m).2
            intro z
            exact this (ex_none exA z)
        · intro m
          rcases List.mem_append.mp m with m | m
          · exact nD m
          · have := nC.fr D0 m
            rw [hD3] at this
            cases this
  · have hi3 : i = ds.length := by omega
    subst hi3
    refine .inl ⟨wk.stops H' hG, ?_⟩
    rw [List.drop_length] at hc
    refine q _ _ _ (D0 :: B) hc (e.trans ex1) ⟨fun a m => (List.mem_cons.mp m).elim (fun e => by rw [e]; exact hD0) fun m => ex_none e (nB.fr a m), List.nodup_cons.mpr ⟨nD, nB.nd⟩⟩ (.lstO hDs (.inl List.mem_cons_self) rB)
end DL
namespace DL
open PySem PySem.Spec PyProof.Rows L2 Evl PL
set_option maxHeartbeats 1000000
variable {Γ : GS}
/-! ### statements -/
structure DEn where
  nx : Env → Prop
  rt : D → Env → Prop
  xc : XD → Env → Prop
  bk : Env → Prop := fun _ => False
  ct : Env → Prop := fun _ => False
abbrev FS := DEn → Env → Prop
/-- what is reached stands for what is wished -/
structure EN (Γ : GS) (b : Bas) (W : WX) (n : Nat) (H : Hp) (AA : List (List Addr)) (K : DEn) (D' : Ends) : Prop where
  nx : ∀ σ' ρ' H' AA', K.nx ρ' → ρ'.length = n → SI Γ b H' σ' ρ' AA' → Evo b H AA H' AA' → D'.nx σ' H'
  rt : ∀ d v σ' ρ' H' AA' B, K.rt d ρ' → ρ'.length = n → SI Γ b H' σ' ρ' AA' → Evo b H AA H' AA' → Rep H' (Ov b.O0 AA' B) v d B → B.Nodup → SE Γ (Op b.O0 B) H' σ' ρ' AA' → (∀ a ∈ B, b.M a ∨ b.H0 a = none) → D'.rt v H'
  xc : ∀ x cls dd σ' ρ' H' AA', K.xc x ρ' → ρ'.length = n → SI Γ b H' σ' ρ' AA' → Evo b H AA H' AA' → XR H' (b.O AA') x cls dd → W cls dd σ' H'
  bk : ∀ σ' ρ' H' AA', K.bk ρ' → ρ'.length = n → SI Γ b H' σ' ρ' AA' → Evo b H AA H' AA' → D'.bk σ' H'
  ct : ∀ σ' ρ' H' AA', K.ct ρ' → ρ'.length = n → SI Γ b H' σ' ρ' AA' → Evo b H AA H' AA' → D'.ct σ' H'
def LS (Γ : GS) (pn : List Nat) (W : WX) (ts : TS) (fs : FS) : Prop := ∀ (b : Bas), b.pn = pn → ∀ (σ : L2.St) (ρ : Env) (H : Hp) (AA : List (List Addr)) (K : DEn) (D' : Ends), SI Γ b H σ ρ AA → fs K ρ → EN Γ b W ρ.length H AA K D' → ts D' σ H
section
variable {b : Bas} {W : WX} {n : Nat} {H H1 : Hp} {AA AA1 : List (List Addr)} {K : DEn} {D' : Ends}
theorem EN.evo (e : EN Γ b W n H AA K D') (v : Evo b H AA H1 AA1) : EN Γ b W n H1 AA1 K D' :=
  ⟨fun _ _ _ _ k l s w => e.nx _ _ _ _ k l s (v.trans w), fun _ _ _ _ _ _ _ k l s w => e.rt _ _ _ _ _ _ _ k l s (v.trans w), fun _ _ _ _ _ _ _ k l s w => e.xc _ _ _ _ _ _ _ k l s (v.trans w),
    fun _ _ _ _ k l s w => e.bk _ _ _ _ k l s (v.trans w), fun _ _ _ _ k l s w => e.ct _ _ _ _ k l s (v.trans w)⟩
/-- what an expression raises -/
theorem EN.exc {σ : L2.St} {ρ : Env} (e : EN Γ b W ρ.length H AA K D') (s : SI Γ b H σ ρ AA) : ∀ x cls dd H', K.xc x ρ → Ex H H' → XR H' (fun a => b.O0 a ∨ a ∈ AA.flatten) x cls dd → W cls dd σ H' :=
  fun x cls dd H' k ex r => e.xc x cls dd σ ρ H' AA k rfl (s.exx ex) (.ex ex) r
end
/-- SE Γ back to SI -/
theorem SI.of {b : Bas} {H H1 : Hp} {σ σ' : L2.St} {ρ ρ' : Env} {AA AA' : List (List Addr)} {B : List Addr} (s : SI Γ b H σ ρ AA) (e : Ex H H1) (n : ∀ a ∈ B, H a = none) (t : SE Γ b.O0 H1 σ' ρ' AA') (sub : ∀ a ∈ AA'.flatten, a ∈ AA.flatten ∨ a ∈ B) (hp : ∀ i ∈ b.pn, σ'[i]? = σ[i]?) : SI Γ b H1 σ' ρ' AA' ∧ Evo b H AA H1 AA' :=
  ⟨⟨t.sr, t.nd, fun a m => (sub a m).elim (s.fr a) fun m => s.sub0 (n a m), s.o0, fun a o h z => e a o (s.ex a o h z), fun i m => (hp i m).trans (s.pn i m), t.gi⟩,
    fun a o h z => ⟨e a o h, fun y => z (y.imp id fun m => (sub a m).elim id fun m => by rw [n a m] at h; cases h)⟩, fun a xs h => e a _ h⟩
def dNext : FS := fun K ρ => K.nx ρ
def dSeq (f g : FS) : FS := fun K ρ => f { K with nx := g K } ρ
def dBrk : FS := fun K ρ => K.bk ρ
def dCnt : FS := fun K ρ => K.ct ρ
def dDrop (f : FE) : FS := fun K ρ => f ρ (fun _ => K.nx ρ) fun x => K.xc x ρ
def dIfS (c : FT) (f g : FS) : FS := fun K ρ => c ρ (fun b => if b = true then f K ρ else g K ρ) fun x => K.xc x ρ
/-! frozen nodes and owned nodes of different kinds are different objects -/
def kindO : HO → Option Nat
  | .lst _ => some 0 | .dK _ => some 1 | .dT _ => some 2 | .ins _ _ _ => some 3
  | _ => none
mutual
/-- no frozen node of kind k -/
def D.nofk (k : Nat) : D → Bool
  | .tup l => D.nofks k l
  | .lst o l => (o || k != 0) && D.nofks k l
  | .dK o _ l => (o || k != 1) && D.nofks k l
  | .dT o _ l => (o || k != 2) && D.nofks k l
  | .ins o _ _ l => (o || k != 3) && D.nofks k l
  | .xo _ _ _ l => D.nofks k l
  | _ => true
def D.nofks (k : Nat) : List D → Bool
  | [] => true
  | d :: l => d.nofk k && D.nofks k l
end
mutual
/-- no owned node of kind k -/
def D.nook (k : Nat) : D → Bool
  | .tup l => D.nooks k l
  | .lst o l => (!o || k != 0) && D.nooks k l
  | .dK o _ l => (!o || k != 1) && D.nooks k l
  | .dT o _ l => (!o || k != 2) && D.nooks k l
  | .ins o _ _ l => (!o || k != 3) && D.nooks k l
  | _ => true
def D.nooks (k : Nat) : List D → Bool
  | [] => true
  | d :: l => d.nook k && D.nooks k l
end
mutual
theorem Rep.kind {H : Hp} {O : Addr → Prop} : ∀ {v d A}, Rep H O v d A → ∀ a ∈ A, ∃ o k, H a = some o ∧ kindO o = some k ∧ k < 4 ∧ d.nook k = false
  | _, _, _, .tup _ r => fun a m => by
    obtain ⟨o, k, h1, h2, h3, h4⟩ := r.kind a m
    exact ⟨o, k, h1, h2, h3, by simpa [D.nook] using h4⟩
  | _, _, _, .lstO h _ r => fun a m => by
    rcases List.mem_cons.mp m with e | m
    · subst e; exact ⟨_, 0, h, rfl, by omega, by simp [D.nook]⟩
    · obtain ⟨o, k, h1, h2, h3, h4⟩ := r.kind a m
      exact ⟨o, k, h1, h2, h3, by simp [D.nook, h4]⟩
  | _, _, _, .dKO h _ _ r => fun a m => by
    rcases List.mem_cons.mp m with e | m
    · subst e; exact ⟨_, 1, h, rfl, by omega, by simp [D.nook]⟩
    · obtain ⟨o, k, h1, h2, h3, h4⟩ := r.kind a m
      exact ⟨o, k, h1, h2, h3, by simp [D.nook, h4]⟩
  | _, _, _, .dTO h _ _ r => fun a m => by
    rcases List.mem_cons.mp m with e | m
    · subst e; exact ⟨_, 2, h, rfl, by omega, by simp [D.nook]⟩
    · obtain ⟨o, k, h1, h2, h3, h4⟩ := r.kind a m
      exact ⟨o, k, h1, h2, h3, by simp [D.nook, h4]⟩
  | _, _, _, .insO h _ _ r => fun a m => by
    rcases List.mem_cons.mp m with e | m
    · subst e; exact ⟨_, 3, h, rfl, by omega, by simp [D.nook]⟩
    · obtain ⟨o, k, h1, h2, h3, h4⟩ := r.kind a m
      exact ⟨o, k, h1, h2, h3, by simp [D.nook, h4]⟩
  | _, _, _, .non => fun _ m => nomatch m
  | _, _, _, .bl => fun _ m => nomatch m
  | _, _, _, .int => fun _ m => nomatch m
  | _, _, _, .str => fun _ m => nomatch m
  | _, _, _, .ty => fun _ m => nomatch m
  | _, _, _, .adr => fun _ m => nomatch m
  | _, _, _, .lst _ _ _ => fun _ m => nomatch m
  | _, _, _, .dK _ _ _ _ => fun _ m => nomatch m
  | _, _, _, .dT _ _ _ _ => fun _ m => nomatch m
  | _, _, _, .ins _ _ _ _ => fun _ m => nomatch m
  | _, _, _, .raw _ => fun _ m => nomatch m
  | _, _, _, .xo _ _ _ _ => fun _ m => nomatch m
theorem Reps.kind {H : Hp} {O : Addr → Prop} : ∀ {vs ds A}, Reps H O vs ds A → ∀ a ∈ A, ∃ o k, H a = some o ∧ kindO o = some k ∧ k < 4 ∧ D.nooks k ds = false
  | _, _, _, .nil => fun _ m => nomatch m
  | _, _, _, .cons r s => fun a m => by
    rcases List.mem_append.mp m with m | m
    · obtain ⟨o, k, h1, h2, h3, h4⟩ := r.kind a m
      exact ⟨o, k, h1, h2, h3, by simp [D.nooks, h4]⟩
    · obtain ⟨o, k, h1, h2, h3, h4⟩ := s.kind a m
      exact ⟨o, k, h1, h2, h3, by simp [D.nooks, h4]⟩
end
/-- what is not among others' may be so of O', if what O' has more is of other kinds -/
abbrev Sep (H : Hp) (O O' : Addr → Prop) (f : Nat → Bool) : Prop := ∀ a o, H a = some o → ¬ O a → O' a → ∃ k, kindO o = some k ∧ f k = true
mutual
theorem Rep.sep {H : Hp} {O O' : Addr → Prop} (hO : ∀ a, O a → O' a) : ∀ {v d A}, Rep H O v d A → Sep H O O' (fun k => D.nofk k d) → Rep H O' v d A
  | _, _, _, .non, _ => .non
  | _, _, _, .bl, _ => .bl
  | _, _, _, .int, _ => .int
  | _, _, _, .str, _ => .str
  | _, _, _, .ty, _ => .ty
  | _, _, _, .adr, _ => .adr
  | _, _, _, .tup h r, s => .tup h (r.sep hO fun a o e n m => let ⟨k, h1, h2⟩ := s a o e n m; ⟨k, h1, by simpa [D.nofk] using h2⟩)
  | _, _, _, .lstO h o r, s => .lstO h (hO _ o) (r.sep hO fun a o e n m => let ⟨k, h1, h2⟩ := s a o e n m; ⟨k, h1, by simp [D.nofk] at h2; exact h2⟩)
  | _, _, _, .lst h n r, s => .lst h (fun z => by
      obtain ⟨k, h1, h2⟩ := s _ _ h n z
      cases h1
      simp [D.nofk] at h2) (r.sep hO fun a o e n m => let ⟨k, h1, h2⟩ := s a o e n m; ⟨k, h1, by simp [D.nofk] at h2; exact h2.2⟩)
  | _, _, _, .dKO h o l r, s => .dKO h (hO _ o) l (r.sep hO fun a o e n m => let ⟨k, h1, h2⟩ := s a o e n m; ⟨k, h1, by simp [D.nofk] at h2; exact h2⟩)
  | _, _, _, .dK h n l r, s => .dK h (fun z => by
      obtain ⟨k, h1, h2⟩ := s _ _ h n z
      cases h1
      simp [D.nofk] at h2) l (r.sep hO fun a o e n m => let ⟨k, h1, h2⟩ := s a o e n m; ⟨k, h1, by simp [D.nofk] at h2; exact h2.2⟩)
  | _, _, _, .dTO h o l r, s => .dTO h (hO _ o) l (r.sep hO fun a o e n m => let ⟨k, h1, h2⟩ := s a o e n m; ⟨k, h1, by simp [D.nofk] at h2; exact h2⟩)
  | _, _, _, .dT h n l r, s => .dT h (fun z => by
      obtain ⟨k, h1, h2⟩ := s _ _ h n z
      cases h1
      simp [D.nofk] at h2) l (r.sep hO fun a o e n m => let ⟨k, h1, h2⟩ := s a o e n m; ⟨k, h1, by simp [D.nofk] at h2; exact h2.2⟩)
  | _, _, _, .insO h o l r, s => .insO h (hO _ o) l (r.sep hO fun a o e n m => let ⟨k, h1, h2⟩ := s a o e n m; ⟨k, h1, by simp [D.nofk] at h2; exact h2⟩)
  | _, _, _, .ins h n l r, s => .ins h (fun z => by
      obtain ⟨k, h1, h2⟩ := s _ _ h n z
      cases h1
      simp [D.nofk] at h2) l (r.sep hO fun a o e n m => let ⟨k, h1, h2⟩ := s a o e n m; ⟨k, h1, by simp [D.nofk] at h2; exact h2.2⟩)
  | _, _, _, .raw h, s => .raw fun p m => ⟨(h p m).1, (h p m).2.1, fun z => by
      obtain ⟨k, h1, h2⟩ := s _ _ (h p m).1 (h p m).2.2 z
      have h3 := (h p m).2.1
      cases q : p.2 <;> rw [q] at h1 h3 <;> simp [kindO, Odd] at h1 h3⟩
  | _, _, _, .xo h n l r, s => .xo h (fun z => by
      obtain ⟨k, h1, h2⟩ := s _ _ h n z
      cases h1) l (r.sep hO fun a o e n m => let ⟨k, h1, h2⟩ := s a o e n m; ⟨k, h1, by simpa [D.nofk] using h2⟩)
theorem Reps.sep {H : Hp} {O O' : Addr → Prop} (hO : ∀ a, O a → O' a) : ∀ {vs ds A}, Reps H O vs ds A → Sep H O O' (fun k => D.nofks k ds) → Reps H O' vs ds A
  | _, _, _, .nil, _ => .nil
  | _, _, _, .cons r t, s => .cons (r.sep hO fun a o e n m => let ⟨k, h1, h2⟩ := s a o e n m; ⟨k, h1, by simp [D.nofks] at h2; exact h2.1⟩) (t.sep hO fun a o e n m => let ⟨k, h1, h2⟩ := s a o e n m; ⟨k, h1, by simp [D.nofks] at h2; exact h2.2⟩)
end
theorem SR.getA {H : Hp} {O : Addr → Prop} {σ : L2.St} {ρ : Env} {AA : List (List Addr)} {i : Nat} {B : List Addr} {a : Addr} (s : SR H O σ ρ AA) (h : AA[i]? = some B) (m : a ∈ B) : ∃ v e, ρ[i]? = some (some e) ∧ Rep H O v e B := by
  by_cases hd : ∃ d, ρ[i]? = some (some d)
  · obtain ⟨d, hd⟩ := hd
    obtain ⟨v, B', h1, h2, r⟩ := s.get hd
    rw [h] at h2
    cases h2
    exact ⟨v, d, hd, r⟩
  · have e := s.dead (i := i) fun d z => hd ⟨d, z⟩
    have hl := (List.getElem?_eq_some_iff.mp h).1
    rw [← e, List.getElem?_set_self hl] at h
    cases h
    exact nomatch m
def sep1 (d e : D) : Bool := (d.nofk 0 || e.nook 0) && (d.nofk 1 || e.nook 1) && (d.nofk 2 || e.nook 2) && (d.nofk 3 || e.nook 3)
theorem sep1_k {d e : D} (h : sep1 d e = true) : ∀ k, k < 4 → d.nofk k = true ∨ e.nook k = true := by
  simp only [sep1, Bool.and_eq_true, Bool.or_eq_true] at h
  intro k hk
  match k, hk with
  | 0, _ => exact h.1.1.1
  | 1, _ => exact h.1.1.2
  | 2, _ => exact h.1.2
  | 3, _ => exact h.2
def sepD (d : D) : List Nat → Env → Bool
  | [], _ => true
  | i :: vs, ρ => (match ρ[i]? with
    | some (some e) => sep1 d e
    | _ => true) && sepD d vs ρ
theorem sepD_at {d : D} : ∀ {vs : List Nat} {ρ : Env}, sepD d vs ρ = true → ∀ i ∈ vs, ∀ e, ρ[i]? = some (some e) → sep1 d e = true
  | j :: vs, ρ, h, i, m, e, he => by
    simp only [sepD, Bool.and_eq_true] at h
    rcases List.mem_cons.mp m with q | m
    · subst q
      have := h.1
      rw [he] at this
      exact this
    · exact sepD_at h.2 i m e he
/-- what may be shared with the slots vs alone is not, if kinds differ -/
theorem sep_ov {O : Addr → Prop} {H H1 : Hp} {σ : L2.St} {ρ : Env} {AA : List (List Addr)} {vs : List Nat} {d : D} {v : V} {B : List Addr} {O2 : Addr → Prop} (s : SR H O2 σ ρ AA) (ex : ∀ a ∈ AA.flatten, ∀ o, H a = some o → H1 a = some o) (r : Rep H1 (Ox O AA vs B) v d B) (h : sepD d vs ρ = true) : Rep H1 (Ov O AA B) v d B := by
  refine r.sep (fun a z => z.imp id fun z => z.imp id fun z => z.1) fun a o e n z => ?_
  rcases z with z | z | z
  · exact absurd (.inl z) n
  · exact absurd (.inr (.inl z)) n
  · have own : Own AA vs a := by
      by_cases q : Own AA vs a
      · exact q
      · exact absurd (.inr (.inr ⟨z, q⟩)) n
    obtain ⟨i, A, hi, hA, ha⟩ := own
    obtain ⟨v', e', he, re⟩ := s.getA hA ha
    obtain ⟨o', k, h1, h2, h3, h4⟩ := re.kind a ha
    have h5 := ex a (flat_get hA ha) o' h1
    rw [e] at h5
    cases h5
    refine ⟨k, h2, ?_⟩
    rcases sep1_k (sepD_at h i hi e' he) k h3 with q | q
    · exact q
    · rw [h4] at q; cases q
def frzC (d : D) (vs : List Nat) (ρ : Env) : Env := if (d.clean || sepD d vs ρ) = true then ρ else frzAt vs ρ
def dBind (vs : List Nat) (f : FE) (g : FG) : FS := fun K ρ => f ρ (fun d => g d (frzC d vs ρ) fun ρ' => ρ'.length = ρ.length ∧ K.nx ρ') fun x => K.xc x ρ
def dRet (vs : List Nat) (f : FE) : FS := fun K ρ => f ρ (fun d => K.rt d (frzC d vs ρ)) fun x => K.xc x ρ
def dRetN : FS := fun K ρ => K.rt .non ρ
/-- a slot's own object is handed out -/
def dRetM (i : Nat) : FS := fun K ρ => ∃ d, ρ[i]? = some (some d) ∧ K.rt d (ρ.set i none)
theorem frzC_len {d : D} {vs : List Nat} {ρ : Env} : (frzC d vs ρ).length = ρ.length := by
  unfold frzC
  split
  · rfl
  · exact frzAt_len
theorem ls_next {pn : List Nat} {W : WX} : LS Γ pn W tNext dNext := fun b hpn σ ρ H AA K D' s h e => e.nx σ ρ H AA h rfl s .refl
theorem ls_brk {pn : List Nat} {W : WX} : LS Γ pn W tBreak dBrk := fun b hpn σ ρ H AA K D' s h e => e.bk σ ρ H AA h rfl s .refl
theorem ls_cnt {pn : List Nat} {W : WX} : LS Γ pn W tCont dCnt := fun b hpn σ ρ H AA K D' s h e => e.ct σ ρ H AA h rfl s .refl
theorem ls_seq {pn : List Nat} {W : WX} {t u : TS} {f g : FS} (h1 : LS Γ pn W t f) (h2 : LS Γ pn W u g) : LS Γ pn W (tSeq t u) (dSeq f g) := fun b hpn σ ρ H AA K D' s h e =>
  h1 b hpn σ ρ H AA _ _ s h ⟨fun σ' ρ' H' AA' k l s' v => h2 b hpn σ' ρ' H' AA' K D' s' k (by rw [l]; exact e.evo v), e.rt, e.xc, e.bk, e.ct⟩
theorem ls_cut {pn : List Nat} {W : WX} {t u : TS} {f g : FS} (h1 : LS Γ pn W t f) (h2 : LS Γ pn W u g) : LS Γ pn W (Evl.tCut t u) (dSeq f g) := fun b hpn σ ρ H AA K D' s h e =>
  ⟨u D', h1 b hpn σ ρ H AA _ _ s h ⟨fun σ' ρ' H' AA' k l s' v => h2 b hpn σ' ρ' H' AA' K D' s' k (by rw [l]; exact e.evo v), e.rt, e.xc, e.bk, e.ct⟩, fun _ _ z => z⟩
theorem ls_drop {pn : List Nat} {W : WX} {vs : List Nat} {t : TE} {f : FE} (h : LE Γ W vs t f) : LS Γ pn W (tDrop t) (dDrop f) := fun b hpn σ ρ H AA K D' s k e =>
  h b.O0 σ ρ H AA _ _ _ s.se k (fun d v H' B k ex n r => e.nx σ ρ H' AA k rfl (s.exx ex) (.ex ex)) (e.exc s)
theorem ls_if {pn : List Nat} {W : WX} {c : TT} {fc : FT} {t u : TS} {f g : FS} (hc : LT Γ W c fc) (h1 : LS Γ pn W t f) (h2 : LS Γ pn W u g) : LS Γ pn W (tIfS c t u) (dIfS fc f g) := fun b hpn σ ρ H AA K D' s k e => by
  refine hc b.O0 σ ρ H AA _ _ _ s.se k (fun c H' k ex => ?_) (e.exc s)
  cases c with
  | true => rw [if_pos rfl] at k ⊢; exact h1 b hpn σ ρ H' AA K D' (s.exx ex) k (e.evo (.ex ex))
  | false => rw [if_neg Bool.false_ne_true] at k ⊢; exact h2 b hpn σ ρ H' AA K D' (s.exx ex) k (e.evo (.ex ex))
/-- a result stands apart from the slots, once those that it may share with are frozen -/
theorem apart {b : Bas} {H H1 : Hp} {σ : L2.St} {ρ : Env} {AA : List (List Addr)} {vs : List Nat} {d : D} {v : V} {B : List Addr} (s : SI Γ b H σ ρ AA) (ex : Ex H H1) (n : New H B) (r : Rep H1 (Ox b.O0 AA vs B) v d B) :
    ∃ AA1, SI Γ b H σ (frzC d vs ρ) AA1 ∧ SI Γ b H1 σ (frzC d vs ρ) AA1 ∧ SE Γ (Op b.O0 B) H1 σ (frzC d vs ρ) AA1 ∧ Evo b H AA H1 AA1 ∧ (∀ a ∈ AA1.flatten, a ∈ AA.flatten) ∧ Rep H1 (Ov b.O0 AA1 B) v d B := by
  have hB : ∀ a ∈ B, H1 a ≠ none := fun a m => (r.own a m).2
  unfold frzC
  by_cases h : (d.clean || sepD d vs ρ) = true
  · rw [if_pos h]
    refine ⟨AA, s, s.exx ex, s.se.more ex n hB s.se.has, .ex ex, fun _ m => m, ?_⟩
    rcases Bool.or_eq_true _ _ ▸ h with h | h
    · exact r.clean h fun a m => .inl m
    · exact sep_ov s.sr (fun a _ o q => ex a o q) r h
  · rw [if_neg h]
    obtain ⟨AA1, s1, e1, h1, h2⟩ := SI.frzAt vs s
    refine ⟨AA1, s1, s1.exx ex, s1.se.more ex n hB s1.se.has, e1.trans (.ex ex), fun a m => (h1 a m).1, r.keep ⟨fun a o h n => ⟨h, fun z => n ?_⟩, fun a o h m => ⟨h, .inl m⟩, fun _ _ h => h⟩⟩
    rcases z with z | z | z
    · exact .inl z
    · exact .inr (.inl z)
    · exact .inr (.inr (h1 a z))
theorem ls_bind {pn : List Nat} {W : WX} {vs ts : List Nat} {t : TE} {f : FE} {g : TG} {fg : FG} (h : LE Γ W vs t f) (hg : LG Γ ts g fg) (hd : ∀ i ∈ pn, i ∉ ts := by decide) : LS Γ pn W (tAsg t g) (dBind vs f fg) := fun b hpn σ ρ H AA K D' s k e => by
  refine h b.O0 σ ρ H AA _ _ _ s.se k (fun d v H1 B k ex n r => ?_) (e.exc s)
  obtain ⟨AA1, _, s1, s2, e1, sub, r1⟩ := apart s ex n r
  have hB : ∀ a ∈ B, ¬ b.O0 a := fun a m z => s.has0 z (n.fr a m)
  refine hg b.O0 σ _ H1 AA1 v d B _ _ s2 r1 n.nd hB k fun σ' ρ' AA' k2 s3 sub2 l2 o2 => ?_
  obtain ⟨s4, e4⟩ := s.of ex n.fr s3 (fun a m => (sub2 a m).imp (sub a) id) fun i m => (o2 i (hd i (hpn ▸ m))).1
  exact e.nx σ' ρ' H1 AA' k2.2 k2.1 s4 e4
theorem ls_ret {pn : List Nat} {W : WX} {vs : List Nat} {t : TE} {f : FE} (h : LE Γ W vs t f) : LS Γ pn W (tRet t) (dRet vs f) := fun b hpn σ ρ H AA K D' s k e => by
  refine h b.O0 σ ρ H AA _ _ _ s.se k (fun d v H1 B k ex n r => ?_) (e.exc s)
  obtain ⟨AA1, _, s1, s2, e1, sub, r1⟩ := apart s ex n r
  exact e.rt d v σ _ H1 AA1 B k frzC_len s1 e1 r1 n.nd s2 fun a m => s.sub0 (n.fr a m)
theorem ls_retN {pn : List Nat} {W : WX} : LS Γ pn W tRetN dRetN := fun b hpn σ ρ H AA K D' s k e => e.rt .non .non σ ρ H AA [] k rfl s .refl .non .nil (s.se.congr fun a => by simp [Op]) fun _ m => nomatch m
theorem ls_retM {pn : List Nat} {W : WX} {i : Nat} (hdp : i ∉ pn := by decide) : LS Γ pn W (tRet (tVar i)) (dRetM i) := fun b hpn σ ρ H AA K D' s k e => by
  obtain ⟨d, hd, k⟩ := k
  obtain ⟨v, B, h1, h2, r⟩ := s.sr.get hd
  have nB := nd_at s.nd h2
  have ot := nd_other s.nd h2
  refine ⟨v, h1, e.rt d v (σ.set i none) _ H (AA.set i []) B k (by simp) ⟨s.sr.no1 ⟨fun a o h n => ⟨h, fun z => n (z.imp id flat_set_nil)⟩, fun a o h m => ⟨h, .inr m⟩, fun _ _ h => h⟩, nd_set s.nd .nil fun _ m => (nomatch m), fun a m => s.fr a (flat_set_nil m), s.o0, s.ex, fun k m => by rw [List.getElem?_set_ne fun z => hdp (by rw [z, ← hpn]; exact m)]; exact s.pn k m, s.gi⟩ ⟨fun a o h n => ⟨h, fun z => n (z.imp id flat_set_nil)⟩, fun _ _ h => h⟩
    (r.keep ⟨fun a o h n => ⟨h, fun z => n (by
      rcases z with z | z | z
      · exact .inr (flat_get h2 z)
      · exact .inl z
      · exact .inr (flat_set_nil z))⟩, fun a o h m => ⟨h, .inl m⟩, fun _ _ h => h⟩) nB ⟨s.sr.no1 ⟨fun a o h n => ⟨h, fun z => n (by
      rcases z with (z | z) | z
      · exact .inl z
      · exact .inr (flat_get h2 z)
      · exact .inr (flat_set_nil z))⟩, fun a o h m => ⟨h, .inr m⟩, fun _ _ h => h⟩, nd_set s.nd .nil fun _ m => (nomatch m), fun a z => z.elim (fun z => ⟨s.has0 z, fun m => s.not0 (flat_set_nil m) z⟩) fun m => ⟨(r.own a m).2, ot a m⟩, s.gi⟩ fun a m => s.fr a (flat_get h2 m)⟩
/-! loops -/
def forD (fg : FG) (body : FS) (K : DEn) (n : Nat) : List D → Env → Prop
  | [], ρ => K.nx ρ
  | d :: ds, ρ => fg d ρ fun ρ2 => ρ2.length = n ∧ body { K with nx := forD fg body K n ds, ct := forD fg body K n ds, bk := K.nx } ρ2
def dFor (fi : FI) (vs : List Nat) (fg : FG) (body : FS) : FS := fun K ρ => fi ρ (fun ds => forD fg body K ρ.length ds (frzAt vs ρ)) fun x => K.xc x ρ
theorem ls_for {pn : List Nat} {W : WX} {vs ts : List Nat} {wi : TI} {fi : FI} {g : TG} {fg : FG} {t : TS} {f : FS} (hi : LI Γ W vs wi fi) (hg : LG Γ ts g fg) (hb : LS Γ pn W t f) (hdj : ∀ i ∈ pn, i ∉ ts := by decide) : LS Γ pn W (tFor wi g t) (dFor fi vs fg f) := fun b hpn σ ρ H AA K D' s k e => by
  refine hi b.O0 σ ρ H AA _ _ _ s.se k (fun ds J H1 k ex w => ?_) (e.exc s)
  obtain ⟨AA1, s1, e1, h1, h2⟩ := SI.frzAt vs (s.exx ex)
  obtain ⟨G, Y, wk, wG, wY⟩ := w
  let Inv : Nat → L2.St → Hp → Prop := fun i σ' H' => ∃ ρ' AA', i ≤ ds.length ∧ forD fg f K ρ.length (ds.drop i) ρ' ∧ ρ'.length = ρ.length ∧ SI Γ b H' σ' ρ' AA' ∧ Evo b H1 AA1 H' AA'
  have sub : ∀ a, b.O AA1 a → Ox b.O0 AA vs [] a := fun a z => z.elim (fun z => .inr (.inl z)) fun m => .inr (.inr (h1 a m))
  have kp : ∀ {H2 AA2}, Evo b H1 AA1 H2 AA2 → Kp H1 H2 (Ox b.O0 AA vs []) (b.O AA2) [] := fun v => ⟨fun a o h n => v.1 a o h fun z => n (sub a z), fun _ _ _ m => (nomatch m), v.2⟩
  refine for_it wk (fun i σ' H' => Inv i σ' H') ⟨_, AA1, Nat.zero_le _, by rw [List.drop_zero]; exact k, frzAt_len, s1, .refl⟩ (fun i σ' H' _ ⟨ρ', AA', _, _, _, _, v⟩ => wG H' _ (kp v)) (fun i x σ' H2 H3 hlt ⟨ρ', AA', _, hf, hl, s2, v⟩ hy => ?_) (fun σ' H' ⟨ρ', AA', _, hf, hl, s2, v⟩ => ?_)
  · obtain ⟨exY, d, hd, rd⟩ := wY i x H2 H3 _ (kp v) hy
    rw [List.drop_eq_getElem_cons hlt] at hf
    have hde : ds[i] = d := by rw [List.getElem?_eq_getElem hlt] at hd; exact Option.some.inj hd
    rw [hde] at hf
    have s3 := s2.exx exY
    refine hg b.O0 σ' ρ' H3 AA' x d [] _ _ (s3.se.congr fun a => by simp [Op]) (rd.keep ⟨fun a o h n => ⟨h, fun z => n (z.resolve_left fun m => nomatch m)⟩, fun _ _ _ m => (nomatch m), fun _ _ h => h⟩) .nil (fun _ m => nomatch m) hf fun σ3 ρ3 A3 k3 s4 sub3 l3 o3 => ?_
    obtain ⟨s5, e5⟩ := s2.of (B := []) exY (fun _ m => nomatch m) s4 sub3 fun i m => (o3 i (hdj i (hpn ▸ m))).1
    have v3 := (v.trans e5)
    refine hb b hpn σ3 ρ3 H3 A3 _ _ s5 k3.2 ⟨fun σ4 ρ4 H4 A4 k4 l4 s6 v4 => ⟨ρ4, A4, hlt, k4, l4.trans k3.1, s6, v3.trans v4⟩, fun d v σ4 ρ4 H4 A4 B k4 l4 s6 v4 => e.rt d v σ4 ρ4 H4 A4 B k4 (l4.trans k3.1) s6 (((Evo.ex ex).trans e1).trans (v3.trans v4)),
      fun x cls dd σ4 ρ4 H4 A4 k4 l4 s6 v4 => e.xc x cls dd σ4 ρ4 H4 A4 k4 (l4.trans k3.1) s6 (((Evo.ex ex).trans e1).trans (v3.trans v4)), fun σ4 ρ4 H4 A4 k4 l4 s6 v4 => e.nx σ4 ρ4 H4 A4 k4 (l4.trans k3.1) s6 (((Evo.ex ex).trans e1).trans (v3.trans v4)),
      fun σ4 ρ4 H4 A4 k4 l4 s6 v4 => ⟨ρ4, A4, hlt, k4, l4.trans k3.1, s6, v3.trans v4⟩⟩
  · rw [List.drop_length] at hf
    exact e.nx σ' ρ' H' AA' hf hl s2 (((Evo.ex ex).trans e1).trans v)
def dWhile (c : FT) (body : FS) : FS := fun K ρ => ∃ I : Nat → Env → Prop, (∃ m, I m ρ) ∧ ∀ m ρ, I m ρ → c ρ (fun b => if b = true then body { K with nx := fun ρ' => ∃ m', m' < m ∧ I m' ρ', ct := fun ρ' => ∃ m', m' < m ∧ I m' ρ', bk := K.nx } ρ else K.nx ρ) fun x => K.xc x ρ
theorem ls_while {pn : List Nat} {W : WX} {c : TT} {fc : FT} {t : TS} {f : FS} (hc : LT Γ W c fc) (hb : LS Γ pn W t f) : LS Γ pn W (tWhile c t) (dWhile fc f) := fun b hpn σ ρ H AA K D' s ⟨I, ⟨m0, i0⟩, step⟩ e => by
  refine ⟨fun m σ' H' => ∃ ρ' AA', I m ρ' ∧ ρ'.length = ρ.length ∧ SI Γ b H' σ' ρ' AA' ∧ Evo b H AA H' AA', ⟨m0, ρ, AA, i0, rfl, s, .refl⟩, fun m σ' H' ⟨ρ', AA', hi, hl, s', v⟩ => ?_⟩
  have e' := e.evo v
  rw [← hl] at e'
  refine hc b.O0 σ' ρ' H' AA' _ _ _ s'.se (step m ρ' hi) (fun c H2 k ex => ?_) (e'.exc s')
  cases c with
  | true =>
    rw [if_pos rfl] at k ⊢
    refine ⟨_, fun _ _ x => x, hb b hpn σ' ρ' H2 AA' _ _ (s'.exx ex) k ?_⟩
    have v2 := v.trans (Evo.ex ex)
    exact ⟨fun σ4 ρ4 H4 A4 ⟨m', hm, hi'⟩ l4 s6 v4 => ⟨m', hm, ρ4, A4, hi', l4.trans hl, s6, v2.trans v4⟩, fun d v σ4 ρ4 H4 A4 B k4 l4 s6 v4 => e.rt d v σ4 ρ4 H4 A4 B k4 (l4.trans hl) s6 (v2.trans v4),
      fun x cls dd σ4 ρ4 H4 A4 k4 l4 s6 v4 => e.xc x cls dd σ4 ρ4 H4 A4 k4 (l4.trans hl) s6 (v2.trans v4), fun σ4 ρ4 H4 A4 k4 l4 s6 v4 => e.nx σ4 ρ4 H4 A4 k4 (l4.trans hl) s6 (v2.trans v4),
      fun σ4 ρ4 H4 A4 ⟨m', hm, hi'⟩ l4 s6 v4 => ⟨m', hm, ρ4, A4, hi', l4.trans hl, s6, v2.trans v4⟩⟩
  | false =>
    rw [if_neg Bool.false_ne_true] at k ⊢
    exact e.nx σ' ρ' H2 AA' k hl (s'.exx ex) (v.trans (.ex ex))
end DL
namespace DL
open PySem PySem.Spec PyProof.Rows L2 Evl PL
set_option maxHeartbeats 1000000
variable {Γ : GS}
/-! ### defs -/
/-- what a def makes of its arguments; the last: what its changed parameters are then -/
abbrev DF := List D → (D → Env → Prop) → (XD → Env → Prop) → Prop
def outs (ms : List Nat) (ρ : Env) : Env := ms.map fun i => (ρ[i]?).join
/-- a body with k slots besides the parameters -/
def bodyF (fs : FS) (ms : List Nat) (k : Nat) : DF := fun ds K X =>
  fs ⟨fun ρ => K .non (outs ms ρ), fun d ρ => K d (outs ms ρ), fun x ρ => X x (outs ms ρ), fun _ => False, fun _ => False⟩ (ds.map some ++ List.replicate k none)
mutual
/-- no part is owned -/
def D.shr : D → Bool
  | .tup l => D.shrs l
  | .lst o l => !o && D.shrs l
  | .dK o _ l => !o && D.shrs l
  | .dT o _ l => !o && D.shrs l
  | .ins o _ _ l => !o && D.shrs l
  | _ => true
def D.shrs : List D → Bool
  | [] => true
  | d :: l => d.shr && D.shrs l
end
mutual
theorem Rep.shr {H : Hp} {O : Addr → Prop} : ∀ {v d A}, Rep H O v d A → d.shr = true → A = []
  | _, _, _, .non, _ => rfl
  | _, _, _, .bl, _ => rfl
  | _, _, _, .int, _ => rfl
  | _, _, _, .str, _ => rfl
  | _, _, _, .ty, _ => rfl
  | _, _, _, .adr, _ => rfl
  | _, _, _, .tup _ r, k => r.shr (by simpa [D.shr] using k)
  | _, _, _, .lstO _ _ _, k => by simp [D.shr] at k
  | _, _, _, .lst _ _ _, _ => rfl
  | _, _, _, .dKO _ _ _ _, k => by simp [D.shr] at k
  | _, _, _, .dK _ _ _ _, _ => rfl
  | _, _, _, .dTO _ _ _ _, k => by simp [D.shr] at k
  | _, _, _, .dT _ _ _ _, _ => rfl
  | _, _, _, .insO _ _ _ _, k => by simp [D.shr] at k
  | _, _, _, .ins _ _ _ _, _ => rfl
  | _, _, _, .raw _, _ => rfl
  | _, _, _, .xo _ _ _ _, _ => rfl
theorem Reps.shr {H : Hp} {O : Addr → Prop} : ∀ {vs ds A}, Reps H O vs ds A → D.shrs ds = true → A = []
  | _, _, _, .nil, _ => rfl
  | _, _, _, .cons r s, k => by
    simp only [D.shrs, Bool.and_eq_true] at k
    rw [r.shr k.1, s.shr k.2]
    rfl
end
/-- a slot that is shared as it stands -/
def dVarS (i : Nat) : FE := fun ρ K _ => ∃ d, ρ[i]? = some (some d) ∧ d.shr = true ∧ K d
theorem le_varS {W : WX} {i : Nat} : LE Γ W [] (tVar i) (dVarS i) := by
  intro O σ ρ H AA K X Q s h q _
  obtain ⟨d, e, z, k⟩ := h
  obtain ⟨v, B, h1, h2, r⟩ := s.sr.get e
  have hB := r.shr z
  subst hB
  refine ⟨v, h1, q _ v H [] k (Ex.refl H) .nil (r.keep ⟨fun a o h n => ⟨h, fun z => n ?_⟩, fun _ _ _ m => (nomatch m), fun _ _ h => h⟩)⟩
  rcases z with z | z | z
  · exact nomatch z
  · exact .inl z
  · exact .inr z.1
/-- the promise of a def that changes nothing of its arguments -/
def spP (Γ : GS) (F : DF) : Sp := fun vs H Q E => ∃ (O : Addr → Prop) (ds : List D) (K : D → Env → Prop) (X : XD → Env → Prop), Reps H O vs ds [] ∧ (∀ a, O a → H a ≠ none) ∧ Γ.ok H ∧ F ds K X ∧
  (∀ d v H' B, K d [] → Ex H H' → New H B → Rep H' (Ou O B) v d B → Q v H') ∧ (∀ x cls dd H', X x [] → Ex H H' → XR H' O x cls dd → E cls dd H')
def WE (E : XK) : WX := fun c d _ H => E c d H
abbrev WEs (W : WX) : L2.St → XK := fun σ cls d H => W cls d σ H
def tCallS (sp : Sp) (E : L2.St → XK) (t : TA) : TE := fun σ H Q => t σ H fun vs H1 => sp vs H1 Q (E σ)
theorem sr_params {H : Hp} {O : Addr → Prop} : ∀ {vs : List V} {ds : List D}, Reps H O vs ds [] → ∀ k : Nat, SR H O (vs.map some ++ List.replicate k none) (ds.map some ++ List.replicate k none) (List.replicate (vs.length + k) [])
  | vs, ds, r, k => by
    have tail : SR H O (List.replicate k none) (List.replicate k none) (List.replicate k []) := by
      induction k with
      | zero => exact .nil
      | succ k ih => exact .no ih
    have gen : ∀ {vs : List V} {ds : List D} {A : List Addr}, Reps H O vs ds A → A = [] → SR H O (vs.map some ++ List.replicate k none) (ds.map some ++ List.replicate k none) (List.replicate (vs.length + k) []) := by
      intro vs
      induction vs with
      | nil => intro ds A r _; cases r; simpa using tail
      | cons v vs ih =>
        intro ds A r e
        cases r with
        | cons r s =>
          obtain ⟨rfl, rfl⟩ := List.append_eq_nil_iff.mp e
          have := ih s rfl
          rw [List.length_cons, Nat.add_right_comm, List.replicate_succ]
          exact .so r this
    exact gen r rfl
theorem flat_rep {n : Nat} : (List.replicate n ([] : List Addr)).flatten = [] := by
  induction n with
  | zero => rfl
  | succ n ih => rw [List.replicate_succ, List.flatten_cons, ih]; rfl
/-- a def's body keeps it -/
theorem spP_body {fs : FS} {k : Nat} {ts : TS} {vs : List V} {H : Hp} {Q : VK} {E : XK} (h : LS Γ [] (WE E) ts fs) (q : spP Γ (bodyF fs [] k) vs H Q E) : ts { nx := fun _ H' => Q .non H', rt := Q } (vs.map some ++ List.replicate k none) H := by
  obtain ⟨O, ds, K, X, r, hO, hG, hF, hQ, hX⟩ := q
  have s : SI Γ ⟨H, O, fun _ => False, [], []⟩ H (vs.map some ++ List.replicate k none) (ds.map some ++ List.replicate k none) (List.replicate (vs.length + k) []) := by
    refine ⟨(sr_params r k).keep ⟨fun a o h n => ⟨h, fun z => z.elim n fun m => ?_⟩, fun a o h m => ?_, fun _ _ h => h⟩, ?_, fun a m => ?_, fun a z => ⟨hO a z, id⟩, fun a o h _ => h, fun _ m => (nomatch m), hG⟩
    · rw [flat_rep] at m; exact nomatch m
    · rw [flat_rep] at m; exact nomatch m
    · rw [flat_rep]; exact .nil
    · rw [flat_rep] at m; exact nomatch m
  have hex : ∀ {H' σ' ρ' AA'}, SI Γ ⟨H, O, fun _ => False, [], []⟩ H' σ' ρ' AA' → Ex H H' := fun s a o h => s.ex a o h id
  refine h _ rfl _ _ H _ _ _ s hF ⟨fun σ' ρ' H' AA' kk l s' v => hQ .non .non H' [] kk (hex s') .nil .non, fun d v σ' ρ' H' AA' B kk l s' vv rr nd _ fr => hQ d v H' B kk (hex s') ⟨fun a m => (fr a m).elim False.elim id, nd⟩ (rr.keep ⟨fun a o h n => ⟨h, fun z => n (z.imp id .inl)⟩, fun a o h m => ⟨h, .inl m⟩, fun _ _ h => h⟩),
    fun x cls dd σ' ρ' H' AA' kk l s' v rr => hX x cls dd H' kk (hex s') (xr_less rr fun a z => .inl z), fun _ _ _ _ z => z.elim, fun _ _ _ _ z => z.elim⟩
/-- a call -/
def D.imm : D → Bool
  | .non => true | .bl _ => true | .int _ => true | .str _ => true | .ty _ => true | .adr _ => true
  | .tup l => l.all fun d => match d with | .non => true | .bl _ => true | .int _ => true | .str _ => true | _ => false
  | _ => false
def okX (vs : List Nat) (x : XD) : Prop := vs = [] ∨ x.fs.all D.imm = true
def dCall (vs : List Nat) (F : DF) (t : FA) : FE := fun ρ K X => t ρ (fun ds => F (D.frzs ds) (fun d _ => K d) fun x _ => okX vs x ∧ X x) X
theorem reps_imm {H : Hp} {O O' : Addr → Prop} : ∀ {us : List V} {ds : List D} {A : List Addr}, Reps H O us ds A → (ds.all fun d => match d with | .non => true | .bl _ => true | .int _ => true | .str _ => true | _ => false) = true → Reps H O' us ds A
  | _, _, _, .nil, _ => .nil
  | _, _, _, .cons r s, h => by
    simp only [List.all_cons, Bool.and_eq_true] at h
    refine .cons ?_ (reps_imm s h.2)
    cases r <;> simp at h <;> constructor
theorem rep_imm {H : Hp} {O O' : Addr → Prop} {v : V} {d : D} {A : List Addr} (r : Rep H O v d A) (h : d.imm = true) : Rep H O' v d A := by
  cases r with
  | tup ha rr => exact .tup ha (reps_imm rr (by simpa only [D.imm] using h))
  | non => exact .non
  | bl => exact .bl
  | int => exact .int
  | str => exact .str
  | ty => exact .ty
  | adr => exact .adr
  | _ => simp only [D.imm] at h; exact absurd h Bool.false_ne_true
theorem xr_ok {H : Hp} {O : Addr → Prop} {σ : L2.St} {ρ : Env} {AA : List (List Addr)} {vs : List Nat} {x : XD} {cls : Value} {dd : Option Addr} (se : SE Γ O H σ ρ AA) (h : okX vs x) (r : XR H (Ox O AA vs []) x cls dd) : XR H (fun a => O a ∨ a ∈ AA.flatten) x cls dd := by
  rcases h with h | h
  · subst h
    exact xr_less r fun a z => z.elim (fun z => .inr (.inl z)) fun z => .inr (.inr ⟨z, fun ⟨_, _, m, _⟩ => nomatch m⟩)
  · obtain ⟨e, r⟩ := r
    refine ⟨e, r.imp id fun ⟨d, us, h1, h2, nO, h3, h4⟩ => ⟨d, us, h1, h2, fun y => ?_, h3, ?_⟩⟩
    · rcases y with y | y
      · exact nO (.inr (.inl y))
      · obtain ⟨o, e1, e2⟩ := se.sr.ownP d y
        rw [h2] at e1
        cases e1
        exact e2
    have gen : ∀ {us : List V} {ds : List D} {A : List Addr}, Reps H (Ox O AA vs []) us ds A → ds.all D.imm = true → Reps H (fun a => O a ∨ a ∈ AA.flatten) us ds A := by
      intro us
      induction us with
      | nil => intro ds A r _; cases r; exact .nil
      | cons u us ih =>
        intro ds A r h
        cases r with
        | cons r s =>
          simp only [List.all_cons, Bool.and_eq_true] at h
          exact .cons (rep_imm r h.1) (ih s h.2)
    exact gen h4 h
theorem ox_has {O : Addr → Prop} {σ : L2.St} {ρ : Env} {H : Hp} {AA : List (List Addr)} {vs : List Nat} (s : SE Γ O H σ ρ AA) : ∀ a, Ox O AA vs [] a → H a ≠ none := fun a z => by
  rcases z with z | z | z
  · exact nomatch z
  · exact (s.o0 a z).1
  · exact s.has a z.1
theorem frzs_ox {H1 : Hp} {O : Addr → Prop} {AA : List (List Addr)} {vs : List Nat} {B : List Addr} {us : List V} {ds : List D} {σ : L2.St} {ρ : Env} {H : Hp} (s : SE Γ O H σ ρ AA) (n : New H B) (r : Reps H1 (Ox O AA vs B) us ds B) : Reps H1 (Ox O AA vs []) us (D.frzs ds) [] := frz_ox s n (fun _ m => m) r
theorem le_call {E : XK} {vs : List Nat} {F : DF} {t : TA} {f : FA} (h : LA Γ (WE E) vs t f) : LE Γ (WE E) vs (tCall (spP Γ F) [] E t) (dCall vs F f) := by
  intro O σ ρ H AA K X Q s hk q hX
  refine h O σ ρ H AA _ X _ s hk (fun ds us H1 B k e n r => ?_) hX
  refine ⟨Ox O AA vs [], D.frzs ds, _, _, by rw [List.append_nil]; exact frzs_ox s n r, ox_has (s.ex e), (s.ex e).gi, k, fun d v H' C kk e2 n2 rr => q d v H' C kk (e.trans e2) (new_ex e n2) (ou_ox rr), fun x cls dd H' kk e2 rr => hX x cls dd H' kk.2 (e.trans e2) (xr_ok (s.ex (e.trans e2)) kk.1 rr)⟩
/-- a call in a try: what is raised is wished for at the slots -/
theorem le_callS {W : WX} {vs : List Nat} {F : DF} {t : TA} {f : FA} (h : LA Γ W vs t f) : LE Γ W vs (tCallS (spP Γ F) (WEs W) t) (dCall vs F f) := by
  intro O σ ρ H AA K X Q s hk q hX
  refine h O σ ρ H AA _ X _ s hk (fun ds us H1 B k e n r => ?_) hX
  refine ⟨Ox O AA vs [], D.frzs ds, _, _, frzs_ox s n r, ox_has (s.ex e), (s.ex e).gi, k, fun d v H' C kk e2 n2 rr => q d v H' C kk (e.trans e2) (new_ex e n2) (ou_ox rr), fun x cls dd H' kk e2 rr => hX x cls dd H' kk.2 (e.trans e2) (xr_ok (s.ex (e.trans e2)) kk.1 rr)⟩
/-! ### instances that are read -/
def lookF (nm : List Str) (l : List D) (f : Str) : Option D := (nm.zip l).lookup f
theorem lookF_rep {H : Hp} {O : Addr → Prop} {f : Str} : ∀ {nm : List Str} {vs : List V} {ds : List D} {d : D}, Reps H O vs ds [] → lookF nm ds f = some d → ∃ v, (nm.zip vs).lookup f = some v ∧ Rep H O v d []
  | [], _, _, _, _, h => by simp [lookF] at h
  | n :: nm, vs, ds, d, r, h => by
    have hr : ∀ {A}, Reps H O vs ds A → A = [] → (vs = [] ∧ ds = []) ∨ ∃ v vs' d' ds', vs = v :: vs' ∧ ds = d' :: ds' ∧ Rep H O v d' [] ∧ Reps H O vs' ds' [] := by
      intro A r e
      cases r with
      | nil => exact .inl ⟨rfl, rfl⟩
      | cons r s =>
        obtain ⟨rfl, rfl⟩ := List.append_eq_nil_iff.mp e
        exact .inr ⟨_, _, _, _, rfl, rfl, r, s⟩
    rcases hr r rfl with ⟨rfl, rfl⟩ | ⟨v, vs', d', ds', rfl, rfl, r1, r2⟩
    · simp [lookF] at h
    · unfold lookF at h
      rw [List.zip_cons_cons, List.lookup_cons] at h
      rw [List.zip_cons_cons, List.lookup_cons]
      by_cases e : f == n
      · simp only [e] at h ⊢
        cases h
        exact ⟨v, rfl, r1⟩
      · simp only [e] at h ⊢
        exact lookF_rep r2 h
theorem rd_ins {H : Hp} {O : Addr → Prop} {u : V} {o : Bool} {C : Addr} {nm : List Str} {l : List D} {B : List Addr} (r : Rep H O u (.ins o C nm l) B) : ∃ a dx vs A, u = .ref a ∧ H a = some (.ins C dx (nm.zip vs)) ∧ nm.length = vs.length ∧ Reps H O vs l A := by
  cases r with
  | insO h _ e r => exact ⟨_, _, _, _, rfl, h, e.1, r⟩
  | ins h _ e r => exact ⟨_, _, _, _, rfl, h, e.1, r⟩
theorem rd_ins0 {H : Hp} {O : Addr → Prop} {u : V} {o : Bool} {C : Addr} {nm : List Str} {l : List D} (r : Rep H O u (.ins o C nm l) []) : ∃ a dx vs, u = .ref a ∧ H a = some (.ins C dx (nm.zip vs)) ∧ nm.length = vs.length ∧ Reps H O vs l [] := by
  cases r with
  | ins h _ e r => exact ⟨_, _, _, rfl, h, e.1, r⟩
def dFld (C : Addr) (f : Str) (g : FE) : FE := fun ρ K X => g ρ (fun d => match d.frz with
  | .ins _ C' nm l => C' = C ∧ ∃ e, lookF nm l f = some e ∧ K e
  | _ => False) X
theorem le_fld {W : WX} {vs : List Nat} {Kf : PySem.W.Frag} {C : Addr} {f : Str} {t : TE} {g : FE} (c : Cls Kf C) (n : NoAttr Kf C f) (h : LE Γ W vs t g) : LE Γ W vs (tFld Kf t f) (dFld C f g) := by
  intro O σ ρ H AA K X Q s hk q hX
  refine h O σ ρ H AA _ X _ s hk (fun d v H1 B k e nn r => ?_) hX
  have r2 := frz_r r (fun _ m => m) (new_ox (vs := vs) s nn)
  generalize d.frz = z at k r2
  cases z <;> simp only at k
  obtain ⟨rfl, e2, h2, k⟩ := k
  obtain ⟨a, dx, us, rfl, ha, hl, rr⟩ := rd_ins0 r2
  obtain ⟨w, h3, r3⟩ := lookF_rep rr h2
  refine ⟨a, _, dx, _, w, rfl, ha, c, n, h3, q e2 w H1 [] k e .nil (r3.keep ⟨fun a o h n => ⟨h, n⟩, fun _ _ _ m => (nomatch m), fun _ _ h => h⟩)⟩
def isIns (C : Addr) (m : Str) (d : D) : Prop := match d with
  | .ins _ C' nm _ => C' = C ∧ m ∉ nm
  | _ => False
def isInsP (C : Addr) (d : D) : Prop := match d with
  | .ins _ C' _ _ => C' = C
  | _ => False
def dProp (vs : List Nat) (C : Addr) (F : DF) (g : FE) : FE := fun ρ K X => g ρ (fun d => isInsP C d ∧ F [d.frz] (fun d _ => K d) fun x _ => okX vs x ∧ X x) X
theorem le_prop {E : XK} {vs : List Nat} {C : Addr} {F : DF} {t : TE} {g : FE} (h : LE Γ (WE E) vs t g) : LE Γ (WE E) vs (tProp C (spP Γ F) [] E t) (dProp vs C F g) := by
  intro O σ ρ H AA K X Q s hk q hX
  refine h O σ ρ H AA _ X _ s hk (fun d v H1 B k e n r => ?_) hX
  obtain ⟨hi, k⟩ := k
  have r2 := frz_r r (fun _ m => m) (new_ox (vs := vs) s n)
  cases d <;> simp only [isInsP] at hi
  subst hi
  obtain ⟨a, dx, us, A, rfl, ha, hl, rr⟩ := rd_ins r
  exact ⟨a, dx, _, rfl, ha, Ox O AA vs [], [_], _, _, .cons (A := []) (B := []) r2 .nil, ox_has (s.ex e), (s.ex e).gi, k, fun d v H' C kk e2 n2 rr => q d v H' C kk (e.trans e2) (new_ex e n2) (ou_ox rr), fun x cls dd H' kk e2 rr => hX x cls dd H' kk.2 (e.trans e2) (xr_ok (s.ex (e.trans e2)) kk.1 rr)⟩
theorem lookup_none {α : Type} {m : Str} : ∀ {nm : List Str} {vs : List α}, m ∉ nm → (nm.zip vs).lookup m = none
  | [], _, _ => by simp
  | n :: nm, [], _ => by simp
  | n :: nm, v :: vs, h => by
    have e : (m == n) = false := by simpa using fun z : m = n => h (by simp [z])
    rw [List.zip_cons_cons, List.lookup_cons, e]
    exact lookup_none fun z => h (List.mem_cons_of_mem _ z)
def dMeth (vs : List Nat) (C : Addr) (m : Str) (F : DF) (g : FE) (t : FA) : FE := fun ρ K X => g ρ (fun d => isIns C m d ∧ t ρ (fun ds => F (d.frz :: D.frzs ds) (fun d _ => K d) fun x _ => okX vs x ∧ X x) X) X
theorem le_meth {E : XK} {vs ws : List Nat} {C : Addr} {m : Str} {F : DF} {t : TE} {g : FE} {ta : TA} {fa : FA} (h : LE Γ (WE E) vs t g) (ha : LA Γ (WE E) ws ta fa) : LE Γ (WE E) (vs ++ ws) (tMeth C m (spP Γ F) [] E t ta) (dMeth (vs ++ ws) C m F g fa) := by
  intro O σ ρ H AA K X Q s hk q hX
  refine h O σ ρ H AA _ X _ s hk (fun d v H1 A k e n r => ?_) hX
  obtain ⟨hi, k⟩ := k
  have hA : ∀ a ∈ A, H1 a ≠ none := fun a m => (r.own a m).2
  have hd : ∃ o nm l, d = .ins o C nm l ∧ m ∉ nm := by
    cases d <;> simp only [isIns] at hi
    obtain ⟨rfl, hi⟩ := hi
    exact ⟨_, _, _, rfl, hi⟩
  obtain ⟨o, nm, l, rfl, hm⟩ := hd
  obtain ⟨a, dx, us, A', rfl, haa, hl, rr⟩ := rd_ins r
  refine ⟨a, dx, _, rfl, haa, lookup_none hm, ha _ σ ρ H1 AA _ X _ (s.more e n hA s.has) k (fun ds ws' H2 B k2 e2 n2 r2 => ?_) (fun x cls dd H' hx e2 r => hX x cls dd H' hx (e.trans e2) (xr_less r fun a z => z.imp .inl id))⟩
  have nn := n.app n2 e hA
  have all := frzs_ox s nn (.cons (keep1 r e2 n2) (keeps2 r2))
  exact ⟨Ox O AA (vs ++ ws) [], _, _, _, by rw [List.append_nil]; exact all, ox_has (s.ex (e.trans e2)), (s.ex (e.trans e2)).gi, k2, fun d v H' C kk e3 n3 rr => q d v H' C kk ((e.trans e2).trans e3) (new_ex (e.trans e2) n3) (ou_ox rr), fun x cls dd H' kk e3 rr => hX x cls dd H' kk.2 ((e.trans e2).trans e3) (xr_ok (s.ex ((e.trans e2).trans e3)) kk.1 rr)⟩
end DL
namespace DL
open PySem PySem.Spec PyProof.Rows L2 Evl PL
set_option maxHeartbeats 1000000
variable {Γ : GS}
/-! ### paths into what a slot owns -/
inductive Step where
  | ix (i : Int) | key (k : Key) | fld (f : Str)
def D.idx : Step → D → Option Nat
  | .ix i, .lst true l => ixN l.length i
  | .key k, .dK true ks _ => ks.findIdx? fun z => decide (z = k)
  | .fld f, .ins true _ nm _ => nm.findIdx? fun z => z == f
  | _, _ => none
def D.kids : D → List D
  | .lst _ l => l | .dK _ _ l => l | .ins _ _ _ l => l
  | _ => []
def D.wk (l' : List D) : D → D
  | .lst o _ => .lst o l' | .dK o ks _ => .dK o ks l' | .ins o C nm _ => .ins o C nm l'
  | d => d
def D.at : List Step → D → Option D
  | [], d => some d
  | s :: p, d => match d.idx s with
    | some j => match d.kids[j]? with
      | some c => D.at p c
      | none => none
    | none => none
def D.put : List Step → D → D → Option D
  | [], _, e => some e
  | s :: p, d, e => match d.idx s with
    | some j => match d.kids[j]? with
      | some c => match D.put p c e with
        | some c' => some (d.wk (d.kids.set j c'))
        | none => none
      | none => none
    | none => none
/-- from v along s to w -/
def StepV (H : Hp) (v : V) (s : Step) (w : V) : Prop := match s with
  | .ix i => ∃ a vs, v = .ref a ∧ H a = some (.lst vs) ∧ atI vs i = some w
  | .key k => ∃ a kvs, v = .ref a ∧ H a = some (.dK kvs) ∧ valV kvs k = some w
  | .fld f => ∃ a C dx fs, v = .ref a ∧ H a = some (.ins C dx fs) ∧ fs.lookup f = some w
def PathV (H : Hp) : V → List Step → V → Prop
  | v, [], u => u = v
  | v, s :: p, u => ∃ w, StepV H v s w ∧ PathV H w p u
theorem StepV.ex {H H' : Hp} {v w : V} {s : Step} (h : StepV H v s w) (e : Ex H H') : StepV H' v s w := by
  cases s with
  | ix i => obtain ⟨a, vs, h1, h2, h3⟩ := h; exact ⟨a, vs, h1, e _ _ h2, h3⟩
  | key k => obtain ⟨a, vs, h1, h2, h3⟩ := h; exact ⟨a, vs, h1, e _ _ h2, h3⟩
  | fld f => obtain ⟨a, C, dx, fs, h1, h2, h3⟩ := h; exact ⟨a, C, dx, fs, h1, e _ _ h2, h3⟩
theorem PathV.ex {H H' : Hp} (e : Ex H H') : ∀ {p : List Step} {v u : V}, PathV H v p u → PathV H' v p u
  | [], _, _, h => h
  | _ :: _, _, _, ⟨w, h1, h2⟩ => ⟨w, h1.ex e, h2.ex e⟩
theorem StepV.uniq {H : Hp} {v w w' : V} {s : Step} (h : StepV H v s w) (h' : StepV H v s w') : w = w' := by
  cases s with
  | ix i => obtain ⟨a, vs, rfl, h2, h3⟩ := h; obtain ⟨a', vs', e, g2, g3⟩ := h'; cases e; rw [h2] at g2; cases g2; rw [h3] at g3; exact Option.some.inj g3
  | key k => obtain ⟨a, vs, rfl, h2, h3⟩ := h; obtain ⟨a', vs', e, g2, g3⟩ := h'; cases e; rw [h2] at g2; cases g2; rw [h3] at g3; exact Option.some.inj g3
  | fld f => obtain ⟨a, C, dx, fs, rfl, h2, h3⟩ := h; obtain ⟨a', C', dx', fs', e, g2, g3⟩ := h'; cases e; rw [h2] at g2; cases g2; rw [h3] at g3; exact Option.some.inj g3
theorem PathV.uniq {H : Hp} : ∀ {p : List Step} {v u u' : V}, PathV H v p u → PathV H v p u' → u = u'
  | [], _, _, _, h, h' => h.trans h'.symm
  | _ :: _, _, _, _, ⟨w, h1, h2⟩, ⟨w', g1, g2⟩ => by cases h1.uniq g1; exact h2.uniq g2
theorem PathV.snoc {H : Hp} {s : Step} {w : V} : ∀ {p : List Step} {v u : V}, PathV H v p u → StepV H u s w → PathV H v (p ++ [s]) w
  | [], _, _, h, h2 => ⟨w, by cases h; exact h2, rfl⟩
  | _ :: _, _, _, ⟨w1, h1, h2⟩, h3 => ⟨w1, h1, h2.snoc h3⟩
/-- one of several -/
theorem Reps.split {H : Hp} {O : Addr → Prop} : ∀ {us : List V} {ds : List D} {A : List Addr} {j : Nat} {c : D}, Reps H O us ds A → ds[j]? = some c → ∃ w X Ac Y, us[j]? = some w ∧ A = X ++ (Ac ++ Y) ∧ Rep H O w c Ac ∧
    ∀ (H' : Hp) (O' : Addr → Prop) (w' : V) (c' : D) (Ac' : List Addr), Rep H' O' w' c' Ac' → Kp H H' O O' (X ++ Y) → Reps H' O' (us.set j w') (ds.set j c') (X ++ (Ac' ++ Y))
  | _, _, _, _, _, .nil, h => by simp at h
  | _, _, _, 0, c, .cons (A := Ac) (B := B) (v := v) r s, h => by
    cases h
    exact ⟨v, [], Ac, B, rfl, rfl, r, fun H' O' w' c' Ac' r' k => (show Reps H' O' _ _ (Ac' ++ B) from .cons r' (s.keep (k.sub fun a m => m)))⟩
  | _, _, _, j + 1, c, .cons (A := A) (v := v) (vs := vs) r s, h => by
    obtain ⟨w, X, Ac, Y, h1, h2, h3, h4⟩ := s.split (j := j) (by simpa using h)
    subst h2
    refine ⟨w, A ++ X, Ac, Y, by simpa using h1, by rw [List.append_assoc], h3, fun H' O' w' c' Ac' r' k => ?_⟩
    rw [List.append_assoc]
    exact .cons (r.keep (k.sub fun a m => by simp [m])) (h4 H' O' w' c' Ac' r' (k.sub fun a m => by
      rcases List.mem_append.mp m with m | m <;> simp [m]))
theorem findIdx_zip {κ : Type} [DecidableEq κ] {k : κ} : ∀ {ks : List κ} {vs : List V} {j : Nat} {w : V}, ks.length = vs.length → ks.findIdx? (fun z => decide (z = k)) = some j → vs[j]? = some w → valV (ks.zip vs) k = some w
  | [], _, _, _, _, h, _ => by simp at h
  | _ :: _, [], _, _, e, _, _ => by simp at e
  | k' :: ks, v :: vs, j, w, e, h, hw => by
    rw [List.zip_cons_cons]
    rw [List.findIdx?_cons] at h
    by_cases q : k' = k
    · rw [if_pos (by simpa using q)] at h
      cases h
      rw [valV_pos (p := (k', v)) q]
      simpa using hw
    · rw [if_neg (by simpa using q)] at h
      obtain ⟨j', h1, rfl⟩ := Option.map_eq_some_iff.mp h
      rw [valV_neg (p := (k', v)) q]
      exact findIdx_zip (by simpa using e) h1 (by simpa using hw)
theorem findIdx_lookup {f : Str} : ∀ {nm : List Str} {vs : List V} {j : Nat} {w : V}, nm.length = vs.length → nm.findIdx? (fun z => z == f) = some j → vs[j]? = some w → (nm.zip vs).lookup f = some w
  | [], _, _, _, _, h, _ => by simp at h
  | _ :: _, [], _, _, e, _, _ => by simp at e
  | n :: nm, v :: vs, j, w, e, h, hw => by
    rw [List.zip_cons_cons, List.lookup_cons]
    rw [List.findIdx?_cons] at h
    by_cases q : n = f
    · rw [if_pos (by simpa using q)] at h
      cases h
      have : (f == n) = true := by simp [q]
      rw [this]
      simpa using hw
    · rw [if_neg (by simpa using q)] at h
      obtain ⟨j', h1, rfl⟩ := Option.map_eq_some_iff.mp h
      have : (f == n) = false := by simpa using fun z : f = n => q z.symm
      rw [this]
      exact findIdx_lookup (by simpa using e) h1 (by simpa using hw)
theorem set_self {α : Type} {l : List α} {j : Nat} {x : α} (h : l[j]? = some x) : l.set j x = l := by
  refine List.ext_getElem? fun k => ?_
  rw [List.getElem?_set]
  by_cases hk : j = k
  · subst hk
    rw [if_pos rfl, if_pos (List.getElem?_eq_some_iff.mp h).1, h]
  · rw [if_neg hk]
/-- one step into what is owned -/
theorem step_split {H : Hp} {O : Addr → Prop} {v : V} {d : D} {A : List Addr} {s : Step} {j : Nat} {c : D} (r : Rep H O v d A) (hi : d.idx s = some j) (hc : d.kids[j]? = some c) : ∃ w X Ac Y, StepV H v s w ∧ A = X ++ (Ac ++ Y) ∧ Rep H O w c Ac ∧
    ∀ (H' : Hp) (O' : Addr → Prop) (c' : D) (Ac' : List Addr), Rep H' O' w c' Ac' → Kp H H' O O' (X ++ Y) → Rep H' O' v (d.wk (d.kids.set j c')) (X ++ (Ac' ++ Y)) := by
  cases r <;> cases s <;> simp only [D.idx, reduceCtorEq] at hi
  case lstO.ix a vs ds A hH ho r i =>
    obtain ⟨w, X, Ac, Y, h1, h2, h3, h4⟩ := r.split (j := j) hc
    subst h2
    refine ⟨w, a :: X, Ac, Y, ⟨a, vs, rfl, hH, by unfold atI; rw [r.length, hi]; exact h1⟩, rfl, h3, fun H' O' c' Ac' r' k => ?_⟩
    have := h4 H' O' w c' Ac' r' (k.sub fun a m => by rcases List.mem_append.mp m with m | m <;> simp [m])
    rw [set_self h1] at this
    exact .lstO (k.ow a _ hH (by simp)).1 (k.ow a _ hH (by simp)).2 this
  case dKO.key a ks vs ds A hH ho e r k0 =>
    obtain ⟨w, X, Ac, Y, h1, h2, h3, h4⟩ := r.split (j := j) hc
    subst h2
    refine ⟨w, a :: X, Ac, Y, ⟨a, _, rfl, hH, findIdx_zip e.1 hi h1⟩, rfl, h3, fun H' O' c' Ac' r' k => ?_⟩
    have := h4 H' O' w c' Ac' r' (k.sub fun a m => by rcases List.mem_append.mp m with m | m <;> simp [m])
    rw [set_self h1] at this
    exact .dKO (k.ow a _ hH (by simp)).1 (k.ow a _ hH (by simp)).2 e this
  case insO.fld a C dx fs vs ds A hH ho e r f =>
    obtain ⟨w, X, Ac, Y, h1, h2, h3, h4⟩ := r.split (j := j) hc
    subst h2
    refine ⟨w, a :: X, Ac, Y, ⟨a, _, _, _, rfl, hH, findIdx_lookup e.1 hi h1⟩, rfl, h3, fun H' O' c' Ac' r' k => ?_⟩
    have := h4 H' O' w c' Ac' r' (k.sub fun a m => by rcases List.mem_append.mp m with m | m <;> simp [m])
    rw [set_self h1] at this
    exact .insO (k.ow a _ hH (by simp)).1 (k.ow a _ hH (by simp)).2 e this
theorem path_split {H : Hp} {O : Addr → Prop} : ∀ {p : List Step} {v : V} {d e : D} {A : List Addr}, Rep H O v d A → D.at p d = some e → ∃ u X Ac Y, PathV H v p u ∧ A = X ++ (Ac ++ Y) ∧ Rep H O u e Ac ∧
    ∀ (H' : Hp) (O' : Addr → Prop) (e' : D) (Ac' : List Addr), Rep H' O' u e' Ac' → Kp H H' O O' (X ++ Y) → ∃ d', D.put p d e' = some d' ∧ Rep H' O' v d' (X ++ (Ac' ++ Y))
  | [], v, d, e, A, r, h => by
    cases h
    exact ⟨v, [], A, [], rfl, by simp, r, fun H' O' e' Ac' r' k => ⟨e', rfl, by simpa using r'⟩⟩
  | s :: p, v, d, e, A, r, h => by
    simp only [D.at] at h
    cases hi : d.idx s with
    | none => rw [hi] at h; cases h
    | some j =>
      rw [hi] at h
      simp only at h
      cases hc : d.kids[j]? with
      | none => rw [hc] at h; cases h
      | some c =>
        rw [hc] at h
        simp only at h
        obtain ⟨w, X, Ac, Y, h1, rfl, h3, h4⟩ := step_split r hi hc
        obtain ⟨u, X2, Ac2, Y2, g1, rfl, g3, g4⟩ := path_split h3 h
        refine ⟨u, X ++ X2, Ac2, Y2 ++ Y, ⟨w, h1, g1⟩, by simp [List.append_assoc], g3, fun H' O' e' Ac' r' k => ?_⟩
        obtain ⟨c', q1, q2⟩ := g4 H' O' e' Ac' r' (k.sub fun a m => by rcases List.mem_append.mp m with m | m <;> simp [m])
        refine ⟨d.wk (d.kids.set j c'), by simp only [D.put, hi, hc, q1], ?_⟩
        have := h4 H' O' c' _ q2 (k.sub fun a m => by rcases List.mem_append.mp m with m | m <;> simp [m])
        simpa [List.append_assoc] using this
end DL
namespace DL
open PySem PySem.Spec PyProof.Rows L2 Evl PL
set_option maxHeartbeats 1000000
variable {Γ : GS}
theorem nd_mid {X A Y A' B : List Addr} (h : (X ++ (A ++ Y)).Nodup) (hs : ∀ a ∈ A', a ∈ A ∨ a ∈ B) (hn : A'.Nodup) (hB : ∀ a ∈ B, a ∉ X ++ Y) : (X ++ (A' ++ Y)).Nodup := by
  obtain ⟨h1, h2, h3⟩ := List.nodup_append.mp h
  obtain ⟨h4, h5, h6⟩ := List.nodup_append.mp h2
  refine List.nodup_append.mpr ⟨h1, List.nodup_append.mpr ⟨hn, h5, fun a m c m2 z => ?_⟩, fun a m c m2 z => ?_⟩
  · subst z
    exact (hs a m).elim (fun q => h6 a q a m2 rfl) fun q => hB a q (List.mem_append_right _ m2)
  · subst z
    rcases List.mem_append.mp m2 with q | q
    · exact (hs a q).elim (fun q => h3 a m a (List.mem_append_left _ q) rfl) fun q => hB a q (List.mem_append_left _ m)
    · exact h3 a m a (List.mem_append_right _ q) rfl
theorem flat_mem {AA : List (List Addr)} {i : Nat} {B : List Addr} {a : Addr} (h : a ∈ (AA.set i B).flatten) : a ∈ B ∨ (a ∈ (AA.set i []).flatten) := (flat_set h).symm
/-- what a slot owns is changed at one cell -/
theorem SI.modify {b : Bas} {Hb H : Hp} {σ : L2.St} {ρ : Env} {AAb AA : List (List Addr)} {B : List Addr} {i : Nat} {p : List Step} {d e : D} (s : SI Γ b H σ ρ AA) (s2 : SE Γ (Op b.O0 B) H σ ρ AA) (ev : Evo b Hb AAb H AA) (hB : ∀ a ∈ B, Hb a = none ∨ a ∈ AAb.flatten) (sb : ∀ a ∈ B, b.M a ∨ b.H0 a = none) (hB0 : ∀ a ∈ B, ¬ b.O0 a)
    (hd : ρ[i]? = some (some d)) (hat : D.at p d = some e) :
    ∃ v0 u A1, σ[i]? = some (some v0) ∧ PathV H v0 p u ∧ Rep H (Ov b.O0 AA B) u e A1 ∧ (∀ a ∈ A1, a ∈ AA.flatten) ∧ A1.Nodup ∧
    ∀ (o : HO) (a : Addr) (e' : D) (A' : List Addr), a ∈ A1 → (∀ x ∈ A', x ∈ A1 ∨ x ∈ B) → A'.Nodup → (∃ u0, H a = some u0 ∧ Plain u0) → (∀ O' : Addr → Prop, (∀ x, O' x → Ov b.O0 AA B x) → (∀ x ∈ A', O' x) → Rep (upd H a o) O' u e' A') →
      ∃ d' AA', D.put p d e' = some d' ∧ SI Γ b (upd H a o) σ (ρ.set i (some d')) AA' ∧ Evo b Hb AAb (upd H a o) AA' ∧ (∀ x ∈ AA'.flatten, x ∈ A' ∨ (x ∈ AA.flatten ∧ x ∉ A1)) ∧
        ∀ L : List Addr, (∀ x ∈ L, x ∈ A1 ∨ x ∈ B) → (∀ x ∈ L, x ∉ A') → (∀ x ∈ L, upd H a o x ≠ none) → SE Γ (Op b.O0 L) (upd H a o) σ (ρ.set i (some d')) AA' := by
  have eqO : ∀ a, (Op b.O0 B a ∨ a ∈ AA.flatten) ↔ Ov b.O0 AA B a := fun a => ⟨fun z => z.elim (fun z => z.elim (fun z => .inr (.inl z)) .inl) fun z => .inr (.inr z), fun z => z.elim (fun z => .inl (.inr z)) fun z => z.elim (fun z => .inl (.inl z)) .inr⟩
  have sr2 : SR H (Ov b.O0 AA B) σ ρ AA := s2.sr.keep ⟨fun a o h n => ⟨h, fun z => n ((eqO a).mpr z)⟩, fun a o h m => ⟨h, .inr (.inr m)⟩, fun _ _ h => h⟩
  obtain ⟨v0, A0, h1, h2, r0⟩ := sr2.get hd
  obtain ⟨u, X, A1, Y, pv, rfl, r1, rep⟩ := path_split r0 hat
  have hin : ∀ a ∈ X ++ (A1 ++ Y), a ∈ AA.flatten := fun a m => flat_get h2 m
  have nd0 := nd_at s.nd h2
  have ndo := nd_other s.nd h2
  have hl : i < AA.length := (List.getElem?_eq_some_iff.mp h2).1
  refine ⟨v0, u, A1, h1, pv, r1, fun a m => hin a (by simp [m]), (List.nodup_append.mp (List.nodup_append.mp nd0).2.1).1, fun o a e' A' ha hs hn ht0 hr => ?_⟩
  have ht : ∀ xs, H a ≠ some (.tup xs) := fun xs z => by
    obtain ⟨u0, h1, h2⟩ := ht0
    rw [z] at h1
    cases h1
    exact h2
  have hgi : Γ.ok (upd H a o) := let ⟨u0, h1, h2⟩ := ht0; Γ.up s.gi h1 h2
  have haA : a ∈ AA.flatten := hin a (by simp [ha])
  have hBn : ∀ x ∈ B, x ∉ AA.flatten := fun x m => (s2.o0 x (.inr m)).2
  have hXY : ∀ x ∈ X ++ Y, x ∉ A1 := fun x m z => by
    obtain ⟨n1, n2, n3⟩ := List.nodup_append.mp nd0
    rcases List.mem_append.mp m with m | m
    · exact n3 x m x (List.mem_append_left _ z) rfl
    · exact (List.nodup_append.mp n2).2.2 x z x m rfl
  have main : ∀ x ∈ (AA.set i (X ++ (A' ++ Y))).flatten, x ∈ A' ∨ (x ∈ AA.flatten ∧ x ∉ A1) := fun x m => by
    rcases flat_set m with m | m
    · exact .inr ⟨flat_set_nil m, fun z => ndo x (by simp [z]) m⟩
    · rcases List.mem_append.mp m with m | m
      · exact .inr ⟨hin x (by simp [m]), hXY x (by simp [m])⟩
      · rcases List.mem_append.mp m with m | m
        · exact .inl m
        · exact .inr ⟨hin x (by simp [m]), hXY x (by simp [m])⟩
  have sub : ∀ x ∈ (AA.set i (X ++ (A' ++ Y))).flatten, x ∈ AA.flatten ∨ x ∈ B := fun x m => (main x m).elim (fun m => (hs x m).imp (fun m => hin x (by simp [m])) id) fun m => .inl m.1
  have une : ∀ {x : Addr} {q : HO}, x ≠ a → H x = some q → upd H a o x = some q := fun hx h => by rw [upd_ne hx]; exact h
  have tup : ∀ x xs, H x = some (.tup xs) → upd H a o x = some (.tup xs) := fun x xs h => une (fun z => ht xs (z ▸ h)) h
  have eσ : σ = σ.set i (some v0) := (set_self h1).symm
  have ndn : (AA.set i (X ++ (A' ++ Y))).flatten.Nodup := by
    refine nd_set s.nd (nd_mid nd0 hs hn fun x m z => hBn x m (hin x (by rcases List.mem_append.mp z with z | z <;> simp [z]))) fun x m z => ?_
    rcases List.mem_append.mp m with m | m
    · exact ndo x (by simp [m]) z
    · rcases List.mem_append.mp m with m | m
      · exact (hs x m).elim (fun m => ndo x (by simp [m]) z) fun m => hBn x m (flat_set_nil z)
      · exact ndo x (by simp [m]) z
  have key : ∀ L : List Addr, (∀ x ∈ L, x ∈ A1 ∨ x ∈ B) → ∃ d', D.put p d e' = some d' ∧ SR (upd H a o) (fun x => Op b.O0 L x ∨ x ∈ (AA.set i (X ++ (A' ++ Y))).flatten) σ (ρ.set i (some d')) (AA.set i (X ++ (A' ++ Y))) := fun L hL => by
    have Osub : ∀ x, (Op b.O0 L x ∨ x ∈ (AA.set i (X ++ (A' ++ Y))).flatten) → Ov b.O0 AA B x := fun x z => by
      rcases z with (z | z) | z
      · exact .inr (.inl z)
      · exact (hL x z).elim (fun m => .inr (.inr (hin x (by simp [m])))) .inl
      · exact (sub x z).elim (fun m => .inr (.inr m)) .inl
    have inO : ∀ x ∈ X ++ (A' ++ Y), (Op b.O0 L x ∨ x ∈ (AA.set i (X ++ (A' ++ Y))).flatten) := fun x m => .inr (flat_set_in hl m)
    obtain ⟨d', hp, rd⟩ := rep (upd H a o) (fun x => Op b.O0 L x ∨ x ∈ (AA.set i (X ++ (A' ++ Y))).flatten) e' A' (hr _ Osub fun x m => inO x (by simp [m]))
      ⟨fun x q h n => ⟨une (fun z => n (.inr (.inr (z ▸ haA)))) h, fun z => n (Osub x z)⟩, fun x q h m => ⟨une (fun z => hXY x m (z ▸ ha)) h, inO x (by rcases List.mem_append.mp m with m | m <;> simp [m])⟩, tup⟩
    refine ⟨d', hp, ?_⟩
    rw [eσ]
    exact sr2.upd ⟨fun x q h n => ⟨une (fun z => n (.inr (.inr (z ▸ haA)))) h, fun z => n (Osub x z)⟩, fun x q h m => ⟨une (fun z => ndo a (by simp [ha]) (z ▸ m)) h, .inr (flat_set_self m)⟩, tup⟩ rd
  obtain ⟨d', hp, sr0⟩ := key [] fun _ m => nomatch m
  have srb : SR (upd H a o) (b.O (AA.set i (X ++ (A' ++ Y)))) σ (ρ.set i (some d')) (AA.set i (X ++ (A' ++ Y))) := sr0.keep ⟨fun x q h n => ⟨h, fun z => n (z.imp .inl id)⟩, fun x q h m => ⟨h, .inr m⟩, fun _ _ h => h⟩
  refine ⟨d', AA.set i (X ++ (A' ++ Y)), hp, ⟨srb, ndn, fun x m => (sub x m).elim (s.fr x) (sb x), s.o0, fun x q h n => ?_, s.pn, hgi⟩, ⟨fun x q h n => ⟨une (fun z => (ev.1 x q h n).2 (.inr (by rw [z]; exact haA))) (ev.1 x q h n).1, fun z => ?_⟩, fun x xs h => tup x xs (ev.2 x xs h)⟩, main, fun L hL hL2 hL3 => ?_⟩
  · refine une (fun z => ?_) (s.ex x q h n)
    rcases s.fr a haA with z2 | z2
    · exact n (z ▸ z2)
    · rw [z, z2] at h; cases h
  · rcases z with z | z
    · exact n (.inl z)
    · exact (sub x z).elim (fun m => (ev.1 x q h n).2 (.inr m)) fun m => (hB x m).elim (fun m => by rw [m] at h; cases h) fun m => n (.inr m)
  · obtain ⟨d2, hp2, srL⟩ := key L hL
    rw [hp] at hp2
    cases hp2
    refine ⟨srL, ndn, fun x z => z.elim (fun z => ⟨?_, fun m => ?_⟩) fun z => ⟨hL3 x z, fun m => ?_⟩, hgi⟩
    · have hx := s.has0 z
      by_cases q : x = a
      · rw [q, upd_same]; simp
      · rw [upd_ne q]; exact hx
    · exact (sub x m).elim (fun m => s.not0 m z) fun m => hB0 x m z
    · rcases main x m with m | m
      · exact hL2 x z m
      · exact (hL x z).elim m.2 fun q => hBn x q m.1
/-! ### places: a path into a slot -/
abbrev FP := Env → (List Step → Prop) → (XD → Prop) → Prop
def pathOk (ρ : Env) (i : Nat) (p : List Step) : Prop := ∃ d e, ρ[i]? = some (some d) ∧ D.at p d = some e
def LP (Γ : GS) (W : WX) (i : Nat) (te : TE) (fp : FP) : Prop := ∀ (O : Addr → Prop) (σ : L2.St) (ρ : Env) (H : Hp) (AA : List (List Addr)) (K : List Step → Prop) (X : XD → Prop) (Q : VK), SE Γ O H σ ρ AA → fp ρ K X →
  (∀ p v v0 H', K p → Ex H H' → σ[i]? = some (some v0) → PathV H' v0 p v → Q v H') →
  (∀ x cls dd H', X x → Ex H H' → XR H' (fun a => O a ∨ a ∈ AA.flatten) x cls dd → W cls dd σ H') → te σ H Q
def dPv (i : Nat) : FP := fun ρ K _ => pathOk ρ i [] ∧ K []
theorem lp_var {W : WX} {i : Nat} : LP Γ W i (tVar i) (dPv i) := fun O σ ρ H AA K X Q s ⟨⟨d, e, h, _⟩, k⟩ q _ => by
  obtain ⟨v, B, h1, _, _⟩ := s.sr.get h
  exact ⟨v, h1, q [] v v H k (Ex.refl H) h1 rfl⟩
def dPix (i : Nat) (f : FP) (g : FE) : FP := fun ρ K X => f ρ (fun p => g ρ (fun y => match y with
  | .int k => pathOk ρ i (p ++ [.ix k]) ∧ K (p ++ [.ix k])
  | _ => False) X) X
theorem at_snoc {s : Step} : ∀ {p : List Step} {d e : D}, D.at (p ++ [s]) d = some e → ∃ c, D.at p d = some c ∧ D.at [s] c = some e
  | [], d, e, h => ⟨d, rfl, h⟩
  | t :: p, d, e, h => by
    simp only [List.cons_append, D.at] at h ⊢
    cases hi : d.idx t with
    | none => rw [hi] at h; cases h
    | some j =>
      rw [hi] at h
      simp only at h ⊢
      cases hc : d.kids[j]? with
      | none => rw [hc] at h; cases h
      | some c =>
        rw [hc] at h
        exact at_snoc h
theorem lp_ix {W : WX} {Kf : PySem.W.Frag} {i : Nat} {vs : List Nat} {to te : TE} {f : FP} {g : FE} (h : LP Γ W i to f) (hg : LE Γ W vs te g) : LP Γ W i (tOp (rIxA Kf) to te) (dPix i f g) := by
  intro O σ ρ H AA K X Q s hk q hX
  refine h O σ ρ H AA _ X _ s hk (fun p v v0 H1 k e h0 pv => ?_) hX
  refine hg O σ ρ H1 AA _ X _ (s.ex e) k (fun y u H2 B k2 e2 n r => ?_) fun x cls dd H' hx e2 => hX x cls dd H' hx (e.trans e2)
  cases y <;> simp only at k2
  cases r
  rename_i z
  obtain ⟨⟨d, e3, hd, hat⟩, k2⟩ := k2
  obtain ⟨c, c1, c2⟩ := at_snoc hat
  obtain ⟨v0', A0, g1, g2, r0⟩ := (s.ex (e.trans e2)).sr.get hd
  rw [h0] at g1
  cases g1
  obtain ⟨u2, X2, Ac, Y2, pv2, _, rc, _⟩ := path_split r0 c1
  cases pv2.uniq (pv.ex e2)
  simp only [D.at] at c2
  cases hi : c.idx (.ix z) with
  | none => rw [hi] at c2; cases c2
  | some j =>
    rw [hi] at c2
    simp only at c2
    cases hc : c.kids[j]? with
    | none => rw [hc] at c2; cases c2
    | some c' =>
      obtain ⟨w, _, _, _, sv, _, _, _⟩ := step_split rc hi hc
      obtain ⟨a, vs2, rfl, ha, hw⟩ := sv
      exact .inl (.inl ⟨a, vs2, z, w, rfl, rfl, .inl (.inl ha), hw, q _ w v0 H2 k2 (e.trans e2) h0 (pv2.snoc ⟨a, vs2, rfl, ha, hw⟩)⟩)
/-! ### append -/
def isOwnL (ρ : Env) (i : Nat) (p : List Step) : Prop := ∃ d l, ρ[i]? = some (some d) ∧ D.at p d = some (.lst true l)
def modAt (i : Nat) (p : List Step) (op : D → (D → Prop) → Prop) (ρ : Env) (K : Env → Prop) : Prop := ∃ d e, ρ[i]? = some (some d) ∧ D.at p d = some e ∧ op e fun e' => ∀ d', D.put p d e' = some d' → K (ρ.set i (some d'))
def opApp (y : D) (e : D) (K : D → Prop) : Prop := match e with
  | .lst true l => l.length ≤ 100000 ∧ K (.lst true (l ++ [y]))
  | _ => False
def dApp (i : Nat) (f : FP) (vs : List Nat) (g : FE) : FS := fun K ρ => f ρ (fun p => isOwnL ρ i p ∧ g ρ (fun y => modAt i p (opApp y) (frzC y vs ρ) K.nx) fun x => K.xc x ρ) fun x => K.xc x ρ
theorem ownL_ty {Kf : PySem.W.Frag} {O : Addr → Prop} {σ : L2.St} {ρ : Env} {H : Hp} {AA : List (List Addr)} {i : Nat} {p : List Step} {v0 v : V} (s : SE Γ O H σ ρ AA) (h : isOwnL ρ i p) (h0 : σ[i]? = some (some v0)) (pv : PathV H v0 p v) : tyV Kf "list" v H := by
  obtain ⟨d, l, hd, hat⟩ := h
  obtain ⟨v0', A0, g1, g2, r0⟩ := s.sr.get hd
  rw [h0] at g1
  cases g1
  obtain ⟨u2, X2, Ac, Y2, pv2, _, rc, _⟩ := path_split r0 hat
  cases pv2.uniq pv
  obtain ⟨a, us, C, rfl, ha, _⟩ := rd_lst rc
  exact .inl ⟨rfl, us, .inl (.inl ha)⟩
theorem frzC_i {d : D} {vs : List Nat} {ρ : Env} {i : Nat} : ((frzC d vs ρ)[i]?).isSome = (ρ[i]?).isSome := by
  have := frzC_len (d := d) (vs := vs) (ρ := ρ)
  cases h1 : (frzC d vs ρ)[i]? <;> cases h2 : ρ[i]? <;> simp
  · rw [List.getElem?_eq_none_iff] at h1
    have := (List.getElem?_eq_some_iff.mp h2).1
    omega
  · rw [List.getElem?_eq_none_iff] at h2
    have := (List.getElem?_eq_some_iff.mp h1).1
    omega
end DL
namespace DL
open PySem PySem.Spec PyProof.Rows L2 Evl PL
set_option maxHeartbeats 1000000
variable {Γ : GS}
/-- what a slot owns is changed at the cell at the end of a path -/
theorem SI.change {b : Bas} {Hb H : Hp} {σ : L2.St} {ρ : Env} {AAb AA : List (List Addr)} {B : List Addr} {i : Nat} {p : List Step} {d e : D} {v0 u : V} (s : SI Γ b H σ ρ AA) (s2 : SE Γ (Op b.O0 B) H σ ρ AA) (ev : Evo b Hb AAb H AA) (hB : ∀ a ∈ B, Hb a = none ∨ a ∈ AAb.flatten) (hsb : ∀ a ∈ B, b.M a ∨ b.H0 a = none) (hB0 : ∀ a ∈ B, ¬ b.O0 a)
    (hd : ρ[i]? = some (some d)) (hat : D.at p d = some e) (h0 : σ[i]? = some (some v0)) (pv : PathV H v0 p u) :
    ∃ A1, Rep H (Ov b.O0 AA B) u e A1 ∧ (∀ x ∈ A1, x ∈ AA.flatten) ∧ ∀ (a : Addr) (A2 : List Addr), A1 = a :: A2 → (∃ u0, H a = some u0 ∧ Plain u0) → a ∉ A2 ∧ A2.Nodup ∧ (∀ x ∈ B, x ∉ A2) ∧ ∀ (o : HO) (e' : D) (A' : List Addr), (∀ x ∈ A', x ∈ A2 ∨ x ∈ B) → A'.Nodup →
      (∀ (H' : Hp) (O' : Addr → Prop), H' a = some o → O' a → Kp H H' (Ov b.O0 AA B) O' A' → Rep H' O' u e' (a :: A')) →
      ∃ d' AA', D.put p d e' = some d' ∧ SI Γ b (upd H a o) σ (ρ.set i (some d')) AA' ∧ Evo b Hb AAb (upd H a o) AA' ∧ (∀ x ∈ AA'.flatten, x = a ∨ x ∈ A' ∨ (x ∈ AA.flatten ∧ x ∉ A1)) ∧
        ∀ L : List Addr, (∀ x ∈ L, x ∈ A2 ∨ x ∈ B) → (∀ x ∈ L, x ∉ A') → (∀ x ∈ L, upd H a o x ≠ none) → SE Γ (Op b.O0 L) (upd H a o) σ (ρ.set i (some d')) AA' := by
  obtain ⟨v0', u', A1, g0, pv2, ru, subA, ndA, go⟩ := SI.modify s s2 ev hB hsb hB0 hd hat
  rw [h0] at g0
  cases g0
  cases pv2.uniq pv
  refine ⟨A1, ru, subA, fun a A2 hA ht0 => ?_⟩
  have ht : ∀ xs, H a ≠ some (.tup xs) := fun xs z => by
    obtain ⟨u0, h1, h2⟩ := ht0
    rw [z] at h1
    cases h1
    exact h2
  subst hA
  have nd2 := List.nodup_cons.mp ndA
  have disj : ∀ x ∈ B, x ∉ a :: A2 := fun x m z => (s2.o0 x (.inr m)).2 (subA x z)
  have oa := (ru.own a List.mem_cons_self).1
  refine ⟨nd2.1, nd2.2, fun x m z => disj x m (List.mem_cons_of_mem _ z), fun o e' A' hs hn mk => ?_⟩
  have na : a ∉ A' := fun m => (hs a m).elim nd2.1 fun m => disj a m List.mem_cons_self
  obtain ⟨d', AA', hp, s3, ev3, mm, ll⟩ := go o a e' (a :: A') List.mem_cons_self (fun x m => (List.mem_cons.mp m).elim (fun m => .inl (by rw [m]; exact List.mem_cons_self)) fun m => (hs x m).imp (fun m => List.mem_cons_of_mem _ m) id) (List.nodup_cons.mpr ⟨na, hn⟩) ht0 fun O' hO hA' =>
    mk _ O' upd_same (hA' a List.mem_cons_self) ⟨fun x q hq nq => ⟨by rw [upd_ne fun z => nq (by rw [z]; exact oa)]; exact hq, fun z => nq (hO x z)⟩, fun x q hq m => ⟨by rw [upd_ne fun z => na (by rw [← z]; exact m)]; exact hq, hA' x (List.mem_cons_of_mem _ m)⟩, fun x xs hq => by
      rw [upd_ne fun z => ht xs (by rw [← z]; exact hq)]
      exact hq⟩
  exact ⟨d', AA', hp, s3, ev3, fun x m => (mm x m).elim (fun m => (List.mem_cons.mp m).imp id .inl) fun m => .inr (.inr m), fun L h1 h2 h3 => ll L (fun x m => (h1 x m).imp (fun m => List.mem_cons_of_mem _ m) id) (fun x m z => (List.mem_cons.mp z).elim (fun z => (h1 x m).elim (fun m => nd2.1 (by rw [← z]; exact m)) fun m => disj x m (by rw [z]; exact List.mem_cons_self)) (h2 x m)) h3⟩
theorem Evo.less {b : Bas} {H H' : Hp} {AA AA1 AA' : List (List Addr)} (e : Evo b H AA1 H' AA') (sub : ∀ a ∈ AA1.flatten, a ∈ AA.flatten) : Evo b H AA H' AA' := ⟨fun x q hq nq => e.1 x q hq fun z => nq (z.imp id (sub x)), e.2⟩
theorem ls_app {pn : List Nat} {W : WX} {Kf : PySem.W.Frag} {i : Nat} {vs : List Nat} {to te : TE} {f : FP} {g : FE} (h : LP Γ W i to f) (hg : LE Γ W vs te g) : LS Γ pn W (tDrop (tBM Kf "list" rAppend to (tCons te tNil))) (dApp i f vs g) := fun b hpn σ ρ H AA K D' s k e => by
  refine h b.O0 σ ρ H AA _ _ _ s.se k (fun p v v0 H1 k e1 h0 pv => ?_) (e.exc s)
  refine ⟨ownL_ty (s.se.ex e1) k.1 h0 pv, hg b.O0 σ ρ H1 AA _ _ _ (s.exx e1).se k.2 (fun y w H2 B k2 e2 n r => ?_) ((e.evo (.ex e1)).exc (s.exx e1))⟩
  obtain ⟨AA1, s0, s1, s2, ev, sub, r1⟩ := apart (s.exx e1) e2 n r
  obtain ⟨d, e0, hd, hat, op⟩ := k2
  obtain ⟨A1, ru, _, go⟩ := SI.change s1 s2 (.ex e2) (fun a m => .inl (n.fr a m)) (fun a m => s0.sub0 (n.fr a m)) (fun a m z => s0.has0 z (n.fr a m)) hd hat h0 (pv.ex e2)
  cases e0 <;> simp only [opApp] at op
  rename_i o l
  cases o <;> simp only at op
  obtain ⟨op1, op2⟩ := op
  cases ru with
  | @lstO a us _ A2 ha oa rl =>
    obtain ⟨_, nd2, disj, go⟩ := go a A2 rfl ⟨_, ha, trivial⟩
    obtain ⟨d', AA', hp, s3, ev3, _⟩ := go (.lst (us ++ [w])) (.lst true (l ++ [y])) (A2 ++ B) (fun x m => List.mem_append.mp m) (List.nodup_append.mpr ⟨nd2, n.nd, fun x m c m2 z => by subst z; exact disj x m2 m⟩) fun H' O' ha' oa' kp =>
      .lstO ha' oa' ((rl.keep (kp.sub fun x m => List.mem_append_left _ m)).append (by
        have := Reps.cons (r1.keep (kp.sub fun x m => List.mem_append_right _ m)) .nil
        rwa [List.append_nil] at this))
    exact ⟨a, us, w, rfl, rfl, ha, Nat.lt_of_le_of_lt (by rw [rl.length]; exact op1) (by decide), e.nx σ _ _ AA' (op2 d' hp) (by rw [List.length_set, frzC_len]) s3 ((Evo.ex e1).trans (ev3.less sub))⟩
/-! ### a[k] = e -/
def putL {κ : Type} [DecidableEq κ] (ks : List κ) (l : List D) (k : κ) (y : D) : List κ × List D := match ks.findIdx? fun z => decide (z = k) with
  | some j => (ks, l.set j y)
  | none => (ks ++ [k], l ++ [y])
def opSet (k y e : D) (K : D → Prop) : Prop := match e with
  | .lst true l => ∃ z j, k = .int z ∧ ixN l.length z = some j ∧ K (.lst true (l.set j y))
  | .dK true ks l => ∃ z, k.key = some z ∧ ks.length ≤ 100000 ∧ K (.dK true (putL ks l z y).1 (putL ks l z y).2)
  | .dT true ks l => ∃ t z, k = .tup t ∧ D.keys t = some z ∧ ks.length ≤ 100000 ∧ K (.dT true (putL ks l z y).1 (putL ks l z y).2)
  | _ => False
theorem putK_zip {κ : Type} [DecidableEq κ] {k : κ} {v : V} : ∀ {ks : List κ} {vs : List V} {j : Nat}, ks.length = vs.length → ks.Nodup → ks.findIdx? (fun z => decide (z = k)) = some j → putK (ks.zip vs) k v = ks.zip (vs.set j v) := by
  intro ks vs j e nd h
  have hm : k ∈ ks := by
    obtain ⟨h1, h2, _⟩ := List.findIdx?_eq_some_iff_getElem.mp h
    have : ks[j] = k := by simpa using h2
    exact this ▸ List.getElem_mem h1
  have ha : ((ks.zip vs).any fun kv => decide (kv.1 = k)) = true := by
    obtain ⟨h1, h2, _⟩ := List.findIdx?_eq_some_iff_getElem.mp h
    refine List.any_eq_true.mpr ⟨(ks[j], vs[j]'(by omega)), ?_, by simpa using h2⟩
    rw [← List.getElem_zip (h := by rw [List.length_zip]; omega)]
    exact List.getElem_mem _
  unfold putK
  rw [if_pos ha]
  clear ha hm
  induction ks generalizing vs j with
  | nil => simp at h
  | cons k' ks ih =>
    cases vs with
    | nil => simp at e
    | cons w vs =>
      rw [List.findIdx?_cons] at h
      rw [List.zip_cons_cons, List.map_cons]
      have nd' := List.nodup_cons.mp nd
      by_cases q : k' = k
      · rw [if_pos (by simpa using q)] at h
        cases h
        rw [List.set_cons_zero, List.zip_cons_cons]
        simp only [q, if_true]
        congr 1
        refine (List.map_congr_left fun kv hkv => ?_).trans (List.map_id _)
        have : kv.1 ∈ ks := (List.of_mem_zip (a := kv.1) (b := kv.2) hkv).1
        rw [if_neg fun z => nd'.1 (by rw [q, ← z]; exact this)]
        rfl
      · rw [if_neg (by simpa using q)] at h
        obtain ⟨j', h1, rfl⟩ := Option.map_eq_some_iff.mp h
        rw [List.set_cons_succ, List.zip_cons_cons]
        simp only [q, if_false]
        congr 1
        exact ih (by simpa using e) nd'.2 h1
theorem putK_new {κ : Type} [DecidableEq κ] {k : κ} {v : V} {ks : List κ} {vs : List V} (e : ks.length = vs.length) (h : ks.findIdx? (fun z => decide (z = k)) = none) : putK (ks.zip vs) k v = (ks ++ [k]).zip (vs ++ [v]) ∧ k ∉ ks := by
  have hn : ∀ z ∈ ks, z ≠ k := by
    intro z hz
    have := List.findIdx?_eq_none_iff.mp h z hz
    simpa using this
  have ha : ((ks.zip vs).any fun kv => decide (kv.1 = k)) = false := by
    refine List.any_eq_false.mpr fun kv hkv => ?_
    have := hn kv.1 (List.of_mem_zip (a := kv.1) (b := kv.2) hkv).1
    simpa using this
  unfold putK
  rw [if_neg (by rw [ha]; exact Bool.false_ne_true), List.zip_append e]
  exact ⟨rfl, fun m => hn k m rfl⟩
def dSetI (i : Nat) (f : FP) (vs : List Nat) (g gk : FE) : FS := fun K ρ => g ρ (fun y => f ρ (fun p => gk ρ (fun k => modAt i p (opSet k y) (frzC y vs ρ) K.nx) fun x => K.xc x ρ) fun x => K.xc x ρ) fun x => K.xc x ρ
theorem zip_len {α β : Type} {l : List α} {m : List β} (h : l.length = m.length) : (l.zip m).length = l.length := by rw [List.length_zip]; omega
theorem ls_setI {pn : List Nat} {W : WX} {i : Nat} {vs ws : List Nat} {to te tk : TE} {f : FP} {g gk : FE} (h : LP Γ W i to f) (hg : LE Γ W vs te g) (hk : LE Γ W ws tk gk) : LS Γ pn W (tAsg te (L2.gSub to tk rSetA)) (dSetI i f vs g gk) := fun b hpn σ ρ H AA K D' s k e => by
  refine hg b.O0 σ ρ H AA _ _ _ s.se k (fun y w H1 B k e1 n r => ?_) (e.exc s)
  refine h b.O0 σ ρ H1 AA _ _ _ (s.exx e1).se k (fun p v v0 H2 k e2 h0 pv => ?_) ((e.evo (.ex e1)).exc (s.exx e1))
  refine hk b.O0 σ ρ H2 AA _ _ _ ((s.exx e1).exx e2).se k (fun kd kv H3 C k e3 nC rk => ?_) ((e.evo (.ex (e1.trans e2))).exc (s.exx (e1.trans e2)))
  have e13 := e1.trans (e2.trans e3)
  have r' : Rep H3 (Ox b.O0 AA vs B) w y B := r.keep (kp_ex (e2.trans e3) fun a m => (r.own a m).1)
  obtain ⟨AA1, s0, s1, s2, ev, sub, r1⟩ := apart s e13 n r'
  obtain ⟨d, e0, hd, hat, op⟩ := k
  obtain ⟨A1, ru, _, go⟩ := SI.change s1 s2 (.ex e13) (fun a m => .inl (n.fr a m)) (fun a m => s0.sub0 (n.fr a m)) (fun a m z => s0.has0 z (n.fr a m)) hd hat h0 (pv.ex e3)
  have fin : ∀ {d' H4 AA'}, SI Γ b H4 σ ((frzC y vs ρ).set i (some d')) AA' → Evo b H AA1 H4 AA' → K.nx ((frzC y vs ρ).set i (some d')) → D'.nx σ H4 := fun s3 ev3 k => e.nx σ _ _ _ k (by rw [List.length_set, frzC_len]) s3 (ev3.less sub)
  cases e0 <;> simp only [opSet] at op
  case lst o l =>
    cases o <;> simp only at op
    obtain ⟨z, j, rfl, hj, op2⟩ := op
    cases rk
    cases ru with
    | @lstO a us _ A2 ha oa rl =>
      obtain ⟨_, nd2, disj, go⟩ := go a A2 rfl ⟨_, ha, trivial⟩
      have jl := (ixN_seq hj).2.1
      obtain ⟨w0, X, Ac, Y, g1, rfl, g3, g4⟩ := rl.split (List.getElem?_eq_getElem jl)
      obtain ⟨d', AA', hp, s3, ev3, _⟩ := go (.lst (us.set j w)) (.lst true (l.set j y)) (X ++ (B ++ Y)) (fun x m => by
          rcases List.mem_append.mp m with m | m
          · exact .inl (by simp [m])
          · exact (List.mem_append.mp m).elim .inr fun m => .inl (by simp [m])) (nd_mid nd2 (fun x m => .inr m) n.nd fun x m z => disj x m (by rcases List.mem_append.mp z with z | z <;> simp [z])) fun H' O' ha' oa' kp =>
        .lstO ha' oa' (g4 H' O' w y B (r1.keep (kp.sub fun x m => by simp [m])) (kp.sub fun x m => by rcases List.mem_append.mp m with m | m <;> simp [m]))
      exact .inl ⟨a, us, z, j, rfl, rfl, ha, by rw [rl.length]; exact hj, fin s3 ev3 (op2 d' hp)⟩
  case dK o ks l =>
    cases o <;> simp only at op
    obtain ⟨z, hz, hl, op2⟩ := op
    cases rep_key rk hz
    cases ru with
    | @dKO a _ us _ A2 ha oa le rl =>
      obtain ⟨_, nd2, disj, go⟩ := go a A2 rfl ⟨_, ha, trivial⟩
      have lk := le.1
      have lz : (ks.zip us).length < sizeLine := Nat.lt_of_le_of_lt (by rw [zip_len lk]; exact hl) (by decide)
      cases hf : ks.findIdx? fun q => decide (q = z) with
      | some j =>
        have jl : j < l.length := by rw [← rl.length, ← lk]; exact (List.findIdx?_eq_some_iff_getElem.mp hf).1
        obtain ⟨w0, X, Ac, Y, g1, rfl, g3, g4⟩ := rl.split (List.getElem?_eq_getElem jl)
        have ep : putL ks l z y = (ks, l.set j y) := by unfold putL; rw [hf]
        rw [ep] at op2
        obtain ⟨d', AA', hp, s3, ev3, _⟩ := go (.dK (putK (ks.zip us) z w)) (.dK true ks (l.set j y)) (X ++ (B ++ Y)) (fun x m => by
            rcases List.mem_append.mp m with m | m
            · exact .inl (by simp [m])
            · exact (List.mem_append.mp m).elim .inr fun m => .inl (by simp [m])) (nd_mid nd2 (fun x m => .inr m) n.nd fun x m z => disj x m (by rcases List.mem_append.mp z with z | z <;> simp [z])) fun H' O' ha' oa' kp =>
          .dKO (by rw [ha', putK_zip lk le.2 hf]) oa' ⟨by rw [List.length_set]; exact lk, le.2⟩ (g4 H' O' w y B (r1.keep (kp.sub fun x m => by simp [m])) (kp.sub fun x m => by rcases List.mem_append.mp m with m | m <;> simp [m]))
        exact .inr ⟨a, _, rfl, .inl ⟨_, z, ha, rfl, lz, rfl⟩, fin s3 ev3 (op2 d' hp)⟩
      | none =>
        have ep : putL ks l z y = (ks ++ [z], l ++ [y]) := by unfold putL; rw [hf]
        obtain ⟨pk, nk⟩ := putK_new (v := w) lk hf
        rw [ep] at op2
        obtain ⟨d', AA', hp, s3, ev3, _⟩ := go (.dK (putK (ks.zip us) z w)) (.dK true (ks ++ [z]) (l ++ [y])) (A2 ++ B) (fun x m => List.mem_append.mp m) (List.nodup_append.mpr ⟨nd2, n.nd, fun x m c m2 z => by subst z; exact disj x m2 m⟩) fun H' O' ha' oa' kp =>
          .dKO (by rw [ha', pk]) oa' ⟨by simp [lk], List.nodup_append.mpr ⟨le.2, by simp, fun x m c m2 q => by
            rw [List.mem_singleton.mp m2] at q; exact nk (q ▸ m)⟩⟩ ((rl.keep (kp.sub fun x m => List.mem_append_left _ m)).append (by
            have := Reps.cons (r1.keep (kp.sub fun x m => List.mem_append_right _ m)) .nil
            rwa [List.append_nil] at this))
        exact .inr ⟨a, _, rfl, .inl ⟨_, z, ha, rfl, lz, rfl⟩, fin s3 ev3 (op2 d' hp)⟩
  case dT o ks l =>
    cases o <;> simp only at op
    obtain ⟨t, z, rfl, hz, hl, op2⟩ := op
    obtain ⟨bt, ws', rfl, hbt, r3⟩ := rd_tup rk
    have hbt2 : H3 bt = some (.tup (z.map kV)) := by rw [hbt, rep_keys r3 hz]
    cases ru with
    | @dTO a _ us _ A2 ha oa le rl =>
      obtain ⟨_, nd2, disj, go⟩ := go a A2 rfl ⟨_, ha, trivial⟩
      have lk := le.1
      have lz : (ks.zip us).length < sizeLine := Nat.lt_of_le_of_lt (by rw [zip_len lk]; exact hl) (by decide)
      cases hf : ks.findIdx? fun q => decide (q = z) with
      | some j =>
        have jl : j < l.length := by rw [← rl.length, ← lk]; exact (List.findIdx?_eq_some_iff_getElem.mp hf).1
        obtain ⟨w0, X, Ac, Y, g1, rfl, g3, g4⟩ := rl.split (List.getElem?_eq_getElem jl)
        have ep : putL ks l z y = (ks, l.set j y) := by unfold putL; rw [hf]
        rw [ep] at op2
        obtain ⟨d', AA', hp, s3, ev3, _⟩ := go (.dT (putK (ks.zip us) z w)) (.dT true ks (l.set j y)) (X ++ (B ++ Y)) (fun x m => by
            rcases List.mem_append.mp m with m | m
            · exact .inl (by simp [m])
            · exact (List.mem_append.mp m).elim .inr fun m => .inl (by simp [m])) (nd_mid nd2 (fun x m => .inr m) n.nd fun x m z => disj x m (by rcases List.mem_append.mp z with z | z <;> simp [z])) fun H' O' ha' oa' kp =>
          .dTO (by rw [ha', putK_zip lk le.2 hf]) oa' ⟨by rw [List.length_set]; exact lk, le.2⟩ (g4 H' O' w y B (r1.keep (kp.sub fun x m => by simp [m])) (kp.sub fun x m => by rcases List.mem_append.mp m with m | m <;> simp [m]))
        exact .inr ⟨a, _, rfl, .inr ⟨_, z, bt, ha, rfl, hbt2, lz, rfl⟩, fin s3 ev3 (op2 d' hp)⟩
      | none =>
        have ep : putL ks l z y = (ks ++ [z], l ++ [y]) := by unfold putL; rw [hf]
        obtain ⟨pk, nk⟩ := putK_new (v := w) lk hf
        rw [ep] at op2
        obtain ⟨d', AA', hp, s3, ev3, _⟩ := go (.dT (putK (ks.zip us) z w)) (.dT true (ks ++ [z]) (l ++ [y])) (A2 ++ B) (fun x m => List.mem_append.mp m) (List.nodup_append.mpr ⟨nd2, n.nd, fun x m c m2 z => by subst z; exact disj x m2 m⟩) fun H' O' ha' oa' kp =>
          .dTO (by rw [ha', pk]) oa' ⟨by simp [lk], List.nodup_append.mpr ⟨le.2, by simp, fun x m c m2 q => by
            rw [List.mem_singleton.mp m2] at q; exact nk (q ▸ m)⟩⟩ ((rl.keep (kp.sub fun x m => List.mem_append_left _ m)).append (by
            have := Reps.cons (r1.keep (kp.sub fun x m => List.mem_append_right _ m)) .nil
            rwa [List.append_nil] at this))
        exact .inr ⟨a, _, rfl, .inr ⟨_, z, bt, ha, rfl, hbt2, lz, rfl⟩, fin s3 ev3 (op2 d' hp)⟩
end DL
namespace DL
open PySem PySem.Spec PyProof.Rows L2 Evl PL
set_option maxHeartbeats 1000000
variable {Γ : GS}
/-! ### expressions that change what slots own -/
abbrev FX := Env → (D → Env → Prop) → (XD → Env → Prop) → Prop
def LX (Γ : GS) (pn : List Nat) (W : WX) (vs : List Nat) (te : TE) (fx : FX) : Prop := ∀ (b : Bas), b.pn = pn → ∀ (σ : L2.St) (ρ : Env) (H : Hp) (AA : List (List Addr)) (K : D → Env → Prop) (X : XD → Env → Prop) (Q : VK), SI Γ b H σ ρ AA → fx ρ K X →
  (∀ d v ρ' H' AA' B, K d ρ' → ρ'.length = ρ.length → SI Γ b H' σ ρ' AA' → SE Γ (Op b.O0 B) H' σ ρ' AA' → Evo b H AA H' AA' → Rep H' (Ox b.O0 AA' vs B) v d B → B.Nodup → (∀ a ∈ B, H a = none ∨ a ∈ AA.flatten) → Q v H') →
  (∀ x cls dd ρ' H' AA', X x ρ' → ρ'.length = ρ.length → SI Γ b H' σ ρ' AA' → Evo b H AA H' AA' → XR H' (b.O AA') x cls dd → W cls dd σ H') → te σ H Q
def dX (f : FE) : FX := fun ρ K X => f ρ (fun d => K d ρ) fun x => X x ρ
theorem lx_of {pn : List Nat} {W : WX} {vs : List Nat} {t : TE} {f : FE} (h : LE Γ W vs t f) : LX Γ pn W vs t (dX f) := fun b hpn σ ρ H AA K X Q s k q hX =>
  h b.O0 σ ρ H AA _ _ _ s.se k (fun d v H' B k ex n r => q d v ρ H' AA B k rfl (s.exx ex) (s.se.more ex n (fun a m => (r.own a m).2) s.se.has) (.ex ex) r n.nd fun a m => .inl (n.fr a m)) fun x cls dd H' hx ex r => hX x cls dd ρ H' AA hx rfl (s.exx ex) (.ex ex) r
/-- once what a result may share with is frozen -/
theorem apartX {b : Bas} {H : Hp} {σ : L2.St} {ρ : Env} {AA : List (List Addr)} {vs : List Nat} {d : D} {v : V} {B : List Addr} (s : SI Γ b H σ ρ AA) (s2 : SE Γ (Op b.O0 B) H σ ρ AA) (r : Rep H (Ox b.O0 AA vs B) v d B) :
    ∃ AA1, SI Γ b H σ (frzC d vs ρ) AA1 ∧ SE Γ (Op b.O0 B) H σ (frzC d vs ρ) AA1 ∧ Evo b H AA H AA1 ∧ (∀ a ∈ AA1.flatten, a ∈ AA.flatten) ∧ Rep H (Ov b.O0 AA1 B) v d B := by
  unfold frzC
  by_cases h : (d.clean || sepD d vs ρ) = true
  · rw [if_pos h]
    refine ⟨AA, s, s2, .refl, fun _ m => m, ?_⟩
    rcases Bool.or_eq_true _ _ ▸ h with h | h
    · exact r.clean h fun a m => .inl m
    · exact sep_ov s.sr (fun a _ o q => q) r h
  · rw [if_neg h]
    obtain ⟨AA1, t, h1, h2⟩ := s2.frzAt vs
    have sub : ∀ a ∈ AA1.flatten, a ∈ AA.flatten := fun a m => (h1 a m).1
    refine ⟨AA1, ⟨t.sr.keep ⟨fun a o h n => ⟨h, fun z => n (z.imp .inl id)⟩, fun a o h m => ⟨h, .inr m⟩, fun _ _ h => h⟩, t.nd, fun a m => s.fr a (sub a m), s.o0, s.ex, s.pn, s.gi⟩, t, ⟨fun a o h n => ⟨h, fun z => n (z.imp id (sub a))⟩, fun _ _ h => h⟩, sub, r.keep ⟨fun a o h n => ⟨h, fun z => n ?_⟩, fun a o h m => ⟨h, .inl m⟩, fun _ _ h => h⟩⟩
    rcases z with z | z | z
    · exact .inl z
    · exact .inr (.inl z)
    · exact .inr (.inr (h1 a z))
def dBindX (vs : List Nat) (f : FX) (g : FG) : FS := fun K ρ => f ρ (fun d ρ1 => g d (frzC d vs ρ1) fun ρ' => ρ'.length = ρ.length ∧ K.nx ρ') K.xc
def dDropX (f : FX) : FS := fun K ρ => f ρ (fun _ ρ1 => K.nx ρ1) K.xc
def dRetX (vs : List Nat) (f : FX) : FS := fun K ρ => f ρ (fun d ρ1 => K.rt d (frzC d vs ρ1)) K.xc
section
variable {pn : List Nat} {W : WX} {vs ts : List Nat} {t : TE} {f : FX}
theorem EN.excX {b : Bas} {n : Nat} {H : Hp} {AA : List (List Addr)} {K : DEn} {D' : Ends} {σ : L2.St} (e : EN Γ b W n H AA K D') : ∀ x cls dd ρ' H' AA', K.xc x ρ' → ρ'.length = n → SI Γ b H' σ ρ' AA' → Evo b H AA H' AA' → XR H' (b.O AA') x cls dd → W cls dd σ H' :=
  fun x cls dd ρ' H' AA' k l s v r => e.xc x cls dd σ ρ' H' AA' k l s v r
theorem ls_bindX {g : TG} {fg : FG} (h : LX Γ pn W vs t f) (hg : LG Γ ts g fg) (hd : ∀ i ∈ pn, i ∉ ts := by decide) : LS Γ pn W (tAsg t g) (dBindX vs f fg) := fun b hpn σ ρ H AA K D' s k e => by
  refine h b hpn σ ρ H AA _ _ _ s k (fun d v ρ1 H1 A1 B k l s1 s2 ev r nB fB => ?_) e.excX
  obtain ⟨AA1, s3, s4, e1, sub, r1⟩ := apartX s1 s2 r
  have hB : ∀ a ∈ B, ¬ b.O0 a := fun a m z => (fB a m).elim (s.has0 z) fun m => s.not0 m z
  have fB2 : ∀ a ∈ B, b.M a ∨ b.H0 a = none := fun a m => (fB a m).elim s.sub0 (s.fr a)
  refine hg b.O0 σ _ H1 AA1 v d B _ _ s4 r1 nB hB k fun σ' ρ' AA' k2 s5 sub2 l2 o2 => ?_
  have s6 : SI Γ b H1 σ' ρ' AA' := ⟨s5.sr, s5.nd, fun a m => (sub2 a m).elim (fun m => s1.fr a (sub a m)) (fB2 a), s.o0, s1.ex, fun i m => ((o2 i (hd i (hpn ▸ m))).1).trans (s.pn i m), s5.gi⟩
  refine e.nx σ' ρ' H1 AA' k2.2 k2.1 s6 ⟨fun a o h n => ⟨(ev.1 a o h n).1, fun z => ?_⟩, ev.2⟩
  rcases z with z | z
  · exact n (.inl z)
  · rcases sub2 a z with m | m
    · exact (ev.1 a o h n).2 (.inr (sub a m))
    · rcases fB a m with m | m
      · rw [m] at h; cases h
      · exact n (.inr m)
theorem ls_dropX (h : LX Γ pn W vs t f) : LS Γ pn W (tDrop t) (dDropX f) := fun b hpn σ ρ H AA K D' s k e =>
  h b hpn σ ρ H AA _ _ _ s k (fun d v ρ1 H1 A1 B k l s1 s2 ev r nB fB => e.nx σ ρ1 H1 A1 k l s1 ev) e.excX
theorem ls_retX (h : LX Γ pn W vs t f) : LS Γ pn W (tRet t) (dRetX vs f) := fun b hpn σ ρ H AA K D' s k e => by
  refine h b hpn σ ρ H AA _ _ _ s k (fun d v ρ1 H1 A1 B k l s1 s2 ev r nB fB => ?_) e.excX
  obtain ⟨AA1, s3, s4, e1, sub, r1⟩ := apartX s1 s2 r
  exact e.rt d v σ _ H1 AA1 B k (frzC_len.trans l) s3 (ev.trans e1) r1 nB s4 fun a m => (fB a m).elim s.sub0 (s.fr a)
end
/-! tests -/
abbrev FTX := Env → (Bool → Env → Prop) → (XD → Env → Prop) → Prop
def LTX (Γ : GS) (pn : List Nat) (W : WX) (tt : TT) (fx : FTX) : Prop := ∀ (b : Bas), b.pn = pn → ∀ (σ : L2.St) (ρ : Env) (H : Hp) (AA : List (List Addr)) (K : Bool → Env → Prop) (X : XD → Env → Prop) (Q : Bool → Hp → Prop), SI Γ b H σ ρ AA → fx ρ K X →
  (∀ c ρ' H' AA', K c ρ' → ρ'.length = ρ.length → SI Γ b H' σ ρ' AA' → Evo b H AA H' AA' → Q c H') →
  (∀ x cls dd ρ' H' AA', X x ρ' → ρ'.length = ρ.length → SI Γ b H' σ ρ' AA' → Evo b H AA H' AA' → XR H' (b.O AA') x cls dd → W cls dd σ H') → tt σ H Q
def dXT (f : FT) : FTX := fun ρ K X => f ρ (fun d => K d ρ) fun x => X x ρ
def dTestX (f : FX) : FTX := fun ρ K X => f ρ (fun d ρ1 => asBl d fun b => K b ρ1) X
def dTruX (f : FX) : FTX := fun ρ K X => f ρ (fun d ρ1 => gTru d fun b => K b ρ1) X
def dNotX (f : FTX) : FTX := fun ρ K X => f ρ (fun b ρ1 => K (!b) ρ1) X
def dAndX (f g : FTX) : FTX := fun ρ K X => f ρ (fun b ρ1 => if b = true then g ρ1 K X else K false ρ1) X
def dOrX (f g : FTX) : FTX := fun ρ K X => f ρ (fun b ρ1 => if b = true then K true ρ1 else g ρ1 K X) X
def dIfX (c : FTX) (f g : FS) : FS := fun K ρ => c ρ (fun b ρ1 => if b = true then f K ρ1 else g K ρ1) K.xc
section
variable {pn : List Nat} {W : WX} {vs : List Nat} {t : TE} {f : FX} {tt uu : TT} {ft fu : FTX}
theorem ltx_of {g : FT} (h : LT Γ W tt g) : LTX Γ pn W tt (dXT g) := fun b hpn σ ρ H AA K X Q s k q hX =>
  h b.O0 σ ρ H AA _ _ _ s.se k (fun c H' k ex => q c ρ H' AA k rfl (s.exx ex) (.ex ex)) fun x cls dd H' hx ex r => hX x cls dd ρ H' AA hx rfl (s.exx ex) (.ex ex) r
theorem ltx_test (h : LX Γ pn W vs t f) : LTX Γ pn W (tTest t) (dTestX f) := fun b hpn σ ρ H AA K X Q s k q hX =>
  h b hpn σ ρ H AA _ _ _ s k (fun d v ρ1 H1 A1 B k l s1 s2 ev r nB fB => by
    cases d <;> simp only [asBl] at k
    cases r
    exact ⟨_, rfl, q _ ρ1 H1 A1 k l s1 ev⟩) hX
theorem ltx_tru {Kf : PySem.W.Frag} (h : LX Γ pn W vs t f) : LTX Γ pn W (PL.tTru Kf t) (dTruX f) := fun b hpn σ ρ H AA K X Q s k q hX =>
  h b hpn σ ρ H AA _ _ _ s k (fun d v ρ1 H1 A1 B k l s1 s2 ev r nB fB => by
    obtain ⟨c, h1, h2⟩ := tru_rep (Kf := Kf) r k
    exact ⟨c, h1, q _ ρ1 H1 A1 h2 l s1 ev⟩) hX
theorem ltx_not (h : LTX Γ pn W tt ft) : LTX Γ pn W (tNot tt) (dNotX ft) := fun b hpn σ ρ H AA K X Q s k q hX => h b hpn σ ρ H AA _ _ _ s k (fun c ρ' H' A' k l s' ev => q _ ρ' H' A' k l s' ev) hX
theorem ltx_and (h : LTX Γ pn W tt ft) (h2 : LTX Γ pn W uu fu) : LTX Γ pn W (tAnd tt uu) (dAndX ft fu) := fun b hpn σ ρ H AA K X Q s k q hX => by
  refine h b hpn σ ρ H AA _ _ _ s k (fun c ρ' H' A' k l s' ev => ?_) hX
  cases c with
  | true => rw [if_pos rfl] at k ⊢; exact h2 b hpn σ ρ' H' A' K X Q s' k (fun c ρ2 H2 A2 k l2 s2 ev2 => q c ρ2 H2 A2 k (l2.trans l) s2 (ev.trans ev2)) fun x cls dd ρ2 H2 A2 hx l2 s2 ev2 => hX x cls dd ρ2 H2 A2 hx (l2.trans l) s2 (ev.trans ev2)
  | false => rw [if_neg Bool.false_ne_true] at k ⊢; exact q _ ρ' H' A' k l s' ev
theorem ltx_or (h : LTX Γ pn W tt ft) (h2 : LTX Γ pn W uu fu) : LTX Γ pn W (tOr tt uu) (dOrX ft fu) := fun b hpn σ ρ H AA K X Q s k q hX => by
  refine h b hpn σ ρ H AA _ _ _ s k (fun c ρ' H' A' k l s' ev => ?_) hX
  cases c with
  | false => rw [if_neg Bool.false_ne_true] at k ⊢; exact h2 b hpn σ ρ' H' A' K X Q s' k (fun c ρ2 H2 A2 k l2 s2 ev2 => q c ρ2 H2 A2 k (l2.trans l) s2 (ev.trans ev2)) fun x cls dd ρ2 H2 A2 hx l2 s2 ev2 => hX x cls dd ρ2 H2 A2 hx (l2.trans l) s2 (ev.trans ev2)
  | true => rw [if_pos rfl] at k ⊢; exact q _ ρ' H' A' k l s' ev
theorem ls_ifX {u w : TS} {g1 g2 : FS} (hc : LTX Γ pn W tt ft) (h1 : LS Γ pn W u g1) (h2 : LS Γ pn W w g2) : LS Γ pn W (tIfS tt u w) (dIfX ft g1 g2) := fun b hpn σ ρ H AA K D' s k e => by
  refine hc b hpn σ ρ H AA _ _ _ s k (fun c ρ' H' A' k l s' ev => ?_) e.excX
  have e' := e.evo ev
  rw [← l] at e'
  cases c with
  | true => rw [if_pos rfl] at k ⊢; exact h1 b hpn σ ρ' H' A' K D' s' k e'
  | false => rw [if_neg Bool.false_ne_true] at k ⊢; exact h2 b hpn σ ρ' H' A' K D' s' k e'
end
/-! pop -/
/-- what is left, what is popped -/
def opPop (k : Option Int) (e : D) (K : D → D → Prop) : Prop := match e with
  | .lst true l => match k with
    | none => ∃ y, l[l.length - 1]? = some y ∧ K (.lst true l.dropLast) y
    | some z => ∃ j y, -(2 ^ 62) ≤ z ∧ z < 2 ^ 62 ∧ ixN l.length z = some j ∧ l[j]? = some y ∧ K (.lst true (l.eraseIdx j)) y
  | _ => False
def modAt2 (i : Nat) (p : List Step) (op : D → (D → D → Prop) → Prop) (ρ : Env) (K : D → Env → Prop) : Prop := ∃ d e, ρ[i]? = some (some d) ∧ D.at p d = some e ∧ op e fun e' y => ∀ d', D.put p d e' = some d' → K y (ρ.set i (some d'))
def dPop (i : Nat) (f : FP) : FX := fun ρ K X => f ρ (fun p => modAt2 i p (opPop none) ρ K) fun x => X x ρ
def dPopAt (i : Nat) (f : FP) (g : FE) : FX := fun ρ K X => f ρ (fun p => isOwnL ρ i p ∧ g ρ (fun z => ∃ k, z = .int k ∧ modAt2 i p (opPop (some k)) ρ K) fun x => X x ρ) fun x => X x ρ
theorem Reps.erase {H : Hp} {O : Addr → Prop} : ∀ {us : List V} {ds : List D} {A : List Addr} {j : Nat} {c : D}, Reps H O us ds A → ds[j]? = some c → ∃ w X Ac Y, us[j]? = some w ∧ A = X ++ (Ac ++ Y) ∧ Rep H O w c Ac ∧ Reps H O (us.eraseIdx j) (ds.eraseIdx j) (X ++ Y)
  | _, _, _, _, _, .nil, h => by simp at h
  | _, _, _, 0, c, .cons (A := Ac) (B := B) (v := v) r s, h => by
    cases h
    exact ⟨v, [], Ac, B, rfl, rfl, r, s⟩
  | _, _, _, j + 1, c, .cons (A := A) r s, h => by
    obtain ⟨w, X, Ac, Y, h1, rfl, h3, h4⟩ := s.erase (j := j) (by simpa using h)
    refine ⟨w, A ++ X, Ac, Y, by simpa using h1, by rw [List.append_assoc], h3, ?_⟩
    rw [List.append_assoc]
    exact .cons r h4
theorem dropLast_erase {α : Type} : ∀ l : List α, l.dropLast = l.eraseIdx (l.length - 1)
  | [] => rfl
  | [_] => rfl
  | a :: b :: l => by
    rw [List.dropLast_cons₂, dropLast_erase (b :: l)]
    simp
theorem pop_core {b : Bas} {H1 : Hp} {σ : L2.St} {ρ : Env} {AA : List (List Addr)} {i : Nat} {p : List Step} {d : D} {l : List D} {v0 u : V} {j : Nat} {y : D} (s : SI Γ b H1 σ ρ AA) (hd : ρ[i]? = some (some d)) (hat : D.at p d = some (.lst true l)) (h0 : σ[i]? = some (some v0)) (pv : PathV H1 v0 p u) (hy : l[j]? = some y) :
    ∃ a us w B, u = .ref a ∧ H1 a = some (.lst us) ∧ us.length = l.length ∧ us[j]? = some w ∧ ∃ d' AA', D.put p d (.lst true (l.eraseIdx j)) = some d' ∧ SI Γ b (upd H1 a (.lst (us.eraseIdx j))) σ (ρ.set i (some d')) AA' ∧ Evo b H1 AA (upd H1 a (.lst (us.eraseIdx j))) AA' ∧
      SE Γ (Op b.O0 B) (upd H1 a (.lst (us.eraseIdx j))) σ (ρ.set i (some d')) AA' ∧ Rep (upd H1 a (.lst (us.eraseIdx j))) (Ov b.O0 AA' B) w y B ∧ B.Nodup ∧ (∀ a ∈ B, a ∈ AA.flatten) := by
  have s2 : SE Γ (Op b.O0 []) H1 σ ρ AA := s.se.congr fun a => by simp [Op]
  obtain ⟨A1, ru, subA, go⟩ := SI.change (B := []) s s2 (.refl) (fun a m => nomatch m) (fun a m => nomatch m) (fun a m => nomatch m) hd hat h0 pv
  cases ru with
  | @lstO a us _ A2 ha oa rl =>
    obtain ⟨w, X, Ac, Y, h1, rfl, h3, h4⟩ := rl.erase hy
    obtain ⟨na2, nd2, disj, go⟩ := go a _ rfl ⟨_, ha, trivial⟩
    obtain ⟨n1, n2, n3⟩ := List.nodup_append.mp nd2
    obtain ⟨n4, n5, n6⟩ := List.nodup_append.mp n2
    have nXY : (X ++ Y).Nodup := List.nodup_append.mpr ⟨n1, n5, fun x m c m2 z => n3 x m c (List.mem_append_right _ m2) z⟩
    have dXY : ∀ x ∈ Ac, x ∉ X ++ Y := fun x m z => (List.mem_append.mp z).elim (fun z => n3 x z x (List.mem_append_left _ m) rfl) fun z => n6 x m x z rfl
    obtain ⟨d', AA', hp, s3, ev3, mm, ll⟩ := go (.lst (us.eraseIdx j)) (.lst true (l.eraseIdx j)) (X ++ Y) (fun x m => .inl (by rcases List.mem_append.mp m with m | m <;> simp [m])) nXY fun H' O' ha' oa' kp => .lstO ha' oa' (h4.keep kp)
    have na : a ∉ Ac := fun m => na2 (by simp [m])
    refine ⟨a, us, w, Ac, rfl, ha, rl.length, h1, d', AA', hp, s3, ev3, ll Ac (fun x m => .inl (by simp [m])) dXY fun x m => ?_, h3.keep ⟨fun x q hq nq => ⟨?_, fun z => nq ?_⟩, fun x q hq m => ⟨?_, .inl m⟩, fun x xs hq => ?_⟩, n4, fun x m => subA x (by simp [m])⟩
    · rw [upd_ne fun z => na (by rw [← z]; exact m)]
      exact (h3.own x m).2
    · rw [upd_ne fun z => nq (by rw [z]; exact oa)]
      exact hq
    · rcases z with z | z | z
      · exact .inr (.inr (subA x (by simp [z])))
      · exact .inr (.inl z)
      · rcases mm x z with m | m | m
        · rw [m]; exact oa
        · exact .inr (.inr (subA x (by rcases List.mem_append.mp m with m | m <;> simp [m])))
        · exact .inr (.inr m.1)
    · rw [upd_ne fun z => na (by rw [← z]; exact m)]
      exact hq
    · rw [upd_ne fun z => by rw [z, ha] at hq; cases hq]
      exact hq
theorem pop_rep {b : Bas} {H' : Hp} {AA' : List (List Addr)} {w : V} {y : D} {B : List Addr} (r : Rep H' (Ov b.O0 AA' B) w y B) : Rep H' (Ox b.O0 AA' [] B) w y B :=
  r.keep ⟨fun a o h n => ⟨h, fun z => n (z.imp id fun z => z.imp id fun z => z.1)⟩, fun a o h m => ⟨h, .inl m⟩, fun _ _ h => h⟩
theorem lx_pop {pn : List Nat} {W : WX} {Kf : PySem.W.Frag} {i : Nat} {to : TE} {f : FP} (h : LP Γ W i to f) : LX Γ pn W [] (tBM0 Kf "list" rPop to) (dPop i f) := fun b hpn σ ρ H AA K X Q s k q hX => by
  refine h b.O0 σ ρ H AA _ _ _ s.se k (fun p v v0 H1 k e1 h0 pv => ?_) fun x cls dd H' hx ex r => hX x cls dd ρ H' AA hx rfl (s.exx ex) (.ex ex) r
  obtain ⟨d, e0, hd, hat, op⟩ := k
  cases e0 <;> simp only [opPop] at op
  rename_i o l
  cases o <;> simp only at op
  obtain ⟨y, hy, op2⟩ := op
  refine ⟨ownL_ty (s.se.ex e1) ⟨d, l, hd, hat⟩ h0 pv, ?_⟩
  obtain ⟨a, us, w, B, rfl, ha, hl, hw, d', AA', hp, s3, ev3, s4, r4, nB, sB⟩ := pop_core (s.exx e1) hd hat h0 pv hy
  rw [dropLast_erase] at op2
  refine ⟨a, us, w, rfl, rfl, ha, by rw [hl]; exact hw, ?_⟩
  rw [dropLast_erase, hl]
  exact q y w _ _ AA' B (op2 d' hp) (by simp) s3 s4 ((Evo.ex e1).trans ev3) (pop_rep r4) nB fun x m => .inr (sB x m)
theorem lx_popAt {pn : List Nat} {W : WX} {Kf : PySem.W.Frag} {i : Nat} {vs : List Nat} {to te : TE} {f : FP} {g : FE} (h : LP Γ W i to f) (hg : LE Γ W vs te g) : LX Γ pn W [] (tBM Kf "list" rPopAt to (tCons te tNil)) (dPopAt i f g) := fun b hpn σ ρ H AA K X Q s k q hX => by
  refine h b.O0 σ ρ H AA _ _ _ s.se k (fun p v v0 H1 k e1 h0 pv => ?_) fun x cls dd H' hx ex r => hX x cls dd ρ H' AA hx rfl (s.exx ex) (.ex ex) r
  refine ⟨ownL_ty (s.se.ex e1) k.1 h0 pv, hg b.O0 σ ρ H1 AA _ _ _ (s.exx e1).se k.2 (fun z w2 H2 C k2 e2 nC rz => ?_) fun x cls dd H' hx ex r => hX x cls dd ρ H' AA hx rfl (s.exx (e1.trans ex)) (.ex (e1.trans ex)) r⟩
  obtain ⟨z, rfl, d, e0, hd, hat, op⟩ := k2
  cases rz
  cases e0 <;> simp only [opPop] at op
  rename_i o l
  cases o <;> simp only at op
  obtain ⟨j, y, z1, z2, hj, hy, op2⟩ := op
  have e12 := e1.trans e2
  obtain ⟨a, us, w, B, rfl, ha, hl, hw, d', AA', hp, s3, ev3, s4, r4, nB, sB⟩ := pop_core (s.exx e12) hd hat h0 (pv.ex e2) hy
  exact ⟨a, us, z, j, w, rfl, rfl, ha, by omega, by omega, by rw [hl]; exact (ixN_seq hj).1, hw, q y w _ _ AA' B (op2 d' hp) (by simp) s3 s4 ((Evo.ex e12).trans ev3) (pop_rep r4) nB fun x m => .inr (sB x m)⟩
/-- append of such -/
def dAppX (i : Nat) (vs : List Nat) (g : FX) : FS := fun K ρ => isOwnL ρ i [] ∧ g ρ (fun y ρ1 => modAt i [] (opApp y) (frzC y vs ρ1) K.nx) K.xc
theorem ls_appX {pn : List Nat} {W : WX} {Kf : PySem.W.Frag} {i : Nat} {vs : List Nat} {te : TE} {g : FX} (hg : LX Γ pn W vs te g) : LS Γ pn W (tDrop (tBM Kf "list" rAppend (tVar i) (tCons te tNil))) (dAppX i vs g) := fun b hpn σ ρ H AA K D' s k e => by
  obtain ⟨⟨d0, l0, hd0, ha0⟩, k⟩ := k
  obtain ⟨v0, A0, h0, _, _⟩ := s.sr.get hd0
  refine ⟨v0, h0, ownL_ty (p := []) s.se ⟨d0, l0, hd0, ha0⟩ h0 rfl, hg b hpn σ ρ H AA _ _ _ s k (fun y w ρ1 H2 A1 B k2 l2 s1 s2 ev r nB fB => ?_) e.excX⟩
  obtain ⟨AA1, s3, s4, e1, sub, r1⟩ := apartX s1 s2 r
  obtain ⟨d, e0, hd, hat, op⟩ := k2
  obtain ⟨A1', ru, _, go⟩ := SI.change s3 s4 (ev.trans e1) fB (fun a m => (fB a m).elim s.sub0 (s.fr a)) (fun a m z => (fB a m).elim (s.has0 z) fun m => s.not0 m z) hd hat h0 rfl
  cases e0 <;> simp only [opApp] at op
  rename_i o l
  cases o <;> simp only at op
  obtain ⟨op1, op2⟩ := op
  cases ru with
  | @lstO a us _ A2 ha oa rl =>
    obtain ⟨_, nd2, disj, go⟩ := go a A2 rfl ⟨_, ha, trivial⟩
    obtain ⟨d', AA', hp, s5, ev3, _⟩ := go (.lst (us ++ [w])) (.lst true (l ++ [y])) (A2 ++ B) (fun x m => List.mem_append.mp m) (List.nodup_append.mpr ⟨nd2, nB, fun x m c m2 z => by subst z; exact disj x m2 m⟩) fun H' O' ha' oa' kp =>
      .lstO ha' oa' ((rl.keep (kp.sub fun x m => List.mem_append_left _ m)).append (by
        have := Reps.cons (r1.keep (kp.sub fun x m => List.mem_append_right _ m)) .nil
        rwa [List.append_nil] at this))
    exact ⟨a, us, w, rfl, rfl, ha, Nat.lt_of_le_of_lt (by rw [rl.length]; exact op1) (by decide), e.nx σ _ _ AA' (op2 d' hp) (by rw [List.length_set, frzC_len, l2]) s5 ev3⟩
end DL
namespace DL
open PySem PySem.Spec PyProof.Rows L2 Evl PL
set_option maxHeartbeats 1000000
variable {Γ : GS}
/-! ### defs that change some of their arguments (ms: which) -/
/-- the slots ms of a state -/
def pickV (ms : List Nat) (σ : L2.St) : L2.St := ms.map fun i => (σ[i]?).join
def pickA (ms : List Nat) (AA : List (List Addr)) : List (List Addr) := ms.map fun i => (AA[i]?).getD []
theorem SR.pick {H : Hp} {O : Addr → Prop} {σ : L2.St} {ρ : Env} {AA : List (List Addr)} (s : SR H O σ ρ AA) : ∀ ms : List Nat, SR H O (pickV ms σ) (outs ms ρ) (pickA ms AA)
  | [] => .nil
  | i :: ms => by
    have ih := s.pick ms
    show SR H O ((σ[i]?).join :: _) ((ρ[i]?).join :: _) ((AA[i]?).getD [] :: _)
    cases hρ : ρ[i]? with
    | none =>
      have hl := s.len
      rw [List.getElem?_eq_none_iff] at hρ
      rw [show AA[i]? = none from List.getElem?_eq_none_iff.mpr (by omega)]
      exact .no ih
    | some o =>
      cases o with
      | none =>
        have : AA.set i [] = AA := s.dead fun d q => by rw [hρ] at q; cases q
        have hl := s.len
        have hi : i < AA.length := by have := (List.getElem?_eq_some_iff.mp hρ).1; omega
        have e : AA[i]? = some [] := by rw [← this, List.getElem?_set_self hi]
        rw [e]
        exact .no ih
      | some d =>
        obtain ⟨v, B, h1, h2, r⟩ := s.get hρ
        rw [h1, h2]
        exact .so r ih
theorem pickA_mem {AA : List (List Addr)} {a : Addr} : ∀ {ms : List Nat}, a ∈ (pickA ms AA).flatten ↔ Own AA ms a
  | [] => ⟨fun m => by simp [pickA] at m, fun ⟨_, _, h, _⟩ => nomatch h⟩
  | i :: ms => by
    show a ∈ ((AA[i]?).getD [] :: pickA ms AA).flatten ↔ _
    rw [List.flatten_cons, List.mem_append, pickA_mem]
    constructor
    · rintro (h | ⟨j, A, h1, h2, h3⟩)
      · cases e : AA[i]? with
        | none => rw [e] at h; exact nomatch h
        | some A => rw [e] at h; exact ⟨i, A, List.mem_cons_self, e, h⟩
      · exact ⟨j, A, List.mem_cons_of_mem _ h1, h2, h3⟩
    · rintro ⟨j, A, h1, h2, h3⟩
      rcases List.mem_cons.mp h1 with e | h1
      · subst e
        rw [h2]
        exact .inl h3
      · exact .inr ⟨j, A, h1, h2, h3⟩
theorem pickA_nd {AA : List (List Addr)} (nd : AA.flatten.Nodup) : ∀ {ms : List Nat}, ms.Nodup → (pickA ms AA).flatten.Nodup
  | [], _ => .nil
  | i :: ms, h => by
    obtain ⟨h1, h2⟩ := List.nodup_cons.mp h
    show ((AA[i]?).getD [] :: pickA ms AA).flatten.Nodup
    rw [List.flatten_cons]
    refine List.nodup_append.mpr ⟨?_, pickA_nd nd h2, fun a m c m2 z => ?_⟩
    · cases e : AA[i]? with
      | none => exact .nil
      | some A => exact nd_at nd e
    · subst z
      obtain ⟨j, A, g1, g2, g3⟩ := pickA_mem.mp m2
      cases e : AA[i]? with
      | none => rw [e] at m; exact nomatch m
      | some A' =>
        rw [e] at m
        exact h1 (nd_uniq nd e g2 m g3 ▸ g1)
theorem own_flat {AA : List (List Addr)} {vs : List Nat} {a : Addr} (h : Own AA vs a) : a ∈ AA.flatten := let ⟨_, _, _, h2, h3⟩ := h; flat_get h2 h3
def spM (Γ : GS) (ms : List Nat) (F : DF) : Sp := fun vs H Q E => ∃ (O : Addr → Prop) (ds : List D) (AA : List (List Addr)) (K : D → Env → Prop) (X : XD → Env → Prop), SE Γ O H (vs.map some) (ds.map some) AA ∧ (∀ i ∈ ms, i < vs.length) ∧ F ds K X ∧
  (∀ d v H' ρo AA' B, K d ρo → (∀ a o, H a = some o → a ∉ AA.flatten → H' a = some o) → SE Γ (Op O B) H' (pickV ms (vs.map some)) ρo AA' → Rep H' (Ov O AA' B) v d B → B.Nodup → (∀ a, a ∈ B ∨ a ∈ AA'.flatten → a ∈ AA.flatten ∨ H a = none) → Q v H') ∧
  (∀ x cls dd H' ρo AA', X x ρo → (∀ a o, H a = some o → a ∉ AA.flatten → H' a = some o) → SE Γ O H' (pickV ms (vs.map some)) ρo AA' → (∀ a, a ∈ AA'.flatten → a ∈ AA.flatten ∨ H a = none) → XR H' (fun a => O a ∨ a ∈ AA'.flatten) x cls dd → E cls dd H')
theorem SR.tail {H : Hp} {O : Addr → Prop} : ∀ {σ ρ AA}, SR H O σ ρ AA → ∀ k : Nat, SR H O (σ ++ List.replicate k none) (ρ ++ List.replicate k none) (AA ++ List.replicate k [])
  | _, _, _, .nil, k => by
    simp only [List.nil_append]
    induction k with
    | zero => exact .nil
    | succ k ih => exact .no ih
  | _, _, _, .no s, k => .no (s.tail k)
  | _, _, _, .so r s, k => .so r (s.tail k)
theorem spM_body {fs : FS} {ms : List Nat} {k : Nat} {ts : TS} {vs : List V} {H : Hp} {Q : VK} {E : XK} (hms : ms.Nodup) (h : LS Γ ms (WE E) ts fs) (q : spM Γ ms (bodyF fs ms k) vs H Q E) : ts { nx := fun _ H' => Q .non H', rt := Q } (vs.map some ++ List.replicate k none) H := by
  obtain ⟨O, ds, AA, K, X, s, hlt, hF, hQ, hX⟩ := q
  have fl : (AA ++ List.replicate k ([] : List Addr)).flatten = AA.flatten := by rw [List.flatten_append, flat_rep, List.append_nil]
  have s0 : SI Γ ⟨H, O, fun a => a ∈ AA.flatten, vs.map some ++ List.replicate k none, ms⟩ H (vs.map some ++ List.replicate k none) (ds.map some ++ List.replicate k none) (AA ++ List.replicate k []) := by
    refine ⟨(s.sr.tail k).keep ⟨fun a o h n => ⟨h, fun z => n (z.imp id fun m => by rw [fl] at m; exact m)⟩, fun a o h m => ⟨h, .inr m⟩, fun _ _ h => h⟩, by rw [fl]; exact s.nd, fun a m => .inl (by rw [fl] at m; exact m), fun a z => s.o0 a z, fun a o h _ => h, fun _ _ => rfl, s.gi⟩
  have pins : ∀ {σ' : L2.St}, (∀ i ∈ ms, σ'[i]? = (vs.map some ++ List.replicate k none)[i]?) → pickV ms σ' = pickV ms (vs.map some) := fun h => by
    unfold pickV
    refine List.map_congr_left fun i hi => ?_
    rw [h i hi, List.getElem?_append_left (by rw [List.length_map]; exact hlt i hi)]
  have post : ∀ {B : List Addr} {H' σ' ρ' AA'}, SE Γ (Op O B) H' σ' ρ' AA' → (∀ i ∈ ms, σ'[i]? = (vs.map some ++ List.replicate k none)[i]?) → SE Γ (Op O B) H' (pickV ms (vs.map some)) (outs ms ρ') (pickA ms AA') := fun {B H' σ' ρ' AA'} t hp => by
    rw [← pins hp]
    exact ⟨(t.sr.pick ms).keep ⟨fun a o h n => ⟨h, fun z => n (z.imp id fun m => own_flat (pickA_mem.mp m))⟩, fun a o h m => ⟨h, .inr m⟩, fun _ _ h => h⟩, pickA_nd t.nd hms, fun a z => ⟨(t.o0 a z).1, fun m => (t.o0 a z).2 (own_flat (pickA_mem.mp m))⟩, t.gi⟩
  refine h _ rfl _ _ H _ _ _ s0 hF ⟨fun σ' ρ' H' AA' kk l s' v => ?_, fun d v σ' ρ' H' AA' B kk l s' vv rr nd t fr => ?_, fun x cls dd σ' ρ' H' AA' kk l s' v rr => ?_, fun _ _ _ _ z => z.elim, fun _ _ _ _ z => z.elim⟩
  · have t : SE Γ (Op O []) H' σ' ρ' AA' := s'.se.congr fun a => by simp [Op]
    exact hQ .non .non H' _ (pickA ms AA') [] kk (fun a o h n => s'.ex a o h n) (post t s'.pn) .non .nil fun a m => m.elim (fun m => nomatch m) fun m => (s'.fr a (own_flat (pickA_mem.mp m))).imp id id
  · exact hQ d v H' _ (pickA ms AA') B kk (fun a o h n => s'.ex a o h n) (post t s'.pn) (rr.keep ⟨fun a o h n => ⟨h, fun z => n (z.imp id fun z => z.imp id fun m => own_flat (pickA_mem.mp m))⟩, fun a o h m => ⟨h, .inl m⟩, fun _ _ h => h⟩) nd fun a m => m.elim (fun m => fr a m) fun m => s'.fr a (own_flat (pickA_mem.mp m))
  · have t : SE Γ (Op O []) H' σ' ρ' AA' := s'.se.congr fun a => by simp [Op]
    exact hX x cls dd H' _ (pickA ms AA') kk (fun a o h n => s'.ex a o h n) ((post t s'.pn).congr fun a => by simp [Op]) (fun a m => s'.fr a (own_flat (pickA_mem.mp m))) (xr_less rr fun a z => z.imp id fun m => own_flat (pickA_mem.mp m))
/-! a new instance -/
/-- C(..): its __init__ begins with nothing -/
def dMake (vs : List Nat) (C : Addr) (F : DF) (t : FA) : FE := fun ρ K X => t ρ (fun ds => F (.ins true C [] [] :: D.frzs ds) (fun d ρo => d = .non ∧ ∃ z, ρo = [some z] ∧ K z) fun x _ => okX vs x ∧ X x) X
theorem le_make {E : XK} {vs : List Nat} {C : Addr} {F : DF} {t : TA} {f : FA} (h : LA Γ (WE E) vs t f) : LE Γ (WE E) vs (tMake C (spM Γ [0] F) [] E t) (dMake vs C F f) := by
  intro O σ ρ H AA K X Q s hk q hX
  refine h O σ ρ H AA _ X _ s hk (fun ds us H1 B k e n r => ?_) hX
  intro x dx hx hdx hne
  have rz := frzs_ox (vs := vs) s n r
  have e2 : Ex H1 (upd (upd H1 dx (.own x)) x (.ins C dx [])) := fun a o h => by rw [upd_ne (ne_of_none h hx), upd_ne (ne_of_none h hdx)]; exact h
  have hx2 : upd (upd H1 dx (.own x)) x (.ins C dx []) x = some (.ins C dx []) := upd_same
  have gen : ∀ {us : List V} {ds : List D} {A : List Addr}, Reps (upd (upd H1 dx (.own x)) x (.ins C dx [])) (fun a => Ox O AA vs [] a ∨ a ∈ [x]) us ds A → A = [] → SR (upd (upd H1 dx (.own x)) x (.ins C dx [])) (fun a => Ox O AA vs [] a ∨ a ∈ [x]) (us.map some) (ds.map some) (List.replicate us.length []) := by
    intro us
    induction us with
    | nil => intro ds A r _; cases r; exact .nil
    | cons u us ih =>
      intro ds A r e
      cases r with
      | cons r t =>
        obtain ⟨rfl, rfl⟩ := List.append_eq_nil_iff.mp e
        exact .so r (ih t rfl)
  have r2 : Reps (upd (upd H1 dx (.own x)) x (.ins C dx [])) (fun a => Ox O AA vs [] a ∨ a ∈ [x]) us (D.frzs ds) [] := rz.keep ⟨fun a o h nn => ⟨e2 a o h, fun z => z.elim nn fun m => by rw [List.mem_singleton.mp m, hx] at h; cases h⟩, fun _ _ _ m => (nomatch m), fun a o h => e2 a _ h⟩
  have fl : ([x] :: List.replicate us.length ([] : List Addr)).flatten = [x] := by rw [List.flatten_cons, flat_rep, List.append_nil]
  refine ⟨Ox O AA vs [], .ins true C [] [] :: D.frzs ds, [x] :: List.replicate us.length [], _, _, ⟨?_, by rw [fl]; simp, fun a z => ⟨fun q => ox_has (s.ex e) a z (ex_none e2 q), fun m => ?_⟩, Γ.ex (s.ex e).gi e2⟩, fun i hi => ?_, k, fun d v H' ρo AA' B' kk fr t rr nd cond => ?_, fun xx cls dd H' ρo AA' kk fr t cond rr => ?_⟩
  · rw [fl]
    exact .so (.insO (dx := dx) (vs := []) (by simpa using hx2) (.inr (by simp)) ⟨rfl, .nil⟩ .nil) (by rw [List.append_nil]; exact gen r2 rfl)
  · rw [fl, List.mem_singleton] at m
    subst m
    exact ox_has (s.ex e) a z hx
  · rw [List.mem_singleton.mp hi]; simp
  · obtain ⟨rfl, z, rfl, kk⟩ := kk
    cases rr
    refine ⟨rfl, ?_⟩
    have ts := t.sr
    have hpk : pickV [0] ((V.ref x :: (us ++ [])).map some) = [some (.ref x)] := rfl
    rw [hpk] at ts
    cases ts with
    | @so _ _ Bx _ _ _ rx s' =>
      cases s'
      have eB : [Bx].flatten = Bx := by simp
      have exx : Ex H1 H' := fun a o h => fr a o (e2 a o h) (by rw [fl, List.mem_singleton]; exact ne_of_none h hx)
      refine q z (.ref x) H' Bx kk (e.trans exx) ⟨fun a m => ?_, by have := t.nd; rwa [eB] at this⟩ (rx.keep ⟨fun a o h nn => ⟨h, fun y => nn ?_⟩, fun a o h m => ⟨h, .inl m⟩, fun _ _ h => h⟩)
      · rcases cond a (.inr (by rw [eB]; exact m)) with z | z
        · rw [fl, List.mem_singleton] at z
          rw [z]
          exact ex_none e hx
        · exact ex_none (e.trans e2) z
      · rcases y with y | y
        · exact .inr (by rw [eB]; exact y)
        · exact .inl (.inl (.inr y))
  · have exx : Ex H1 H' := fun a o h => fr a o (e2 a o h) (by rw [fl, List.mem_singleton]; exact ne_of_none h hx)
    exact hX xx cls dd H' kk.2 (e.trans exx) (xr_ok (s.ex (e.trans exx)) kk.1 (xr_less rr fun a z => .inl z))
end DL
namespace DL
open PySem PySem.Spec PyProof.Rows L2 Evl PL
set_option maxHeartbeats 1000000
variable {Γ : GS}
/-! ### self.f = e -/
def putN (nm : List Str) (l : List D) (f : Str) (y : D) : List Str × List D := match nm.findIdx? fun z => z == f with
  | some j => (nm, l.set j y)
  | none => (nm ++ [f], l ++ [y])
def opFld (C : Addr) (f : Str) (y e : D) (K : D → Prop) : Prop := match e with
  | .ins true C' nm l => C' = C ∧ nm.length < 900 ∧ K (.ins true C (putN nm l f y).1 (putN nm l f y).2)
  | _ => False
def dSetF (i : Nat) (fp : FP) (C : Addr) (f : Str) (vs : List Nat) (g : FE) : FS := fun K ρ => g ρ (fun y => fp ρ (fun p => modAt i p (opFld C f y) (frzC y vs ρ) K.nx) fun x => K.xc x ρ) fun x => K.xc x ρ
theorem putF_zip {f : Str} {v : V} : ∀ {nm : List Str} {us : List V} {j : Nat}, nm.length = us.length → nm.findIdx? (fun z => z == f) = some j → putF f v (nm.zip us) = nm.zip (us.set j v)
  | [], _, _, _, h => by simp at h
  | _ :: _, [], _, e, _ => by simp at e
  | n :: nm, u :: us, j, e, h => by
    rw [List.findIdx?_cons] at h
    rw [List.zip_cons_cons]
    by_cases q : n = f
    · rw [if_pos (by simpa using q)] at h
      cases h
      show (if n = f then _ else _) = _
      rw [if_pos q]
      rfl
    · rw [if_neg (by simpa using q)] at h
      obtain ⟨j', h1, rfl⟩ := Option.map_eq_some_iff.mp h
      show (if n = f then _ else _) = _
      rw [if_neg q, putF_zip (by simpa using e) h1]
      rfl
theorem putF_new {f : Str} {v : V} : ∀ {nm : List Str} {us : List V}, nm.length = us.length → nm.findIdx? (fun z => z == f) = none → putF f v (nm.zip us) = (nm ++ [f]).zip (us ++ [v]) ∧ f ∉ nm
  | [], [], _, _ => ⟨rfl, by simp⟩
  | [], _ :: _, e, _ => by simp at e
  | _ :: _, [], e, _ => by simp at e
  | n :: nm, u :: us, e, h => by
    rw [List.findIdx?_cons] at h
    by_cases q : n = f
    · rw [if_pos (by simpa using q)] at h; cases h
    · rw [if_neg (by simpa using q)] at h
      have h1 : nm.findIdx? (fun z => z == f) = none := by simpa using h
      obtain ⟨g1, g2⟩ := putF_new (v := v) (us := us) (by simpa using e) h1
      rw [List.zip_cons_cons]
      refine ⟨?_, fun m => (List.mem_cons.mp m).elim (fun z => q z.symm) g2⟩
      show (if n = f then _ else _) = _
      rw [if_neg q, g1]
      rfl
theorem ls_setF {pn : List Nat} {W : WX} {Kf : PySem.W.Frag} {i : Nat} {C : Addr} {nf : Str} {vs : List Nat} {to te : TE} {f : FP} {g : FE} (c : Cls Kf C) (nn : NoAttr Kf C nf) (h : LP Γ W i to f) (hg : LE Γ W vs te g) : LS Γ pn W (sFld Kf to te nf) (dSetF i f C nf vs g) := fun b hpn σ ρ H AA K D' s k e => by
  refine hg b.O0 σ ρ H AA _ _ _ s.se k (fun y w H1 B k e1 n r => ?_) (e.exc s)
  refine h b.O0 σ ρ H1 AA _ _ _ (s.exx e1).se k (fun p v v0 H3 k e2 h0 pv => ?_) ((e.evo (.ex e1)).exc (s.exx e1))
  have e13 := e1.trans e2
  have r' : Rep H3 (Ox b.O0 AA vs B) w y B := r.keep (kp_ex e2 fun a m => (r.own a m).1)
  obtain ⟨AA1, s0, s1, s2, ev, sub, r1⟩ := apart s e13 n r'
  obtain ⟨d, e0, hd, hat, op⟩ := k
  obtain ⟨A1, ru, _, go⟩ := SI.change s1 s2 (.ex e13) (fun a m => .inl (n.fr a m)) (fun a m => s0.sub0 (n.fr a m)) (fun a m z => s0.has0 z (n.fr a m)) hd hat h0 pv
  have fin : ∀ {d' H4 AA'}, SI Γ b H4 σ ((frzC y vs ρ).set i (some d')) AA' → Evo b H AA1 H4 AA' → K.nx ((frzC y vs ρ).set i (some d')) → D'.nx σ H4 := fun s3 ev3 k => e.nx σ _ _ _ k (by rw [List.length_set, frzC_len]) s3 (ev3.less sub)
  cases e0 <;> simp only [opFld] at op
  rename_i o C' nm l
  cases o <;> simp only at op
  obtain ⟨rfl, hl, op2⟩ := op
  cases ru with
  | @insO a _ dx _ us _ A2 ha oa le rl =>
    obtain ⟨_, nd2, disj, go⟩ := go a A2 rfl ⟨_, ha, trivial⟩
    have lk := le.1
    have lz : (nm.zip us).length < 1000 := by rw [zip_len lk]; omega
    cases hf : nm.findIdx? fun q => q == nf with
    | some j =>
      have jl : j < l.length := by rw [← rl.length, ← lk]; exact (List.findIdx?_eq_some_iff_getElem.mp hf).1
      obtain ⟨w0, X, Ac, Y, g1, rfl, g3, g4⟩ := rl.split (List.getElem?_eq_getElem jl)
      have ep : putN nm l nf y = (nm, l.set j y) := by unfold putN; rw [hf]
      rw [ep] at op2
      obtain ⟨d', AA', hp, s3, ev3, _⟩ := go (.ins _ dx (putF nf w (nm.zip us))) (.ins true _ nm (l.set j y)) (X ++ (B ++ Y)) (fun x m => by
          rcases List.mem_append.mp m with m | m
          · exact .inl (by simp [m])
          · exact (List.mem_append.mp m).elim .inr fun m => .inl (by simp [m])) (nd_mid nd2 (fun x m => .inr m) n.nd fun x m z => disj x m (by rcases List.mem_append.mp z with z | z <;> simp [z])) fun H' O' ha' oa' kp =>
        .insO (by rw [ha', putF_zip lk hf]) oa' ⟨by rw [List.length_set]; exact lk, le.2⟩ (g4 H' O' w y B (r1.keep (kp.sub fun x m => by simp [m])) (kp.sub fun x m => by rcases List.mem_append.mp m with m | m <;> simp [m]))
      exact ⟨a, _, dx, _, rfl, ha, c, nn, lz, fin s3 ev3 (op2 d' hp)⟩
    | none =>
      have ep : putN nm l nf y = (nm ++ [nf], l ++ [y]) := by unfold putN; rw [hf]
      obtain ⟨pk, nk⟩ := putF_new (v := w) lk hf
      rw [ep] at op2
      obtain ⟨d', AA', hp, s3, ev3, _⟩ := go (.ins _ dx (putF nf w (nm.zip us))) (.ins true _ (nm ++ [nf]) (l ++ [y])) (A2 ++ B) (fun x m => List.mem_append.mp m) (List.nodup_append.mpr ⟨nd2, n.nd, fun x m c m2 z => by subst z; exact disj x m2 m⟩) fun H' O' ha' oa' kp =>
        .insO (by rw [ha', pk]) oa' ⟨by simp [lk], List.nodup_append.mpr ⟨le.2, by simp, fun x m c m2 q => by
          rw [List.mem_singleton.mp m2] at q; exact nk (q ▸ m)⟩⟩ ((rl.keep (kp.sub fun x m => List.mem_append_left _ m)).append (by
          have := Reps.cons (r1.keep (kp.sub fun x m => List.mem_append_right _ m)) .nil
          rwa [List.append_nil] at this))
      exact ⟨a, _, dx, _, rfl, ha, c, nn, lz, fin s3 ev3 (op2 d' hp)⟩
/-! ### further expressions -/
/-- list(range(..)) -/
def dLrg1 (f : FE) : FE := fun ρ K X => f ρ (fun d => match d with
  | .int n => n ≤ 100000 ∧ -100000 ≤ n ∧ K (.lst true (rngD 0 n))
  | _ => False) X
theorem rep_rng {H : Hp} {O : Addr → Prop} (a b : Int) : Reps H O (rgV a b) (rngD a b) [] := by
  unfold rgV rngD
  have gen : ∀ l : List Nat, Reps H O (l.map fun i => V.int (a + (i : Nat))) (l.map fun i => D.int (a + (i : Nat))) [] := fun l => by
    induction l with
    | nil => exact .nil
    | cons i l ih => exact .cons (A := []) (B := []) .int ih
  exact gen _
theorem le_lrg1 {W : WX} {vs : List Nat} {t : TE} {f : FE} (h : LE Γ W vs t f) : LE Γ W [] (tLstRg (tRg1 t)) (dLrg1 f) := by
  intro O σ ρ H AA K X Q s hk q hX
  refine h O σ ρ H AA _ X _ s hk (fun d v H1 B k e n r => ?_) hX
  cases d <;> simp only at k
  cases r
  rename_i z
  refine ⟨z, rfl, ⟨by omega, by omega, by omega, by omega, by omega⟩, fun p hp => ?_⟩
  exact q _ _ _ [p] k.2.2 (e.trans (Ex.new hp)) (new_ex e (.one hp)) (ou_ox (mk_lst hp (rep_rng 0 z)))
/-- x[lo:hi] -/
abbrev FO := Env → (Option Int → Prop) → (XD → Prop) → Prop
def LO (Γ : GS) (W : WX) (tt : TO) (fo : FO) : Prop := ∀ (O : Addr → Prop) (σ : L2.St) (ρ : Env) (H : Hp) (AA : List (List Addr)) (K : Option Int → Prop) (X : XD → Prop) (Q : Option Int → Hp → Prop), SE Γ O H σ ρ AA → fo ρ K X →
  (∀ c H', K c → Ex H H' → Q c H') → (∀ x cls dd H', X x → Ex H H' → XR H' (fun a => O a ∨ a ∈ AA.flatten) x cls dd → W cls dd σ H') → tt σ H Q
def dNoPart : FO := fun _ K _ => K none
def dPart (f : FE) : FO := fun ρ K X => f ρ (fun d => match d with
  | .int i => K (some i)
  | _ => False) X
theorem lo_none {W : WX} : LO Γ W tNoPart dNoPart := fun O σ ρ H AA K X Q s hk q hX => q none H hk (Ex.refl H)
theorem lo_some {W : WX} {vs : List Nat} {t : TE} {f : FE} (h : LE Γ W vs t f) : LO Γ W (tPart t) (dPart f) := fun O σ ρ H AA K X Q s hk q hX =>
  h O σ ρ H AA _ X _ s hk (fun d v H1 B k e n r => by
    cases d <;> simp only at k
    cases r
    exact ⟨_, rfl, q _ H1 k e⟩) hX
def cutL {α : Type} (xs : List α) (lo hi : Option Int) : List α := PL.cut xs lo hi
def dSl (f : FE) (lo hi : FO) : FE := fun ρ K X => f ρ (fun d => lo ρ (fun l => hi ρ (fun u => match d.frz with
  | .lst _ xs => K (.lst true (PL.cut xs l u))
  | _ => False) X) X) X
theorem Reps.take {H : Hp} {O : Addr → Prop} : ∀ {us : List V} {ds : List D} (k : Nat), Reps H O us ds [] → Reps H O (us.take k) (ds.take k) []
  | [], _, k, r => by cases r; simpa using Reps.nil
  | u :: us, ds, 0, r => by simpa using Reps.nil
  | u :: us, ds, k + 1, r => by
    have gen : ∀ {A}, Reps H O (u :: us) ds A → A = [] → Reps H O ((u :: us).take (k + 1)) (ds.take (k + 1)) [] := fun r e => by
      cases r with
      | cons r s =>
        obtain ⟨rfl, rfl⟩ := List.append_eq_nil_iff.mp e
        exact .cons (A := []) (B := []) r (s.take k)
    exact gen r rfl
theorem Reps.drop {H : Hp} {O : Addr → Prop} : ∀ {us : List V} {ds : List D} (k : Nat), Reps H O us ds [] → Reps H O (us.drop k) (ds.drop k) []
  | [], _, k, r => by cases r; simpa using Reps.nil
  | u :: us, ds, 0, r => by simpa using r
  | u :: us, ds, k + 1, r => by
    have gen : ∀ {A}, Reps H O (u :: us) ds A → A = [] → Reps H O ((u :: us).drop (k + 1)) (ds.drop (k + 1)) [] := fun r e => by
      cases r with
      | cons r s =>
        obtain ⟨rfl, rfl⟩ := List.append_eq_nil_iff.mp e
        exact s.drop k
    exact gen r rfl
theorem reps_cut {H : Hp} {O : Addr → Prop} {us : List V} {ds : List D} (lo hi : Option Int) (r : Reps H O us ds []) : Reps H O (cutV us lo hi) (PL.cut ds lo hi) [] := by
  unfold cutV PL.cut
  rw [r.length]
  exact (r.drop _).take _
theorem le_sl {W : WX} {vs : List Nat} {Kf : PySem.W.Frag} {t : TE} {f : FE} {tl th : TO} {lo hi : FO} (h : LE Γ W vs t f) (hl : LO Γ W tl lo) (hh : LO Γ W th hi) : LE Γ W vs (tSl (rSlL Kf) t tl th) (dSl f lo hi) := by
  intro O σ ρ H AA K X Q s hk q hX
  refine h O σ ρ H AA _ X _ s hk (fun d v H1 B k e n r => ?_) hX
  refine hl O σ ρ H1 AA _ X _ (s.ex e) k (fun l H2 k e2 => ?_) fun x cls dd H' hx e2 => hX x cls dd H' hx (e.trans e2)
  refine hh O σ ρ H2 AA _ X _ (s.ex (e.trans e2)) k (fun u H3 k e3 => ?_) fun x cls dd H' hx e3 => hX x cls dd H' hx ((e.trans e2).trans e3)
  have r3 := (frz_r r (fun _ m => m) (new_ox (vs := vs) s n)).keep (kp_ex (e2.trans e3) fun _ m => nomatch m)
  generalize d.frz = z at k r3
  cases z <;> simp only at k
  obtain ⟨a, us, rfl, ha, rr⟩ := rd_lst0 r3
  refine ⟨a, us, rfl, .inl (.inl ha), fun p hp => ?_⟩
  have e13 := e.trans (e2.trans e3)
  exact q _ _ _ [p] k (e13.trans (Ex.new hp)) (new_ex e13 (.one hp)) (ou_ox (mk_lst hp (reps_cut l u rr)))
theorem le_newK {W : WX} : LE Γ W [] tDNewK (dC (.dK true [] [])) := fun O σ ρ H AA K X Q _ k q _ => fun p hp =>
  q _ _ _ [p] k (Ex.new hp) (.one hp) (.dKO (vs := []) upd_same (.inl (by simp)) ⟨rfl, .nil⟩ .nil)
theorem le_newT {W : WX} : LE Γ W [] tDNewT (dC (.dT true [] [])) := fun O σ ρ H AA K X Q _ k q _ => fun p hp =>
  q _ _ _ [p] k (Ex.new hp) (.one hp) (.dTO (vs := []) upd_same (.inl (by simp)) ⟨rfl, .nil⟩ .nil)
theorem lt_yes {W : WX} : LT Γ W tYes (fun _ K _ => K true) := fun O σ ρ H AA K X Q s hk q hX => q true H hk (Ex.refl H)
/-- -i -/
def dNeg (f : FE) : FE := fun ρ K X => f ρ (fun d => match d with
  | .int i => K (.int (-i))
  | _ => False) X
theorem le_neg {W : WX} {vs : List Nat} {t : TE} {f : FE} (h : LE Γ W vs t f) : LE Γ W [] (tUn (rU fun i => .int (-i)) t) (dNeg f) := fun O σ ρ H AA K X Q s hk q hX =>
  h O σ ρ H AA _ X _ s hk (fun d v H1 B k e n r => by
    cases d <;> simp only at k
    cases r
    exact ⟨_, rfl, q _ _ H1 [] k e .nil .int⟩) hX
/-- isinstance(x, T) of a built-in T -/
def D.tyn : D → Option String
  | .non => some "NoneType" | .bl _ => some "bool" | .int _ => some "int" | .str _ => some "str" | .tup _ => some "tuple" | .lst _ _ => some "list" | .dK _ _ _ => some "dict" | .dT _ _ _ => some "dict"
  | _ => none
def gIsi : List D → (D → Prop) → Prop
  | [x, .ty n] => fun K => ∃ T b, x.tyn = some T ∧ kitB T n = some b ∧ K (.bl b)
  | _ => fun _ => False
theorem rep_ty {Kf : PySem.W.Frag} {H : Hp} {O : Addr → Prop} {v : V} {d : D} {A : List Addr} {T : String} (r : Rep H O v d A) (h : d.tyn = some T) : TyX Kf H v (.type T) := by
  cases r <;> simp [D.tyn] at h <;> subst h
  · exact .base .non
  · exact .base (.bl _)
  · exact .base (.int _)
  · exact .base (.str _)
  · exact .base (.tup (by assumption))
  · exact .base (.lst (by assumption))
  · exact .base (.lst (by assumption))
  · exact .base (.dK (by assumption))
  · exact .base (.dK (by assumption))
  · exact .base (.dT (by assumption))
  · exact .base (.dT (by assumption))
theorem rc_isi {Kf : PySem.W.Frag} : RCS (rIsi Kf) gIsi := by
  intro xs us H O A K Q r h q
  match xs, h with
  | [x, .ty n], h =>
    obtain ⟨v, u, B, C, rfl, r1, r2, _⟩ := reps_two r
    cases r2
    obtain ⟨T, b, h1, h2, h3⟩ := h
    exact ⟨v, .ty n, .type T, .type n, b, rfl, .ty n, rep_ty r1 h1, kit_ty h2, q (.bl b) _ rfl h3⟩
/-- len(set(e)): ints, none twice -/
def dLenSet (f : FE) : FE := fun ρ K X => f ρ (fun d => match d with
  | .lst _ l => ∃ ns : List Int, l = ns.map D.int ∧ ns.Nodup ∧ ns.length ≤ 4000 ∧ K (.int (ns.length : Nat))
  | _ => False) X
theorem le_lenSet {W : WX} {vs : List Nat} {Kf : PySem.W.Frag} {t : TE} {f : FE} (h : LE Γ W vs t f) : LE Γ W [] (RZ.tLenSetI Kf t) (dLenSet f) := fun O σ ρ H AA K X Q s hk q hX =>
  h O σ ρ H AA _ X _ s hk (fun d v H1 B k e n r => by
    cases d <;> simp only at k
    obtain ⟨ns, rfl, h1, h2, k⟩ := k
    obtain ⟨a, us, C, rfl, ha, rr⟩ := rd_lst r
    exact ⟨a, ns, rfl, .inl (.inl (by rw [ha, reps_ints rr])), h1, h2, q _ _ H1 [] k e .nil .int⟩) hX
/-- d.get(k, x) -/
def gGet (d k z : D) (K : D → Prop) : Prop := match d with
  | .dK _ ks l => ∃ q, k.key = some q ∧ K ((lookD ks l q).getD z)
  | .dT _ ks l => ∃ t q, k = .tup t ∧ D.keys t = some q ∧ K ((lookD ks l q).getD z)
  | _ => False
def isDict : D → Prop
  | .dK _ _ _ => True | .dT _ _ _ => True
  | _ => False
def dGet2 (f g h : FE) : FE := fun ρ K X => f ρ (fun d => isDict d ∧ g ρ (fun k => h ρ (fun z => gGet d.frz k z.frz K) X) X) X
theorem le_get2 {W : WX} {vs ws us : List Nat} {td tk tz : TE} {f g h : FE} (hd : LE Γ W vs td f) (hk : LE Γ W ws tk g) (hz : LE Γ W us tz h) : LE Γ W (vs ++ us) (tDGet2 td tk tz) (dGet2 f g h) := by
  intro O σ ρ H AA K X Q s k q hX
  refine hd O σ ρ H AA _ X _ s k (fun d v H1 A k e n r => ?_) hX
  obtain ⟨hi, k⟩ := k
  have hA : ∀ a ∈ A, H1 a ≠ none := fun a m => (r.own a m).2
  have isd : ∃ a, v = .ref a ∧ IsD H1 a := by
    cases d <;> simp only [isDict] at hi
    · obtain ⟨a, vs, C, rfl, ha, _⟩ := rd_dK r; exact ⟨a, rfl, .inl ⟨_, .inl ha⟩⟩
    · obtain ⟨a, vs, C, rfl, ha, _⟩ := rd_dT r; exact ⟨a, rfl, .inr ⟨_, .inl ha⟩⟩
  obtain ⟨a, rfl, isd⟩ := isd
  refine ⟨a, rfl, isd, ?_⟩
  have s1 := s.ex e
  refine hk O σ ρ H1 AA _ X _ s1 k (fun kd kv H2 B k2 e2 n2 r2 => ?_) fun x cls dd H' hx e2 => hX x cls dd H' hx (e.trans e2)
  have e12 := e.trans e2
  refine hz O σ ρ H2 AA _ X _ (s.ex e12) k2 (fun z w H3 C k3 e3 n3 r3 => ?_) fun x cls dd H' hx e3 => hX x cls dd H' hx (e12.trans e3)
  have e13 := e12.trans e3
  have rd0 : Rep H3 (Ox O AA (vs ++ us) []) (.ref a) d.frz [] := ((ox_sub (ws := vs ++ us) (fun i m => List.mem_append_left _ m) r).frz (fun b nb y => nb (.inr (y.resolve_left fun m => nomatch m))) fun b m => new_ox s n b m).keep (kp_ex (e2.trans e3) fun _ m => nomatch m)
  have rk : Rep H3 (Ox O AA ws B) kv kd B := r2.keep (kp_ex e3 fun b m => (r2.own b m).1)
  have rz0 : Rep H3 (Ox O AA (vs ++ us) []) w z.frz [] := (ox_sub (ws := vs ++ us) (fun i m => List.mem_append_right _ m) r3).frz (fun b nb y => nb (.inr (y.resolve_left fun m => nomatch m))) fun b m => new_ox (s.ex e12) n3 b m
  generalize d.frz = dd at k3 rd0
  have fin : ∀ {dz : D} {wz : V}, Rep H3 (Ox O AA (vs ++ us) []) wz dz [] → K dz → Q wz H3 := fun rr kk => q _ _ H3 [] kk e13 .nil rr
  cases dd <;> simp only [gGet] at k3
  case dK o ks l =>
    obtain ⟨k0, hk0, kk⟩ := k3
    obtain ⟨a', us', ea, ha, el, rr⟩ := rd_dK0 rd0
    cases ea
    cases hl : lookD ks l k0 with
    | some y =>
      obtain ⟨v1, h1, h2⟩ := look_rep k0 el rr hl
      rw [hl] at kk
      exact ⟨some v1, .inl ⟨_, k0, .inl ha, rep_key rk hk0, h1.symm⟩, fin h2 kk⟩
    | none =>
      rw [hl] at kk
      exact ⟨none, .inl ⟨_, k0, .inl ha, rep_key rk hk0, (look_none k0 el rr.length hl).symm⟩, fin rz0 kk⟩
  case dT o ks l =>
    obtain ⟨t, k0, rfl, hk0, kk⟩ := k3
    obtain ⟨a', us', ea, ha, el, rr⟩ := rd_dT0 rd0
    cases ea
    obtain ⟨bt, ws', rfl, hb, r4⟩ := rd_tup rk
    cases hl : lookD ks l k0 with
    | some y =>
      obtain ⟨v1, h1, h2⟩ := look_rep k0 el rr hl
      rw [hl] at kk
      exact ⟨some v1, .inr ⟨_, k0, bt, .inl ha, rfl, by rw [hb, rep_keys r4 hk0], h1.symm⟩, fin h2 kk⟩
    | none =>
      rw [hl] at kk
      exact ⟨none, .inr ⟨_, k0, bt, .inl ha, rfl, by rw [hb, rep_keys r4 hk0], (look_none k0 el rr.length hl).symm⟩, fin rz0 kk⟩
end DL
namespace DL
open PySem PySem.Spec PyProof.Rows L2 Evl PL
set_option maxHeartbeats 1000000
variable {Γ : GS}
/-! ### ints -/
def gCmp (g : Int → Int → Bool) : D → D → (D → Prop) → Prop
  | .int i, .int j => fun K => K (.bl (g i j))
  | _, _ => fun _ => False
theorem rs_cmp {g : Int → Int → Bool} : RS (rI0 fun i j => .bl (g i j)) (gCmp g) := (rs_int0 (g' := fun i j => .bl (g i j)) fun _ _ => rfl).imp fun x y K h => by
  cases x <;> cases y <;> simp only [gCmp] at h
  exact ⟨trivial, h⟩
abbrev gLt := gCmp fun i j => decide (i < j)
abbrev gLe := gCmp fun i j => decide (i ≤ j)
abbrev gGt := gCmp fun i j => decide (j < i)
abbrev gGe := gCmp fun i j => decide (j ≤ i)
def gDiv : D → D → (D → Prop) → Prop
  | .int i, .int j => fun K => (0 < j ∧ j.natAbs.log2 < 9000) ∧ K (.int (i / j))
  | _, _ => fun _ => False
theorem rs_div : RS rDivA gDiv := fun x y v u H O O2 A B K Q r1 r2 h q => by
  cases x <;> cases y <;> simp only [gDiv] at h
  cases r1
  cases r2
  exact .inr ⟨_, _, rfl, rfl, h.1, q (.int _) _ rfl h.2⟩
def gMod : D → D → (D → Prop) → Prop
  | .int i, .int j => fun K => 0 < j ∧ K (.int (i % j))
  | _, _ => fun _ => False
theorem rs_mod : RS rModA gMod := fun x y v u H O O2 A B K Q r1 r2 h q => by
  cases x <;> cases y <;> simp only [gMod] at h
  cases r1
  cases r2
  exact ⟨_, _, rfl, rfl, h.1, q (.int _) _ rfl h.2⟩
def gPow : D → D → (D → Prop) → Prop
  | .int i, .int j => fun K => CPow i j ∧ K (.int (i ^ j.toNat))
  | _, _ => fun _ => False
theorem rs_pow : RS rPowA gPow := fun x y v u H O O2 A B K Q r1 r2 h q => by
  cases x <;> cases y <;> simp only [gPow] at h
  cases r1
  cases r2
  exact ⟨_, _, rfl, rfl, h.1, q (.int _) _ rfl h.2⟩
def gMx : List D → (D → Prop) → Prop
  | [.int i, .int j] => fun K => K (.int (max i j))
  | _ => fun _ => False
def gMn : List D → (D → Prop) → Prop
  | [.int i, .int j] => fun K => K (.int (min i j))
  | _ => fun _ => False
theorem rc_max2 : RCS (fun xs H Q => ∃ i j, xs = [V.int i, V.int j] ∧ Q (.int (if j > i then j else i)) H) gMx := by
  intro xs us H O A K Q r h q
  match xs, h with
  | [.int i, .int j], h =>
    obtain ⟨v, u, B1, B2, rfl, r1, r2, _⟩ := reps_two r
    cases r1
    cases r2
    refine ⟨i, j, rfl, q (.int _) _ rfl ?_⟩
    have e : (if j > i then j else i) = max i j := by split <;> omega
    rw [e]
    exact h
theorem rc_min2 : RCS (fun xs H Q => ∃ i j, xs = [V.int i, V.int j] ∧ Q (.int (if j < i then j else i)) H) gMn := by
  intro xs us H O A K Q r h q
  match xs, h with
  | [.int i, .int j], h =>
    obtain ⟨v, u, B1, B2, rfl, r1, r2, _⟩ := reps_two r
    cases r1
    cases r2
    refine ⟨i, j, rfl, q (.int _) _ rfl ?_⟩
    have e : (if j < i then j else i) = min i j := by split <;> omega
    rw [e]
    exact h
/-- x += e, ints -/
def dAug (i : Nat) (g : Int → Int → Int) (f : FE) : FS := fun K ρ => ∃ a, ρ[i]? = some (some (.int a)) ∧ f ρ (fun d => match d with
  | .int b => K.nx (ρ.set i (some (.int (g a b))))
  | _ => False) fun x => K.xc x ρ
theorem ls_aug {pn : List Nat} {W : WX} {i : Nat} {vs : List Nat} {g : Int → Int → Int} {t : TE} {f : FE} (h : LE Γ W vs t f) (hd : i ∉ pn := by decide) : LS Γ pn W (tAug i t (ipI g)) (dAug i g f) := fun b hpn σ ρ H AA K D' s ⟨a, ha, k⟩ e => by
  obtain ⟨v, B0, h1, h2, r0⟩ := s.sr.get ha
  cases r0
  refine ⟨_, h1, h b.O0 σ ρ H AA _ _ _ s.se k (fun d v H1 B k ex n r => ?_) (e.exc s)⟩
  cases d <;> simp only at k
  cases r
  rename_i c
  refine ⟨a, c, rfl, rfl, ?_⟩
  have hl : i < ρ.length := (List.getElem?_eq_some_iff.mp ha).1
  have s1 := s.exx ex
  have t1 : SE Γ b.O0 H1 (σ.set i (some (.int (g a c)))) (ρ.set i (some (.int (g a c)))) (AA.set i []) := SE.bind (B := []) (s1.se.congr fun a => by simp [Op]) .int .nil (fun _ m => nomatch m) hl
  obtain ⟨s2, e2⟩ := s1.of (B := []) (Ex.refl H1) (fun _ m => nomatch m) t1 (fun a m => .inl (flat_set_nil m)) fun k m => List.getElem?_set_ne fun z => hd (by rw [z, ← hpn]; exact m)
  exact e.nx _ _ H1 _ k (by simp) s2 ((Evo.ex ex).trans e2)
/-- a target that lets go of what it gets: shared from then on -/
def dNameF (i : Nat) : FG := fun d ρ K => i < ρ.length ∧ K (ρ.set i (some d.frz))
theorem lg_nameF {i : Nat} : LG Γ [i] (gName i) (dNameF i) := fun O σ ρ H AA v d B K Q s r nB dB h q => by
  have s' : SE Γ (Op O []) H σ ρ AA := ⟨s.sr.keep ⟨fun a o h n => ⟨h, fun z => n (z.imp (fun z => z.elim .inl fun m => nomatch m) id)⟩, fun a o h m => ⟨h, .inr m⟩, fun _ _ h => h⟩, s.nd, fun a z => s.o0 a (z.elim .inl fun m => nomatch m), s.gi⟩
  refine q _ _ _ h.2 (s'.bind (B := []) (r.frz (fun a n z => n (z.elim (fun m => nomatch m) .inr)) fun a m z => ?_) .nil (fun _ m => nomatch m) h.1) (fun a m => .inl (flat_set_nil m)) (by simp) fun k hk => ⟨List.getElem?_set_ne fun z => hk (by simp [z]), List.getElem?_set_ne fun z => hk (by simp [z])⟩
  rcases z with z | z | z
  · exact nomatch z
  · exact dB a m z
  · exact (s.o0 a (.inr m)).2 z
/-! ### defs of the text -/
theorem passN {X : Cx} : Passes (L2N.CX X.prog X.w) X fun _ _ _ => False := fun _ _ _ _ _ _ _ c => by
  obtain ⟨_, _, _, _, _, _, _, _, _, _, _, _, h⟩ := c
  exact h.elim
/-- a def by its body, where exceptions bear no context -/
theorem fun_okN {P : Program} {w : World} {K : PySem.W.Frag} {mg : Str → Option Value} {base : Heap} {x qual : Str} {st : Stmt} {f : Addr} {fd : FuncData} {N ps : List Str} {k : Nat} {sp : Sp} (F : Fun K x qual st f fd) (S : FnScope N ps (defScope st))
    (len : ∀ vs H Q E, sp vs H Q E → vs.length = ps.length) (hb : ∀ (cdv : Value) (A : Around) (outer : List PySem.Env) (s : Shared) (H : Hp) (vs : List V) (Q : VK) (E : XK), Room k (A.deeper (envOfC qual (defScope st) s.heap.objs.size f cdv)) → sp vs H Q E →
      ∃ t, PSs (cxOf (L2N.CX P w) P w K mg base N qual (defScope st) f cdv A outer s H E) (defBody st) t ∧ t { nx := fun _ H' => Q .non H', rt := Q } (L2.start N vs) H) : FnOk P w K mg base (L2N.CX P w) (k + 1) f fd ps sp := by
  obtain ⟨_, _, _, _, _, _, cdv, _, _, rfl, lk, hcd⟩ := F.ex
  exact fn_of lk hcd S len (hb cdv)
def bodyN (fs : FS) (ms : List Nat) (n k : Nat) : DF := fun ds K X => ds.length = n ∧ bodyF fs ms k ds K X
theorem spP_len {fs : FS} {ms : List Nat} {n k : Nat} {vs : List V} {H : Hp} {Q : VK} {E : XK} (h : spP Γ (bodyN fs ms n k) vs H Q E) : vs.length = n := by
  obtain ⟨O, ds, K, X, r, _, _, hF, _⟩ := h
  rw [r.length]
  exact hF.1
theorem spM_len {fs : FS} {ms : List Nat} {n k : Nat} {vs : List V} {H : Hp} {Q : VK} {E : XK} (h : spM Γ ms (bodyN fs ms n k) vs H Q E) : vs.length = n := by
  obtain ⟨O, ds, AA, K, X, s, _, hF, _⟩ := h
  have := s.sr.len.1
  rw [List.length_map, List.length_map] at this
  rw [this]
  exact hF.1
section
variable {P : Program} {w : World} {K : PySem.W.Frag} {mg : Str → Option Value} {base : Heap}
abbrev FnX (P : Program) (w : World) (K : PySem.W.Frag) (mg : Str → Option Value) (base : Heap) (k : Nat) (f : Addr) (fd : FuncData) (ps : List Str) (sp : Sp) : Prop := FnOk P w K mg base (L2N.CX P w) k f fd ps sp
theorem start_eq {N : List Str} {vs : List V} {n k : Nat} (h : vs.length = n) (hN : N.length = n + k) : L2.start N vs = vs.map some ++ List.replicate k none := by
  unfold L2.start
  rw [h, hN, Nat.add_sub_cancel_left]
theorem okP {x qual : Str} {st : Stmt} {f : Addr} {fd : FuncData} {N ps : List Str} {lv n k : Nat} {fs : FS} (F : Fun K x qual st f fd) (S : FnScope N ps (defScope st)) (hn : ps.length = n) (hN : N.length = n + k)
    (hb : ∀ (cdv : Value) (A : Around) (outer : List PySem.Env) (s : Shared) (H : Hp) (E : XK), Room lv (A.deeper (envOfC qual (defScope st) s.heap.objs.size f cdv)) →
      ∃ t, PSs (cxOf (L2N.CX P w) P w K mg base N qual (defScope st) f cdv A outer s H E) (defBody st) t ∧ LS Γ [] (DL.WE E) t fs) : FnX P w K mg base (lv + 1) f fd ps (spP Γ (bodyN fs [] n k)) := by
  refine fun_okN F S (fun vs H Q E h => (spP_len h).trans hn.symm) fun cdv A outer s H vs Q E hr h => ?_
  obtain ⟨t, h1, h2⟩ := hb cdv A outer s H E hr
  refine ⟨t, h1, ?_⟩
  rw [start_eq (spP_len h) hN]
  obtain ⟨O, ds, K, X, r, hO, hG, hF, hQ, hX⟩ := h
  exact spP_body h2 ⟨O, ds, K, X, r, hO, hG, hF.2, hQ, hX⟩
theorem okM {x qual : Str} {st : Stmt} {f : Addr} {fd : FuncData} {N ps : List Str} {ms : List Nat} {lv n k : Nat} {fs : FS} (hms : ms.Nodup) (F : Fun K x qual st f fd) (S : FnScope N ps (defScope st)) (hn : ps.length = n) (hN : N.length = n + k)
    (hb : ∀ (cdv : Value) (A : Around) (outer : List PySem.Env) (s : Shared) (H : Hp) (E : XK), Room lv (A.deeper (envOfC qual (defScope st) s.heap.objs.size f cdv)) →
      ∃ t, PSs (cxOf (L2N.CX P w) P w K mg base N qual (defScope st) f cdv A outer s H E) (defBody st) t ∧ LS Γ ms (DL.WE E) t fs) : FnX P w K mg base (lv + 1) f fd ps (spM Γ ms (bodyN fs ms n k)) := by
  refine fun_okN F S (fun vs H Q E h => (spM_len h).trans hn.symm) fun cdv A outer s H vs Q E hr h => ?_
  obtain ⟨t, h1, h2⟩ := hb cdv A outer s H E hr
  refine ⟨t, h1, ?_⟩
  rw [start_eq (spM_len h) hN]
  obtain ⟨O, ds, AA, K, X, r, hO, hF, hQ, hX⟩ := h
  exact spM_body hms h2 ⟨O, ds, AA, K, X, r, hO, hF.2, hQ, hX⟩
end
/-! .. called -/
structure HX (P : Program) (w : World) (K : PySem.W.Frag) (mg : Str → Option Value) (base : Heap) (x : Str) (k : Nat) (sp : Sp) : Prop where
  ex : ∃ (f : Addr) (fd : FuncData) (ps : List Str), mg x = some (.ref f) ∧ PySem.W.keepIn K (.ref f) = true ∧ Binds K fd ps [] ∧ FnX P w K mg base k f fd ps sp
structure HMX (P : Program) (w : World) (K : PySem.W.Frag) (mg : Str → Option Value) (base : Heap) (C : Addr) (m : Str) (k : Nat) (sp : Sp) : Prop where
  ex : ∃ (f : Addr) (fd : FuncData) (ps : List Str), Meth K C m f ∧ Binds K fd ps [] ∧ FnX P w K mg base k f fd ps sp
structure HIX (P : Program) (w : World) (K : PySem.W.Frag) (mg : Str → Option Value) (base : Heap) (C : Addr) (k : Nat) (sp : Sp) : Prop where
  ex : ∃ (f : Addr) (fd : FuncData) (ps : List Str), Mk K C f ∧ Binds K fd ps [] ∧ FnX P w K mg base k f fd ps sp
structure HPX (P : Program) (w : World) (K : PySem.W.Frag) (mg : Str → Option Value) (base : Heap) (C : Addr) (n : Str) (k : Nat) (sp : Sp) : Prop where
  ex : ∃ (p g : Addr) (fd : FuncData) (ps : List Str), PropOf K C n p g ∧ Binds K fd ps [] ∧ FnX P w K mg base k g fd ps sp
section
variable {X : Cx} {k : Nat} {C : Addr} {sp : Sp} {E : XK} {x m n : Str} {p pos apos : Pos} {o e : Expr} {es : List Expr} {ta : TE} {t : TA}
theorem px_fn (E : XK) (hx : Passes (L2N.CX X.prog X.w) X E) (h : HX X.prog X.w X.K X.mg X.base x k sp) (hr : Room k X.A) (hg : Gl X x) (ha : PA X (e :: es) t) (hdb : (x == ("__debug__" : Str)) = false := by decide) (he : starEach (e :: es) X.env = (false, eval e X.env) :: starEach es X.env := by rfl)
    (hpl : (backTo pos (starEach es X.env)).any (·.1) = false := by rfl) : PE X (.Call (.Name x p) (e :: es) [] pos) (tCall sp [] E t) := by
  obtain ⟨f, fd, ps, h1, h2, h3, h4⟩ := h.ex
  exact pe_call h4 hr hg h1 h2 h3 .nil hx ha hdb he hpl
theorem px_fn0 (E : XK) (hx : Passes (L2N.CX X.prog X.w) X E) (h : HX X.prog X.w X.K X.mg X.base x k sp) (hr : Room k X.A) (hg : Gl X x) (hdb : (x == ("__debug__" : Str)) = false := by decide) : PE X (.Call (.Name x p) [] [] pos) (tCall sp [] E tNil) := by
  obtain ⟨f, fd, ps, h1, h2, h3, h4⟩ := h.ex
  exact pe_call0 h4 hr hg h1 h2 h3 .nil hx hdb
theorem px_m (E : XK) (hx : Passes (L2N.CX X.prog X.w) X E) (h : HMX X.prog X.w X.K X.mg X.base C m k sp) (c : Cls X.K C) (hr : Room k X.A) {pl : Sem Bool} (he : PE X o ta) (ha : PA X (e :: es) t) (hst : starEach (e :: es) X.env = (false, eval e X.env) :: starEach es X.env := by rfl) (hpl : (backTo pos (starEach es X.env)).any (·.1) = false := by rfl)
    (ht : eval (.Call (.Attribute o m apos) (e :: es) [] pos) X.env = (do let ov ← eval o X.env; standAt apos.atName; let (f, first) ← holding [ov] (getMethod ov m pl); callWith pos f first (backTo pos (starEach (e :: es) X.env)) (backToKw pos (keywordEach [] X.env))) := by rfl) :
    PE X (.Call (.Attribute o m apos) (e :: es) [] pos) (tMeth C m sp [] E ta t) := by
  obtain ⟨f, fd, ps, h1, h2, h3⟩ := h.ex
  exact pe_meth (pl := pl) he c h1 h3 hr h2 .nil hx ha hst hpl ht
theorem px_m0 (E : XK) (hx : Passes (L2N.CX X.prog X.w) X E) (h : HMX X.prog X.w X.K X.mg X.base C m k sp) (c : Cls X.K C) (hr : Room k X.A) {pl : Sem Bool} (he : PE X o ta)
    (ht : eval (.Call (.Attribute o m apos) [] [] pos) X.env = (do let ov ← eval o X.env; standAt apos.atName; let (f, first) ← holding [ov] (getMethod ov m pl); callWith pos f first (backTo pos (starEach [] X.env)) (backToKw pos (keywordEach [] X.env))) := by rfl) :
    PE X (.Call (.Attribute o m apos) [] [] pos) (tMeth C m sp [] E ta tNil) := by
  obtain ⟨f, fd, ps, h1, h2, h3⟩ := h.ex
  exact pe_meth0 (pl := pl) he c h1 h3 hr h2 .nil hx ht
theorem px_i (E : XK) (hx : Passes (L2N.CX X.prog X.w) X E) (h : HIX X.prog X.w X.K X.mg X.base C k sp) (hm : X.mg x = some (.ref C)) (hr : Room (k + 1) X.A) (hg : Gl X x) (ha : PA X (e :: es) t) (hdb : (x == ("__debug__" : Str)) = false := by decide) (he : starEach (e :: es) X.env = (false, eval e X.env) :: starEach es X.env := by rfl)
    (hpl : (backTo pos (starEach es X.env)).any (·.1) = false := by rfl) : PE X (.Call (.Name x p) (e :: es) [] pos) (tMake C sp [] E t) := by
  obtain ⟨f, fd, ps, h1, h2, h3⟩ := h.ex
  exact pe_make h1 h3 hr hg hm h2 .nil hx ha hdb he hpl
theorem px_p (h : HPX X.prog X.w X.K X.mg X.base C n k sp) (c : Cls X.K C) (hr : Room (k + 1) X.A) (he : PE X e ta) (hab : attributeBase e n X.env (eval e X.env) = eval e X.env := by rfl) : PE X (.Attribute e n pos) (tProp C sp [] E0 ta) := by
  obtain ⟨q, g, fd, ps, h1, h2, h3⟩ := h.ex
  exact pe_prop he c h1 h3 hr h2 .nil passN hab
end
/-- a call of which nothing may be raised -/
theorem le_call0 {vs : List Nat} {F : DF} {t : TA} {f : FA} (h : LA Γ W0 vs t f) : LE Γ W0 vs (tCall (spP Γ F) [] E0 t) (dCall vs F f) := le_call (E := E0) h
theorem le_meth0 {vs ws : List Nat} {C : Addr} {m : Str} {F : DF} {t : TE} {g : FE} {ta : TA} {fa : FA} (h : LE Γ W0 vs t g) (ha : LA Γ W0 ws ta fa) : LE Γ W0 (vs ++ ws) (tMeth C m (spP Γ F) [] E0 t ta) (dMeth (vs ++ ws) C m F g fa) := le_meth (E := E0) h ha
theorem le_prop0 {vs : List Nat} {C : Addr} {F : DF} {t : TE} {g : FE} (h : LE Γ W0 vs t g) : LE Γ W0 vs (tProp C (spP Γ F) [] E0 t) (dProp vs C F g) := le_prop (E := E0) h
/-- a property: nothing is raised by it -/
def dPropN (vs : List Nat) (C : Addr) (F : DF) (g : FE) : FE := fun ρ K X => g ρ (fun d => isInsP C d ∧ F [d.frz] (fun d _ => K d) fun _ _ => False) X
theorem le_propN {W : WX} {vs : List Nat} {C : Addr} {F : DF} {t : TE} {g : FE} (h : LE Γ W vs t g) : LE Γ W vs (tProp C (spP Γ F) [] E0 t) (dPropN vs C F g) := by
  intro O σ ρ H AA K X Q s hk q hX
  refine h O σ ρ H AA _ X _ s hk (fun d v H1 B k e n r => ?_) hX
  obtain ⟨hi, k⟩ := k
  have r2 := frz_r r (fun _ m => m) (new_ox (vs := vs) s n)
  cases d <;> simp only [isInsP] at hi
  subst hi
  obtain ⟨a, dx, us, A, rfl, ha, hl, rr⟩ := rd_ins r
  exact ⟨a, dx, _, rfl, ha, Ox O AA vs [], [_], _, _, .cons (A := []) (B := []) r2 .nil, ox_has (s.ex e), (s.ex e).gi, k, fun d v H' C kk e2 n2 rr => q d v H' C kk (e.trans e2) (new_ex e n2) (ou_ox rr), fun x cls dd H' kk e2 rr => kk.elim⟩
/-- C.MOST -/
theorem le_cval {W : WX} {Kf : PySem.W.Frag} {C : Addr} {mc : Value} {f : Str} {i : Int} (r : ClX.CRead Kf C mc) (c : ∃ u, ClX.CVal Kf C mc f (.int i) u) : LE Γ W [] (ClX.tCVal Kf (tC (.ref C)) f) (dC (.int i)) := fun O σ ρ H AA K X Q s k q _ =>
  let ⟨u, c⟩ := c; ⟨C, mc, .int i, u, rfl, r, c, q _ _ H [] k (Ex.refl H) .nil .int⟩
theorem passE {X : Cx} {E : XK} (hs : X.stack = X.env :: X.outer) (hf : X.env.frame = some X.env.locals) (hex : X.ex = []) {E₁ : Value → Shared → Prop}
    (hx : X.xe = fun e s' => wpAny (model X.prog X.w) X.A (leaving X.env e) (fun _ s'' => L2N.CX X.prog X.w X.outer X.H_0 X.s_0 E e s'') E₁ s') : Passes (L2N.CX X.prog X.w) X E := L2N.passes_call (L2N.takes_of hs hf hex hx) fun _ _ _ _ h => h
end DL
namespace DL
open PySem PySem.Spec PyProof.Rows L2 Evl PL
set_option maxHeartbeats 1000000
variable {Γ : GS}
def dNever : FS := fun _ _ => False
theorem ls_never {pn : List Nat} {W : WX} {t : TS} : LS Γ pn W t dNever := fun _ _ _ _ _ _ _ _ _ h _ => h.elim
/-- l.index(y): flat items -/
def isList : D → Prop
  | .lst _ _ => True
  | _ => False
def gIndex (d y : D) (K : D → Prop) : Prop := match d with
  | .lst _ l => y.flat = true ∧ l.all D.flat = true ∧ ∃ j z, l[j]? = some z ∧ deq z y = true ∧ (∀ m w, m < j → l[m]? = some w → deq w y = false) ∧ K (.int (j : Nat))
  | _ => False
def dIndex (f g : FE) : FE := fun ρ K X => f ρ (fun d => isList d ∧ g ρ (fun y => gIndex d y K) X) X
theorem reps_at {H : Hp} {O : Addr → Prop} {us : List V} {ds : List D} {A : List Addr} {j : Nat} {w : V} (r : Reps H O us ds A) (h : us[j]? = some w) : ∃ d B, ds[j]? = some d ∧ Rep H O w d B := by
  have hl : j < ds.length := by rw [← r.length]; exact (List.getElem?_eq_some_iff.mp h).1
  obtain ⟨v, B, h1, h2, _⟩ := r.get (List.getElem?_eq_getElem hl)
  rw [h] at h1
  cases h1
  exact ⟨_, B, List.getElem?_eq_getElem hl, h2⟩
theorem all_flat {H : Hp} {O : Addr → Prop} : ∀ {us : List V} {ds : List D} {A : List Addr}, Reps H O us ds A → ds.all D.flat = true → us.all flatV = true
  | _, _, _, .nil, _ => rfl
  | _, _, _, .cons r s, h => by
    simp only [List.all_cons, Bool.and_eq_true] at h ⊢
    exact ⟨(flat_py r r h.1 h.1).2, all_flat s h.2⟩
theorem le_index {W : WX} {vs ws : List Nat} {Kf : PySem.W.Frag} {t u : TE} {f g : FE} (h : LE Γ W vs t f) (hg : LE Γ W ws u g) : LE Γ W [] (tBM Kf "list" (L2.rIndex Kf) t (tCons u tNil)) (dIndex f g) := by
  intro O σ ρ H AA K X Q s hk q hX
  refine h O σ ρ H AA _ X _ s hk (fun d v H1 A k e n r => ?_) hX
  obtain ⟨hi, k⟩ := k
  cases d <;> simp only [isList] at hi
  obtain ⟨a, us, C, rfl, ha, rr⟩ := rd_lst r
  refine ⟨.inl ⟨rfl, us, .inl (.inl ha)⟩, hg O σ ρ H1 AA _ X _ (s.ex e) k (fun y w H2 B k2 e2 n2 r2 => ?_) fun x cls dd H' hx e2 => hX x cls dd H' hx (e.trans e2)⟩
  have rr2 := rr.keep (kp_ex e2 fun a m => (rr.own a m).1)
  simp only [gIndex] at k2
  obtain ⟨fy, fl, j, z, hz, ez, hm, kk⟩ := k2
  obtain ⟨zv, Bz, h1, h2, _⟩ := rr2.get hz
  have allf : ∀ {m : Nat} {w : D}, _ → w.flat = true := fun {m w} (hw : _) => (List.all_eq_true.mp fl) w (List.mem_of_getElem? (l := _) (i := m) hw)
  refine ⟨a, us, w, j, zv, rfl, rfl, .inl (.inl (e2 _ _ ha)), (flat_py r2 r2 fy fy).2, all_flat rr2 fl, h1, ?_, fun m x hmj hx => ?_, q _ _ H2 [] kk (e.trans e2) .nil .int⟩
  · rw [(flat_py h2 r2 (allf hz) fy).1]
    exact ez
  · obtain ⟨dx, Bx, g1, g2⟩ := reps_at rr2 hx
    rw [(flat_py g2 r2 (allf g1) fy).1]
    exact hm m dx hmj g1
end DL
namespace DL
open PySem PySem.Spec PyProof.Rows L2 Evl PL
set_option maxHeartbeats 1000000
variable {Γ : GS}
/-! ### raise C(..), C an own exception with an __init__ of the form of PX -/
def D.fs : D → Bool
  | .non => true
  | .bl _ => true
  | .int i => decide (i.natAbs.log2 < 1920)
  | .str y => decide (y.length ≤ 1900 ∧ (reprText y).length ≤ 1900)
  | _ => false
/-- its text can be told -/
def D.fm : D → Bool
  | .tup l => decide (l.length ≤ 10) && l.all D.fs
  | d => d.fs
theorem rep_fs {H : Hp} {O : Addr → Prop} {v : V} {d : D} {A : List Addr} (r : Rep H O v d A) (h : d.fs = true) : PX.Fs v := by
  cases r <;> simp [D.fs] at h <;> simp [PX.Fs] <;> exact h
theorem reps_fs {H : Hp} {O : Addr → Prop} : ∀ {vs : List V} {ds : List D} {A : List Addr}, Reps H O vs ds A → ds.all D.fs = true → ∀ z ∈ vs, PX.Fs z
  | _, _, _, .nil, _ => fun _ m => nomatch m
  | _, _, _, .cons r s, h => by
    simp only [List.all_cons, Bool.and_eq_true] at h
    intro z m
    rcases List.mem_cons.mp m with rfl | m
    · exact rep_fs r h.1
    · exact reps_fs s h.2 z m
theorem rep_fm {H : Hp} {O : Addr → Prop} {v : V} {d : D} {A : List Addr} (r : Rep H O v d A) (h : d.fm = true) : PX.FmV H v := by
  cases r with
  | tup h1 r =>
    simp only [D.fm, Bool.and_eq_true, decide_eq_true_eq] at h
    exact .inr ⟨_, _, rfl, h1, by rw [r.length]; exact h.1, reps_fs r h.2⟩
  | non => exact .inl trivial
  | bl => exact .inl trivial
  | int => exact .inl (rep_fs (H := H) (O := O) .int h)
  | str => exact .inl (rep_fs (H := H) (O := O) .str h)
  | _ => simp [D.fm, D.fs] at h
theorem Reps.rev {H : Hp} {O : Addr → Prop} : ∀ {vs : List V} {ds : List D}, Reps H O vs ds [] → Reps H O vs.reverse ds.reverse [] := by
  have key : ∀ {vs : List V} {ds : List D} {A : List Addr}, Reps H O vs ds A → A = [] → Reps H O vs.reverse ds.reverse [] := by
    intro vs
    induction vs with
    | nil =>
      intro ds A r e
      cases r
      exact .nil
    | cons v vs ih =>
      intro ds A r e
      cases r with
      | cons r s =>
        rename_i B d ds C
        have e2 := List.append_eq_nil_iff.mp e
        obtain rfl := e2.1
        rw [List.reverse_cons, List.reverse_cons]
        exact (ih s e2.2).app0 (Reps.cons (A := []) (B := []) r .nil)
  intro vs ds r
  exact key r rfl
theorem zip_rev {α β : Type} : ∀ {l : List α} {r : List β}, l.length = r.length → (l.zip r).reverse = l.reverse.zip r.reverse
  | [], [], _ => rfl
  | a :: l, b :: r, h => by
    have h' : l.length = r.length := by simpa using h
    rw [List.zip_cons_cons, List.reverse_cons, zip_rev h', List.reverse_cons, List.reverse_cons, List.zip_append (by simpa using h')]
    rfl
def dRaise (C : Addr) (nms : List Str) (fi : List Nat) (vs : List Nat) (f : FA) : FS := fun K ρ => f ρ (fun ds => ds.length = nms.length ∧ nms.length ≤ 900 ∧ (∀ i ∈ fi, ∀ d, ds[i]? = some d → d.fm = true) ∧ K.xc ⟨.ref C, nms.reverse, (D.frzs ds).reverse⟩ (frzAt vs ρ)) fun x => K.xc x ρ
def tRaise (W : WX) (C : Addr) (nms : List Str) (fi : List Nat) (ta : TA) : TS := fun _ σ H => tMkO C (PX.spX C nms fi) [] ta σ H fun cls d H' => W cls d σ H'
theorem mk_in {C : Addr} {nms : List Str} {fi : List Nat} {ws : List V} {H1 : Hp} {Q : XK} (hl : ws.length = nms.length) (hz : nms.length ≤ 900) (hf : ∀ i ∈ fi, ∀ v, ws[i]? = some v → PX.FmV H1 v) (hq : ∀ d, H1 d = none → Q (.ref C) (some d) (upd H1 d (.xd (nms.zip ws).reverse))) :
    ws.length ≤ 1000 ∧ ∀ a, H1 a = none → PX.spX C nms fi (.ref a :: (ws ++ [])) (upd H1 a (exo a C none))
      (fun v H2 => v = .non ∧ ∃ (d : Addr) (fs : List (Str × V)), H2 a = some (exo a C (some d)) ∧ H2 d = some (exd d fs) ∧ H1 d = none ∧ Q (.ref C) (some d) (upd (del H2 a) d (.xd fs))) (fun _ _ _ => False) := by
  have key := PX.mk_spX (C := C) (nms := nms) (fi := fi) (ta := fun _ H R => R ws H) (σ := []) (H := H1) (Q := Q) ⟨hl, hz, hf, hq⟩ fun R R' h => h ws H1
  exact key
theorem ls_raise {pn : List Nat} {W : WX} {C : Addr} {nms : List Str} {fi vs : List Nat} {ta : TA} {fa : FA} (h : LA Γ W vs ta fa) : LS Γ pn W (tRaise W C nms fi ta) (dRaise C nms fi vs fa) := fun b hpn σ ρ H AA K D' s k e => by
  refine h b.O0 σ ρ H AA _ _ _ s.se k (fun ds us H1 B k ex n r => ?_) (e.exc s)
  obtain ⟨hl, hz, hf, kx⟩ := k
  have hul : us.length = nms.length := r.length.trans hl
  refine mk_in (C := C) (fi := fi) (H1 := H1) (Q := fun cls d H' => W cls d σ H') hul hz (fun i hi v hv => ?_) fun d nd => ?_
  · obtain ⟨d, B2, h1, h2⟩ := reps_at r hv
    exact rep_fm h2 (hf i hi d h1)
  · obtain ⟨AA1, s1, e1, h1, h2⟩ := SI.frzAt vs (s.exx ex)
    have ex2 : Ex H1 (upd H1 d (.xd (nms.zip us).reverse)) := Ex.new nd
    have rf : Reps H1 (b.O AA1) us (D.frzs ds) [] := r.frz (fun a z y => z (by
        rcases y with y | y
        · exact .inr (.inl y)
        · exact .inr (.inr (h1 a y)))) fun a m y => by
        rcases y with y | y
        · exact s.has0 y (n.fr a m)
        · have := (h1 a y).1
          exact s.se.has a this (n.fr a m)
    have rf2 : Reps (upd H1 d (.xd (nms.zip us).reverse)) (b.O AA1) us (D.frzs ds) [] := rf.keep (kp_ex ex2 fun _ m => nomatch m)
    refine e.xc ⟨.ref C, nms.reverse, (D.frzs ds).reverse⟩ _ _ σ _ _ AA1 kx frzAt_len (s1.exx ex2) (((Evo.ex ex).trans e1).trans (.ex ex2)) ⟨rfl, .inr ⟨d, us.reverse, rfl, ?_, fun y => ?_, ?_, rf2.rev⟩⟩
    · rw [upd_same, zip_rev hul.symm]
    · rcases y with y | y
      · exact s.has0 y (ex_none ex nd)
      · exact s.se.has d (h1 d y).1 (ex_none ex nd)
    · rw [List.length_reverse, List.length_reverse, hul]
structure HEX (P : Program) (w : World) (K : PySem.W.Frag) (mg : Str → Option Value) (base : Heap) (C : Addr) (nms : List Str) (fi : List Nat) (k : Nat) : Prop where
  ex : ∃ (f : Addr) (fd : FuncData) (ps : List Str), OexC K C ∧ PySem.W.findIn K (.ref C) "__init__" = some (some (.ref f)) ∧ PySem.W.typeIn K (.ref f) = some (.type "function") ∧ Binds K fd ps [] ∧ FnX P w K mg base k f fd ps (PX.spX C nms fi)
section
variable {X : Cx} {k : Nat} {C : Addr} {W : WX} {x : Str} {p pos rpos : Pos} {e : Expr} {es : List Expr} {t : TA} {nms : List Str} {fi : List Nat}
/-- C(e, ..), C an own exception with an __init__: it bears no context -/
theorem pmk_N {CX : CXT} {g : Addr} {fd : FuncData} {ps : List Str} {sp : Sp} (T : OexC X.K C) (hi : PySem.W.findIn X.K (.ref C) "__init__" = some (some (.ref g))) (ht : PySem.W.typeIn X.K (.ref g) = some (.type "function")) (Fi : FnOk X.prog X.w X.K X.mg X.base CX k g fd ps sp)
    (hr : Room (k + 1) X.A) (hb : Binds X.K fd ps []) (hx : Passes CX X fun _ _ _ => False) (hg : Gl X x) (hm : X.mg x = some (.ref C)) (ha : PA X (e :: es) t) (hdb : (x == ("__debug__" : Str)) = false) (he : starEach (e :: es) X.env = (false, eval e X.env) :: starEach es X.env)
    (hpl : (backTo pos (starEach es X.env)).any (·.1) = false) : L2N.PMk X (.Call (.Name x p) (e :: es) [] pos) (tMkO C sp [] t) := fun pins s σ H Q I h => by
  obtain ⟨_, _, _, _, bm, _, _, _, _, _, _, _, _, _, _, hC, hbm⟩ := T.cls
  refine wpAny_Call_Name_kw (ld_glob I hg hm (PySem.W.callWith_K (h₀ := X.base) I.ok.mod.kin T.kC (thn (ha.run pos pins s σ H _ I h) fun us s1 ⟨vs, H1, I1, rv, hz, q1⟩ => ⟨I1.kIn, ?_⟩) he hpl) hdb)
  change wpAny _ _ (call (.ref C) us) _ _ _
  obtain ⟨m, gs, dr, tk, os⟩ := s1
  let a : Addr := m.objs.size + 1
  let m2 : Heap := (m.push (PySem.W.kdv_tup us)).push (PySem.HandSPX.excO C m.objs.size)
  have le : m.objs.size ≤ a := Nat.le_succ _
  have qa := q1 a (I1.hok.fresh le)
  rw [List.append_nil] at qa
  have keep : ∀ b o, m.get? b = some o → m2.get? b = some o := fun b o z => Heap.get?_push_of_some _ (Heap.get?_push_of_some _ z)
  have at_a : m2.get? a = some (PySem.HandSPX.excO C m.objs.size) := by
    show ((m.push (PySem.W.kdv_tup us)).push (PySem.HandSPX.excO C m.objs.size)).get? (m.objs.size + 1) = _
    heap_get
  have I2 : Inv X pins σ (upd H1 a (exo a C none)) ⟨m2, gs, dr, tk, os⟩ := I1.laid (a := a) (t' := tk) (h' := m2) (o := exo a C none) keep le (exo_ok at_a)
  have rv2 : Vals (V.ref a :: vs) (Value.ref a :: us) := .cons rfl rv
  have len2 : (Value.ref a :: us ++ []).length = ps.length := by
    rw [List.append_nil, ← Paired.length rv2]
    exact Fi.len _ _ _ _ qa
  have small : us.length ≤ sizeLine := by
    have := Paired.length rv
    rw [sizeLine_eq]
    omega
  have bnd := hb _ (Value.ref a :: us) I2.kIn len2
  rw [List.append_nil] at bnd
  have run := Fi.run _ X.stack _ _ ⟨Value.ref a :: us, []⟩ (Value.ref a :: us) _ _ (fun _ _ _ => False) (hr.make C us []) (I2.env0.make C us []) bnd rv2 qa
  refine wpAny_call (PySem.HandSPX.call_own F.excBase_ValueError (fun Y => PySem.HandSPX.refsVE_contains Y bm hbm) (I1.kIn _ _ hC) (PySem.W.looks_findIn I1.kIn hi) (fun self => PySem.W.bind_fn I1.kIn self ht) small (codeAny_mono run fun r s' post => ?_))
  match r, post with
  | .error er, post => exact hx pins σ _ _ er s' I2 post
  | .ok .next, post | .ok .brk, post | .ok .cont, post => exact post.elim
  | .ok (.ret u), ⟨_, H2, o2, bare, un, ok2, ru, ev, d, fs, ea, ed, fresh, fin⟩ =>
    subst ev
    obtain ⟨m3, g3, d3, t3, os3⟩ := s'
    obtain ⟨t0, G, J, kG, nG, obj, na⟩ := mk_end0 (d2 := d3) (t2 := t3) I1 le keep un ok2 o2 bare ea ed fresh
    exact ⟨ru, a, _, _, ⟨G, g3, d3, t3, os3⟩, _, .ref C, some d, rfl, J, kG, nG, obj, ⟨rfl, rfl, fun vs hv => by cases hv; rfl⟩, rfl, rfl, na, rfl, bare, raises_own T.exC T.tyC, fin⟩
theorem px_raise (tk : L2N.Takes X W) (hc : X.calm = true) (h : HEX X.prog X.w X.K X.mg X.base C nms fi k) (hm : X.mg x = some (.ref C)) (hr : Room (k + 1) X.A) (hg : Gl X x) (ha : PA X (e :: es) t) (hdb : (x == ("__debug__" : Str)) = false := by decide)
    (he : starEach (e :: es) X.env = (false, eval e X.env) :: starEach es X.env := by rfl) (hpl : (backTo pos (starEach es X.env)).any (·.1) = false := by rfl) : PS X (.Raise (some (.Call (.Name x p) (e :: es) [] pos)) none rpos) (tRaise W C nms fi t) := by
  obtain ⟨f, fd, ps, h1, h2, h3, h4, h5⟩ := h.ex
  exact L2N.ps_raise hc tk (pmk_N (CX := L2N.CX X.prog X.w) h1 h2 h3 h5 hr h4 passN hg hm ha hdb he hpl)
end
end DL
namespace DL
open PySem PySem.Spec PyProof.Rows L2 Evl PL
set_option maxHeartbeats 1000000
variable {Γ : GS}
/-! ### try .. except C as e -/
/-- a slot gets what is shared -/
theorem SI.put {b : Bas} {H : Hp} {σ : L2.St} {ρ : Env} {AA : List (List Addr)} {i : Nat} {v : V} {d : D} (s : SI Γ b H σ ρ AA) (r : Rep H (b.O AA) v d []) (hl : i < ρ.length) (hd : i ∉ b.pn) : SI Γ b H (σ.set i (some v)) (ρ.set i (some d)) (AA.set i []) ∧ Evo b H AA H (AA.set i []) := by
  have t1 : SE Γ b.O0 H (σ.set i (some v)) (ρ.set i (some d)) (AA.set i []) := SE.bind (B := []) (s.se.congr fun a => by simp [Op]) (r.keep ⟨fun a o h n => ⟨h, fun z => n (z.resolve_left fun m => nomatch m)⟩, fun _ _ _ m => (nomatch m), fun _ _ h => h⟩) .nil (fun _ m => nomatch m) hl
  exact s.of (B := []) (Ex.refl H) (fun _ m => nomatch m) t1 (fun a m => .inl (flat_set_nil m)) fun k m => List.getElem?_set_ne fun z => hd (by rw [z]; exact m)
/-- a slot is emptied -/
theorem SI.empty {b : Bas} {H : Hp} {σ : L2.St} {ρ : Env} {AA : List (List Addr)} {i : Nat} (s : SI Γ b H σ ρ AA) (hd : i ∉ b.pn) : SI Γ b H (σ.set i none) (ρ.set i none) (AA.set i []) ∧ Evo b H AA H (AA.set i []) :=
  ⟨⟨s.sr.no1 ⟨fun a o h n => ⟨h, fun z => n (z.imp id flat_set_nil)⟩, fun a o h m => ⟨h, .inr m⟩, fun _ _ h => h⟩, nd_set s.nd .nil fun _ m => (nomatch m), fun a m => s.fr a (flat_set_nil m), s.o0, s.ex, fun k m => by rw [List.getElem?_set_ne fun z => hd (by rw [z]; exact m)]; exact s.pn k m, s.gi⟩,
    ⟨fun a o h n => ⟨h, fun z => n (z.imp id flat_set_nil)⟩, fun _ _ h => h⟩⟩
/-- what a suite is to reach: nothing is raised by it -/
def DEn.calm (K : DEn) (i : Nat) : DEn := { nx := fun ρ => K.nx (ρ.set i none), rt := K.rt, xc := fun _ _ => False, bk := fun ρ => K.bk (ρ.set i none), ct := fun ρ => K.ct (ρ.set i none) }
def dTryAs (tab : List (Value × Bool)) (i : Nat) (body : FS) (suite : Addr → Value → Option Addr → FS) : FS := fun K ρ =>
  body { K with xc := fun x ρ' => ∃ b, (x.cls, b) ∈ tab ∧
    (b = true → i < ρ'.length ∧ ∀ a, (x.nm = [] → suite a x.cls none (K.calm i) (ρ'.set i (some (.adr a)))) ∧ ∀ dd, suite a x.cls (some dd) (K.calm i) (ρ'.set i (some (.xo a dd x.nm x.fs)))) ∧
    (b = false → K.xc x ρ') } ρ
/-- nothing may be raised -/
abbrev WN : WX := fun _ _ _ _ => False
theorem ls_tryAs {pn : List Nat} {Wout : WX} {Kf : PySem.W.Frag} {c : Value} {tab : List (Value × Bool)} {i : Nat} {tb : WX → TS} {body : FS} {ts : Addr → Value → Option Addr → TS} {suite : Addr → Value → Option Addr → FS}
    (hb : ∀ W, LS Γ pn W (tb W) body) (hs : ∀ a cls d, LS Γ pn WN (ts a cls d) (suite a cls d)) (htab : ∀ cls b, (cls, b) ∈ tab → PySem.W.exmOne Kf cls c = some b) (hi : i ∉ pn := by decide) :
    LS Γ pn Wout (fun D σ H => tb (wAs Kf c i ts Wout D) D σ H) (dTryAs tab i body suite) := fun b hpn σ ρ H AA K D' s k e => by
  refine hb _ b hpn σ ρ H AA _ D' s k ⟨e.nx, e.rt, fun x cls dd σ' ρ' H' AA' ⟨bb, hm, ht, hf⟩ l s' v r => ?_, e.bk, e.ct⟩
  obtain ⟨hcls, r⟩ := r
  subst hcls
  refine ⟨bb, htab _ _ hm, fun hbb a na => ?_, fun hbb => e.xc x x.cls dd σ' ρ' H' AA' (hf hbb) l s' v ⟨rfl, r⟩⟩
  obtain ⟨hl, ht⟩ := ht hbb
  have go : ∀ (d : D), Rep H' (b.O AA') (.ref a) d [] → suite a x.cls dd (K.calm i) (ρ'.set i (some d)) →
      ts a x.cls dd { nx := fun σ' H' => D'.nx (σ'.set i none) H', rt := D'.rt, bk := fun σ' H' => D'.bk (σ'.set i none) H', ct := fun σ' H' => D'.ct (σ'.set i none) H' } (σ'.set i (some (.ref a))) H' := by
    intro d rd hk
    obtain ⟨s2, v2⟩ := s'.put rd hl (by rw [hpn]; exact hi)
    have ev := v.trans v2
    refine hs a x.cls dd b hpn _ _ H' _ (K.calm i) _ s2 hk ⟨fun σ3 ρ3 H3 A3 k3 l3 s3 v3 => ?_, fun d v σ3 ρ3 H3 A3 B k3 l3 s3 v3 => e.rt d v σ3 ρ3 H3 A3 B k3 (by rw [l3]; simpa using l) s3 (ev.trans v3), fun x cls dd σ3 ρ3 H3 A3 k3 => k3.elim, fun σ3 ρ3 H3 A3 k3 l3 s3 v3 => ?_, fun σ3 ρ3 H3 A3 k3 l3 s3 v3 => ?_⟩
    · obtain ⟨s4, v4⟩ := s3.empty (i := i) (by rw [hpn]; exact hi)
      exact e.nx _ _ H3 _ k3 (by simpa using l3.trans (by simpa using l)) s4 ((ev.trans v3).trans v4)
    · obtain ⟨s4, v4⟩ := s3.empty (i := i) (by rw [hpn]; exact hi)
      exact e.bk _ _ H3 _ k3 (by simpa using l3.trans (by simpa using l)) s4 ((ev.trans v3).trans v4)
    · obtain ⟨s4, v4⟩ := s3.empty (i := i) (by rw [hpn]; exact hi)
      exact e.ct _ _ H3 _ k3 (by simpa using l3.trans (by simpa using l)) s4 ((ev.trans v3).trans v4)
  rcases r with ⟨rfl, hn⟩ | ⟨d, vs, rfl, h1, nO, h2, h3⟩
  · exact go _ .adr ((ht a).1 hn)
  · exact go _ (.xo h1 nO h2.symm h3) ((ht a).2 d)
/-- e.f, e the caught exception -/
def tXfs (a : Addr) (cls : Value) (d : Option Addr) (cs : List Addr) (f : Str) (te : TE) : TE := fun σ H Q => te σ H fun x H1 => x = .ref a ∧ ∃ (C : Addr) (dd : Addr) (fs : List (Str × V)) (v : V), C ∈ cs ∧ cls = .ref C ∧ d = some dd ∧ H1 dd = some (.xd fs) ∧ fs.lookup f = some v ∧ Q v H1
theorem pe_xfs {X : Cx} {a : Addr} {cs : List Addr} {oe : Obj} {cls : Value} {d : Option Addr} {pn : List (Addr × Obj)} {e : Expr} {te : TE} {pos : Pos} {n : Str} (T : ∀ C ∈ cs, XfC X.K C ∧ PySem.W.findIn X.K (.ref C) n = some none)
    (hz : Zc cls d oe) (hf : ∃ vs, oe.data = .fields vs) (he : PE (X.suite a ((a, oe) :: pn)) e te) (hb : attributeBase e n X.env (eval e X.env) = eval e X.env := by rfl) :
    PE (X.suite a ((a, oe) :: pn)) (.Attribute e n pos) (tXfs a cls d cs n te) := by
  refine ⟨fun pins s σ H Q I h => ?_⟩
  by_cases hc : ∃ C ∈ cs, cls = .ref C
  · obtain ⟨C, hC, rfl⟩ := hc
    have w := (pe_xf (T C hC).1 (T C hC).2 hz hf (⟨fun pins s σ H Q I h => he.run pins s σ H Q I h⟩ : PE (X.suite a ((a, oe) :: pn)) e te) (pos := pos) hb)
    have he2 : PE (X.suite a ((a, oe) :: pn)) e (fun σ H Q => te σ H fun x H1 => Q x H1) := he
    refine attr_of hb (thn (he.run pins s σ H _ I h) fun u s1 hh => ?_)
    obtain ⟨x, H1, I1, rx, ex, C', dd, fs, v, hC', ec, ed, ea, l, q⟩ := hh
    subst ex
    obtain rfl : u = Value.ref a := rx
    cases ec
    subst ed
    obtain ⟨ha, _⟩ := I1.pin (a, oe) (List.mem_append_left _ List.mem_cons_self)
    obtain ⟨vs, hd⟩ := hf
    have hx : ObjOk X.prog X.w H1 s1.heap dd (.xd fs) := I1.hok dd _ ea
    obtain ⟨mA, hns, hr⟩ := hx
    obtain ⟨od, ho, hl⟩ := lookIn_ns hns
    obtain ⟨u, hu, ru⟩ := RelO.some_of (v := v) (o := mA n) (by rw [← l]; exact hr n)
    have J : PySem.W.InstAt s1.heap a oe C (some od) := ⟨ha, hz.1, by unfold PySem.W.notCls; rw [hd] <;> rfl, by rw [hz.2]; exact ho⟩
    have T' := (T C hC).1
    exact HandSPX.exc_get I1.kIn J T'.ga T'.gg T'.exC (PySem.W.findObj_own T'.hdC (T C hC).2 rfl (by rw [hl, hu])) (handed_of ru) ⟨v, H1, I1.tok _, ru, q⟩
  · refine attr_of hb (thn (he.run pins s σ H _ I h) fun u s1 hh => ?_)
    obtain ⟨x, H1, I1, rx, ex, C', dd, fs, v, hC', ec, _⟩ := hh
    exact absurd ⟨C', hC', ec⟩ hc
def dXf (a : Addr) (cls : Value) (d : Option Addr) (cs : List Addr) (i : Nat) (f : Str) : FE := fun ρ K _ => ∃ C dd nm l y, C ∈ cs ∧ cls = .ref C ∧ d = some dd ∧ ρ[i]? = some (some (.xo a dd nm l)) ∧ lookF nm l f = some y ∧ K y
theorem le_xf {W : WX} {a : Addr} {cls : Value} {d : Option Addr} {cs : List Addr} {i : Nat} {f : Str} : LE Γ W [] (tXfs a cls d cs f (tVar i)) (dXf a cls d cs i f) := by
  intro O σ ρ H AA K X Q s h q _
  obtain ⟨C, dd, nm, l, y, hC, hc, hd, e, hl, k⟩ := h
  obtain ⟨v, B, h1, h2, r⟩ := s.sr.get e
  cases r with
  | xo hx nO hn rr =>
    obtain ⟨v, h3, h4⟩ := lookF_rep rr hl
    refine ⟨_, h1, rfl, C, dd, _, v, hC, hc, hd, hx, h3, q y v H [] k (Ex.refl H) .nil (h4.keep ⟨fun a o h n => ⟨h, fun z => n ?_⟩, fun _ _ _ m => (nomatch m), fun _ _ h => h⟩)⟩
    rcases z with z | z | z
    · exact nomatch z
    · exact .inl z
    · exact .inr z.1
end DL
namespace DL
open PySem PySem.Spec PyProof.Rows L2 Evl PL
set_option maxHeartbeats 1000000
variable {Γ : GS}
/-! ### isinstance of the caught exception; try .. except C: -/
def gIsD (a : Addr) (cls : Value) (d : Option Addr) (tab : List (Value × Bool)) (cd : D) (xs : List D) (K : D → Prop) : Prop := ∃ x b, xs = [x, cd] ∧ ((x = .adr a ∧ d = none) ∨ ∃ dd nm l, x = .xo a dd nm l ∧ d = some dd) ∧ (cls, b) ∈ tab ∧ K (.bl b)
theorem rc_isD {Kf : PySem.W.Frag} {a : Addr} {cls : Value} {d : Option Addr} {tab : List (Value × Bool)} {cd : D} {cv : Value} {v0 : V} (hs : cd.scal = some v0) (hv : ∀ u, RelV v0 u → u = cv) (htab : ∀ c b, (c, b) ∈ tab → ∃ C, c = .ref C ∧ ExcC Kf C ∧ PySem.W.kitOne Kf c cv = some b) : RCS (PX.rIsD Kf a cls d) (gIsD a cls d tab cd) := by
  intro xs us H O A K Q r h q
  obtain ⟨x, b, rfl, hx, hm, k⟩ := h
  obtain ⟨v, u, B1, B2, rfl, r1, r2, _⟩ := reps_two r
  obtain ⟨C, rfl, hC, hk⟩ := htab _ _ hm
  obtain ⟨rfl, _⟩ := r2.scal hs
  rcases hx with ⟨rfl, rfl⟩ | ⟨dd, nm, l, rfl, rfl⟩
  · cases r1
    exact ⟨_, cv, C, b, rfl, hv, rfl, hC, .inl rfl, hk, q (.bl _) _ rfl k⟩
  · cases r1 with
    | xo hx nO hn rr => exact ⟨_, cv, C, b, rfl, hv, rfl, hC, .inr ⟨dd, _, rfl, hx⟩, hk, q (.bl _) _ rfl k⟩
/-- what a suite without a name is to reach -/
def DEn.still (K : DEn) : DEn := { K with xc := fun _ _ => False }
def dTryOnly (tab : List (Value × Bool)) (body : FS) (suite : Addr → Value → Option Addr → FS) : FS := fun K ρ =>
  body { K with xc := fun x ρ' => ∃ b, (x.cls, b) ∈ tab ∧ (b = true → ∀ a d, suite a x.cls d K.still ρ') ∧ (b = false → K.xc x ρ') } ρ
theorem ls_tryOnly {pn : List Nat} {Wout : WX} {Kf : PySem.W.Frag} {c : Value} {tab : List (Value × Bool)} {tb : WX → TS} {body : FS} {ts : Addr → Value → Option Addr → TS} {suite : Addr → Value → Option Addr → FS}
    (hb : ∀ W, LS Γ pn W (tb W) body) (hs : ∀ a cls d, LS Γ pn WN (ts a cls d) (suite a cls d)) (htab : ∀ cls b, (cls, b) ∈ tab → PySem.W.exmOne Kf cls c = some b) :
    LS Γ pn Wout (fun D σ H => tb (wOnly Kf c ts Wout D) D σ H) (dTryOnly tab body suite) := fun b hpn σ ρ H AA K D' s k e => by
  refine hb _ b hpn σ ρ H AA _ D' s k ⟨e.nx, e.rt, fun x cls dd σ' ρ' H' AA' ⟨bb, hm, ht, hf⟩ l s' v r => ?_, e.bk, e.ct⟩
  have hcls := r.1
  subst hcls
  refine ⟨bb, htab _ _ hm, fun hbb a na => ?_, fun hbb => e.xc x x.cls dd σ' ρ' H' AA' (hf hbb) l s' v r⟩
  have e2 := e.evo v
  refine hs a x.cls dd b hpn _ _ H' _ K.still _ s' (ht hbb a dd) ?_
  rw [l]
  exact ⟨e2.nx, e2.rt, fun x cls dd σ3 ρ3 H3 A3 k3 => k3.elim, e2.bk, e2.ct⟩
end DL
namespace DL
open PySem PySem.Spec PyProof.Rows L2 Evl PL
set_option maxHeartbeats 1000000
variable {Γ : GS}
/-! ### calls within a try; what a suite's own lines need -/
section
variable {X : Cx} {k : Nat} {sp : Sp} {W : WX} {x : Str} {p pos : Pos} {e : Expr} {es : List Expr} {t : TA}
theorem px_fnS (tk : L2N.Takes X W) (h : HX X.prog X.w X.K X.mg X.base x k sp) (hr : Room k X.A) (hg : Gl X x) (ha : PA X (e :: es) t) (hdb : (x == ("__debug__" : Str)) = false := by decide) (he : starEach (e :: es) X.env = (false, eval e X.env) :: starEach es X.env := by rfl)
    (hpl : (backTo pos (starEach es X.env)).any (·.1) = false := by rfl) : PE X (.Call (.Name x p) (e :: es) [] pos) (tCallS sp (WEs W) t) := by
  obtain ⟨f, fd, ps, h1, h2, h3, h4⟩ := h.ex
  exact pe_callS h4 hr hg h1 h2 h3 (L2N.passAt tk) ha hdb he hpl
end
/-- the bound that comparisons need, in a suite -/
theorem suite_units {X : Cx} {k : Nat} {a : Addr} {pn : List (Addr × Obj)} (hr : Room k X.A) : (X.suite a pn).A.units + 64 < cLine := hr.units
end DL
namespace DL
open PySem PySem.Spec PyProof.Rows L2 Evl PL
set_option maxHeartbeats 1000000
variable {Γ : GS}
/-! ### sorted(d), d a dict whose keys are pairs of ints -/
def dPair (q : Int × Int) : D := .tup [.int q.1, .int q.2]
def gSortDT : List D → (D → Prop) → Prop
  | [.dT _ ks _] => fun K => (∀ k ∈ ks, ∃ i j : Int, k = [.inl i, .inl j]) ∧ ∀ L : List (Int × Int), L.Perm (ks.map PO.keyPair) → L.Pairwise PO.LexLe → K (.lst true (L.map dPair))
  | _ => fun _ => False
theorem reps_pairs {H : Hp} {O : Addr → Prop} : ∀ {bs : List Addr} {L : List (Int × Int)}, bs.map (fun b => H b) = L.map (fun q => some (.tup [.int q.1, .int q.2])) → Reps H O (bs.map V.ref) (L.map dPair) []
  | [], [], _ => .nil
  | [], _ :: _, h => by simp at h
  | _ :: _, [], h => by simp at h
  | b :: bs, q :: L, h => by
    simp only [List.map_cons, List.cons.injEq] at h
    exact .cons (A := []) (B := []) (.tup h.1 (.cons (A := []) (B := []) .int (.cons (A := []) (B := []) .int .nil))) (reps_pairs h.2)
theorem rc_sortDT : RC PO.rSortedDT gSortDT := by
  intro xs us H O K Q r h q
  match xs, h with
  | [.dT o ks l], h =>
    obtain ⟨v, rfl, r1⟩ := reps_one r
    obtain ⟨a, vs, rfl, ha, e, rr⟩ := rd_dT0 r1
    refine ⟨a, ks.zip vs, rfl, .inl ha, fun kv hkv => h.1 _ (List.of_mem_zip (show (kv.1, kv.2) ∈ ks.zip vs from hkv)).1, fun p bs L hp pm pw hb => ?_⟩
    have em : (ks.zip vs).map (fun kv => PO.keyPair kv.1) = ks.map PO.keyPair := by
      rw [show (fun kv : List Key × V => PO.keyPair kv.1) = PO.keyPair ∘ Prod.fst from rfl, ← List.map_map, List.map_fst_zip (by omega)]
    rw [em] at pm
    exact q _ _ _ [p] (h.2 L pm pw) (Ex.new hp) (.one hp) (mk_lst hp (reps_pairs hb))
end DL
namespace DL
open PySem PySem.Spec PyProof.Rows L2 Evl PL
set_option maxHeartbeats 1000000
variable {Γ : GS}
/-! ### class methods; a class held in a slot, called -/
def dCMeth (vs : List Nat) (C : Addr) (F : DF) (g : FE) (t : FA) : FE := fun ρ K X => g ρ (fun d => d = .adr C ∧ t ρ (fun ds => F (.adr C :: D.frzs ds) (fun d _ => K d) fun x _ => okX vs x ∧ X x) X) X
theorem le_cmeth {E : XK} {vs ws : List Nat} {C : Addr} {F : DF} {t : TE} {g : FE} {ta : TA} {fa : FA} (h : LE Γ (WE E) vs t g) (ha : LA Γ (WE E) ws ta fa) : LE Γ (WE E) ws (ClX.tCMeth C (spP Γ F) E t ta) (dCMeth ws C F g fa) := by
  intro O σ ρ H AA K X Q s hk q hX
  refine h O σ ρ H AA _ X _ s hk (fun d v H1 A k e n r => ?_) hX
  obtain ⟨rfl, k⟩ := k
  cases r
  refine ⟨rfl, ha _ σ ρ H1 AA _ X _ (s.ex e) k (fun ds us H2 B k2 e2 n2 r2 => ?_) fun x cls dd H' hx e2 r => hX x cls dd H' hx (e.trans e2) r⟩
  have rz := frzs_ox (vs := ws) (s.ex e) n2 r2
  exact ⟨Ox O AA ws [], _, _, _, .cons (A := []) (B := []) .adr rz, ox_has (s.ex (e.trans e2)), (s.ex (e.trans e2)).gi, k2, fun d v H' C kk e3 n3 rr => q d v H' C kk ((e.trans e2).trans e3) (new_ex (e.trans e2) n3) (ou_ox rr), fun x cls dd H' kk e3 rr => hX x cls dd H' kk.2 ((e.trans e2).trans e3) (xr_ok (s.ex ((e.trans e2).trans e3)) kk.1 rr)⟩
structure HCX (P : Program) (w : World) (K : PySem.W.Frag) (mg : Str → Option Value) (base : Heap) (C : Addr) (m : Str) (k : Nat) (sp : Sp) : Prop where
  ex : ∃ (mc : Value) (p g : Addr) (fd : FuncData) (ps : List Str), ClX.CRead K C mc ∧ ClX.CMet K C mc m p g ∧ Binds K fd ps [] ∧ FnX P w K mg base k g fd ps sp
section
variable {X : Cx} {k i : Nat} {C : Addr} {sp : Sp} {E : XK} {x m : Str} {p pos apos : Pos} {o e : Expr} {es : List Expr} {ta : TE} {t : TA}
theorem fnR_of {P : Program} {w : World} {K : PySem.W.Frag} {mg : Str → Option Value} {base : Heap} {g : Addr} {fd : FuncData} {ps : List Str} (hb : Binds K fd ps []) (F : FnX P w K mg base k g fd ps sp) : FnR P w K mg base (L2N.CX P w) k g sp := fun A outer s H us vs Q E hr e0 r h => by
  have hl : us.length = ps.length := by rw [← r.length]; exact F.len _ _ _ _ h
  have KX : K.In s.heap := e0.mod.kin.keeps fun b o e => (e0.bs b o e).1
  have b := hb s us KX (by rw [List.append_nil]; exact hl)
  rw [List.append_nil] at b
  exact F.run A outer s H ⟨us, []⟩ us vs Q E hr e0 b r h
theorem px_c (E : XK) (hx : Passes (L2N.CX X.prog X.w) X E) (h : HCX X.prog X.w X.K X.mg X.base C m k sp) (hr : Room k X.A) {pl : Sem Bool} (he : PE X o ta) (ha : PA X (e :: es) t) (hst : starEach (e :: es) X.env = (false, eval e X.env) :: starEach es X.env := by rfl) (hpl : (backTo pos (starEach es X.env)).any (·.1) = false := by rfl)
    (ht : eval (.Call (.Attribute o m apos) (e :: es) [] pos) X.env = (do let ov ← eval o X.env; standAt apos.atName; let (f, first) ← holding [ov] (getMethod ov m pl); callWith pos f first (backTo pos (starEach (e :: es) X.env)) (backToKw pos (keywordEach [] X.env))) := by rfl) :
    PE X (.Call (.Attribute o m apos) (e :: es) [] pos) (ClX.tCMeth C sp E ta t) := by
  obtain ⟨mc, p, g, fd, ps, h1, h2, h3, h4⟩ := h.ex
  exact ClX.pe_cmeth (pl := pl) he h1 h2 (fnR_of h3 h4) hr hx ha hst hpl ht
/-- C(..), C in slot i -/
def tMakeV (i : Nat) (C : Addr) (sp : Sp) (E : XK) (t : TA) : TE := fun σ H Q => σ[i]? = some (some (.ref C)) ∧ tMake C sp [] E t σ H Q
theorem px_iv (E : XK) (hx : Passes (L2N.CX X.prog X.w) X E) (h : HIX X.prog X.w X.K X.mg X.base C k sp) (hr : Room (k + 1) X.A) (hv : PE X (.Name x p) (tVar i)) (ha : PA X (e :: es) t) (he : starEach (e :: es) X.env = (false, eval e X.env) :: starEach es X.env := by rfl)
    (hpl : (backTo pos (starEach es X.env)).any (·.1) = false := by rfl) : PE X (.Call (.Name x p) (e :: es) [] pos) (tMakeV i C sp E t) := by
  obtain ⟨f, fd, ps, M, h2, F⟩ := h.ex
  refine ⟨fun pins s σ H Q I ⟨h0, h⟩ => ?_⟩
  refine wpAny_Call_Name_kw (thn (hv.run pins s σ H (fun v H' => v = .ref C ∧ H' = H) I ⟨_, h0, rfl, rfl⟩) fun u s1 ⟨v, H1, I1, rv, e1, e2⟩ => ?_)
  subst e1 e2
  obtain rfl : u = Value.ref C := rv
  refine PySem.W.callWith_K (h₀ := X.base) I1.ok.mod.kin M.kp (thn (ha.run pos pins s1 σ H1 _ I1 h) fun us s2 ⟨vs, H2, I2, r, q⟩ => ⟨I2.kIn, ?_⟩) he hpl
  exact run_make M F hr h2 .nil hx I2 r q
end
def dMakeV (i : Nat) (vs : List Nat) (C : Addr) (F : DF) (t : FA) : FE := fun ρ K X => ρ[i]? = some (some (.adr C)) ∧ dMake vs C F t ρ K X
theorem le_makeV {E : XK} {i : Nat} {vs : List Nat} {C : Addr} {F : DF} {t : TA} {f : FA} (h : LA Γ (WE E) vs t f) : LE Γ (WE E) vs (tMakeV i C (spM Γ [0] F) E t) (dMakeV i vs C F f) := by
  intro O σ ρ H AA K X Q s hk q hX
  obtain ⟨v, B, h1, h2, r⟩ := s.sr.get hk.1
  cases r
  exact ⟨h1, le_make h O σ ρ H AA K X Q s hk.2 q hX⟩
end DL
namespace DL
open PySem PySem.Spec PyProof.Rows L2 Evl PL
set_option maxHeartbeats 1000000
variable {Γ : GS}
/-! ### l.insert(k, y), l.reverse() -/
theorem Reps.cut2 {H : Hp} {O : Addr → Prop} : ∀ {us : List V} {ds : List D} {A : List Addr} (k : Nat), Reps H O us ds A → ∃ A1 A2, A = A1 ++ A2 ∧ Reps H O (us.take k) (ds.take k) A1 ∧ Reps H O (us.drop k) (ds.drop k) A2
  | us, ds, A, 0, r => ⟨[], A, rfl, by simpa using .nil, by simpa using r⟩
  | _, _, _, k + 1, .nil => ⟨[], [], rfl, by simpa using .nil, by simpa using .nil⟩
  | _, _, _, k + 1, .cons (A := A0) r s => by
    obtain ⟨A1, A2, rfl, h1, h2⟩ := s.cut2 k
    exact ⟨A0 ++ A1, A2, by rw [List.append_assoc], .cons r h1, h2⟩
theorem Reps.revP {H : Hp} {O : Addr → Prop} : ∀ {us : List V} {ds : List D} {A : List Addr}, Reps H O us ds A → ∃ A', A'.Perm A ∧ Reps H O us.reverse ds.reverse A'
  | _, _, _, .nil => ⟨[], .refl _, .nil⟩
  | _, _, _, .cons (A := A0) (B := B) r s => by
    obtain ⟨A', p, q⟩ := s.revP
    refine ⟨A' ++ A0, ?_, ?_⟩
    · exact List.perm_append_comm.trans (List.Perm.append_left _ p)
    · rw [List.reverse_cons, List.reverse_cons]
      have := q.append (Reps.cons r .nil)
      rwa [List.append_nil] at this
def opIns (k : Int) (y : D) (e : D) (K : D → Prop) : Prop := match e with
  | .lst true l => l.length ≤ 100000 ∧ 0 ≤ k ∧ k < 2 ^ 62 ∧ K (.lst true (l.take k.toNat ++ [y] ++ l.drop k.toNat))
  | _ => False
def dIns (i : Nat) (f : FP) (gk : FE) (vs : List Nat) (g : FE) : FS := fun K ρ => f ρ (fun p => isOwnL ρ i p ∧ gk ρ (fun z => g ρ (fun y => ∃ k, z = .int k ∧ modAt i p (opIns k y) (frzC y vs ρ) K.nx) fun x => K.xc x ρ) fun x => K.xc x ρ) fun x => K.xc x ρ
def rIns : V → List V → Hp → VK → Prop := fun x vs H Q => ∃ (l : Addr) (xs : List V) (i : Int) (y : V), x = .ref l ∧ vs = [.int i, y] ∧ H l = some (.lst xs) ∧ xs.length < sizeLine ∧ 0 ≤ i ∧ i < 2 ^ 63 ∧ Q .non (upd H l (.lst (xs.take i.toNat ++ [y] ++ xs.drop i.toNat)))
theorem mt_ins {X : Cx} : MtR X "list.insert" rIns := mt_insert
theorem ls_ins {pn : List Nat} {W : WX} {Kf : PySem.W.Frag} {i : Nat} {vs ws : List Nat} {to te tk : TE} {f : FP} {g gk : FE} (h : LP Γ W i to f) (hk : LE Γ W ws tk gk) (hg : LE Γ W vs te g) : LS Γ pn W (tDrop (tBM Kf "list" rIns to (tCons tk (tCons te tNil)))) (dIns i f gk vs g) := fun b hpn σ ρ H AA K D' s k e => by
  refine h b.O0 σ ρ H AA _ _ _ s.se k (fun p v v0 H1 k e1 h0 pv => ?_) (e.exc s)
  refine ⟨ownL_ty (s.se.ex e1) k.1 h0 pv, hk b.O0 σ ρ H1 AA _ _ _ (s.exx e1).se k.2 (fun z wz H2 C k2 e2 nC rz => ?_) ((e.evo (.ex e1)).exc (s.exx e1))⟩
  refine hg b.O0 σ ρ H2 AA _ _ _ ((s.exx e1).exx e2).se k2 (fun y w H3 B k3 e3 n r => ?_) ((e.evo (.ex (e1.trans e2))).exc ((s.exx e1).exx e2))
  obtain ⟨kz, rfl, d, e0, hd, hat, op⟩ := k3
  cases rz
  have e12 := e1.trans e2
  obtain ⟨AA1, s0, s1, s2, ev, sub, r1⟩ := apart (s.exx e12) e3 n r
  obtain ⟨A1, ru, _, go⟩ := SI.change s1 s2 (.ex e3) (fun a m => .inl (n.fr a m)) (fun a m => s0.sub0 (n.fr a m)) (fun a m z => s0.has0 z (n.fr a m)) hd hat h0 (pv.ex (e2.trans e3))
  cases e0 <;> simp only [opIns] at op
  rename_i o l
  cases o <;> simp only at op
  obtain ⟨op1, o2, o3, op2⟩ := op
  cases ru with
  | @lstO a us _ A2 ha oa rl =>
    obtain ⟨_, nd2, disj, go⟩ := go a A2 rfl ⟨_, ha, trivial⟩
    obtain ⟨B1, B2, rfl, h1, h2⟩ := rl.cut2 kz.toNat
    obtain ⟨d', AA', hp, s3, ev3, _⟩ := go (.lst (us.take kz.toNat ++ [w] ++ us.drop kz.toNat)) (.lst true (l.take kz.toNat ++ [y] ++ l.drop kz.toNat)) (B1 ++ (B ++ B2)) (fun x m => by
        rcases List.mem_append.mp m with m | m
        · exact .inl (by simp [m])
        · exact (List.mem_append.mp m).elim .inr fun m => .inl (by simp [m])) (by
        obtain ⟨n1, n2, n3⟩ := List.nodup_append.mp nd2
        refine List.nodup_append.mpr ⟨n1, List.nodup_append.mpr ⟨n.nd, n2, fun x m c m2 z => by subst z; exact disj x m (by simp [m2])⟩, fun x m c m2 z => ?_⟩
        subst z
        rcases List.mem_append.mp m2 with m2 | m2
        · exact disj x m2 (by simp [m])
        · exact n3 x m x m2 rfl) fun H' O' ha' oa' kp =>
      .lstO ha' oa' (by
        rw [List.append_assoc, List.append_assoc]
        exact (h1.keep (kp.sub fun x m => by simp [m])).append (.cons (r1.keep (kp.sub fun x m => by simp [m])) (h2.keep (kp.sub fun x m => by simp [m]))))
    exact ⟨a, us, kz, w, rfl, rfl, ha, Nat.lt_of_le_of_lt (by rw [rl.length]; exact op1) (by decide), o2, by omega, e.nx σ _ _ AA' (op2 d' hp) (by rw [List.length_set, frzC_len]) s3 (((Evo.ex e12).trans (ev3.less sub)))⟩
def opRev (e : D) (K : D → Prop) : Prop := match e with
  | .lst true l => K (.lst true l.reverse)
  | _ => False
def dRev (i : Nat) (f : FP) : FS := fun K ρ => f ρ (fun p => isOwnL ρ i p ∧ modAt i p opRev ρ K.nx) fun x => K.xc x ρ
theorem ls_rev {pn : List Nat} {W : WX} {Kf : PySem.W.Frag} {i : Nat} {to : TE} {f : FP} (h : LP Γ W i to f) : LS Γ pn W (tDrop (tBM0 Kf "list" rReverse to)) (dRev i f) := fun b hpn σ ρ H AA K D' s k e => by
  refine h b.O0 σ ρ H AA _ _ _ s.se k (fun p v v0 H1 k e1 h0 pv => ?_) (e.exc s)
  obtain ⟨kO, d, e0, hd, hat, op⟩ := k
  refine ⟨ownL_ty (s.se.ex e1) kO h0 pv, ?_⟩
  have s1 := s.exx e1
  have s2 : SE Γ (Op b.O0 []) H1 σ ρ AA := s1.se.congr fun a => by simp [Op]
  obtain ⟨A1, ru, _, go⟩ := SI.change (B := []) s1 s2 (.refl) (fun a m => nomatch m) (fun a m => nomatch m) (fun a m => nomatch m) hd hat h0 pv
  cases e0 <;> simp only [opRev] at op
  rename_i o l
  cases o <;> simp only at op
  cases ru with
  | @lstO a us _ A2 ha oa rl =>
    obtain ⟨_, nd2, disj, go⟩ := go a A2 rfl ⟨_, ha, trivial⟩
    obtain ⟨A', pp, rr⟩ := rl.revP
    obtain ⟨d', AA', hp, s3, ev3, _⟩ := go (.lst us.reverse) (.lst true l.reverse) A' (fun x m => .inl (pp.mem_iff.mp m)) (pp.nodup_iff.mpr nd2) fun H' O' ha' oa' kp => .lstO ha' oa' (rr.keep kp)
    exact ⟨a, us, rfl, rfl, ha, e.nx σ _ _ AA' (op d' hp) (by rw [List.length_set]) s3 ((Evo.ex e1).trans ev3)⟩
end DL
namespace DL
open PySem PySem.Spec PyProof.Rows L2 Evl PL
set_option maxHeartbeats 1000000
variable {Γ : GS}
/-! ### list comprehensions with two sources -/
/-- the list at D0 that is being built -/
structure CI (O : Addr → Prop) (AA : List (List Addr)) (vv : List Nat) (H1 : Hp) (D0 : Addr) (acc : List D) (us : List V) (B : List Addr) (H' : Hp) : Prop where
  ex : Ex H1 H'
  at_ : H' D0 = some (.lst us)
  rp : Reps H' (Ox O AA vv (D0 :: B)) us acc B
  nw : New H1 B
  nd : D0 ∉ B
theorem CI.nDB {O : Addr → Prop} {AA : List (List Addr)} {vv : List Nat} {H1 : Hp} {D0 : Addr} {acc : List D} {us : List V} {B : List Addr} {H' : Hp} (c : CI O AA vv H1 D0 acc us B H') (hD : H1 D0 = none) : New H1 (D0 :: B) :=
  ⟨fun a m => (List.mem_cons.mp m).elim (fun e => by rw [e]; exact hD) (c.nw.fr a), List.nodup_cons.mpr ⟨c.nd, c.nw.nd⟩⟩
theorem CI.has {O : Addr → Prop} {AA : List (List Addr)} {vv : List Nat} {H1 : Hp} {D0 : Addr} {acc : List D} {us : List V} {B : List Addr} {H' : Hp} (c : CI O AA vv H1 D0 acc us B H') : ∀ a ∈ D0 :: B, H' a ≠ none :=
  fun a m => (List.mem_cons.mp m).elim (fun e => by rw [e, c.at_]; simp) fun m => (c.rp.own a m).2
theorem CI.more {O : Addr → Prop} {AA : List (List Addr)} {vv : List Nat} {H1 : Hp} {D0 : Addr} {acc : List D} {us : List V} {B : List Addr} {H' H2 : Hp} (c : CI O AA vv H1 D0 acc us B H') (e : Ex H' H2) : CI O AA vv H1 D0 acc us B H2 :=
  ⟨c.ex.trans e, e _ _ c.at_, c.rp.keep (kp_ex e fun a m => .inl (List.mem_cons_of_mem _ m)), c.nw, c.nd⟩
theorem CI.push {O : Addr → Prop} {AA : List (List Addr)} {vv : List Nat} {H1 : Hp} {D0 : Addr} {acc : List D} {us : List V} {B : List Addr} {H3 H4 : Hp} {O2 Ow : Addr → Prop} {A4 : List (List Addr)} {ws : List Nat} {y : D} {v : V} {C : List Addr}
    (c : CI O AA vv H1 D0 acc us B H3) (hD : H1 D0 = none) (e4 : Ex H3 H4) (nC : New H3 C) (rC : Rep H4 (Ox O2 A4 ws C) v y C) (hO2 : ∀ a, (Ow a ∨ a ∈ D0 :: B) → O2 a) (hO : ∀ a, O a → Ow a)
    (lk : ∀ a, a ∈ AA.flatten → ¬ Own AA vv a → Ow a ∨ (a ∈ A4.flatten ∧ ¬ Own A4 ws a)) : CI O AA vv H1 D0 (acc ++ [y]) (us ++ [v]) (B ++ C) (upd H4 D0 (.lst (us ++ [v]))) := by
  have hD4 := e4 _ _ c.at_
  have nDC : D0 ∉ C := fun m => by have := nC.fr D0 m; rw [c.at_] at this; cases this
  refine ⟨fun a o h => ?_, upd_same, ?_, ?_, ?_⟩
  · rw [upd_ne fun e => by rw [e, hD] at h; cases h]
    exact e4 _ _ (c.ex _ _ h)
  · refine Reps.append (c.rp.keep (kp_upd e4 hD4 (.inl List.mem_cons_self) (fun a n hn z => ?_) (fun a m => .inl (List.mem_cons_of_mem _ (List.mem_append_left _ m))) c.nd)) ?_
    · rcases z with z | z
      · rcases List.mem_cons.mp z with z | z
        · exact n (.inl (by rw [z]; exact List.mem_cons_self))
        · rcases List.mem_append.mp z with z | z
          · exact n (.inl (List.mem_cons_of_mem _ z))
          · exact hn (nC.fr a z)
      · exact n (.inr z)
    · have := (Reps.cons rC .nil).keep (kp_upd (O' := Ox O AA vv (D0 :: (B ++ C))) (ys := us ++ [v]) (Ex.refl _) hD4 (.inr (.inl (hO2 D0 (.inr List.mem_cons_self)))) (fun a n hn z => ?_) (fun a m => .inl (List.mem_cons_of_mem _ (List.mem_append_right _ (by simpa using m)))) (by simpa using nDC))
      · rw [List.append_nil] at this
        exact this
      · rcases z with z | z | z
        · rcases List.mem_cons.mp z with z | z
          · exact n (.inr (.inl (hO2 a (.inr (by rw [z]; exact List.mem_cons_self)))))
          · rcases List.mem_append.mp z with z | z
            · exact n (.inr (.inl (hO2 a (.inr (List.mem_cons_of_mem _ z)))))
            · exact n (.inl z)
        · exact n (.inr (.inl (hO2 a (.inl (hO a z)))))
        · rcases lk a z.1 z.2 with z | z
          · exact n (.inr (.inl (hO2 a (.inl z))))
          · exact n (.inr (.inr z))
  · exact c.nw.app (⟨nC.fr, nC.nd⟩ : New H3 C) c.ex fun a m => by
      have := (c.rp.own a m).2
      exact this
  · intro m
    rcases List.mem_append.mp m with m | m
    · exact c.nd m
    · exact nDC m
theorem SE.moreX {O : Addr → Prop} {H H' : Hp} {σ : L2.St} {ρ : Env} {AA : List (List Addr)} {B : List Addr} (s : SE Γ O H σ ρ AA) (xb : ∀ a o, ¬ O a → H a = some o → H' a = some o) (tu : ∀ a xs, H a = some (.tup xs) → H' a = some (.tup xs)) (hn : ∀ a ∈ B, O a ∨ H a = none) (hB : ∀ a ∈ B, H' a ≠ none) (hO : ∀ a, O a → H' a ≠ none) (gi : Γ.ok H') : SE Γ (fun a => O a ∨ a ∈ B) H' σ ρ AA := by
  refine ⟨s.sr.keep ⟨fun a o q z => ⟨xb a o (fun y => z (.inl y)) q, fun y => ?_⟩, fun a o q m => ⟨xb a o (fun y => (s.o0 a y).2 m) q, .inr m⟩, tu⟩, s.nd, fun a z => z.elim (fun z => ⟨hO a z, (s.o0 a z).2⟩) fun z => ⟨hB a z, fun m => (hn a z).elim (fun y => (s.o0 a y).2 m) fun y => s.has a m y⟩, gi⟩
  rcases y with (y | y) | y
  · exact z (.inl y)
  · exact (hn a y).elim (fun y => z (.inl y)) fun y => by rw [y] at q; cases q
  · exact z (.inr y)
def lcStepB (fg : FG) (ft : FT) (fe : FE) (ρ : Env) (d : D) (acc : List D) (k : List D → Prop) : Prop :=
  fg d ρ fun ρ2 => ft ρ2 (fun b => if b = true then fe ρ2 (fun y => acc.length ≤ 100000 ∧ k (acc ++ [y])) X0 else k acc) X0
def lc2Step (fg : FG) (ft : FT) (fi1 : FI) (ws1 vsl1 : List Nat) (fg1 : FG) (ft1 : FT) (fe : FE) (ρ : Env) (d : D) (acc : List D) (k : List D → Prop) : Prop :=
  fg d ρ fun ρ2 => ft ρ2 (fun b => if b = true then fi1 ρ2 (fun ds1 => compD (lcStepB fg1 ft1 fe (wipeE (DL.frzAt ws1 ρ2) vsl1)) ds1 acc k) X0 else k acc) X0
def dLc2 (fi : FI) (vs vsl : List Nat) (fg : FG) (ft : FT) (fi1 : FI) (ws1 vsl1 : List Nat) (fg1 : FG) (ft1 : FT) (fe : FE) : FE := fun ρ K X =>
  fi ρ (fun ds => compD (lc2Step fg ft fi1 ws1 vsl1 fg1 ft1 fe (wipeE (DL.frzAt vs ρ) vsl)) ds [] fun acc => K (.lst true acc)) X
theorem le_lc2 {W : WX} {vs ws1 ws vsl vsl1 ts ts1 : List Nat} {wi wi1 : TI} {fi fi1 : FI} {g g1 : TG} {fg fg1 : FG} {tt tt1 : TT} {ft ft1 : FT} {te : TE} {fe : FE} (hi : LI Γ W vs wi fi) (hg : LG Γ ts g fg) (hts : ∀ i ∈ ts, i ∈ vsl) (ht : LT Γ W0 tt ft)
    (hi1 : LI Γ W0 ws1 wi1 fi1) (hg1 : LG Γ ts1 g1 fg1) (hts1 : ∀ i ∈ ts1, i ∈ vsl1) (hv1 : ∀ i ∈ vsl1, i ∈ vsl) (ht1 : LT Γ W0 tt1 ft1) (he : LE Γ W0 ws te fe) :
    LE Γ W (vs ++ (ws1 ++ ws)) (tLc2 wi g tt wi1 g1 tt1 te vsl vsl1) (dLc2 fi vs vsl fg ft fi1 ws1 vsl1 fg1 ft1 fe) := by
  intro O σ ρ H AA K X Q s hk q hX
  refine hi O σ ρ H AA _ X _ s hk (fun ds J H1 k e w => ?_) hX
  intro D0 hD
  obtain ⟨G, Y, wk, wG, wY⟩ := w
  obtain ⟨AF, sF, subF, atF⟩ := (s.ex e).frzAt vs
  have sW := sF.wipe vsl
  generalize hOw : (fun a => O a ∨ (a ∈ AF.flatten ∧ a ∉ (wipeA AF vsl).flatten)) = Ow at sW
  have hD0 : H D0 = none := ex_none e hD
  have hOO : ∀ a, O a → Ow a := fun a z => by rw [← hOw]; exact .inl z
  let vv : List Nat := vs ++ (ws1 ++ ws)
  let st := lc2Step fg ft fi1 ws1 vsl1 fg1 ft1 fe (wipeE (DL.frzAt vs ρ) vsl)
  let Inv : Nat → Hp → Prop := fun i H' => ∃ acc us B, i ≤ ds.length ∧ compD st (ds.drop i) acc (fun acc => K (.lst true acc)) ∧ CI O AA vv H1 D0 acc us B H'
  refine ⟨fun i m H' => m = ds.length - i ∧ Inv i H', ⟨ds.length, by simp, [], [], [], Nat.zero_le _, by rw [List.drop_zero]; exact k, ⟨Ex.new hD, upd_same, .nil, .nil, by simp⟩⟩, ?_⟩
  rintro i m H' ⟨rfl, acc, us, B, hi2, hc, ci⟩
  have ex1 := ci.ex
  have kpW : Kp H1 H' (Ox O AA vs []) (Ox O AA vs []) [] := ⟨fun a o h n => ⟨ex1 a o h, n⟩, fun _ _ _ m => (nomatch m), fun a o h => ex1 a _ h⟩
  have hG := wG H' _ kpW
  by_cases hlt : i < ds.length
  · refine .inr ⟨wk.goes i H' hlt hG, fun H2 => Inv (i + 1) H2, fun H2 h2 => ⟨ds.length - (i + 1), by omega, rfl, h2⟩, fun x H2 hy => ?_⟩
    let O2 : Addr → Prop := fun a => Ow a ∨ a ∈ D0 :: B
    have nDB := ci.nDB hD
    have s2 : SE Γ O2 H' (wipe σ vsl) (wipeE (DL.frzAt vs ρ) vsl) (wipeA AF vsl) := sW.more ex1 nDB ci.has sW.has
    have kpY : Kp H1 H' (Ox O AA vs []) (fun a => O2 a ∨ a ∈ (wipeA AF vsl).flatten) [] := by
      refine ⟨fun a o h n => ⟨ex1 a o h, fun z => ?_⟩, fun _ _ _ m => (nomatch m), fun a o h => ex1 a _ h⟩
      have inF : a ∉ AF.flatten := fun m => n (.inr (.inr (subF a m)))
      rcases z with (z | z) | z
      · rw [← hOw] at z
        exact z.elim (fun z => n (.inr (.inl z))) fun z => inF z.1
      · have := nDB.fr a z
        rw [h] at this
        cases this
      · exact inF (wipeA_sub z)
    obtain ⟨exY, d, hd, rd⟩ := wY i x H' H2 (fun a => O2 a ∨ a ∈ (wipeA AF vsl).flatten) kpY (wk.yields i H' x H2 hlt hG hy)
    rw [List.drop_eq_getElem_cons hlt] at hc
    have hde : ds[i] = d := by rw [List.getElem?_eq_getElem hlt] at hd; exact Option.some.inj hd
    rw [hde] at hc
    refine hg O2 (wipe σ vsl) _ H2 (wipeA AF vsl) x d [] _ _ ((s2.ex exY).congr fun a => by simp [Op]) (rd.keep ⟨fun a o h n => ⟨h, fun z => n (z.resolve_left fun m => nomatch m)⟩, fun _ _ _ m => (nomatch m), fun _ _ h => h⟩) .nil (fun _ m => nomatch m) hc fun σ2 ρ2 A2 k2 s3 sub2 l2 o2 => ⟨?_, ?_⟩
    · rw [wipe_wipe (σ := wipe σ vsl) (σ' := σ2) l2 fun i hi => (o2 i fun m => hi (hts i m)).1, wipe_idem]
    · refine ht O2 σ2 ρ2 H2 A2 _ X0 _ s3 k2 (fun b H3 k3 e3 => ?_) fun x cls dd H' hx => hx.elim
      have exA : Ex H' H3 := exY.trans e3
      cases b with
      | false =>
        rw [if_neg Bool.false_ne_true] at k3 ⊢
        exact ⟨acc, us, B, hlt, k3, ci.more exA⟩
      | true =>
        rw [if_pos rfl] at k3 ⊢
        refine hi1 O2 σ2 ρ2 H3 A2 _ X0 _ (s3.ex e3) k3 (fun ds1 J1 H4 k4 e4 w1 => ?_) fun x cls dd H' hx => hx.elim
        obtain ⟨G1, Y1, wk1, wG1, wY1⟩ := w1
        have exB : Ex H' H4 := exA.trans e4
        obtain ⟨A2F, s4, sub4, at4⟩ := ((s3.ex e3).ex e4).frzAt ws1
        have s5 := s4.wipe vsl1
        generalize hO5 : (fun a => O2 a ∨ (a ∈ A2F.flatten ∧ a ∉ (wipeA A2F vsl1).flatten)) = O5 at s5
        have h25 : ∀ a, O2 a → O5 a := fun a z => by rw [← hO5]; exact .inl z
        have hD5 : O5 D0 := h25 D0 (.inr List.mem_cons_self)
        have hD4 : H4 D0 = some (.lst us) := exB _ _ ci.at_
        let Inv1 : Nat → Hp → Prop := fun j H5 => ∃ acc us B', j ≤ ds1.length ∧ compD (lcStepB fg1 ft1 fe (wipeE (DL.frzAt ws1 ρ2) vsl1)) (ds1.drop j) acc (fun acc => compD st (ds.drop (i + 1)) acc (fun acc => K (.lst true acc))) ∧ CI O AA vv H1 D0 acc us B' H5 ∧
          (∀ a o, a ≠ D0 → H4 a = some o → H5 a = some o) ∧ (∀ a ∈ B', a ∈ B ∨ H4 a = none) ∧ ∀ a ∈ B, a ∈ B'
        refine ⟨fun j k H5 => k = ds1.length - j ∧ Inv1 j H5, ⟨ds1.length, by simp, acc, us, B, Nat.zero_le _, by rw [List.drop_zero]; exact k4, ci.more exB, fun a o _ h => h, fun a m => .inl m, fun a m => m⟩, ?_⟩
        rintro j k H5 ⟨rfl, acc5, us5, B5, hj2, hc5, ci5, xb, nb5, sb5⟩
        have tu5 : ∀ a xs, H4 a = some (.tup xs) → H5 a = some (.tup xs) := fun a xs h => xb a _ (fun z => by rw [z, hD4] at h; cases h) h
        have kp5 : Kp H4 H5 (Ox O2 A2 ws1 []) (Ox O2 A2 ws1 []) [] := ⟨fun a o h n => ⟨xb a o (fun z => n (.inr (.inl (by rw [z]; exact .inr List.mem_cons_self)))) h, n⟩, fun _ _ _ m => (nomatch m), tu5⟩
        have hG5 := wG1 H5 _ kp5
        by_cases hlt1 : j < ds1.length
        · refine .inr ⟨wk1.goes j H5 hlt1 hG5, fun H6 => Inv1 (j + 1) H6, fun H6 h6 => ⟨ds1.length - (j + 1), by omega, rfl, h6⟩, fun x1 H6 hy1 => ?_⟩
          let O6 : Addr → Prop := fun a => O5 a ∨ a ∈ B5
          have hasO5 : ∀ a, O5 a → H5 a ≠ none := fun a z => by
            by_cases ha : a = D0
            · rw [ha, ci5.at_]; simp
            · cases h4 : H4 a with
              | none => exact absurd h4 (s5.o0 a z).1
              | some o => rw [xb a o ha h4]; simp
          have s6 : SE Γ O6 H5 (wipe σ2 vsl1) (wipeE (DL.frzAt ws1 ρ2) vsl1) (wipeA A2F vsl1) := s5.moreX (fun a o n h => xb a o (fun z => n (by rw [z]; exact hD5)) h) tu5 (fun a m => (nb5 a m).imp (fun m => h25 a (.inr (List.mem_cons_of_mem _ m))) id) (fun a m => (ci5.rp.own a m).2) hasO5 (Γ.ex sW.gi ci5.ex)
          have kpY1 : Kp H4 H5 (Ox O2 A2 ws1 []) (fun a => O6 a ∨ a ∈ (wipeA A2F vsl1).flatten) [] := by
            refine ⟨fun a o h n => ⟨xb a o (fun z => n (.inr (.inl (by rw [z]; exact .inr List.mem_cons_self)))) h, fun z => ?_⟩, fun _ _ _ m => (nomatch m), tu5⟩
            have inF : a ∉ A2F.flatten := fun m => n (.inr (.inr (sub4 a m)))
            rcases z with (z | z) | z
            · rw [← hO5] at z
              exact z.elim (fun z => n (.inr (.inl z))) fun z => inF z.1
            · rcases nb5 a z with m | m
              · exact n (.inr (.inl (.inr (List.mem_cons_of_mem _ m))))
              · rw [m] at h; cases h
            · exact inF (wipeA_sub z)
          obtain ⟨exY1, d1, hd1, rd1⟩ := wY1 j x1 H5 H6 (fun a => O6 a ∨ a ∈ (wipeA A2F vsl1).flatten) kpY1 (wk1.yields j H5 x1 H6 hlt1 hG5 hy1)
          rw [List.drop_eq_getElem_cons hlt1] at hc5
          have hde1 : ds1[j] = d1 := by rw [List.getElem?_eq_getElem hlt1] at hd1; exact Option.some.inj hd1
          rw [hde1] at hc5
          refine hg1 O6 (wipe σ2 vsl1) _ H6 (wipeA A2F vsl1) x1 d1 [] _ _ ((s6.ex exY1).congr fun a => by simp [Op]) (rd1.keep ⟨fun a o h n => ⟨h, fun z => n (z.resolve_left fun m => nomatch m)⟩, fun _ _ _ m => (nomatch m), fun _ _ h => h⟩) .nil (fun _ m => nomatch m) hc5 fun σ3 ρ3 A3 k5 s7 sub7 l7 o7 => ⟨?_, ?_⟩
          · rw [wipe_wipe (σ := wipe σ2 vsl1) (σ' := σ3) l7 fun i hi => (o7 i fun m => hi (hts1 i m)).1, wipe_idem]
          · refine ht1 O6 σ3 ρ3 H6 A3 _ X0 _ s7 k5 (fun b H7 k6 e7 => ?_) fun x cls dd H' hx => hx.elim
            have exD : Ex H5 H7 := exY1.trans e7
            have ci7 := ci5.more exD
            cases b with
            | false =>
              rw [if_neg Bool.false_ne_true] at k6 ⊢
              exact ⟨acc5, us5, B5, hlt1, k6, ci7, fun a o n h => exD _ _ (xb a o n h), nb5, sb5⟩
            | true =>
              rw [if_pos rfl] at k6 ⊢
              refine he O6 σ3 ρ3 H7 A3 _ X0 _ (s7.ex e7) k6 (fun y v H8 C k7 e8 nC rC => ?_) fun x cls dd H' hx => hx.elim
              have lC : acc5.length = us5.length := ci5.rp.length.symm
              refine ⟨us5, e8 _ _ ci7.at_, Nat.lt_of_le_of_lt (by rw [← lC]; exact k7.1) (by decide), acc5 ++ [y], us5 ++ [v], B5 ++ C, hlt1, k7.2, ?_, fun a o n h => ?_, fun a m => ?_, fun a m => List.mem_append_left _ (sb5 a m)⟩
              · refine ci7.push (Ow := fun a => Ow a ∨ O5 a) hD e8 nC rC (fun a z => ?_) (fun a z => .inl (hOO a z)) (fun a m n => ?_)
                · rcases z with (z | z) | z
                  · exact .inl (h25 a (.inl z))
                  · exact .inl z
                  · rcases List.mem_cons.mp z with z | z
                    · rw [z]; exact .inl hD5
                    · exact .inr z
                · obtain ⟨A0, h1, h2⟩ := List.mem_flatten.mp m
                  obtain ⟨jj, hj, e5⟩ := List.mem_iff_getElem.mp h1
                  have e6 : AA[jj]? = some A0 := by rw [List.getElem?_eq_getElem hj, e5]
                  have j1 : jj ∉ vs := fun m => n ⟨jj, A0, List.mem_append_left _ m, e6, h2⟩
                  have j2 : jj ∉ ws1 := fun m => n ⟨jj, A0, List.mem_append_right _ (List.mem_append_left _ m), e6, h2⟩
                  have j3 : jj ∉ ws := fun m => n ⟨jj, A0, List.mem_append_right _ (List.mem_append_right _ m), e6, h2⟩
                  have e7' : AF[jj]? = some A0 := by rw [atF jj j1]; exact e6
                  by_cases hv : a ∈ (wipeA AF vsl).flatten
                  · have jv : jj ∉ vsl := fun m => by
                      obtain ⟨j', A', m1, m2, m3⟩ := wipeA_of hv
                      exact m1 (nd_uniq sF.nd e7' m2 h2 m3 ▸ m)
                    have e8' : A2[jj]? = some A0 := by rw [(o2 jj fun m => jv (hts jj m)).2, wipeA_at jv]; exact e7'
                    have e9 : A2F[jj]? = some A0 := by rw [at4 jj j2]; exact e8'
                    have jv1 : jj ∉ vsl1 := fun m => jv (hv1 jj m)
                    have e10 : A3[jj]? = some A0 := by rw [(o7 jj fun m => jv1 (hts1 jj m)).2, wipeA_at jv1]; exact e9
                    refine .inr ⟨flat_get e10 h2, ?_⟩
                    rintro ⟨j', A', m1, m2, m3⟩
                    exact j3 (nd_uniq s7.nd e10 m2 h2 m3 ▸ m1)
                  · exact .inl (.inl (by rw [← hOw]; exact .inr ⟨flat_get e7' h2, hv⟩))
              · rw [upd_ne n]
                exact e8 _ _ (exD _ _ (xb a o n h))
              · rcases List.mem_append.mp m with m | m
                · exact nb5 a m
                · refine .inr ?_
                  have h7 := nC.fr a m
                  cases h4 : H4 a with
                  | none => rfl
                  | some o =>
                    have na : a ≠ D0 := fun z => by rw [z, ci7.at_] at h7; cases h7
                    rw [exD _ _ (xb a o na h4)] at h7
                    cases h7
        · have hj3 : j = ds1.length := by omega
          subst hj3
          refine .inl ⟨wk1.stops H5 hG5, ?_⟩
          rw [List.drop_length] at hc5
          exact ⟨acc5, us5, B5, hlt, hc5, ci5⟩
  · have hi3 : i = ds.length := by omega
    subst hi3
    refine .inl ⟨wk.stops H' hG, ?_⟩
    rw [List.drop_length] at hc
    refine q _ _ _ (D0 :: B) hc (e.trans ex1) ⟨fun a m => (List.mem_cons.mp m).elim (fun e => by rw [e]; exact hD0) fun m => ex_none e (ci.nw.fr a m), List.nodup_cons.mpr ⟨ci.nd, ci.nw.nd⟩⟩ (.lstO ci.at_ (.inl List.mem_cons_self) ci.rp)
end DL
namespace DL
open PySem PySem.Spec PyProof.Rows L2 Evl PL
set_option maxHeartbeats 1000000
variable {Γ : GS}
/-! ### the box of draws: a list whose items are a list of ints (never changed) and ints; it stands sealed -/
section
variable {P : Program} {w : World} {K : PySem.W.Frag} {mg : Str → Option Value} {base : Heap} {k : Nat} {f : Addr} {fd : FuncData} {ps : List Str}
theorem fn_cx {sp : Sp} {CX : CXT} (F : FnOk P w K mg base CX0 k f fd ps sp) : FnOk P w K mg base CX k f fd ps sp :=
  ⟨F.len, fun A outer s H args us vs Q E hr e0 hb hv hs => codeAny_mono (F.run A outer s H args us vs Q E hr e0 hb hv hs) fun r s' hq => by
    cases r with
    | error e => exact False.elim hq
    | ok fl =>
      cases fl with
      | ret u => exact hq
      | next => exact hq
      | brk => exact hq
      | cont => exact hq⟩
def BG (t n : Addr) (g : List Int → Prop) (xs : List V) : Prop := n ≠ t ∧ ∃ is : List Int, xs = .ref n :: is.map V.int ∧ g is
def IG (xs : List V) : Prop := ∃ ns : List Int, xs = ns.map V.int
abbrev St_ (t n : Addr) (g : List Int → Prop) : HO := Sealed t (BG t n g)
abbrev Sn_ (n : Addr) : HO := Sealed n IG
def boxD (t n : Addr) (g : List Int → Prop) : D := .raw t [(t, St_ t n g), (n, Sn_ n)]
def IsBox (g : List Int → Prop) (d : D) : Prop := ∃ t n, d = boxD t n g
theorem IsBox.mk {t n : Addr} {g : List Int → Prop} : IsBox g (boxD t n g) := ⟨t, n, rfl⟩
theorem IsBox.frz {g : List Int → Prop} {d : D} (h : IsBox g d) : d.frz = d := by obtain ⟨t, n, rfl⟩ := h; rfl
theorem IsBox.shr {g : List Int → Prop} {d : D} (h : IsBox g d) : d.shr = true := by obtain ⟨t, n, rfl⟩ := h; rfl
theorem IsBox.clean {g : List Int → Prop} {d : D} (h : IsBox g d) : d.clean = false := by obtain ⟨t, n, rfl⟩ := h; rfl
/-- what it answers: nothing or an int -/
def oV : Option Int → V
  | none => .non | some i => .int i
def oD : Option Int → D
  | none => .non | some i => .int i
abbrev BF := List Int → (Option Int → Prop) → Prop
def lowB (g : List Int → Prop) (F : BF) : Sp := fun vs H Q _ => ∃ (t n : Addr) (ns is args : List Int), vs = .ref t :: args.map V.int ∧ H t = some (.lst (.ref n :: is.map V.int)) ∧ g is ∧ H n = some (.lst (ns.map V.int)) ∧ n ≠ t ∧
  F args (fun r => ∀ H' is', Chg t H H' → H' t = some (.lst (.ref n :: is'.map V.int)) → g is' → Q (oV r) H')
def boxF (g : List Int → Prop) (m : Nat) (F : BF) : DF := fun ds K _ => ∃ (b : D) (args : List Int), ds = b :: args.map D.int ∧ args.length = m ∧ IsBox g b ∧ F args fun r => K (oD r) []
theorem reps_int2 {H : Hp} {O : Addr → Prop} : ∀ {us : List V} {A : List Addr} {ns : List Int}, Reps H O us (ns.map D.int) A → us = ns.map V.int := fun {us A ns} r => by
  induction ns generalizing us A with
  | nil => cases r; rfl
  | cons n ns ih =>
    cases r with
    | cons r s => cases r; rw [ih s]; rfl
theorem up_box {g : List Int → Prop} {F : BF} {p : Str} (hm : ∀ args K K', (∀ r, K r → K' r) → F args K → F args K') (m : Nat) (hlen : ps.length = m) (hF : ∀ args K, F args K → args.length = m)
    (L : FnOk P w K mg base CX0 k f fd (p :: ps) (lowB g F)) : FnX P w K mg base k f fd (p :: ps) (spP Γ (boxF g m F)) := by
  have vl : ∀ {vs : List V} {t : Addr} {args : List Int} {Kk}, vs = .ref t :: args.map V.int → F args Kk → vs.length = (p :: ps).length := fun {vs t args Kk} h hf => by
    rw [h, List.length_cons, List.length_map, hF _ _ hf, List.length_cons, hlen]
  -- the list t sealed behind the call
  have B : FnOk P w K mg base CX0 k f fd (p :: ps) (fun vs H Q _ => ∃ (t n : Addr) (ns is args : List Int), vs = .ref t :: args.map V.int ∧ H t = some (.lst (.ref n :: is.map V.int)) ∧ g is ∧ H n = some (.lst (ns.map V.int)) ∧ n ≠ t ∧ F args (fun r => Q (oV r) (upd H t (St_ t n g)))) :=
    fn_seal L (fun vs H Q E ⟨t, n, ns, is, args, h1, _, _, _, _, h6⟩ => vl h1 h6) fun vs H Q E ⟨t, n, ns, is, args, h1, h2, h3, h4, h5, h6⟩ => by
      refine ⟨t, n, ns, is, args, h1, h2, h3, h4, h5, hm _ _ _ (fun r q H' is' c e gi => ⟨t, _, BG t n g, e, ⟨h5, is', rfl, gi⟩, ?_⟩) h6⟩
      have eq : upd H' t (Sealed t (BG t n g)) = upd H t (St_ t n g) := by
        funext x
        by_cases hx : x = t
        · rw [hx, upd_same, upd_same]
        · rw [upd_ne hx, upd_ne hx, c x hx]
      rw [eq]
      exact q
  have C : FnOk P w K mg base CX0 k f fd (p :: ps) (fun vs H Q _ => ∃ (t n : Addr) (ns is args : List Int), vs = .ref t :: args.map V.int ∧ H t = some (.lst (.ref n :: is.map V.int)) ∧ g is ∧ H n = some (.lst (ns.map V.int)) ∧ n ≠ t ∧ F args (fun r => Q (oV r) (upd (upd H t (St_ t n g)) n (Sn_ n)))) :=
    fn_seal B (fun vs H Q E ⟨t, n, ns, is, args, h1, _, _, _, _, h6⟩ => vl h1 h6) fun vs H Q E ⟨t, n, ns, is, args, h1, h2, h3, h4, h5, h6⟩ =>
      ⟨t, n, ns, is, args, h1, h2, h3, h4, h5, hm _ _ _ (fun r q => ⟨n, _, IG, by rw [upd_ne h5]; exact h4, ⟨ns, rfl⟩, q⟩) h6⟩
  have Dd : FnOk P w K mg base CX0 k f fd (p :: ps) (fun vs H Q _ => ∃ (t n : Addr) (is args : List Int), vs = .ref t :: args.map V.int ∧ H t = some (.lst (.ref n :: is.map V.int)) ∧ g is ∧ H n = some (Sn_ n) ∧ n ≠ t ∧ F args (fun r => Q (oV r) (upd H t (St_ t n g)))) :=
    fn_unseal C (fun vs H Q E ⟨t, n, is, args, h1, _, _, _, _, h6⟩ => vl h1 h6) fun vs H Q E ⟨t, n, is, args, h1, h2, h3, h4, h5, h6⟩ => by
      refine ⟨n, IG, h4, fun xs ⟨ns, hx⟩ => ⟨t, n, ns, is, args, h1, by rw [upd_ne (Ne.symm h5)]; exact h2, h3, by rw [hx]; exact upd_same, h5, hm _ _ _ (fun r q => ?_) h6⟩⟩
      have eq : upd (upd (upd H n (.lst xs)) t (St_ t n g)) n (Sn_ n) = upd H t (St_ t n g) := by
        funext x
        by_cases hx : x = n
        · rw [hx, upd_same, upd_ne h5, h4]
        · rw [upd_ne hx]
          by_cases hy : x = t
          · rw [hy, upd_same, upd_same]
          · rw [upd_ne hy, upd_ne hy, upd_ne hx]
      rw [eq]
      exact q
  have Ee : FnOk P w K mg base CX0 k f fd (p :: ps) (fun vs H Q _ => ∃ (t n : Addr) (args : List Int), vs = .ref t :: args.map V.int ∧ H t = some (St_ t n g) ∧ H n = some (Sn_ n) ∧ F args (fun r => Q (oV r) H)) :=
    fn_unseal Dd (fun vs H Q E ⟨t, n, args, h1, _, _, h6⟩ => vl h1 h6) fun vs H Q E ⟨t, n, args, h1, h2, h4, h6⟩ => by
      refine ⟨t, BG t n g, h2, fun xs ⟨h5, is, hx, gi⟩ => ⟨t, n, is, args, h1, by rw [← hx]; exact upd_same, gi, by rw [upd_ne h5]; exact h4, h5, hm _ _ _ (fun r q => ?_) h6⟩⟩
      have eq : upd (upd H t (.lst xs)) t (St_ t n g) = H := by
        rw [upd_upd]
        funext x
        by_cases hx : x = t
        · rw [hx, upd_same, h2]
        · rw [upd_ne hx]
      rw [eq]
      exact q
  refine (fn_cx Ee).imp fun vs H Q E ⟨O, ds, K2, X, r, hO, gi, ⟨b, args, e1, e2, hb, hf⟩, hQ, hX⟩ => ?_
  obtain ⟨t, n, rfl⟩ := hb
  subst e1
  generalize hA : ([] : List Addr) = A at r
  cases r with
  | @cons v _ A1 us _ A2 r1 r2 =>
    cases r1 with
    | raw hb =>
      refine ⟨t, n, args, by rw [reps_int2 r2], (hb (t, St_ t n g) List.mem_cons_self).1, (hb (n, Sn_ n) (List.mem_cons_of_mem _ List.mem_cons_self)).1, hm _ _ _ (fun r q => ?_) hf⟩
      refine hQ _ _ H [] q (Ex.refl H) .nil ?_
      cases r with
      | none => exact .non
      | some i => exact .int
/-- the box made: by a def that hands out such a list -/
def lowMk (K : PySem.W.Frag) (g : List Int → Prop) : Sp := fun vs H Q _ => ∃ (p : Addr) (ns : List Int), vs = [.ref p] ∧ SqL K H p (ns.map V.int) ∧ ns.length ≤ 63 ∧
  ∀ (t n : Addr) (ms is : List Int) (H' : Hp), H t = none → H n = none → n ≠ t → Ex H H' → H' t = some (.lst (.ref n :: is.map V.int)) → g is → H' n = some (.lst (ms.map V.int)) → Q (.ref t) H'
/-- the script: a list of ints that stands by itself -/
def IsScr (K : PySem.W.Frag) (ns : List Int) (d : D) : Prop := ∃ a : Addr, (∃ o, d = .raw a [(a, .frz o (.lst (ns.map V.int)))]) ∨ (d = .adr a ∧ ∀ H : Hp, SqL K H a (ns.map V.int)) ∨ d = .lst false (ns.map D.int)
theorem IsScr.frz {K : PySem.W.Frag} {ns : List Int} {d : D} (h : IsScr K ns d) : d.frz = d := by
  obtain ⟨a, ⟨o, rfl⟩ | ⟨rfl, _⟩ | rfl⟩ := h
  · rfl
  · rfl
  · show D.lst false (D.frzs (ns.map D.int)) = _
    congr 1
    induction ns with
    | nil => rfl
    | cons n ns ih => rw [List.map_cons, D.frzs, ih]; rfl
theorem IsScr.shr {K : PySem.W.Frag} {ns : List Int} {d : D} (h : IsScr K ns d) : d.shr = true := by
  obtain ⟨a, ⟨o, rfl⟩ | ⟨rfl, _⟩ | rfl⟩ := h
  · rfl
  · rfl
  · show D.shrs (ns.map D.int) = true
    induction ns with
    | nil => rfl
    | cons n ns ih => rw [List.map_cons, D.shrs, ih]; rfl
def mkF (K : PySem.W.Frag) (g : List Int → Prop) : DF := fun ds Kk _ => ∃ (d : D) (ns : List Int), ds = [d] ∧ IsScr K ns d ∧ ns.length ≤ 63 ∧ ∀ b, IsBox g b → Kk b []
theorem up_mk {g : List Int → Prop} {p : Str} (L : FnOk P w K mg base CX0 k f fd [p] (lowMk K g)) : FnX P w K mg base k f fd [p] (spP Γ (mkF K g)) := by
  have B : FnOk P w K mg base CX0 k f fd [p] (fun vs H Q _ => ∃ (q : Addr) (ns : List Int), vs = [.ref q] ∧ SqL K H q (ns.map V.int) ∧ ns.length ≤ 63 ∧ ∀ (t n : Addr) (ms : List Int) (H' : Hp), H t = none → H n = none → n ≠ t → Ex H H' → H' t = some (St_ t n g) → H' n = some (.lst (ms.map V.int)) → Q (.ref t) H') :=
    fn_seal L (fun vs H Q E ⟨q, ns, h1, _⟩ => by rw [h1]; rfl) fun vs H Q E ⟨q, ns, h1, h2, h3, h4⟩ =>
      ⟨q, ns, h1, h2, h3, fun t n ms is H' ht hn nt e et gi en => ⟨t, _, BG t n g, et, ⟨nt, is, rfl, gi⟩, h4 t n ms _ ht hn nt (fun a o ha => by rw [upd_ne (fun z => by rw [z, ht] at ha; cases ha)]; exact e a o ha) upd_same (by rw [upd_ne nt]; exact en)⟩⟩
  have C : FnOk P w K mg base CX0 k f fd [p] (fun vs H Q _ => ∃ (q : Addr) (ns : List Int), vs = [.ref q] ∧ SqL K H q (ns.map V.int) ∧ ns.length ≤ 63 ∧ ∀ (t n : Addr) (H' : Hp), H t = none → H n = none → n ≠ t → Ex H H' → H' t = some (St_ t n g) → H' n = some (Sn_ n) → Q (.ref t) H') :=
    fn_seal B (fun vs H Q E ⟨q, ns, h1, _⟩ => by rw [h1]; rfl) fun vs H Q E ⟨q, ns, h1, h2, h3, h4⟩ =>
      ⟨q, ns, h1, h2, h3, fun t n ms H' ht hn nt e et en => ⟨n, _, IG, en, ⟨ms, rfl⟩, h4 t n _ ht hn nt (fun a o ha => by rw [upd_ne (fun z => by rw [z, hn] at ha; cases ha)]; exact e a o ha) (by rw [upd_ne (Ne.symm nt)]; exact et) upd_same⟩⟩
  refine (fn_cx C).imp fun vs H Q E ⟨O, ds, K2, X, r, hO, gi, ⟨dd, ns, e1, hs, e2, hb⟩, hQ, hX⟩ => ?_
  subst e1
  obtain ⟨v, rfl, r1⟩ := reps_one r
  have sq : ∃ a, v = .ref a ∧ SqL K H a (ns.map V.int) := by
    obtain ⟨a, ⟨o, rfl⟩ | ⟨rfl, h⟩ | rfl⟩ := hs
    · cases r1 with
      | raw h => exact ⟨a, rfl, .inl (.inr ⟨o, (h (a, .frz o (.lst (ns.map V.int))) List.mem_cons_self).1⟩)⟩
    · cases r1
      exact ⟨a, rfl, h H⟩
    · obtain ⟨a, vs, C, rfl, ha, s⟩ := rd_lst r1
      exact ⟨a, rfl, .inl (.inl (by rw [ha, reps_int2 s]))⟩
  obtain ⟨a, rfl, hS⟩ := sq
  refine ⟨a, ns, rfl, hS, e2, fun t n H' ht hn nt e et en => ?_⟩
  refine hQ (boxD t n g) _ H' [] (hb (boxD t n g) IsBox.mk) e .nil (.raw fun q m => ?_)
  have no : ∀ x, H x = none → ¬ Ou O [] x := fun x hx z => z.elim (fun m => nomatch m) fun z => hO x z hx
  rcases List.mem_cons.mp m with m | m
  · subst m
    exact ⟨et, trivial, no _ ht⟩
  · rw [List.mem_singleton] at m
    subst m
    exact ⟨en, trivial, no _ hn⟩
/-- the law's promise at the top -/
theorem law_start {F : DF} {n : Nat} {H : Hp} {a : Addr} {ns : List Int} (hl : ns.length ≤ n) (gi : Γ.ok H) (hS : SqL K H a (ns.map V.int)) (hF : ∀ d, IsScr K ns d → F [d] (fun d _ => d = .bl true) fun _ _ => False) : spP Γ F [.ref a] H (fun v _ => v = .bl true) fun _ _ _ => False := by
  have go : ∀ d, IsScr K ns d → Rep H (fun _ => False) (.ref a) d [] → spP Γ F [.ref a] H (fun v _ => v = .bl true) fun _ _ _ => False := fun d hd r =>
    ⟨fun _ => False, [d], _, _, .cons (A := []) (B := []) r .nil, fun _ z => z.elim, gi, hF d hd, fun d v H' B hk _ _ rr => by
      subst hk
      cases rr
      rfl, fun _ _ _ _ hx _ _ => hx⟩
  rcases hS with (hS | ⟨o, hS⟩) | hS
  · have e : ∀ ns : List Int, Reps H (fun _ => False) (ns.map V.int) (ns.map D.int) [] := reps_int_mk
    exact go _ ⟨a, .inr (.inr rfl)⟩ (.lst hS (fun z => z) (e ns))
  · exact go _ ⟨a, .inl ⟨o, rfl⟩⟩ (.raw fun p m => by
      rw [List.mem_singleton] at m
      subst m
      exact ⟨hS, trivial, fun z => z⟩)
  · exact go _ ⟨a, .inr (.inl ⟨rfl, fun _ => .inr hS⟩)⟩ .adr
end
end DL
namespace DL
open PySem PySem.Spec PyProof.Rows L2 Evl PL
set_option maxHeartbeats 1000000
/-! ### plain values as D -/
class Enc (α : Type) where
  enc : α → D
  frz : ∀ a, (enc a).frz = enc a
  shr : ∀ a, (enc a).shr = true
  dep : Nat
  ok : ∀ a n, dep ≤ n → (enc a).ok n = true
open Enc (enc)
class EncEq (α : Type) [Enc α] [DecidableEq α] where
  eq : ∀ a b : α, deq (enc a) (enc b) = decide (a = b)
theorem deq_frz (x y : D) : deq x y = PyData.eqv x.py y.py := rfl
section
variable {α β : Type}
instance : Enc Int := ⟨D.int, fun _ => rfl, fun _ => rfl, 0, fun _ n _ => by cases n <;> rfl⟩
instance : EncEq Int := ⟨fun a b => by show PyData.eqv (.int a) (.int b) = _; rw [PyData.eqv]; exact (by by_cases h : a = b <;> simp [h])⟩
theorem enc_int (i : Int) : enc i = D.int i := rfl
theorem frzs_map [Enc α] : ∀ l : List α, D.frzs (l.map enc) = l.map enc
  | [] => rfl
  | a :: l => by rw [List.map_cons, D.frzs, Enc.frz, frzs_map l]
theorem shrs_map [Enc α] : ∀ l : List α, D.shrs (l.map enc) = true
  | [] => rfl
  | a :: l => by rw [List.map_cons, D.shrs, Enc.shr, shrs_map l]; rfl
theorem oks_map [Enc α] (n : Nat) (h : Enc.dep α ≤ n) : ∀ l : List α, D.oks n (l.map enc) = true
  | [] => by simp [D.oks]
  | a :: l => by rw [List.map_cons, D.oks, Enc.ok a n h, oks_map n h l]; rfl
instance [Enc α] : Enc (List α) := ⟨fun l => .lst false (l.map enc), fun l => by show D.lst false (D.frzs _) = _; rw [frzs_map], fun l => by show (!false && D.shrs _) = true; rw [shrs_map]; rfl, Enc.dep α + 1, fun l n h => by
  cases n with
  | zero => omega
  | succ n => show D.oks n _ = true; exact oks_map n (by omega) l⟩
theorem enc_list [Enc α] (l : List α) : enc l = D.lst false (l.map enc) := rfl
instance [Enc α] [Enc β] : Enc (α × β) := ⟨fun p => .tup [enc p.1, enc p.2], fun p => by show D.tup (D.frzs _) = _; simp only [D.frzs, Enc.frz], fun p => by show D.shrs _ = true; simp only [D.shrs, Enc.shr]; rfl, max (Enc.dep α) (Enc.dep β) + 1, fun p n h => by
  cases n with
  | zero => omega
  | succ n => show D.oks n _ = true; simp only [D.oks, Enc.ok p.1 n (by omega), Enc.ok p.2 n (by omega)]; rfl⟩
theorem enc_pair [Enc α] [Enc β] (a : α) (b : β) : enc (a, b) = D.tup [enc a, enc b] := rfl
theorem pys_eq [Enc α] [DecidableEq α] [EncEq α] : ∀ l m : List α, PyData.eqvAll (D.pys (l.map enc)) (D.pys (m.map enc)) = decide (l = m)
  | [], [] => by simp [D.pys, PyData.eqvAll]
  | [], _ :: _ => by simp [D.pys, PyData.eqvAll]
  | _ :: _, [] => by simp [D.pys, PyData.eqvAll]
  | a :: l, b :: m => by
    have h := EncEq.eq a b
    rw [List.map_cons, List.map_cons, D.pys, D.pys, PyData.eqvAll, pys_eq l m, ← deq_frz, h]
    by_cases q : a = b <;> by_cases r : l = m <;> simp [q, r]
theorem deq_lst [Enc α] [DecidableEq α] [EncEq α] (o o' : Bool) (l m : List α) : deq (.lst o (l.map enc)) (.lst o' (m.map enc)) = decide (l = m) := by
  show PyData.eqv (.list _) (.list _) = _
  rw [PyData.eqv]
  exact pys_eq l m
instance [Enc α] [DecidableEq α] [EncEq α] : EncEq (List α) := ⟨fun l m => deq_lst false false l m⟩
instance [Enc α] [DecidableEq α] [EncEq α] [Enc β] [DecidableEq β] [EncEq β] : EncEq (α × β) := ⟨fun p q => by
  show PyData.eqv (.tuple (D.pys [enc p.1, enc p.2])) (.tuple (D.pys [enc q.1, enc q.2])) = _
  have h1 := EncEq.eq p.1 q.1
  have h2 := EncEq.eq p.2 q.2
  rw [deq_frz] at h1 h2
  simp only [D.pys, PyData.eqv, PyData.eqvAll, h1, h2, Bool.and_true]
  rcases p with ⟨a, b⟩
  rcases q with ⟨c, d⟩
  by_cases q : a = c <;> by_cases r : b = d <;> simp [q, r]⟩
theorem frz_lst [Enc α] (o : Bool) (l : List α) : D.frz (.lst o (l.map enc)) = .lst false (l.map enc) := by show D.lst false (D.frzs _) = _; rw [frzs_map]
theorem ok_lst [Enc α] (o : Bool) (l : List α) (n : Nat) (h : Enc.dep α + 1 ≤ n) : D.ok n (.lst o (l.map enc)) = true := by
  cases n with
  | zero => omega
  | succ n => show D.oks n _ = true; exact oks_map n (by omega) l
theorem clean_int_list (l : List Int) : D.cleans (l.map enc) = true := by
  induction l with
  | nil => rfl
  | cons a l ih => rw [List.map_cons, D.cleans, ih]; rfl
theorem clean_pair_list (l : List (Int × Int)) : D.cleans (l.map enc) = true := by
  induction l with
  | nil => rfl
  | cons a l ih => rw [List.map_cons, D.cleans, ih]; rfl
theorem at_map [Enc α] (l : List α) (i : Int) : atI (l.map enc) i = (atI l i).map enc := by
  unfold atI
  rw [List.length_map]
  cases ixN l.length i with
  | none => rfl
  | some j => simp
theorem at_in {l : List α} {i : Int} (h0 : 0 ≤ i) (h1 : i < l.length) : atI l i = l[i.toNat]? := by
  unfold atI ixN
  rw [if_pos h0, if_pos h1]
  rfl
end
/-! ### loops, by a word for the turns -/
theorem forD_ind {fg : FG} {body : FS} {K : DEn} {n : Nat} {ds : List D} {ρ : Env} (Pv : Nat → Env → Prop) (h0 : Pv 0 ρ)
    (hs : ∀ i d ρ (N : Env → Prop), ds[i]? = some d → Pv i ρ → (∀ ρ', Pv (i + 1) ρ' → N ρ') → fg d ρ fun ρ2 => ρ2.length = n ∧ body { K with nx := N, ct := N, bk := K.nx } ρ2)
    (he : ∀ ρ, Pv ds.length ρ → K.nx ρ) : forD fg body K n ds ρ := by
  have main : ∀ (es : List D) (k : Nat) (ρ : Env), ds.drop k = es → k + es.length = ds.length → Pv k ρ → forD fg body K n es ρ := by
    intro es
    induction es with
    | nil =>
      intro k ρ _ hk p
      rw [List.length_nil, Nat.add_zero] at hk
      exact he ρ (hk ▸ p)
    | cons d es ih =>
      intro k ρ hd hk p
      have hget : ds[k]? = some d := by
        have := congrArg (fun l => l[0]?) hd
        simpa [List.getElem?_drop] using this
      refine hs k d ρ (forD fg body K n es) hget p fun ρ' p' => ?_
      refine ih (k + 1) ρ' ?_ (by rw [List.length_cons] at hk; omega) p'
      rw [← List.drop_drop, hd]
      rfl
  exact main ds 0 ρ rfl (Nat.zero_add _) h0
/-- a comprehension's word -/
theorem compD_ind {st : D → List D → (List D → Prop) → Prop} {ds acc : List D} {K : List D → Prop} (Pv : Nat → List D → Prop) (h0 : Pv 0 acc)
    (hs : ∀ i d acc (N : List D → Prop), ds[i]? = some d → Pv i acc → (∀ acc', Pv (i + 1) acc' → N acc') → st d acc N) (he : ∀ acc, Pv ds.length acc → K acc) : compD st ds acc K := by
  have main : ∀ (es : List D) (k : Nat) (acc : List D), ds.drop k = es → k + es.length = ds.length → Pv k acc → compD st es acc K := by
    intro es
    induction es with
    | nil =>
      intro k acc _ hk p
      rw [List.length_nil, Nat.add_zero] at hk
      exact he acc (hk ▸ p)
    | cons d es ih =>
      intro k acc hd hk p
      have hget : ds[k]? = some d := by
        have := congrArg (fun l => l[0]?) hd
        simpa [List.getElem?_drop] using this
      refine hs k d acc (fun acc' => compD st es acc' K) hget p fun acc' p' => ?_
      refine ih (k + 1) acc' ?_ (by rw [List.length_cons] at hk; omega) p'
      rw [← List.drop_drop, hd]
      rfl
  exact main ds 0 acc rfl (Nat.zero_add _) h0
/-- [f(x) for x in l if p(x)], each turn told by a function -/
theorem compD_fm {α β : Type} [Enc α] [Enc β] {st : D → List D → (List D → Prop) → Prop} {l : List α} (f : α → Option β)
    (hs : ∀ a acc (N : List D → Prop), a ∈ l → N (acc ++ (f a).toList.map enc) → st (enc a) acc N) {K : List D → Prop} : ∀ {acc : List D}, K (acc ++ (l.filterMap f).map enc) → compD st (l.map enc) acc K := by
  induction l with
  | nil => intro acc h; simpa [compD] using h
  | cons a l ih =>
    intro acc h
    refine hs a acc _ List.mem_cons_self (ih (fun b acc N hb => hs b acc N (List.mem_cons_of_mem _ hb)) ?_)
    rw [List.filterMap_cons] at h
    cases hf : f a with
    | none => rw [hf] at h; simpa using h
    | some b => rw [hf] at h; simpa [List.append_assoc] using h
theorem compD_map {α β : Type} [Enc α] [Enc β] {st : D → List D → (List D → Prop) → Prop} {l : List α} (f : α → β)
    (hs : ∀ a acc (N : List D → Prop), a ∈ l → N (acc ++ [enc (f a)]) → st (enc a) acc N) {K : List D → Prop} {acc : List D} (h : K (acc ++ (l.map f).map enc)) : compD st (l.map enc) acc K := by
  refine compD_fm (fun a => some (f a)) (fun a acc N ha hN => hs a acc N ha (by simpa using hN)) ?_
  rwa [show l.filterMap (fun a => some (f a)) = l.map f from List.filterMap_eq_map ▸ rfl]
theorem rngD_enc (a b : Int) : rngD a b = ((List.range (b - a).toNat).map fun (i : Nat) => a + (i : Int)).map enc := by
  unfold rngD
  rw [List.map_map]
  rfl
end DL
namespace DL
open PySem PySem.Spec PyProof.Rows L2 Evl PL
open Enc (enc)
theorem forE {α : Type} [Enc α] {l : List α} {fg : FG} {body : FS} {K : DEn} {n : Nat} {ρ : Env} (Pv : List α → Env → Prop) (h0 : Pv [] ρ)
    (hs : ∀ pre a post ρ (N : Env → Prop), l = pre ++ a :: post → Pv pre ρ → (∀ ρ', Pv (pre ++ [a]) ρ' → N ρ') → fg (enc a) ρ fun ρ2 => ρ2.length = n ∧ body { K with nx := N, ct := N, bk := K.nx } ρ2)
    (he : ∀ ρ, Pv l ρ → K.nx ρ) : forD fg body K n (l.map enc) ρ := by
  have main : ∀ (es pre : List α) (ρ : Env), l = pre ++ es → Pv pre ρ → forD fg body K n (es.map enc) ρ := by
    intro es
    induction es with
    | nil =>
      intro pre ρ hd p
      rw [List.append_nil] at hd
      exact he ρ (hd ▸ p)
    | cons d es ih =>
      intro pre ρ hd p
      exact hs pre d es ρ _ hd p fun ρ' p' => ih (pre ++ [d]) ρ' (by rw [hd]; simp) p'
  exact main l [] ρ rfl h0
theorem forR {a b : Int} {fg : FG} {body : FS} {K : DEn} {n : Nat} {ρ : Env} (Pv : Int → Env → Prop) (h0 : Pv a ρ)
    (hs : ∀ i ρ (N : Env → Prop), a ≤ i → i < b → Pv i ρ → (∀ ρ', Pv (i + 1) ρ' → N ρ') → fg (.int i) ρ fun ρ2 => ρ2.length = n ∧ body { K with nx := N, ct := N, bk := K.nx } ρ2)
    (he : ∀ ρ, Pv (max a b) ρ → K.nx ρ) : forD fg body K n (rngD a b) ρ := by
  refine forD_ind (fun k ρ => Pv (a + k) ρ) (by simpa using h0) (fun k d ρ N hd p q => ?_) fun ρ p => ?_
  · unfold rngD at hd
    rw [List.getElem?_map] at hd
    have hk : k < (b - a).toNat := by
      have := (List.getElem?_eq_some_iff.mp (Option.map_eq_some_iff.mp hd).choose_spec.1).1
      simpa using this
    rw [List.getElem?_range hk] at hd
    cases hd
    exact hs (a + k) ρ N (by omega) (by omega) p fun ρ' p' => q ρ' (by rw [Int.natCast_succ, ← Int.add_assoc]; exact p')
  · refine he ρ ?_
    have : (rngD a b).length = (b - a).toNat := by simp [rngD]
    rw [this] at p
    rw [show max a b = a + ((b - a).toNat : Int) by omega]
    exact p
theorem compE {α : Type} [Enc α] {l : List α} {st : D → List D → (List D → Prop) → Prop} {acc : List D} {K : List D → Prop} (Pv : List α → List D → Prop) (h0 : Pv [] acc)
    (hs : ∀ pre a post acc (N : List D → Prop), l = pre ++ a :: post → Pv pre acc → (∀ acc', Pv (pre ++ [a]) acc' → N acc') → st (enc a) acc N) (he : ∀ acc, Pv l acc → K acc) : compD st (l.map enc) acc K := by
  have main : ∀ (es pre : List α) (acc : List D), l = pre ++ es → Pv pre acc → compD st (es.map enc) acc K := by
    intro es
    induction es with
    | nil =>
      intro pre acc hd p
      rw [List.append_nil] at hd
      exact he acc (hd ▸ p)
    | cons d es ih =>
      intro pre acc hd p
      exact hs pre d es acc _ hd p fun acc' p' => ih (pre ++ [d]) acc' (by rw [hd]; simp) p'
  exact main l [] acc rfl h0
/-- [f(i) for i in range(a, b) if ..] -/
theorem compR {β : Type} [Enc β] {a b : Int} {st : D → List D → (List D → Prop) → Prop} (f : Int → Option β)
    (hs : ∀ i acc (N : List D → Prop), a ≤ i → i < b → N (acc ++ (f i).toList.map enc) → st (.int i) acc N) {K : List D → Prop} {acc : List D}
    (h : K (acc ++ (((List.range (b - a).toNat).map fun (i : Nat) => a + (i : Int)).filterMap f).map enc)) : compD st (rngD a b) acc K := by
  rw [rngD_enc]
  refine compD_fm f (fun i acc N hi hN => ?_) h
  obtain ⟨k, hk, rfl⟩ := List.mem_map.mp hi
  have := List.mem_range.mp hk
  exact hs _ acc N (by omega) (by omega) hN
end DL
namespace DL
open PySem PySem.Spec PyProof.Rows L2 Evl PL
open Enc (enc)
set_option maxHeartbeats 1000000
/-! ### reckoning, constructor by constructor (no match is opened before its head is known) -/
section
variable {K : D → Prop} {KB : Bool → Prop} {KL : List D → Prop} {KE : Env → Prop} {X : XD → Prop} {ρ : Env} {i j : Int} {b : Bool} {l m : List D} {o o' : Bool} {d x y : D} {C C' : Addr}
theorem asBl_bl : asBl (.bl b) KB = KB b := rfl
theorem gTru_non : gTru .non KB = KB false := rfl
theorem gTru_bl : gTru (.bl b) KB = KB b := rfl
theorem gTru_int : gTru (.int i) KB = KB (i != 0) := rfl
theorem gTru_lst : gTru (.lst o l) KB = KB (!l.isEmpty) := rfl
theorem gTru_tup : gTru (.tup l) KB = KB (!l.isEmpty) := rfl
theorem gTru_dK {ks : List Key} : gTru (.dK o ks l) KB = KB (!ks.isEmpty) := rfl
theorem gCmp_int {g : Int → Int → Bool} : gCmp g (.int i) (.int j) K = K (.bl (g i j)) := rfl
theorem gIs_non {neg : Bool} : gIs neg x .non K = K (.bl (neg ^^ x.isNon)) := rfl
theorem isNon_non : D.isNon .non = true := rfl
theorem isNon_bl : D.isNon (.bl b) = false := rfl
theorem isNon_int : D.isNon (.int i) = false := rfl
theorem isNon_lst : D.isNon (.lst o l) = false := rfl
theorem isNon_tup : D.isNon (.tup l) = false := rfl
theorem isNon_ins {nm : List Str} : D.isNon (.ins o C nm l) = false := rfl
theorem isNon_str {s : Str} : D.isNon (.str s) = false := rfl
theorem gAdd_int : gAdd (.int i) (.int j) K = K (.int (i + j)) := rfl
theorem gAdd_lst : gAdd (.lst o l) (.lst o' m) K = (l.length + m.length ≤ 100000 ∧ K (.lst true (l ++ m))) := rfl
theorem gMin_int : gMin (.int i) (.int j) K = K (.int (i - j)) := rfl
theorem gMul_int : gMul (.int i) (.int j) K = (CMul i j ∧ K (.int (i * j))) := rfl
theorem gMul_lst : gMul (.lst o l) (.int i) K = (-100000 ≤ i ∧ i ≤ 100000 ∧ l.length * i.toNat ≤ 100000 ∧ K (.lst true (List.replicate i.toNat l).flatten)) := rfl
theorem gDiv_int : gDiv (.int i) (.int j) K = ((0 < j ∧ j.natAbs.log2 < 9000) ∧ K (.int (i / j))) := rfl
theorem gMod_int : gMod (.int i) (.int j) K = (0 < j ∧ K (.int (i % j))) := rfl
theorem gIx_lst : gIx (.lst o l) (.int i) K = ∃ d, atI l i = some d ∧ K d := by
  show (∃ i' d, D.int i = .int i' ∧ atI l i' = some d ∧ K d) = _
  simp
theorem gIx_tup : gIx (.tup l) (.int i) K = ∃ d, atI l i = some d ∧ K d := by
  show (∃ i' d, D.int i = .int i' ∧ atI l i' = some d ∧ K d) = _
  simp
theorem gIx_dK {ks : List Key} : gIx (.dK o ks l) y K = ∃ k d, y.key = some k ∧ lookD ks l k = some d ∧ K d := rfl
theorem gIx_dT {ks : List (List Key)} : gIx (.dT o ks l) (.tup m) K = ∃ k d, D.keys m = some k ∧ lookD ks l k = some d ∧ K d := by
  show (∃ z k d, D.tup m = .tup z ∧ D.keys z = some k ∧ lookD ks l k = some d ∧ K d) = _
  simp
theorem gIn_lst {neg : Bool} : gIn neg x (.lst o l) K = (x.ok 60 = true ∧ D.oks 59 l = true ∧ K (.bl (neg ^^ l.any fun z => deq z x))) := rfl
theorem gIn_tup {neg : Bool} : gIn neg x (.tup l) K = (x.flat = true ∧ l.all D.flat = true ∧ K (.bl (neg ^^ l.any fun z => deq z x))) := rfl
theorem gIn_dK {neg : Bool} {ks : List Key} : gIn neg x (.dK o ks l) K = ∃ k, x.key = some k ∧ K (.bl (neg ^^ ks.any (fun z => decide (z = k)))) := rfl
theorem gIn_dT {neg : Bool} {ks : List (List Key)} : gIn neg (.tup m) (.dT o ks l) K = ∃ k, D.keys m = some k ∧ K (.bl (neg ^^ ks.any (fun z => decide (z = k)))) := by
  show (∃ z k, D.tup m = .tup z ∧ D.keys z = some k ∧ K (.bl (neg ^^ ks.any (fun z => decide (z = k))))) = _
  simp
theorem gLen_lst : gLen [.lst o l] K = K (.int (l.length : Nat)) := rfl
theorem gLen_tup : gLen [.tup l] K = K (.int (l.length : Nat)) := rfl
theorem gInt_int : gInt [.int i] K = K (.int i) := rfl
theorem gInt_bl : gInt [.bl b] K = K (.int (if b then 1 else 0)) := rfl
theorem gList_lst : gList [.lst o l] K = K (.lst true l) := rfl
theorem gList_tup : gList [.tup l] K = K (.lst true l) := rfl
theorem gMx_int : gMx [.int i, .int j] K = K (.int (max i j)) := rfl
theorem gMn_int : gMn [.int i, .int j] K = K (.int (min i j)) := rfl
theorem gIsi_of {n T : String} {c : Bool} (h1 : x.tyn = some T) (h2 : kitB T n = some c) : gIsi [x, .ty n] K = K (.bl c) := by
  show (∃ T b, x.tyn = some T ∧ kitB T n = some b ∧ K (.bl b)) = _
  rw [h1]
  simp only [Option.some.injEq]
  exact propext ⟨fun ⟨T', b, e, e2, k⟩ => by subst e; rw [h2] at e2; cases e2; exact k, fun k => ⟨T, c, rfl, h2, k⟩⟩
theorem gIsi_int_int : gIsi [.int i, .ty "int"] K = K (.bl true) := gIsi_of rfl (by decide +kernel)
theorem gIsi_int_bool : gIsi [.int i, .ty "bool"] K = K (.bl false) := gIsi_of rfl (by decide +kernel)
theorem gIsi_bl_bool : gIsi [.bl b, .ty "bool"] K = K (.bl true) := gIsi_of rfl (by decide +kernel)
theorem gIsi_bl_int : gIsi [.bl b, .ty "int"] K = K (.bl true) := gIsi_of rfl (by decide +kernel)
theorem gIsi_lst_list : gIsi [.lst o l, .ty "list"] K = K (.bl true) := gIsi_of rfl (by decide +kernel)
theorem gIsi_tup_tuple : gIsi [.tup l, .ty "tuple"] K = K (.bl true) := gIsi_of rfl (by decide +kernel)
theorem gIsi_non_int : gIsi [.non, .ty "int"] K = K (.bl false) := gIsi_of rfl (by decide +kernel)
theorem gIsi_non_tuple : gIsi [.non, .ty "tuple"] K = K (.bl false) := gIsi_of rfl (by decide +kernel)
theorem gIsi_non_list : gIsi [.non, .ty "list"] K = K (.bl false) := gIsi_of rfl (by decide +kernel)
theorem gIsi_str_str {s : Str} : gIsi [.str s, .ty "str"] K = K (.bl true) := gIsi_of rfl (by decide +kernel)
theorem key_int : D.key (.int i) = some (.inl i) := rfl
theorem key_str {s : Str} : D.key (.str s) = some (.inr s) := rfl
theorem keys_nil : D.keys [] = some [] := rfl
theorem keys_1 : D.keys [.int i] = some [.inl i] := rfl
theorem keys_2 : D.keys [.int i, .int j] = some [.inl i, .inl j] := rfl
/-! what slots own -/
theorem opApp_lst : opApp y (.lst true l) K = (l.length ≤ 100000 ∧ K (.lst true (l ++ [y]))) := rfl
theorem opIns_lst : opIns i y (.lst true l) K = (l.length ≤ 100000 ∧ 0 ≤ i ∧ i < 2 ^ 62 ∧ K (.lst true (l.take i.toNat ++ [y] ++ l.drop i.toNat))) := rfl
theorem opRev_lst : opRev (.lst true l) K = K (.lst true l.reverse) := rfl
theorem opSet_lst : opSet (.int i) y (.lst true l) K = ∃ j, ixN l.length i = some j ∧ K (.lst true (l.set j y)) := by
  show (∃ z j, D.int i = .int z ∧ ixN l.length z = some j ∧ K (.lst true (l.set j y))) = _
  simp
theorem opSet_dK {ks : List Key} : opSet x y (.dK true ks l) K = ∃ z, x.key = some z ∧ ks.length ≤ 100000 ∧ K (.dK true (putL ks l z y).1 (putL ks l z y).2) := rfl
theorem opSet_dT {ks : List (List Key)} : opSet (.tup m) y (.dT true ks l) K = ∃ z, D.keys m = some z ∧ ks.length ≤ 100000 ∧ K (.dT true (putL ks l z y).1 (putL ks l z y).2) := by
  show (∃ t z, D.tup m = .tup t ∧ D.keys t = some z ∧ ks.length ≤ 100000 ∧ K (.dT true (putL ks l z y).1 (putL ks l z y).2)) = _
  simp
theorem opFld_ins {f : Str} {nm : List Str} : opFld C f y (.ins true C' nm l) K = (C' = C ∧ nm.length < 900 ∧ K (.ins true C (putN nm l f y).1 (putN nm l f y).2)) := rfl
theorem opPop_none {KK : D → D → Prop} : opPop none (.lst true l) KK = ∃ y, l[l.length - 1]? = some y ∧ KK (.lst true l.dropLast) y := rfl
theorem opPop_some {KK : D → D → Prop} : opPop (some i) (.lst true l) KK = ∃ j y, -(2 ^ 62) ≤ i ∧ i < 2 ^ 62 ∧ ixN l.length i = some j ∧ l[j]? = some y ∧ KK (.lst true (l.eraseIdx j)) y := rfl
theorem isIns_ins {f : Str} {nm : List Str} : isIns C f (.ins o C' nm l) = (C' = C ∧ f ∉ nm) := rfl
theorem isInsP_ins {nm : List Str} : isInsP C (.ins o C' nm l) = (C' = C) := rfl
def gFld (C : Addr) (f : Str) (d : D) (K : D → Prop) : Prop := match d with
  | .ins _ C' nm l => C' = C ∧ ∃ e, lookF nm l f = some e ∧ K e
  | _ => False
theorem dFld_eq {f : Str} {g : FE} : dFld C f g ρ K X = g ρ (fun d => gFld C f d.frz K) X := rfl
theorem gFld_ins {f : Str} {nm : List Str} : gFld C f (.ins o C' nm l) K = (C' = C ∧ ∃ e, lookF nm l f = some e ∧ K e) := rfl
def gRng1 (xs : List D) (K : List D → Prop) : Prop := match xs with
  | [.int j] => -(2 ^ 62) ≤ j ∧ j < 2 ^ 62 ∧ K (rngD 0 j)
  | _ => False
theorem dRng1_eq {t : FA} : dRng1 t ρ KL X = t ρ (fun xs => gRng1 xs KL) X := rfl
theorem gRng1_int : gRng1 [.int j] KL = (-(2 ^ 62) ≤ j ∧ j < 2 ^ 62 ∧ KL (rngD 0 j)) := rfl
def gRng2 (xs : List D) (K : List D → Prop) : Prop := match xs with
  | [.int i, .int j] => -(2 ^ 62) ≤ i ∧ i < 2 ^ 62 ∧ -(2 ^ 62) ≤ j ∧ j < 2 ^ 62 ∧ K (rngD i j)
  | _ => False
theorem dRng2_eq {t : FA} : dRng2 t ρ KL X = t ρ (fun xs => gRng2 xs KL) X := rfl
theorem gRng2_int : gRng2 [.int i, .int j] KL = (-(2 ^ 62) ≤ i ∧ i < 2 ^ 62 ∧ -(2 ^ 62) ≤ j ∧ j < 2 ^ 62 ∧ KL (rngD i j)) := rfl
def gIl (d : D) (K : List D → Prop) : Prop := match d with
  | .lst _ l => K (D.frzs l)
  | _ => False
theorem dIl_eq {f : FE} : dIl f ρ KL X = f ρ (fun d => gIl d KL) X := rfl
theorem gIl_lst : gIl (.lst o l) KL = KL (D.frzs l) := rfl
def gEnum (xs : List D) (K : List D → Prop) : Prop := match xs with
  | [.lst _ l] => K (enumD (D.frzs l))
  | _ => False
theorem dEnum_eq {t : FA} : dEnum t ρ KL X = t ρ (fun xs => gEnum xs KL) X := rfl
theorem gEnum_lst : gEnum [.lst o l] KL = KL (enumD (D.frzs l)) := rfl
def gLrg1 (d : D) (K : D → Prop) : Prop := match d with
  | .int n => n ≤ 100000 ∧ -100000 ≤ n ∧ K (.lst true (rngD 0 n))
  | _ => False
theorem dLrg1_eq {f : FE} : dLrg1 f ρ K X = f ρ (fun d => gLrg1 d K) X := rfl
theorem gLrg1_int : gLrg1 (.int i) K = (i ≤ 100000 ∧ -100000 ≤ i ∧ K (.lst true (rngD 0 i))) := rfl
def gNeg (d : D) (K : D → Prop) : Prop := match d with
  | .int i => K (.int (-i))
  | _ => False
theorem dNeg_eq {f : FE} : dNeg f ρ K X = f ρ (fun d => gNeg d K) X := rfl
theorem gNeg_int : gNeg (.int i) K = K (.int (-i)) := rfl
def gPart (d : D) (K : Option Int → Prop) : Prop := match d with
  | .int i => K (some i)
  | _ => False
theorem dPart_eq {f : FE} {KO : Option Int → Prop} : dPart f ρ KO X = f ρ (fun d => gPart d KO) X := rfl
theorem gPart_int {KO : Option Int → Prop} : gPart (.int i) KO = KO (some i) := rfl
def gSl (d : D) (lo hi : Option Int) (K : D → Prop) : Prop := match d with
  | .lst _ xs => K (.lst true (PL.cut xs lo hi))
  | _ => False
theorem dSl_eq {f : FE} {lo hi : FO} : dSl f lo hi ρ K X = f ρ (fun d => lo ρ (fun l => hi ρ (fun u => gSl d.frz l u K) X) X) X := rfl
theorem gSl_lst {lo hi : Option Int} : gSl (.lst o l) lo hi K = K (.lst true (PL.cut l lo hi)) := rfl
def gGT (n : Nat) (f : FGs) (d : D) (ρ : Env) (K : Env → Prop) : Prop := match d with
  | .tup l => l.length = n ∧ f l ρ K
  | _ => False
theorem dGTup_eq {n : Nat} {f : FGs} : dGTup n f d ρ KE = gGT n f d ρ KE := rfl
theorem gGT_tup {n : Nat} {f : FGs} : gGT n f (.tup l) ρ KE = (l.length = n ∧ f l ρ KE) := rfl
theorem dGNil_nil : dGNil [] ρ KE = KE ρ := by unfold dGNil; simp
theorem dGCons_cons {f : FG} {g : FGs} : dGCons f g (d :: l) ρ KE = f d ρ fun ρ' => g l ρ' KE := by
  unfold dGCons
  exact propext ⟨fun ⟨d', r, e, h⟩ => by cases e; exact h, fun h => ⟨d, l, rfl, h⟩⟩
def gPix (ρ : Env) (i : Nat) (p : List Step) (y : D) (K : List Step → Prop) : Prop := match y with
  | .int k => pathOk ρ i (p ++ [.ix k]) ∧ K (p ++ [.ix k])
  | _ => False
theorem dPix_eq {i : Nat} {f : FP} {g : FE} {KP : List Step → Prop} : dPix i f g ρ KP X = f ρ (fun p => g ρ (fun y => gPix ρ i p y KP) X) X := rfl
theorem gPix_int {n : Nat} {p : List Step} {KP : List Step → Prop} : gPix ρ n p (.int i) KP = (pathOk ρ n (p ++ [.ix i]) ∧ KP (p ++ [.ix i])) := rfl
def gAug (ρ : Env) (n : Nat) (g : Int → Int → Int) (a : Int) (d : D) (K : Env → Prop) : Prop := match d with
  | .int b => K (ρ.set n (some (.int (g a b))))
  | _ => False
theorem dAug_eq {n : Nat} {g : Int → Int → Int} {f : FE} {KD : DEn} : dAug n g f KD ρ = ∃ a, ρ[n]? = some (some (.int a)) ∧ f ρ (fun d => gAug ρ n g a d KD.nx) fun x => KD.xc x ρ := rfl
theorem gAug_int {n : Nat} {g : Int → Int → Int} {a : Int} : gAug ρ n g a (.int i) KE = KE (ρ.set n (some (.int (g a i)))) := rfl
def gLenSet (d : D) (K : D → Prop) : Prop := match d with
  | .lst _ l => ∃ ns : List Int, l = ns.map D.int ∧ ns.Nodup ∧ ns.length ≤ 4000 ∧ K (.int (ns.length : Nat))
  | _ => False
theorem dLenSet_eq {f : FE} : dLenSet f ρ K X = f ρ (fun d => gLenSet d K) X := rfl
theorem gLenSet_lst : gLenSet (.lst o l) K = ∃ ns : List Int, l = ns.map D.int ∧ ns.Nodup ∧ ns.length ≤ 4000 ∧ K (.int (ns.length : Nat)) := rfl
theorem gGet_dK {ks : List Key} {z : D} : gGet (.dK o ks l) x z K = ∃ q, x.key = some q ∧ K ((lookD ks l q).getD z) := rfl
theorem gGet_dT {ks : List (List Key)} {z : D} : gGet (.dT o ks l) (.tup m) z K = ∃ q, D.keys m = some q ∧ K ((lookD ks l q).getD z) := by
  show (∃ t q, D.tup m = .tup t ∧ D.keys t = some q ∧ K ((lookD ks l q).getD z)) = _
  simp
theorem isDict_dK {ks : List Key} : isDict (.dK o ks l) = True := rfl
theorem isDict_dT {ks : List (List Key)} : isDict (.dT o ks l) = True := rfl
theorem isList_lst : isList (.lst o l) = True := rfl
theorem gIndex_lst : gIndex (.lst o l) y K = (y.flat = true ∧ l.all D.flat = true ∧ ∃ j z, l[j]? = some z ∧ deq z y = true ∧ (∀ m w, m < j → l[m]? = some w → deq w y = false) ∧ K (.int (j : Nat))) := rfl
theorem rngD_len {a c : Int} : (rngD a c).length = (c - a).toNat := by simp [rngD]
/-! data compared -/
theorem ok_non {n : Nat} : D.ok n .non = true := by cases n <;> rfl
theorem ok_bl {n : Nat} : D.ok n (.bl b) = true := by cases n <;> rfl
theorem ok_int {n : Nat} : D.ok n (.int i) = true := by cases n <;> rfl
theorem ok_tup {n : Nat} : D.ok (n + 1) (.tup l) = D.oks n l := by rw [D.ok]
theorem ok_lstS {n : Nat} : D.ok (n + 1) (.lst o l) = D.oks n l := by rw [D.ok]
theorem oks_nil {n : Nat} : D.oks n [] = true := by rw [D.oks]
theorem oks_cons {n : Nat} : D.oks n (d :: l) = (D.ok n d && D.oks n l) := by rw [D.oks]
theorem flat_non : D.flat .non = true := rfl
theorem flat_bl : D.flat (.bl b) = true := rfl
theorem flat_int : D.flat (.int i) = true := rfl
theorem flat_str {s : Str} : D.flat (.str s) = true := rfl
theorem all_flat_int (l : List Int) : (l.map enc).all D.flat = true := by
  induction l with
  | nil => rfl
  | cons a l ih => rw [List.map_cons, List.all_cons, ih]; rfl
def deqs (l m : List D) : Bool := PyData.eqvAll (D.pys l) (D.pys m)
theorem deq_int : deq (.int i) (.int j) = decide (i = j) := EncEq.eq i j
theorem deq_bl {c : Bool} : deq (.bl b) (.bl c) = (b == c) := by show PyData.eqv (.bool b) (.bool c) = _; rw [PyData.eqv]
theorem deq_non : deq .non .non = true := by show PyData.eqv .none .none = _; rw [PyData.eqv]
theorem deq_lsts : deq (.lst o l) (.lst o' m) = deqs l m := by show PyData.eqv (.list _) (.list _) = _; rw [PyData.eqv]; rfl
theorem deq_tups : deq (.tup l) (.tup m) = deqs l m := by show PyData.eqv (.tuple _) (.tuple _) = _; rw [PyData.eqv]; rfl
theorem deqs_nil : deqs [] [] = true := by unfold deqs; simp [D.pys, PyData.eqvAll]
theorem deqs_cons : deqs (x :: l) (y :: m) = (deq x y && deqs l m) := by unfold deqs deq; simp [D.pys, PyData.eqvAll]
theorem deqs_nc : deqs [] (y :: m) = false := by unfold deqs; simp [D.pys, PyData.eqvAll]
theorem deqs_cn : deqs (x :: l) [] = false := by unfold deqs; simp [D.pys, PyData.eqvAll]
theorem deqs_map {α : Type} [Enc α] [DecidableEq α] [EncEq α] (l m : List α) : deqs (l.map enc) (m.map enc) = decide (l = m) := pys_eq l m
theorem deqs_map_nil {α : Type} [Enc α] (l : List α) : deqs (l.map enc) [] = l.isEmpty := by
  cases l with
  | nil => exact deqs_nil
  | cons a l => exact deqs_cn
theorem deq_non_int : deq .non (.int i) = false := by show PyData.eqv .none (.int i) = _; rw [PyData.eqv] <;> intros <;> simp_all
theorem deq_int_non : deq (.int i) .non = false := by show PyData.eqv (.int i) .none = _; rw [PyData.eqv] <;> intros <;> simp_all
theorem any_enc {α : Type} [Enc α] [DecidableEq α] [EncEq α] (l : List α) (a : α) : ((l.map enc).any fun z => deq z (enc a)) = decide (a ∈ l) := by
  induction l with
  | nil => simp
  | cons b l ih =>
    rw [List.map_cons, List.any_cons, ih, EncEq.eq b a]
    by_cases h : b = a
    · subst h; simp
    · have h2 : ¬ a = b := fun z => h z.symm
      simp [h, h2]
theorem any_int (l : List Int) (i : Int) : ((l.map enc).any fun z => deq z (.int i)) = decide (i ∈ l) := any_enc l i
theorem clean_pairE {p : Int × Int} : (enc p).clean = true := rfl
theorem ok_pairE {n : Nat} {p : Int × Int} : D.ok (n + 1) (enc p) = true := Enc.ok p (n + 1) (by show max 0 0 + 1 ≤ n + 1; omega)
theorem oks_ints {n : Nat} {l : List Int} : D.oks n (l.map enc) = true := oks_map n (Nat.zero_le n) l
theorem oks_pairs {n : Nat} {l : List (Int × Int)} : D.oks (n + 1) (l.map enc) = true := oks_map (n + 1) (by show max 0 0 + 1 ≤ n + 1; omega) l
theorem nofks_ints {k : Nat} {l : List Int} : D.nofks k (l.map enc) = true := by
  induction l with
  | nil => rfl
  | cons a l ih => rw [List.map_cons, D.nofks, ih]; rfl
theorem nofks_pairs {k : Nat} {l : List (Int × Int)} : D.nofks k (l.map enc) = true := by
  induction l with
  | nil => rfl
  | cons a l ih => rw [List.map_cons, D.nofks, ih]; rfl
theorem nofk_pairE {k : Nat} {p : Int × Int} : D.nofk k (enc p) = true := rfl
mutual
theorem nook_shr (k : Nat) : ∀ d : D, d.shr = true → d.nook k = true
  | .tup l, h => by rw [D.nook]; exact nooks_shr k l (by simpa [D.shr] using h)
  | .lst o l, h => by
    simp only [D.shr, Bool.and_eq_true] at h
    rw [D.nook, nooks_shr k l h.2, h.1]; rfl
  | .dK o _ l, h => by
    simp only [D.shr, Bool.and_eq_true] at h
    rw [D.nook, nooks_shr k l h.2, h.1]; rfl
  | .dT o _ l, h => by
    simp only [D.shr, Bool.and_eq_true] at h
    rw [D.nook, nooks_shr k l h.2, h.1]; rfl
  | .ins o _ _ l, h => by
    simp only [D.shr, Bool.and_eq_true] at h
    rw [D.nook, nooks_shr k l h.2, h.1]; rfl
  | .non, _ => rfl | .bl _, _ => rfl | .int _, _ => rfl | .str _, _ => rfl | .ty _, _ => rfl | .adr _, _ => rfl | .raw _ _, _ => rfl | .xo _ _ _ _, _ => rfl
theorem nooks_shr (k : Nat) : ∀ l : List D, D.shrs l = true → D.nooks k l = true
  | [], _ => rfl
  | d :: l, h => by
    simp only [D.shrs, Bool.and_eq_true] at h
    rw [D.nooks, nook_shr k d h.1, nooks_shr k l h.2]; rfl
end
theorem nook_enc {α : Type} [Enc α] {k : Nat} {a : α} : D.nook k (enc a) = true := nook_shr k _ (Enc.shr a)
theorem nooks_enc {α : Type} [Enc α] {k : Nat} {l : List α} : D.nooks k (l.map enc) = true := nooks_shr k _ (shrs_map l)
mutual
theorem frz_frz : ∀ d : D, d.frz.frz = d.frz
  | .tup l => by simp only [D.frz, frzs_frzs l]
  | .lst o l => by simp only [D.frz, frzs_frzs l]
  | .dK o _ l => by simp only [D.frz, frzs_frzs l]
  | .dT o _ l => by simp only [D.frz, frzs_frzs l]
  | .ins o _ _ l => by simp only [D.frz, frzs_frzs l]
  | .xo _ _ _ l => by simp only [D.frz, frzs_frzs l]
  | .non => rfl | .bl _ => rfl | .int _ => rfl | .str _ => rfl | .ty _ => rfl | .adr _ => rfl | .raw _ _ => rfl
theorem frzs_frzs : ∀ l : List D, D.frzs (D.frzs l) = D.frzs l
  | [] => rfl
  | d :: l => by simp only [D.frzs, frz_frz d, frzs_frzs l]
end
mutual
theorem frz_shr : ∀ d : D, d.frz.shr = true
  | .tup l => by simp only [D.frz, D.shr, frzs_shrs l]
  | .lst o l => by simp only [D.frz, D.shr, frzs_shrs l]; rfl
  | .dK o _ l => by simp only [D.frz, D.shr, frzs_shrs l]; rfl
  | .dT o _ l => by simp only [D.frz, D.shr, frzs_shrs l]; rfl
  | .ins o _ _ l => by simp only [D.frz, D.shr, frzs_shrs l]; rfl
  | .xo _ _ _ l => rfl
  | .non => rfl | .bl _ => rfl | .int _ => rfl | .str _ => rfl | .ty _ => rfl | .adr _ => rfl | .raw _ _ => rfl
theorem frzs_shrs : ∀ l : List D, D.shrs (D.frzs l) = true
  | [] => rfl
  | d :: l => by simp only [D.frzs, D.shrs, frz_shr d, frzs_shrs l]; rfl
end
theorem frzs_app (l m : List D) : D.frzs (l ++ m) = D.frzs l ++ D.frzs m := by
  induction l with
  | nil => rfl
  | cons a l ih => rw [List.cons_append, D.frzs, ih]; rfl
theorem frzs_length (l : List D) : (D.frzs l).length = l.length := D.frzs_len l
theorem frzs_eq (l : List D) : D.frzs l = l.map D.frz := by
  induction l with
  | nil => rfl
  | cons a l ih => rw [D.frzs, ih]; rfl
theorem at_frzs (l : List D) (i : Int) : atI (D.frzs l) i = (atI l i).map D.frz := by
  rw [frzs_eq]
  unfold atI
  rw [List.length_map]
  cases ixN l.length i with
  | none => rfl
  | some j => simp
/-! places in written lists -/
theorem at_0 {α : Type} {a : α} {l : List α} : atI (a :: l) 0 = some a := by unfold atI ixN; simp
theorem at_1 {α : Type} {a c : α} {l : List α} : atI (a :: c :: l) 1 = some c := by
  rw [at_in (by omega) (by simp only [List.length_cons]; omega)]; rfl
theorem at_2 {α : Type} {a c e : α} {l : List α} : atI (a :: c :: e :: l) 2 = some e := by
  rw [at_in (by omega) (by simp only [List.length_cons]; omega)]; rfl
theorem at_3 {α : Type} {a c e f : α} {l : List α} : atI (a :: c :: e :: f :: l) 3 = some f := by
  rw [at_in (by omega) (by simp only [List.length_cons]; omega)]; rfl
theorem at_4 {α : Type} {a c e f g : α} {l : List α} : atI (a :: c :: e :: f :: g :: l) 4 = some g := by
  rw [at_in (by omega) (by simp only [List.length_cons]; omega)]; rfl
theorem ex_map {α β : Type} {f : α → β} {q : Option α} {P : β → Prop} : (∃ d, q.map f = some d ∧ P d) = ∃ a, q = some a ∧ P (f a) := by
  cases q <;> simp
theorem cast_0 : ((0 : Nat) : Int) = 0 := rfl
theorem cast_1 : ((1 : Nat) : Int) = 1 := rfl
theorem cast_2 : ((2 : Nat) : Int) = 2 := rfl
theorem cast_3 : ((3 : Nat) : Int) = 3 := rfl
theorem cast_4 : ((4 : Nat) : Int) = 4 := rfl
end
/-! a cut: what holds between two parts -/
def dCut (f g : FS) : FS := dSeq f g
theorem cut {f g : FS} {K : DEn} {ρ : Env} (M : Env → Prop) (h1 : ∀ N : Env → Prop, (∀ ρ', M ρ' → N ρ') → f { K with nx := N } ρ) (h2 : ∀ ρ', M ρ' → g K ρ') : dCut f g K ρ := h1 _ h2
theorem isD_yes {a : Addr} {cls : Value} {dd : Addr} {tab : List (Value × Bool)} {cd : D} {nm : List Str} {l : List D} {K : D → Prop} {b : Bool} (hm : (cls, b) ∈ tab) (h : K (.bl b)) : gIsD a cls (some dd) tab cd [.xo a dd nm l, cd] K :=
  ⟨_, b, rfl, .inr ⟨dd, nm, l, rfl, rfl⟩, hm, h⟩
theorem xf_yes {a : Addr} {cls : Value} {dd C : Addr} {cs : List Addr} {i : Nat} {f : Str} {nm : List Str} {l : List D} {y : D} {ρ : Env} {K : D → Prop} {X : XD → Prop} (hc : C ∈ cs) (hcl : cls = .ref C) (hr : ρ[i]? = some (some (.xo a dd nm l))) (hl : lookF nm l f = some y) (h : K y) : dXf a cls (some dd) cs i f ρ K X :=
  ⟨C, dd, nm, l, y, hc, hcl, rfl, hr, hl, h⟩
end DL
namespace DL
open PySem PySem.Spec PyProof.Rows L2 Evl PL
set_option maxHeartbeats 1000000
variable {Γ : GS}
/-! ### defs called while an exception is handled -/
structure HXH (P : Program) (w : World) (K : PySem.W.Frag) (mg : Str → Option Value) (base : Heap) (x : Str) (k : Nat) (sp : Sp) : Prop where
  ex : ∃ (f : Addr) (fd : FuncData) (ps : List Str), mg x = some (.ref f) ∧ PySem.W.keepIn K (.ref f) = true ∧ Binds K fd ps [] ∧ L2H.FnH P w K mg base (L2N.CX P w) k f fd ps sp
theorem okH {P : Program} {w : World} {K : PySem.W.Frag} {mg : Str → Option Value} {base : Heap} {x qual : Str} {st : Stmt} {f : Addr} {fd : FuncData} {N ps : List Str} {lv n k : Nat} {fs : FS} (F : Fun K x qual st f fd) (S : FnScope N ps (defScope st)) (hn : ps.length = n) (hN : N.length = n + k)
    (hb : ∀ (cdv : Value) (A : Around) (outer : List PySem.Env) (s : Shared) (H : Hp) (E : XK) (p : Addr × Obj), L2H.Hot1 A p → L2H.RoomH lv (A.deeper (envOfC qual (defScope st) s.heap.objs.size f cdv)) →
      ∃ t, PSs (L2H.cxH (L2N.CX P w) P w K mg base N qual (defScope st) f cdv A outer s H E p) (defBody st) t ∧ LS Γ [] (DL.WE E) t fs) : L2H.FnH P w K mg base (L2N.CX P w) (lv + 1) f fd ps (spP Γ (bodyN fs [] n k)) := by
  obtain ⟨_, _, _, _, _, _, cdv, _, _, rfl, lk, hcd⟩ := F.ex
  refine L2H.fn_ofH lk hcd S (fun vs H Q E h => (spP_len h).trans hn.symm) fun A outer s H vs Q E p hot hr h => ?_
  obtain ⟨t, h1, h2⟩ := hb cdv A outer s H E p hot hr
  refine ⟨t, h1, ?_⟩
  rw [start_eq (spP_len h) hN]
  obtain ⟨O, ds, K, X, r, hO, hG, hF, hQ, hX⟩ := h
  exact spP_body h2 ⟨O, ds, K, X, r, hO, hG, hF.2, hQ, hX⟩
theorem hot_of {X : Cx} {a : Addr} {oe : Obj} {cls : Value} {d : Option Addr} {pn : List (Addr × Obj)} (hz : L2N.Zn cls d oe) (hf : ∃ vs, oe.data = .fields vs) : L2H.HotC (X.suite a ((a, oe) :: pn)) := by
  obtain ⟨vs, hd⟩ := hf
  exact ⟨(a, oe), ⟨rfl, vs, hd, hz.2.2 vs hd⟩, List.mem_cons_self⟩
theorem roomH_suite {X : Cx} {k : Nat} {a : Addr} {pn : List (Addr × Obj)} (r : Room k X.A) : L2H.RoomH k (X.suite a pn).A := ⟨r.dp, r.un⟩
section
variable {X : Cx} {k : Nat} {sp : Sp} {x : Str} {p pos : Pos} {e : Expr} {es : List Expr} {t : TA}
theorem px_fnH (hc : L2H.HotC X) (h : HXH X.prog X.w X.K X.mg X.base x k sp) (hr : L2H.RoomH k X.A) (hg : Gl X x) (ha : PA X (e :: es) t) (hdb : (x == ("__debug__" : Str)) = false := by decide) (he : starEach (e :: es) X.env = (false, eval e X.env) :: starEach es X.env := by rfl)
    (hpl : (backTo pos (starEach es X.env)).any (·.1) = false := by rfl) : PE X (.Call (.Name x p) (e :: es) [] pos) (L2.tCallS sp (WEs DL.WN) t) := by
  obtain ⟨f, fd, ps, h1, h2, h3, h4⟩ := h.ex
  exact L2H.pe_callH h4 hr hc hg h1 h2 h3 (fun _ _ _ _ _ _ _ c => by
    obtain ⟨_, _, _, _, _, _, _, _, _, _, _, _, h⟩ := c
    exact h.elim) ha hdb he hpl
end
end DL
namespace DL
open PySem PySem.Spec PyProof.Rows L2 Evl PL
set_option maxHeartbeats 1000000
/-! ### the end: what the top has written -/
def Γ0 : GS := ⟨fun _ => True, fun _ _ => trivial, fun _ _ _ => trivial⟩
theorem kcl_ref {K : PySem.W.Frag} {C : Addr} {c : Value} {b : Bool} (h1 : PySem.W.isClsIn K C = true) (h2 : PySem.W.typeIn K (.ref C) = some (.type "type")) (h3 : PySem.W.subIn K c (.ref C) = some b) : PySem.W.kitCls K c (.ref C) = some b := by
  show (if ((PySem.W.clsIn K C).isSome && PySem.W.typeIn K (.ref C) == some (.type "type")) = true then PySem.W.subIn K c (.ref C) else none) = some b
  rw [if_pos (by rw [show (PySem.W.clsIn K C).isSome = true from h1, h2]; decide +kernel), h3]
theorem kcl_ty {K : PySem.W.Frag} {T : String} {c : Value} {b : Bool} (h1 : PySem.W.kitMeta T = true) (h3 : PySem.W.subIn K c (.type T) = some b) : PySem.W.kitCls K c (.type T) = some b := by
  show (if PySem.W.kitMeta T = true then PySem.W.subIn K c (.type T) else none) = some b
  rw [if_pos h1, h3]
theorem exm_of {K : PySem.W.Frag} {T c : Value} {b : Bool} (hs : PySem.W.subIn K T (.type "BaseException") = some true) (hk : PySem.W.kitCls K c T = some b) : PySem.W.exmOne K c T = some b := by
  unfold PySem.W.exmOne
  rw [if_pos (by rw [hs]; decide +kernel), hk]
theorem kit_of {K : PySem.W.Frag} {T c : Value} {b : Bool} (hc : PySem.W.subIn K c c = some true) (hb : PySem.W.subIn K c T = some b) (hk : PySem.W.kitCls K c T = some b) : PySem.W.kitOne K c T = some b := by
  unfold PySem.W.kitOne
  by_cases h : (c == T) = true
  · rw [if_pos h]
    have e : c = T := beq_iff_eq.mp h
    rw [← e, hc] at hb
    exact hb
  · rw [if_neg h, hk]
theorem funS_binds {K : PySem.W.Frag} {x qual : Str} {st : Stmt} {f cda cc : Addr} {fd : FuncData} {ps : List Str} (F : PX.FunS K x qual st f cda cc fd)
    (h : ∀ (kV doc pm : Value) (an : Option Addr) (ct : Value) (us : List Value), us.length = ps.length → bindArgs (PySem.W.ksFn x qual (defArgs st) (defBody st) (defScope st) .none kV doc pm an (.ref cda) ct cc) ⟨us, []⟩ = pure (ps.zip us)) : Binds K fd ps [] := by
  obtain ⟨_, _, kV, doc, pm, an, ct, _, rfl, _, _⟩ := F.ex
  exact .all (h kV doc pm an ct)
theorem cx_none {P : Program} {w : World} {H : Hp} {s : Shared} {e : Value} {s' : Shared} (h : L2N.CX P w [] H s (fun _ _ _ => False) e s') : False := by
  obtain ⟨_, _, _, _, _, _, _, _, _, _, _, _, z⟩ := h
  exact z
/-- a law whose defs let exceptions through; the promise is found with the written part at hand -/
theorem walk_ofD {l : PySem.W.OpenLaw} {n k : Nat} {q : Program} {loose : List Str} {XP : (Str → Option Value) → Heap → Prop} {YP : World → Heap → Prop} {d : DefRec} {K : Params → PySem.W.Frag} {x : Str} (hn : l.most = some n) (hn2 : n ≤ sizeLine) (hdf : d.params.defaults = []) (hr : Room k callerA) (hY : ∀ (w : World) (h : Heap), YP w h → (K w.params).In h)
    (F : ∀ (w : World) (mg : Str → Option Value) (fa : Addr) (h : Heap), (K w.params).In h → h.Ns mainGlobals mg → mg d.name = some (.ref fa) → ∃ (fd : FuncData) (sp : Sp), (∀ (s : Shared) (u : Value), BindsTo s fd ⟨[u], []⟩ [(x, u)]) ∧
      (∀ (H : Hp) (a : Addr) (ns : List Int), ns.length ≤ n → Only H → SqL (K w.params) H a (ns.map V.int) → sp [.ref a] H (fun v _ => v = .bl true) fun _ _ _ => False) ∧ ∀ base : Heap, (K w.params).In base → base.Ns mainGlobals mg → FnX l.prog w (K w.params) mg base k fa fd [x] sp) : PySem.W.WalkO q loose XP YP l.row.toRowW d [] (fun f vs => PySem.call f vs) :=
  Att.attach_call hn hdf fun w s₀ s₁ mg _ fa _ _ _ _ a _ ns G Y _ _ _ hmg hobj hints hlen hg =>
    have KX := hY w _ Y
    (F w mg fa _ KX G.T.g hmg).elim fun _ ⟨_, hb, hsp, hF⟩ => law_call KX G.T.g G.T.b G.T.builtins G.T.nolimit hg hobj hints (Nat.le_trans hlen hn2) hr hF hb (fun H hO hS => hsp H a ns hlen hO hS) fun _ _ _ h => cx_none h
end DL
/-! the walk's own tactics -/
local macro_rules | `(tactic| walk_at "ex") => `(tactic| first | assumption | exact Evl.Ex.refl _ | exact Evl.Ex.trans ?_ (by assumption))
local macro_rules | `(tactic| walk_at "at") => `(tactic| first
  | assumption
  | exact (by assumption : Evl.Ex _ _) _ _ (by walk_at "at"))
local macro_rules | `(tactic| walk_at "sq") => `(tactic| first
  | assumption
  | exact Evl.sq_of (by assumption)
  | exact Evl.ex_l (by assumption) (by walk_at "sq")
  | exact PL.Chg.sq (by assumption) (by first | assumption | exact L2.ne_of_none (by assumption) (by assumption) | exact (L2.ne_of_none (by assumption) (by assumption)).symm) (by walk_at "sq"))
local macro_rules | `(tactic| walk_at "st") => `(tactic| first
  | assumption
  | exact L2.SqT.of (by assumption)
  | exact Evl.ex_t (by assumption) (by walk_at "st"))
local macro_rules | `(tactic| walk_at "side") => `(tactic| first
  | assumption
  | omega
  | decide
  | exact Or.inr ⟨by decide, by decide⟩
  | exact Or.inl ⟨by decide, by decide⟩
  | exact Or.inr ⟨by omega, by omega⟩
  | exact Or.inl ⟨by omega, by omega⟩
  | exact ⟨by decide, by decide, by decide⟩
  | (simp only [List.length_map, List.length_cons, List.length_nil, List.length_append, List.length_take, List.length_drop]; omega))
local macro_rules | `(tactic| walk_at "w3") => `(tactic| first
  | ((with_reducible refine PL.w_mulI ?c ?_); (case c => walk_at "side"))
  | ((with_reducible refine PL.w_divI ?c ?d ?_); (case c => walk_at "side"); (case d => walk_at "side"))
  | ((with_reducible refine PL.w_modI ?c ?_); (case c => walk_at "side"))
  | ((with_reducible refine PL.w_powI ?c ?_); (case c => walk_at "side"))
  | ((with_reducible refine PL.w_ixC (xs := ?x) (v := ?y) ?c ?d ?_); (case c => walk_at "sq"); (case d => rfl))
  | ((with_reducible refine PL.w_lenI (ns := ?x) ?c ?_); (case c => walk_at "sq"))
  | ((with_reducible refine PL.w_lenT (xs := ?x) ?c ?_); (case c => walk_at "st"))
  | ((with_reducible refine PL.w_ixT (xs := ?x) (v := ?y) ?c ?d ?_); (case c => walk_at "st"); (case d => rfl))
  | ((with_reducible refine PL.w_truL (xs := ?x) ?c ?_); (case c => walk_at "sq"))
  | (with_reducible refine PL.w_isi_ii ?_)
  | (with_reducible refine PL.w_isi_ib ?_)
  | ((with_reducible refine PL.w_isi_ll (xs := ?x) ?c ?_); (case c => walk_at "sq"))
  | ((with_reducible refine PL.w_isi_tt (xs := ?x) ?c ?_); (case c => walk_at "at"))
  | ((with_reducible refine PL.w_ty (xs := ?x) ?c ?_); (case c => walk_at "sq"))
  | ((with_reducible refine PL.w_rng ?c ?d ?_); (case c => walk_at "side"); (case d => walk_at "side"))
  | ((with_reducible refine PL.w_rng2 ?c ?d ?e ?f ?_); (case c => walk_at "side"); (case d => walk_at "side"); (case e => walk_at "side"); (case f => walk_at "side"))
  | ((with_reducible refine PL.w_lstI (xs := ?x) ?c ?_); (case c => walk_at "sq"))
  | ((with_reducible refine PL.w_enu (xs := ?x) ?c ?_); (case c => walk_at "sq")))
local macro_rules | `(tactic| walk_at "wv") => `(tactic| ((with_reducible refine PL.w_var (v := ?v) ?e ?_); (case e => rfl)))
local macro_rules | `(tactic| walk_at "w0") => `(tactic| repeat (first
  | (with_reducible first
  | refine PL.w_seq ?_ | refine PL.w_asg ?_ | refine PL.w_ret ?_ | refine PL.w_if ?_ | refine PL.w_drop ?_ | refine PL.w_next ?_ | refine PL.w_brk ?_ | refine PL.w_cont ?_
  | refine PL.w_c ?_ | refine PL.w_op ?_ | refine PL.w_un ?_ | refine PL.w_test ?_ | refine PL.w_and ?_ | refine PL.w_or ?_ | refine PL.w_not ?_ | refine PL.w_andV ?_ | refine PL.w_orV ?_ | refine PL.w_notV ?_ | refine PL.w_ifE ?_
  | refine PL.w_nil ?_ | refine PL.w_cons ?_ | refine PL.w_call ?_ | refine PL.w_cb ?_ | refine PL.w_lst ?_ | refine PL.w_tup ?_ | refine PL.w_sl ?_ | refine PL.w_noPart ?_ | refine PL.w_part ?_ | refine PL.w_chain ?_
  | refine PL.w_bm ?_ | refine PL.w_bm0 ?_ | refine PL.w_sub ?_ | refine PL.w_for ?_ | refine PL.w_iR1 ?_ | refine PL.w_iR2 ?_ | refine PL.w_iL ?_ | refine PL.w_iE ?_ | refine PL.w_lc ?_ | refine PL.w_tru ?_ | refine PL.w_lc2 ?_ | refine PL.w_yes ?_)
  | (first
  | walk_at "wv"
  | with_reducible refine PL.w_bl0 ?_ | with_reducible refine PL.w_some0 ?_ | with_reducible refine PL.w_truB0 ?_ | with_reducible refine PL.w_truI ?_
  | with_reducible refine PL.w_I0 ?_ | with_reducible refine PL.w_neg ?_ | with_reducible refine PL.w_addI ?_ | with_reducible refine PL.w_eqI ?_ | with_reducible refine PL.w_neI ?_ | with_reducible refine PL.w_int1 ?_
  | with_reducible refine PL.w_true ?_ | with_reducible refine PL.w_false ?_ | with_reducible refine PL.w_notT ?_ | with_reducible refine PL.w_notF ?_)
  | walk_at "w3"))
local macro_rules | `(tactic| walk_at "w") => `(tactic| ((try with_reducible conv => whnf); (walk_at "w0"); (try with_reducible conv => whnf)))
/-! the walk's own tactics: objects -/
local macro_rules | `(tactic| walk_at "o3") => `(tactic| first
  | ((with_reducible refine PL.w_fldI (C := ?z) (dx := ?w) (fs := ?x) (v := ?y) ?c ?d ?e ?f ?_); (case c => walk_at "at"); (case d => assumption); (case e => assumption); (case f => rfl))
  | ((with_reducible refine PL.w_propI (dx := ?w) (fs := ?x) ?c ?_); (case c => walk_at "at"))
  | ((with_reducible refine PL.w_methI (dx := ?w) (fs := ?x) ?c ?d ?_); (case c => walk_at "at"); (case d => rfl))
  | ((with_reducible refine PL.w_cvalI (mc := ?x) (v := ?y) ?c ?d ?_); (case c => assumption); (case d => assumption))
  | ((with_reducible refine PL.w_ixCA (xs := ?x) (v := ?y) ?c ?d ?_); (case c => walk_at "sq"); (case d => rfl))
  | ((with_reducible refine PL.w_ixTA (xs := ?x) (v := ?y) ?c ?d ?_); (case c => walk_at "st"); (case d => rfl))
  | ((with_reducible refine PL.w_inI (ns := ?x) ?c ?_); (case c => walk_at "sq"))
  | ((with_reducible refine PL.w_niI (ns := ?x) ?c ?_); (case c => walk_at "sq"))
  | (with_reducible refine PL.w_eqS ?_))
local macro_rules | `(tactic| walk_at "w0") => `(tactic| repeat (first
  | (with_reducible first
  | refine PL.w_seq ?_ | refine PL.w_asg ?_ | refine PL.w_ret ?_ | refine PL.w_if ?_ | refine PL.w_drop ?_ | refine PL.w_next ?_ | refine PL.w_brk ?_ | refine PL.w_cont ?_
  | refine PL.w_c ?_ | refine PL.w_op ?_ | refine PL.w_un ?_ | refine PL.w_test ?_ | refine PL.w_and ?_ | refine PL.w_or ?_ | refine PL.w_not ?_ | refine PL.w_andV ?_ | refine PL.w_orV ?_ | refine PL.w_notV ?_ | refine PL.w_ifE ?_
  | refine PL.w_nil ?_ | refine PL.w_cons ?_ | refine PL.w_call ?_ | refine PL.w_cb ?_ | refine PL.w_lst ?_ | refine PL.w_tup ?_ | refine PL.w_sl ?_ | refine PL.w_noPart ?_ | refine PL.w_part ?_ | refine PL.w_chain ?_
  | refine PL.w_bm ?_ | refine PL.w_bm0 ?_ | refine PL.w_sub ?_ | refine PL.w_for ?_ | refine PL.w_iR1 ?_ | refine PL.w_iR2 ?_ | refine PL.w_iL ?_ | refine PL.w_iE ?_ | refine PL.w_lc ?_ | refine PL.w_tru ?_ | refine PL.w_lc2 ?_ | refine PL.w_yes ?_
  | refine PL.w_fld ?_ | refine PL.w_sfld ?_ | refine PL.w_prop ?_ | refine PL.w_meth ?_ | refine PL.w_make ?_ | refine PL.w_cval ?_ | refine PL.w_lenSet ?_ | refine PL.w_lrg ?_ | refine PL.w_gn ?_ | refine PL.w_dget2 ?_ | refine PL.w_allZ ?_)
  | (first
  | walk_at "wv"
  | with_reducible refine PL.w_bl0 ?_ | with_reducible refine PL.w_some0 ?_ | with_reducible refine PL.w_truB0 ?_ | with_reducible refine PL.w_truI ?_
  | with_reducible refine PL.w_I0 ?_ | with_reducible refine PL.w_neg ?_ | with_reducible refine PL.w_addI ?_ | with_reducible refine PL.w_eqI ?_ | with_reducible refine PL.w_neI ?_ | with_reducible refine PL.w_int1 ?_
  | with_reducible refine PL.w_true ?_ | with_reducible refine PL.w_false ?_ | with_reducible refine PL.w_notT ?_ | with_reducible refine PL.w_notF ?_)
  | walk_at "w3"
  | walk_at "o3"))
namespace Pr
open PySem PySem.Spec PyProof.Rows L2 Evl PL DL
set_option maxHeartbeats 1000000
def topS (i : Nat) : Stmt := PySem.Challenge.pw_pullstore_k00_nets_keep_links.main.body.getD i (.Pass ⟨0, 0, 0, 0⟩)
structure Ad where
  Kf : PySem.W.Frag
  StoreError : Addr
  InvalidNet : Addr
  UnknownReplica : Addr
  NotLinked : Addr
  Net : Addr
abbrev s_Net___init__ : Stmt := inClass (topS 6) 1
theorem sc_Net___init__ : FnScope ["self", "count", "links", "linked", "source", "reader"] ["self", "count", "links"] (defScope s_Net___init__) := ⟨rfl, rfl, rfl, by decide +kernel, rfl, by decide +kernel, by decide +kernel⟩
abbrev s_Net_both_ways : Stmt := inClass (topS 6) 2
theorem sc_Net_both_ways : FnScope ["cls", "count", "pairs", "links", "one", "other"] ["cls", "count", "pairs"] (defScope s_Net_both_ways) := ⟨rfl, rfl, rfl, by decide +kernel, rfl, by decide +kernel, by decide +kernel⟩
abbrev s_Net_line : Stmt := inClass (topS 6) 3
theorem sc_Net_line : FnScope ["cls", "count", "replica"] ["cls", "count"] (defScope s_Net_line) := ⟨rfl, rfl, rfl, by decide +kernel, rfl, by decide +kernel, by decide +kernel⟩
abbrev s_Net_star : Stmt := inClass (topS 6) 4
theorem sc_Net_star : FnScope ["cls", "count", "replica"] ["cls", "count"] (defScope s_Net_star) := ⟨rfl, rfl, rfl, by decide +kernel, rfl, by decide +kernel, by decide +kernel⟩
abbrev s_Net_complete : Stmt := inClass (topS 6) 5
theorem sc_Net_complete : FnScope ["cls", "count", "other", "one"] ["cls", "count"] (defScope s_Net_complete) := ⟨rfl, rfl, rfl, by decide +kernel, rfl, by decide +kernel, by decide +kernel⟩
abbrev s_Net_ring : Stmt := inClass (topS 6) 6
theorem sc_Net_ring : FnScope ["cls", "count", "steps", "replica"] ["cls", "count"] (defScope s_Net_ring) := ⟨rfl, rfl, rfl, by decide +kernel, rfl, by decide +kernel, by decide +kernel⟩
abbrev s_Net_links : Stmt := inClass (topS 6) 7
theorem sc_Net_links : FnScope ["self"] ["self"] (defScope s_Net_links) := ⟨rfl, rfl, rfl, by decide +kernel, rfl, by decide +kernel, by decide +kernel⟩
abbrev s_Net_sources : Stmt := inClass (topS 6) 8
theorem sc_Net_sources : FnScope ["self", "reader", "source"] ["self", "reader"] (defScope s_Net_sources) := ⟨rfl, rfl, rfl, by decide +kernel, rfl, by decide +kernel, by decide +kernel⟩
abbrev s_Net_readers : Stmt := inClass (topS 6) 9
theorem sc_Net_readers : FnScope ["self", "source", "reader"] ["self", "source"] (defScope s_Net_readers) := ⟨rfl, rfl, rfl, by decide +kernel, rfl, by decide +kernel, by decide +kernel⟩
abbrev s_Net_has_link : Stmt := inClass (topS 6) 10
theorem sc_Net_has_link : FnScope ["self", "source", "reader"] ["self", "source", "reader"] (defScope s_Net_has_link) := ⟨rfl, rfl, rfl, by decide +kernel, rfl, by decide +kernel, by decide +kernel⟩
abbrev s_Net_with_link : Stmt := inClass (topS 6) 11
theorem sc_Net_with_link : FnScope ["self", "source", "reader"] ["self", "source", "reader"] (defScope s_Net_with_link) := ⟨rfl, rfl, rfl, by decide +kernel, rfl, by decide +kernel, by decide +kernel⟩
abbrev s_Net_without_link : Stmt := inClass (topS 6) 12
theorem sc_Net_without_link : FnScope ["self", "source", "reader", "link"] ["self", "source", "reader"] (defScope s_Net_without_link) := ⟨rfl, rfl, rfl, by decide +kernel, rfl, by decide +kernel, by decide +kernel⟩
abbrev s__check_count : Stmt := topS 7
theorem sc__check_count : FnScope ["count"] ["count"] (defScope s__check_count) := ⟨rfl, rfl, rfl, by decide +kernel, rfl, by decide +kernel, by decide +kernel⟩
abbrev s__is_below : Stmt := topS 8
theorem sc__is_below : FnScope ["number", "count"] ["number", "count"] (defScope s__is_below) := ⟨rfl, rfl, rfl, by decide +kernel, rfl, by decide +kernel, by decide +kernel⟩
abbrev s__law_box : Stmt := topS 10
theorem sc__law_box : FnScope ["_law_script", "_law_cells"] ["_law_script"] (defScope s__law_box) := ⟨rfl, rfl, rfl, by decide +kernel, rfl, by decide +kernel, by decide +kernel⟩
abbrev s__law_step : Stmt := topS 11
theorem sc__law_step : FnScope ["_law_box_here", "_law_cell"] ["_law_box_here"] (defScope s__law_step) := ⟨rfl, rfl, rfl, by decide +kernel, rfl, by decide +kernel, by decide +kernel⟩
abbrev s__law_draw : Stmt := topS 12
theorem sc__law_draw : FnScope ["_law_box_here", "_law_many", "_law_digit", "_law_first", "_law_second", "_law_third"] ["_law_box_here", "_law_many"] (defScope s__law_draw) := ⟨rfl, rfl, rfl, by decide +kernel, rfl, by decide +kernel, by decide +kernel⟩
abbrev s__law_great : Stmt := topS 13
theorem sc__law_great : FnScope ["_law_box_here", "_law_low", "_law_middle", "_law_high", "_law_top"] ["_law_box_here"] (defScope s__law_great) := ⟨rfl, rfl, rfl, by decide +kernel, rfl, by decide +kernel, by decide +kernel⟩
abbrev s__law_is_int : Stmt := topS 14
theorem sc__law_is_int : FnScope ["_law_actual"] ["_law_actual"] (defScope s__law_is_int) := ⟨rfl, rfl, rfl, by decide +kernel, rfl, by decide +kernel, by decide +kernel⟩
abbrev s__law_stranger : Stmt := topS 15
theorem sc__law_stranger : FnScope ["_law_box_here", "_law_count_here", "_law_kind", "_law_great_here"] ["_law_box_here", "_law_count_here"] (defScope s__law_stranger) := ⟨rfl, rfl, rfl, by decide +kernel, rfl, by decide +kernel, by decide +kernel⟩
abbrev s__law_truth : Stmt := topS 16
theorem sc__law_truth : FnScope ["_law_actual", "_law_due"] ["_law_actual", "_law_due"] (defScope s__law_truth) := ⟨rfl, rfl, rfl, by decide +kernel, rfl, by decide +kernel, by decide +kernel⟩
abbrev s__law_is_pair : Stmt := topS 17
theorem sc__law_is_pair : FnScope ["_law_actual", "_law_due"] ["_law_actual", "_law_due"] (defScope s__law_is_pair) := ⟨rfl, rfl, rfl, by decide +kernel, rfl, by decide +kernel, by decide +kernel⟩
abbrev s__law_pairs_are : Stmt := topS 18
theorem sc__law_pairs_are : FnScope ["_law_told", "_law_due", "_law_k"] ["_law_told", "_law_due"] (defScope s__law_pairs_are) := ⟨rfl, rfl, rfl, by decide +kernel, rfl, by decide +kernel, by decide +kernel⟩
abbrev s__law_ints_are : Stmt := topS 19
theorem sc__law_ints_are : FnScope ["_law_told", "_law_due", "_law_k"] ["_law_told", "_law_due"] (defScope s__law_ints_are) := ⟨rfl, rfl, rfl, by decide +kernel, rfl, by decide +kernel, by decide +kernel⟩
abbrev s__law_count : Stmt := topS 20
theorem sc__law_count : FnScope ["_law_box_here", "_law_share"] ["_law_box_here"] (defScope s__law_count) := ⟨rfl, rfl, rfl, by decide +kernel, rfl, by decide +kernel, by decide +kernel⟩
abbrev s__law_pair : Stmt := topS 21
theorem sc__law_pair : FnScope ["_law_box_here", "_law_count_here", "_law_source"] ["_law_box_here", "_law_count_here"] (defScope s__law_pair) := ⟨rfl, rfl, rfl, by decide +kernel, rfl, by decide +kernel, by decide +kernel⟩
abbrev s__law_good_pairs : Stmt := topS 22
theorem sc__law_good_pairs : FnScope ["_law_box_here", "_law_count_here", "_law_pairs", "_law_size", "_law_k"] ["_law_box_here", "_law_count_here"] (defScope s__law_good_pairs) := ⟨rfl, rfl, rfl, by decide +kernel, rfl, by decide +kernel, by decide +kernel⟩
abbrev s__law_bad_pair : Stmt := topS 23
theorem sc__law_bad_pair : FnScope ["_law_box_here", "_law_count_here", "_law_kind", "_law_near", "_law_far"] ["_law_box_here", "_law_count_here"] (defScope s__law_bad_pair) := ⟨rfl, rfl, rfl, by decide +kernel, rfl, by decide +kernel, by decide +kernel⟩
abbrev s__law_spoilt : Stmt := topS 24
theorem sc__law_spoilt : FnScope ["_law_box_here", "_law_count_here", "_law_pairs", "_law_spoilt_here", "_law_k", "_law_at"] ["_law_box_here", "_law_count_here", "_law_pairs"] (defScope s__law_spoilt) := ⟨rfl, rfl, rfl, by decide +kernel, rfl, by decide +kernel, by decide +kernel⟩
abbrev s__law_first_bad : Stmt := topS 25
theorem sc__law_first_bad : FnScope ["_law_count_here", "_law_pairs", "_law_pair_here", "_law_inside"] ["_law_count_here", "_law_pairs"] (defScope s__law_first_bad) := ⟨rfl, rfl, rfl, by decide +kernel, rfl, by decide +kernel, by decide +kernel⟩
abbrev s__law_table : Stmt := topS 26
theorem sc__law_table : FnScope ["_law_count_here", "_law_pairs", "_law_both", "_law_table_here", "_law_pair_here"] ["_law_count_here", "_law_pairs", "_law_both"] (defScope s__law_table) := ⟨rfl, rfl, rfl, by decide +kernel, rfl, by decide +kernel, by decide +kernel⟩
abbrev s__law_ties : Stmt := topS 27
theorem sc__law_ties : FnScope ["_law_count_here", "_law_table_here", "_law_ties_here", "_law_x", "_law_y"] ["_law_count_here", "_law_table_here"] (defScope s__law_ties) := ⟨rfl, rfl, rfl, by decide +kernel, rfl, by decide +kernel, by decide +kernel⟩
abbrev s__law_call : Stmt := topS 28
theorem sc__law_call : FnScope ["_law_way", "_law_count_here", "_law_pairs"] ["_law_way", "_law_count_here", "_law_pairs"] (defScope s__law_call) := ⟨rfl, rfl, rfl, by decide +kernel, rfl, by decide +kernel, by decide +kernel⟩
abbrev s__law_made : Stmt := topS 29
theorem sc__law_made : FnScope ["_law_way", "_law_count_here", "_law_pairs", "e", "_law_kinds"] ["_law_way", "_law_count_here", "_law_pairs"] (defScope s__law_made) := ⟨rfl, rfl, rfl, by decide +kernel, rfl, by decide +kernel, by decide +kernel⟩
abbrev s__law_changed : Stmt := topS 30
theorem sc__law_changed : FnScope ["_law_adds", "_law_net", "_law_pair_here"] ["_law_adds", "_law_net", "_law_pair_here"] (defScope s__law_changed) := ⟨rfl, rfl, rfl, by decide +kernel, rfl, by decide +kernel, by decide +kernel⟩
abbrev s__law_deed : Stmt := topS 31
theorem sc__law_deed : FnScope ["_law_adds", "_law_net", "_law_pair_here", "e", "_law_kinds"] ["_law_adds", "_law_net", "_law_pair_here"] (defScope s__law_deed) := ⟨rfl, rfl, rfl, by decide +kernel, rfl, by decide +kernel, by decide +kernel⟩
abbrev s__law_refused : Stmt := topS 32
theorem sc__law_refused : FnScope ["_law_made_here", "_law_due"] ["_law_made_here", "_law_due"] (defScope s__law_refused) := ⟨rfl, rfl, rfl, by decide +kernel, rfl, by decide +kernel, by decide +kernel⟩
abbrev s__law_row : Stmt := topS 33
theorem sc__law_row : FnScope ["_law_net", "_law_way", "_law_replica"] ["_law_net", "_law_way", "_law_replica"] (defScope s__law_row) := ⟨rfl, rfl, rfl, by decide +kernel, rfl, by decide +kernel, by decide +kernel⟩
abbrev s__law_row_is : Stmt := topS 34
theorem sc__law_row_is : FnScope ["_law_net", "_law_way", "_law_replica", "_law_due", "_law_told"] ["_law_net", "_law_way", "_law_replica", "_law_due"] (defScope s__law_row_is) := ⟨rfl, rfl, rfl, by decide +kernel, rfl, by decide +kernel, by decide +kernel⟩
abbrev s__law_unknown : Stmt := topS 35
theorem sc__law_unknown : FnScope ["_law_net", "_law_way", "_law_replica", "e", "_law_kinds"] ["_law_net", "_law_way", "_law_replica"] (defScope s__law_unknown) := ⟨rfl, rfl, rfl, by decide +kernel, rfl, by decide +kernel, by decide +kernel⟩
abbrev s__law_has : Stmt := topS 36
theorem sc__law_has : FnScope ["_law_box_here", "_law_net", "_law_count_here", "_law_table_here", "_law_sources", "_law_x", "_law_y", "_law_inside", "_law_forth", "_law_back"] ["_law_box_here", "_law_net", "_law_count_here", "_law_table_here"] (defScope s__law_has) := ⟨rfl, rfl, rfl, by decide +kernel, rfl, by decide +kernel, by decide +kernel⟩
abbrev s__law_net_is : Stmt := topS 37
theorem sc__law_net_is : FnScope ["_law_box_here", "_law_net", "_law_count_here", "_law_table_here", "_law_due", "_law_told", "_law_x", "_law_way", "_law_y"] ["_law_box_here", "_law_net", "_law_count_here", "_law_table_here"] (defScope s__law_net_is) := ⟨rfl, rfl, rfl, by decide +kernel, rfl, by decide +kernel, by decide +kernel⟩
abbrev s__law_builds : Stmt := topS 38
theorem sc__law_builds : FnScope ["_law_box_here", "_law_count_here", "_law_pairs", "_law_way", "_law_passed", "_law_made_here", "_law_spoilt_here"] ["_law_box_here", "_law_count_here", "_law_pairs"] (defScope s__law_builds) := ⟨rfl, rfl, rfl, by decide +kernel, rfl, by decide +kernel, by decide +kernel⟩
abbrev s__law_deed_pair : Stmt := topS 39
theorem sc__law_deed_pair : FnScope ["_law_box_here", "_law_count_here", "_law_table_here", "_law_ties_here", "_law_kind", "_law_pair_here"] ["_law_box_here", "_law_count_here", "_law_table_here"] (defScope s__law_deed_pair) := ⟨rfl, rfl, rfl, by decide +kernel, rfl, by decide +kernel, by decide +kernel⟩
abbrev s__law_deeds : Stmt := topS 40
theorem sc__law_deeds : FnScope ["_law_box_here", "_law_count_here", "_law_pairs", "_law_nets", "_law_tables", "_law_k", "_law_at", "_law_table_here", "_law_pair_here", "_law_adds", "_law_good", "_law_made_here", "_law_last"] ["_law_box_here", "_law_count_here", "_law_pairs"] (defScope s__law_deeds) := ⟨rfl, rfl, rfl, by decide +kernel, rfl, by decide +kernel, by decide +kernel⟩
abbrev s__law_named_table : Stmt := topS 41
theorem sc__law_named_table : FnScope ["_law_way", "_law_count_here", "_law_table_here", "_law_x", "_law_y", "_law_joined"] ["_law_way", "_law_count_here"] (defScope s__law_named_table) := ⟨rfl, rfl, rfl, by decide +kernel, rfl, by decide +kernel, by decide +kernel⟩
abbrev s__law_named : Stmt := topS 42
theorem sc__law_named : FnScope ["_law_box_here", "_law_count_here", "_law_whole", "_law_way", "_law_table_here", "_law_made_here"] ["_law_box_here", "_law_count_here"] (defScope s__law_named) := ⟨rfl, rfl, rfl, by decide +kernel, rfl, by decide +kernel, by decide +kernel⟩
abbrev s__law_wrong_count : Stmt := topS 43
theorem sc__law_wrong_count : FnScope ["_law_box_here", "_law_way", "_law_kind", "_law_great_here"] ["_law_box_here", "_law_way"] (defScope s__law_wrong_count) := ⟨rfl, rfl, rfl, by decide +kernel, rfl, by decide +kernel, by decide +kernel⟩
abbrev s__law_counts : Stmt := topS 44
theorem sc__law_counts : FnScope ["_law_box_here", "_law_count_here", "_law_pairs", "_law_rows", "_law_way"] ["_law_box_here", "_law_count_here", "_law_pairs"] (defScope s__law_counts) := ⟨rfl, rfl, rfl, by decide +kernel, rfl, by decide +kernel, by decide +kernel⟩
abbrev s_law : Stmt := topS 45
theorem sc_law : FnScope ["_law_script", "_law_box_here", "_law_count_here", "_law_pairs"] ["_law_script"] (defScope s_law) := ⟨rfl, rfl, rfl, by decide +kernel, rfl, by decide +kernel, by decide +kernel⟩
def tab_InvalidNet (Z : Ad) : List (Value × Bool) := [(.ref Z.StoreError, false), (.ref Z.InvalidNet, true), (.ref Z.UnknownReplica, false), (.ref Z.NotLinked, false)]
def tab_NotLinked (Z : Ad) : List (Value × Bool) := [(.ref Z.StoreError, false), (.ref Z.InvalidNet, false), (.ref Z.UnknownReplica, false), (.ref Z.NotLinked, true)]
def tab_StoreError (Z : Ad) : List (Value × Bool) := [(.ref Z.StoreError, true), (.ref Z.InvalidNet, true), (.ref Z.UnknownReplica, true), (.ref Z.NotLinked, true)]
def tab_UnknownReplica (Z : Ad) : List (Value × Bool) := [(.ref Z.StoreError, false), (.ref Z.InvalidNet, false), (.ref Z.UnknownReplica, true), (.ref Z.NotLinked, false)]
def tab_ValueError (Z : Ad) : List (Value × Bool) := [(.ref Z.StoreError, true), (.ref Z.InvalidNet, true), (.ref Z.UnknownReplica, true), (.ref Z.NotLinked, true)]
structure Glo (K : PySem.W.Frag) (mg : Str → Option Value) (Z : Ad) : Prop where
  kf : Z.Kf = K
  m_InvalidNet : mg "InvalidNet" = some (.ref Z.InvalidNet)
  m_Net : mg "Net" = some (.ref Z.Net)
  c_Net : Cls K Z.Net
  m_NotLinked : mg "NotLinked" = some (.ref Z.NotLinked)
  m_StoreError : mg "StoreError" = some (.ref Z.StoreError)
  m_UnknownReplica : mg "UnknownReplica" = some (.ref Z.UnknownReplica)
  e_InvalidNet : ∀ c b, (c, b) ∈ tab_InvalidNet Z → PySem.W.exmOne K c (.ref Z.InvalidNet) = some b
  i_InvalidNet : ∀ c b, (c, b) ∈ tab_InvalidNet Z → ∃ C, c = .ref C ∧ ExcC K C ∧ PySem.W.kitOne K c (.ref Z.InvalidNet) = some b
  e_NotLinked : ∀ c b, (c, b) ∈ tab_NotLinked Z → PySem.W.exmOne K c (.ref Z.NotLinked) = some b
  i_NotLinked : ∀ c b, (c, b) ∈ tab_NotLinked Z → ∃ C, c = .ref C ∧ ExcC K C ∧ PySem.W.kitOne K c (.ref Z.NotLinked) = some b
  e_StoreError : ∀ c b, (c, b) ∈ tab_StoreError Z → PySem.W.exmOne K c (.ref Z.StoreError) = some b
  i_StoreError : ∀ c b, (c, b) ∈ tab_StoreError Z → ∃ C, c = .ref C ∧ ExcC K C ∧ PySem.W.kitOne K c (.ref Z.StoreError) = some b
  e_UnknownReplica : ∀ c b, (c, b) ∈ tab_UnknownReplica Z → PySem.W.exmOne K c (.ref Z.UnknownReplica) = some b
  i_UnknownReplica : ∀ c b, (c, b) ∈ tab_UnknownReplica Z → ∃ C, c = .ref C ∧ ExcC K C ∧ PySem.W.kitOne K c (.ref Z.UnknownReplica) = some b
  e_ValueError : ∀ c b, (c, b) ∈ tab_ValueError Z → PySem.W.exmOne K c (.type "ValueError") = some b
  i_ValueError : ∀ c b, (c, b) ∈ tab_ValueError Z → ∃ C, c = .ref C ∧ ExcC K C ∧ PySem.W.kitOne K c (.type "ValueError") = some b
  xf_link : ∀ C ∈ [Z.InvalidNet], XfC K C ∧ PySem.W.findIn K (.ref C) "link" = some none
  xf_reader : ∀ C ∈ [Z.NotLinked], XfC K C ∧ PySem.W.findIn K (.ref C) "reader" = some none
  xf_replica : ∀ C ∈ [Z.UnknownReplica], XfC K C ∧ PySem.W.findIn K (.ref C) "replica" = some none
  xf_source : ∀ C ∈ [Z.NotLinked], XfC K C ∧ PySem.W.findIn K (.ref C) "source" = some none
  n_Net__linked : NoAttr K Z.Net "_linked"
  n_Net__links : NoAttr K Z.Net "_links"
  n_Net_count : NoAttr K Z.Net "count"
  r_Net : ClX.CRead K Z.Net (.type "type")
  v_Net_MOST : ∃ u, ClX.CVal K Z.Net (.type "type") "MOST" (.int 24) u
  g_ValueError : mg "ValueError" = none
  g_bool : mg "bool" = none
  g_int : mg "int" = none
  g_isinstance : mg "isinstance" = none
  g_len : mg "len" = none
  g_list : mg "list" = none
  g_max : mg "max" = none
  g_min : mg "min" = none
  g_range : mg "range" = none
  g_sorted : mg "sorted" = none
  g_sum : mg "sum" = none
  g_tuple : mg "tuple" = none
/-! the box of draws -/
def g0 (is : List Int) : Prop := ∃ a b c d : Int, is = [a, b, c, d] ∧ 0 ≤ a
def F__law_box (Z : Ad) : DF := mkF Z.Kf g0
def bfStep : BF := fun args K => args = [] ∧ K none
def bfDraw : BF := fun args K => ∃ m, args = [m] ∧ 0 < m ∧ m ≤ 1000000000 ∧ ∀ d, 0 ≤ d → d < m → K (some d)
def F__law_step (_ : Ad) : DF := boxF g0 0 bfStep
def F__law_draw (_ : Ad) : DF := boxF g0 1 bfDraw
def lsp__law_box (K : PySem.W.Frag) : Sp := Sp1 fun a H Q => ∃ (p : Addr) (ns : List Int), a = .ref p ∧ SqL K H p (ns.map V.int) ∧ ns.length ≤ 63 ∧
  ∀ (t n : Addr) (ms is : List Int) (H' : Hp), H t = none → H n = none → n ≠ t → Ex H H' → H' t = some (.lst (.ref n :: is.map V.int)) → g0 is → H' n = some (.lst (ms.map V.int)) → Q (.ref t) H'
def lsp__law_step (_ : PySem.W.Frag) : Sp := Sp1 fun v H Q => ∃ (t n : Addr) (ns : List Int) (a b c d : Int), v = .ref t ∧ H t = some (.lst [.ref n, .int a, .int b, .int c, .int d]) ∧ 0 ≤ a ∧ H n = some (.lst (ns.map V.int)) ∧ n ≠ t ∧
  ∀ H' a' b' c' d', Chg t H H' → H' t = some (.lst [.ref n, .int a', .int b', .int c', .int d']) → 0 ≤ a' → Q .non H'
def lsp__law_draw (_ : PySem.W.Frag) : Sp := Sp2 fun v u H Q => ∃ (t n : Addr) (ns : List Int) (a b c d m : Int), v = .ref t ∧ u = .int m ∧ H t = some (.lst [.ref n, .int a, .int b, .int c, .int d]) ∧ 0 ≤ a ∧ H n = some (.lst (ns.map V.int)) ∧ n ≠ t ∧ 0 < m ∧ m ≤ 1000000000 ∧
  ∀ r H' a' b' c' d', 0 ≤ r → r < m → Chg t H H' → H' t = some (.lst [.ref n, .int a', .int b', .int c', .int d']) → 0 ≤ a' → Q (.int r) H'
theorem low__law_box {P : Program} {w : World} {K : PySem.W.Frag} {mg : Str → Option Value} {base : Heap} {Z : Ad} (G : Glo K mg Z) {f : Addr} {fd : FuncData} (F : Fun K "_law_box" "_law_box" s__law_box f fd) : FnOk P w K mg base CX0 1 f fd ["_law_script"] (lsp__law_box K) := by
  refine F.ok sc__law_box (fun vs H Q E h => len1 h) (fun cdv A outer s H vs Q E hr h => ?_)
  obtain ⟨v0, rfl, h⟩ := h
  refine ⟨_, (pss_cons (ps_set (i := 1) sc__law_box.nd rfl (.inl rfl) (pe_callTy (lst_K K) (by rfl) G.g_list (by decide +kernel) (pa_cons (pe_slice (sl_K K) (pv 0) po_none (po_some pe_int)) pa_nil)))
  (pss_cons (ps_if (pt_cmpR (eq_K K hr.units) (pv 1) (pe_lst pa_nil) (nomark _)) (pss_one (ps_set (i := 1) sc__law_box.nd rfl (.inl rfl) (pe_lst (pa_cons pe_int pa_nil)))) pss_nil)
  (pss_one (ps_ret (pe_lst (pa_cons (pv 1) (pa_cons pe_int (pa_cons pe_int (pa_cons pe_int (pa_cons (pe_op op_modA (pe_callTy (int_K K) (by rfl) G.g_int (by decide +kernel) (pa_cons (pe_callB (sum_K K) (by rfl) G.g_sum (by decide +kernel) (pa_cons (pv 1) pa_nil)) pa_nil)) pe_int) pa_nil)))))))))), ?_⟩
  rw [show L2.start ["_law_script", "_law_cells"] [v0] = [some v0, none] from rfl]
  obtain ⟨p, ns, rfl, hS, hl, q⟩ := h
  walk_at "w"
  refine w_slHi (by walk_at "sq") (by omega) fun p1 H1 n1 e1 h1 => ?_
  walk_at "w"
  refine w_listI (by walk_at "sq") fun p2 H2 n2 e2 h2 => ?_
  walk_at "w"
  refine ⟨Nat.zero_le _, fun p3 n3 => ?_⟩
  have e3 : Ex H2 (upd H2 p3 (.lst [])) := Ex.new n3
  have h3 : upd H2 p3 (.lst []) p3 = some (.lst []) := upd_same
  generalize upd H2 p3 (.lst []) = H3 at e3 h3 ⊢
  have h23 := e3 _ _ h2
  refine w_eqL (ns := ns.take 63) (ms := []) (.inl (.inl h23)) (.inl (.inl h3)) ?_
  walk_at "w"
  have fin : ∀ (r : Addr) (rs : List Int) (H' : Hp), H r = none → Ex H H' → H' r = some (.lst (rs.map V.int)) → (tRet (tLst (tCons (tVar 1) (tCons (tC (V.int 0)) (tCons (tC (V.int 0)) (tCons (tC (V.int 0)) (tCons (tOp rModA (tCB rInt (tCons (tCB (rSum K) (tCons (tVar 1) tNil)) tNil)) (tC (V.int 1000003))) tNil))))))) { nx := fun _ H' => Q V.non H', rt := Q } [some (V.ref p), some (V.ref r)] H' := by
    intro r rs H' nr e hr
    walk_at "w"
    refine w_sum (ns := rs) (.inl (.inl hr)) ?_
    walk_at "w"
    refine w_newL (by walk_at "side") fun t H4 n4 e4 h4 => ?_
    have nt : H t = none := fresh_back e n4
    refine q t r rs [0, 0, 0, rs.sum % 1000003] H4 nt nr (fun z => ?_) (e.trans e4) h4 ⟨_, _, _, _, rfl, by decide⟩ (e4 _ _ hr)
    rw [z, n4] at hr
    cases hr
  refine w_ite (fun z => ?_) fun z => ?_
  · walk_at "w"
    refine ⟨by decide, fun p4 n4 => ?_⟩
    have e4 : Ex H3 (upd H3 p4 (.lst [.int 0])) := Ex.new n4
    have h4 : upd H3 p4 (.lst [.int 0]) p4 = some (.lst [.int 0]) := upd_same
    generalize upd H3 p4 (.lst [.int 0]) = H4 at e4 h4 ⊢
    have nx : H p4 = none := fresh_back ((e1.trans e2).trans e3) n4
    exact fin p4 [0] H4 nx (((e1.trans e2).trans e3).trans e4) h4
  · refine w_next ?_
    have nx : H p2 = none := fresh_back e1 n2
    exact fin p2 (ns.take 63) H3 nx ((e1.trans e2).trans e3) h23
theorem low__law_step {P : Program} {w : World} {K : PySem.W.Frag} {mg : Str → Option Value} {base : Heap} {Z : Ad} (G : Glo K mg Z) {f : Addr} {fd : FuncData} (F : Fun K "_law_step" "_law_step" s__law_step f fd) : FnOk P w K mg base CX0 1 f fd ["_law_box_here"] (lsp__law_step K) := by
  refine F.ok sc__law_step (fun vs H Q E h => len1 h) (fun cdv A outer s H vs Q E hr h => ?_)
  obtain ⟨v0, rfl, h⟩ := h
  refine ⟨_, (pss_one (ps_if (pt_cmpR (op_lt) (pe_ix (ixA_K K hr) (pv 0) pe_int (fun _ _ => rfl)) (pe_callB (len_K K) (by rfl) G.g_len (by decide +kernel) (pa_cons (pe_ix (ixA_K K hr) (pv 0) pe_int (fun _ _ => rfl)) pa_nil)) (nomark _)) (pss_cons (ps_set (i := 1) sc__law_step.nd rfl (.inl rfl) (pe_ix (ixA_K K hr) (pe_ix (ixA_K K hr) (pv 0) pe_int (fun _ _ => rfl)) (pe_ix (ixA_K K hr) (pv 0) pe_int (fun _ _ => rfl)) (fun _ _ => rfl)))
  (pss_cons (ps_asg (pe_op op_addA (pe_ix (ixA_K K hr) (pv 0) pe_int (fun _ _ => rfl)) pe_int) (pg_sub (pv 0) pe_int (setA hr)))
  (pss_cons (ps_asg pe_int (pg_sub (pv 0) pe_int (setA hr)))
  (pss_one (ps_if (pt_cmpR (op_ge) (pv 1) (pe_powC (z := 1000000000000000000) (by decide +kernel) ⟨by decide, by decide, by decide⟩) (nomark _)) (pss_one (ps_asg (pv 1) (pg_sub (pv 0) pe_int (setA hr)))) (pss_one (ps_asg (pe_op op_modA (pe_callTy (int_K K) (by rfl) G.g_int (by decide +kernel) (pa_cons (pe_op op_addA (pe_op op_mulA (pe_ix (ixA_K K hr) (pv 0) pe_int (fun _ _ => rfl)) pe_int) (pv 1)) pa_nil)) pe_int) (pg_sub (pv 0) pe_int (setA hr))))))))) pss_nil)), ?_⟩
  rw [show L2.start ["_law_box_here", "_law_cell"] [v0] = [some v0, none] from rfl]
  obtain ⟨t, n, ns, a, b, c, d, rfl, h1, h2, h3, h4, q⟩ := h
  have h3' := sq_of (K := K) h3
  walk_at "w"
  refine w_ite (fun hc => ?_) (fun hc => ?_)
  · walk_at "w"
    refine w_ixIA (by walk_at "sq") h2 (by omega) fun z hz => ?_
    walk_at "w"
    refine w_setCA h1 rfl fun H2 c2 g2 => ?_
    walk_at "w"
    refine w_setCA g2 rfl fun H3 c3 g3 => ?_
    walk_at "w"
    refine w_ite (fun hc => ?_) (fun hc => ?_)
    · walk_at "w"
      refine w_setCA g3 rfl fun H4 c4 g4 => ?_
      exact q H4 _ _ _ _ ((c2.trans c3).trans c4) g4 (by omega)
    · walk_at "w"
      refine w_setCA g3 rfl fun H4 c4 g4 => ?_
      exact q H4 _ _ _ _ ((c2.trans c3).trans c4) g4 (by omega)
  · walk_at "w"
    exact q H a b c d (fun _ _ => rfl) h1 h2
theorem low__law_draw {P : Program} {w : World} {K : PySem.W.Frag} {mg : Str → Option Value} {base : Heap} {Z : Ad} (G : Glo K mg Z) {f : Addr} {fd : FuncData} (F : Fun K "_law_draw" "_law_draw" s__law_draw f fd) : FnOk P w K mg base CX0 1 f fd ["_law_box_here", "_law_many"] (lsp__law_draw K) := by
  refine F.ok sc__law_draw (fun vs H Q E h => len2 h) (fun cdv A outer s H vs Q E hr h => ?_)
  obtain ⟨v0, v1, rfl, h⟩ := h
  refine ⟨_, (pss_cut (ps_if (pt_cmpR (op_gt) (pe_ix (ixA_K K hr) (pv 0) pe_int (fun _ _ => rfl)) pe_int (nomark _)) (pss_cons (ps_set (i := 2) sc__law_draw.nd rfl (.inl rfl) (pe_op op_modA (pe_callTy (int_K K) (by rfl) G.g_int (by decide +kernel) (pa_cons (pe_ix (ixA_K K hr) (pv 0) pe_int (fun _ _ => rfl)) pa_nil)) (pv 1)))
  (pss_cons (ps_asg (pe_op op_fdivA (pe_ix (ixA_K K hr) (pv 0) pe_int (fun _ _ => rfl)) (pv 1)) (pg_sub (pv 0) pe_int (setA hr)))
  (pss_one (ps_ret (pv 2))))) pss_nil)
  (pss_cons (ps_asg (pe_op op_addA (pe_ix (ixA_K K hr) (pv 0) pe_int (fun _ _ => rfl)) pe_int) (pg_sub (pv 0) pe_int (setA hr)))
  (pss_cons (ps_set (i := 3) sc__law_draw.nd rfl (.inl rfl) (pe_op op_modA (pe_callTy (int_K K) (by rfl) G.g_int (by decide +kernel) (pa_cons (pe_op op_addA (pe_op op_mulA (pe_ix (ixA_K K hr) (pv 0) pe_int (fun _ _ => rfl)) pe_int) (pe_op op_mulA (pe_ix (ixA_K K hr) (pv 0) pe_int (fun _ _ => rfl)) pe_int)) pa_nil)) pe_int))
  (pss_cons (ps_set (i := 4) sc__law_draw.nd rfl (.inl rfl) (pe_op op_modA (pe_callTy (int_K K) (by rfl) G.g_int (by decide +kernel) (pa_cons (pe_op op_addA (pe_op op_addA (pe_op op_mulA (pv 3) (pv 3)) (pe_op op_mulA (pe_ix (ixA_K K hr) (pv 0) pe_int (fun _ _ => rfl)) pe_int)) (pe_ix (ixA_K K hr) (pv 0) pe_int (fun _ _ => rfl))) pa_nil)) pe_int))
  (pss_cons (ps_set (i := 5) sc__law_draw.nd rfl (.inl rfl) (pe_op op_modA (pe_callTy (int_K K) (by rfl) G.g_int (by decide +kernel) (pa_cons (pe_op op_addA (pe_op op_mulA (pv 4) (pv 4)) (pv 3)) pa_nil)) pe_int))
  (pss_one (ps_ret (pe_op op_modA (pe_callTy (int_K K) (by rfl) G.g_int (by decide +kernel) (pa_cons (pe_op op_fdivA (pv 5) pe_int) pa_nil)) (pv 1))))))))), ?_⟩
  rw [show L2.start ["_law_box_here", "_law_many", "_law_digit", "_law_first", "_law_second", "_law_third"] [v0, v1] = [some v0, some v1, none, none, none, none] from rfl]
  obtain ⟨t, n, ns, a, b, c, d, m, rfl, rfl, h1, h2, h3, h4, h5, h6, q⟩ := h
  have lo : ∀ z : Int, 0 ≤ z % m := fun z => Int.emod_nonneg _ (by omega)
  have hi : ∀ z : Int, z % m < m := fun z => Int.emod_lt_of_pos _ h5
  walk_at "w"
  refine w_cut (fun σ H' => σ = [some (.ref t), some (.int m), none, none, none, none] ∧ H' = H) ?_ ?_
  · walk_at "w"
    refine w_ite (fun hc => ?_) (fun hc => ?_)
    · walk_at "w"
      refine w_setCA h1 rfl fun H2 c2 g2 => ?_
      walk_at "w"
      exact q _ H2 _ _ _ _ (lo _) (hi _) c2 g2 h2
    · walk_at "w"
      exact ⟨rfl, rfl⟩
  · rintro σ H1 ⟨rfl, rfl⟩
    walk_at "w"
    refine w_setCA h1 rfl fun H2 c2 g2 => ?_
    walk_at "w"
    exact q _ H2 _ _ _ _ (lo _) (hi _) c2 g2 h2
section
variable {Γ : GS} {P : Program} {w : World} {K : PySem.W.Frag} {mg : Str → Option Value} {base : Heap} {Z : Ad} {f : Addr} {fd : FuncData}
theorem ok__law_box (G : Glo K mg Z) (F : Fun K "_law_box" "_law_box" s__law_box f fd) : FnX P w K mg base 1 f fd ["_law_script"] (spP Γ (F__law_box Z)) := by
  have e : F__law_box Z = mkF K g0 := by unfold F__law_box; rw [G.kf]
  rw [e]
  refine up_mk ((low__law_box G F).imp fun vs H Q E h => ?_)
  obtain ⟨p, ns, rfl, h⟩ := h
  exact ⟨_, rfl, p, ns, rfl, h⟩
theorem ok__law_step (G : Glo K mg Z) (F : Fun K "_law_step" "_law_step" s__law_step f fd) : FnX P w K mg base 1 f fd ["_law_box_here"] (spP Γ (F__law_step Z)) := by
  refine up_box (fun args K K' h q => ⟨q.1, h _ q.2⟩) 0 rfl (fun args K q => by rw [q.1]; rfl) ((low__law_step G F).imp fun vs H Q E h => ?_)
  obtain ⟨t, n, ns, is, args, rfl, h1, ⟨a, b, c, d, rfl, h2⟩, h3, h4, rfl, q⟩ := h
  exact ⟨_, rfl, t, n, ns, a, b, c, d, rfl, h1, h2, h3, h4, fun H' a' b' c' d' ch e p => q H' [a', b', c', d'] ch e ⟨_, _, _, _, rfl, p⟩⟩
theorem ok__law_draw (G : Glo K mg Z) (F : Fun K "_law_draw" "_law_draw" s__law_draw f fd) : FnX P w K mg base 1 f fd ["_law_box_here", "_law_many"] (spP Γ (F__law_draw Z)) := by
  refine up_box (fun args K K' h ⟨m, e, h1, h2, q⟩ => ⟨m, e, h1, h2, fun d d0 d1 => h _ (q d d0 d1)⟩) 1 rfl (fun args K ⟨m, e, _⟩ => by rw [e]; rfl) ((low__law_draw G F).imp fun vs H Q E h => ?_)
  obtain ⟨t, n, ns, is, args, rfl, h1, ⟨a, b, c, d, rfl, h2⟩, h3, h4, m, rfl, m0, m1, q⟩ := h
  exact ⟨_, _, rfl, t, n, ns, a, b, c, d, m, rfl, rfl, h1, h2, h3, h4, m0, m1, fun r H' a' b' c' d' r0 r1 ch e p => q r r0 r1 H' [a', b', c', d'] ch e ⟨_, _, _, _, rfl, p⟩⟩
end
def B__check_count (Z : Ad) : FS := (dIfS (dOr (dTest (dOp gLt (dVarS 0) (dC (.int 1)))) (dTest (dOp gGt (dVarS 0) (dC (.int 24)))))
  (dRaise Z.InvalidNet ["link"] [0] [] (dCons (dC .non) dNil))
  dNext)
def F__check_count (Z : Ad) : DF := bodyN (B__check_count Z) [] 1 0
section
variable {Γ : GS} {P : Program} {w : World} {K : PySem.W.Frag} {mg : Str → Option Value} {base : Heap} {Z : Ad}
theorem ok__check_count (G : Glo K mg Z) {f : Addr} {fd : FuncData} (F : Fun K "_check_count" "_check_count" s__check_count f fd) (h_xInvalidNet : HEX P w K mg base Z.InvalidNet ["link"] [0] 1) : FnX P w K mg base 3 f fd ["count"] (spP Γ (F__check_count Z)) :=
  okP F sc__check_count rfl rfl fun cdv A outer s H E hr => ⟨_, (pss_one (ps_if (PW.pt (pw_or (pt_cmpR (op_lt) (pv 0) pe_int (nomark _)) (pw_or1 (pt_cmpR (op_gt) (pv 0) (cval_K K (pe_clsN G.m_Net (by rfl))) (nomark _))))) (pss_one (px_raise (W := DL.WE E) (L2N.takes_of rfl rfl rfl rfl) rfl h_xInvalidNet G.m_InvalidNet (hr.mono (by decide)) (by rfl) (pa_cons pe_non pa_nil))) pss_nil)),
  (ls_if (lt_or (lt_test (le_op rs_cmp (le_varS (i := 0)) (le_c rfl))) (lt_test (le_op rs_cmp (le_varS (i := 0)) (le_cval G.r_Net G.v_Net_MOST))))
  (ls_raise (la_cons (le_c rfl) la_nil))
  ls_next)⟩
end
def B__is_below (Z : Ad) : FS := (dRet [] (dChain gLe gLt (dC (.int 0)) (dVarS 0) (dVarS 1)))
def F__is_below (Z : Ad) : DF := bodyN (B__is_below Z) [] 2 0
section
variable {Γ : GS} {P : Program} {w : World} {K : PySem.W.Frag} {mg : Str → Option Value} {base : Heap} {Z : Ad}
theorem ok__is_below (G : Glo K mg Z) {f : Addr} {fd : FuncData} (F : Fun K "_is_below" "_is_below" s__is_below f fd) : FnX P w K mg base 1 f fd ["number", "count"] (spP Γ (F__is_below Z)) :=
  okP F sc__is_below rfl rfl fun cdv A outer s H E hr => ⟨_, (pss_one (ps_ret (pe_chain (op_le) (op_lt) pe_int (pv 0) (pv 1)))),
  (ls_ret (le_chain rs_cmp rs_cmp (le_c rfl) (le_varS (i := 0)) (le_varS (i := 1))))⟩
end
def B_Net___init__ (Z : Ad) : FS := (dSeq (dDrop (dCall [] (F__check_count Z) (dCons (dVarS 1) dNil)))
  (dSeq (dBind [] (dC (.dT true [] [])) (dName 3))
  (dSeq (dFor (dIl (dVarS 2)) [] (dGTup 2 (dGCons (dName 4) (dGCons (dName 5) dGNil)))
  (dSeq (dIfS (dOr (dTest (dOp gEq (dVarS 4) (dVarS 5))) (dOr (dNot (dTru (dCall [] (F__is_below Z) (dCons (dVarS 4) (dCons (dVarS 1) dNil))))) (dNot (dTru (dCall [] (F__is_below Z) (dCons (dVarS 5) (dCons (dVarS 1) dNil)))))))
  (dRaise Z.InvalidNet ["link"] [0] [] (dCons (dTup (dCons (dVarS 4) (dCons (dVarS 5) dNil))) dNil))
  dNext)
  (dSetI 3 (dPv 3) [] (dC (.bl true)) (dTup (dCons (dVarS 4) (dCons (dVarS 5) dNil))))))
  (dSeq (dSetF 0 (dPv 0) Z.Net "count" [] (dVarS 1))
  (dSeq (dSetF 0 (dPv 0) Z.Net "_linked" [3] (dVar 3))
  (dSetF 0 (dPv 0) Z.Net "_links" [3] (dCBG gSortDT (dCons (dVar 3) dNil))))))))
def F_Net___init__ (Z : Ad) : DF := bodyN (B_Net___init__ Z) [0] 3 3
section
variable {Γ : GS} {P : Program} {w : World} {K : PySem.W.Frag} {mg : Str → Option Value} {base : Heap} {Z : Ad}
theorem ok_Net___init__ (G : Glo K mg Z) {f : Addr} {fd : FuncData} (F : Fun K "__init__" "Net.__init__" s_Net___init__ f fd) (h__check_count : HX P w K mg base "_check_count" 3 (spP Γ (F__check_count Z))) (h__is_below : HX P w K mg base "_is_below" 1 (spP Γ (F__is_below Z))) (h_xInvalidNet : HEX P w K mg base Z.InvalidNet ["link"] [0] 1) : FnX P w K mg base 4 f fd ["self", "count", "links"] (spM Γ [0] (F_Net___init__ Z)) :=
  okM (by decide) F sc_Net___init__ rfl rfl fun cdv A outer s H E hr => ⟨_, (pss_cons (ps_expr (px_fn E (passE rfl rfl rfl rfl) h__check_count (hr.mono (by decide)) (by rfl) (pa_cons (pv 1) pa_nil)))
  (pss_cons (ps_set (i := 3) sc_Net___init__.nd rfl (.inl rfl) pe_dnewT)
  (pss_cons (ps_for (passes_of rfl) rfl (pi_lstK K (pv 2)) (pg_tupK K (n := 2) rfl (pgs_cons (pg_name (i := 4) (by exact sc_Net___init__.nd) rfl (.inl rfl)) (pgs_cons (pg_name (i := 5) (by exact sc_Net___init__.nd) rfl (.inl rfl)) pgs_nil))) (pss_cons (ps_if (PW.pt (pw_or (pt_cmpR (eq_K K hr.units) (pv 4) (pv 5) (nomark _)) (pw_or (pt_not (tru_K K (px_fn E (passE rfl rfl rfl rfl) h__is_below (hr.mono (by decide)) (by rfl) (pa_cons (pv 4) (pa_cons (pv 1) pa_nil))) (by intro _; rfl))) (pw_or1 (pt_not (tru_K K (px_fn E (passE rfl rfl rfl rfl) h__is_below (hr.mono (by decide)) (by rfl) (pa_cons (pv 5) (pa_cons (pv 1) pa_nil))) (by intro _; rfl))))))) (pss_one (px_raise (W := DL.WE E) (L2N.takes_of rfl rfl rfl rfl) rfl h_xInvalidNet G.m_InvalidNet (hr.mono (by decide)) (by rfl) (pa_cons (pe_tup (pa_cons (pv 4) (pa_cons (pv 5) pa_nil))) pa_nil))) pss_nil)
  (pss_one (ps_asg pe_bl (pg_sub (pv 3) (pe_tup (pa_cons (pv 4) (pa_cons (pv 5) pa_nil))) (setA hr))))))
  (pss_cons (sfld_K K (pv 0) (pv 1))
  (pss_cons (sfld_K K (pv 0) (pv 3))
  (pss_one (sfld_K K (pv 0) (pe_callB (PO.call_sortedDT rfl) (by rfl) G.g_sorted (by decide +kernel) (pa_cons (pv 3) pa_nil))))))))),
  (ls_seq (ls_drop (le_call (la_cons (le_varS (i := 1)) la_nil)))
  (ls_seq (ls_bind le_newT (lg_name (i := 3)))
  (ls_seq (ls_for (li_lst (le_varS (i := 2))) (lg_tup (n := 2) (lg_cons (lg_name (i := 4)) (lg_cons (lg_name (i := 5)) lg_nil)))
  (ls_seq (ls_if (lt_or (lt_test (le_op rs_eq (le_varS (i := 4)) (le_varS (i := 5)))) (lt_or (lt_not (lt_tru (le_call (la_cons (le_varS (i := 4)) (la_cons (le_varS (i := 1)) la_nil))))) (lt_not (lt_tru (le_call (la_cons (le_varS (i := 5)) (la_cons (le_varS (i := 1)) la_nil)))))))
  (ls_raise (la_cons (le_tup (la_cons (le_varS (i := 4)) (la_cons (le_varS (i := 5)) la_nil))) la_nil))
  ls_next)
  (ls_setI (lp_var (i := 3)) (le_c rfl) (le_tup (la_cons (le_varS (i := 4)) (la_cons (le_varS (i := 5)) la_nil))))))
  (ls_seq (ls_setF G.c_Net G.n_Net_count (lp_var (i := 0)) (le_varS (i := 1)))
  (ls_seq (ls_setF G.c_Net G.n_Net__linked (lp_var (i := 0)) (le_var (i := 3)))
  (ls_setF G.c_Net G.n_Net__links (lp_var (i := 0)) (le_cbG rc_sortDT (la_cons (le_var (i := 3)) la_nil))))))))⟩
end
def B_Net_both_ways (Z : Ad) : FS := (dSeq (dBind [] (dLst dNil) (dName 3))
  (dSeq (dFor (dIl (dVarS 2)) [] (dGTup 2 (dGCons (dName 4) (dGCons (dName 5) dGNil)))
  (dSeq (dApp 3 (dPv 3) [] (dTup (dCons (dVarS 4) (dCons (dVarS 5) dNil))))
  (dApp 3 (dPv 3) [] (dTup (dCons (dVarS 5) (dCons (dVarS 4) dNil))))))
  (dRet [3] (dMakeV 0 [3] Z.Net (F_Net___init__ Z) (dCons (dVarS 1) (dCons (dVar 3) dNil))))))
def F_Net_both_ways (Z : Ad) : DF := bodyN (B_Net_both_ways Z) [] 3 3
section
variable {Γ : GS} {P : Program} {w : World} {K : PySem.W.Frag} {mg : Str → Option Value} {base : Heap} {Z : Ad}
theorem ok_Net_both_ways (G : Glo K mg Z) {f : Addr} {fd : FuncData} (F : Fun K "both_ways" "Net.both_ways" s_Net_both_ways f fd) (h_Net___init__ : HIX P w K mg base Z.Net 4 (spM Γ [0] (F_Net___init__ Z))) : FnX P w K mg base 6 f fd ["cls", "count", "pairs"] (spP Γ (F_Net_both_ways Z)) :=
  okP F sc_Net_both_ways rfl rfl fun cdv A outer s H E hr => ⟨_, (pss_cons (ps_set (i := 3) sc_Net_both_ways.nd rfl (.inl rfl) (pe_lst pa_nil))
  (pss_cons (ps_for (passes_of rfl) rfl (pi_lstK K (pv 2)) (pg_tupK K (n := 2) rfl (pgs_cons (pg_name (i := 4) (by exact sc_Net_both_ways.nd) rfl (.inl rfl)) (pgs_cons (pg_name (i := 5) (by exact sc_Net_both_ways.nd) rfl (.inl rfl)) pgs_nil))) (pss_cons (ps_expr (bm_K K PySem.F.plainAttrs_list PySem.F.slot_list_append PySem.F.type_list_append mt_append (pv 3) (pa_cons (pe_tup (pa_cons (pv 4) (pa_cons (pv 5) pa_nil))) pa_nil)))
  (pss_one (ps_expr (bm_K K PySem.F.plainAttrs_list PySem.F.slot_list_append PySem.F.type_list_append mt_append (pv 3) (pa_cons (pe_tup (pa_cons (pv 5) (pa_cons (pv 4) pa_nil))) pa_nil))))))
  (pss_one (ps_ret (px_iv E (passE rfl rfl rfl rfl) h_Net___init__ (hr.mono (by decide)) (pv 0) (pa_cons (pv 1) (pa_cons (pv 3) pa_nil))))))),
  (ls_seq (ls_bind (le_lst la_nil) (lg_name (i := 3)))
  (ls_seq (ls_for (li_lst (le_varS (i := 2))) (lg_tup (n := 2) (lg_cons (lg_name (i := 4)) (lg_cons (lg_name (i := 5)) lg_nil)))
  (ls_seq (ls_app (lp_var (i := 3)) (le_tup (la_cons (le_varS (i := 4)) (la_cons (le_varS (i := 5)) la_nil))))
  (ls_app (lp_var (i := 3)) (le_tup (la_cons (le_varS (i := 5)) (la_cons (le_varS (i := 4)) la_nil))))))
  (ls_ret (le_makeV (i := 0) (la_cons (le_varS (i := 1)) (la_cons (le_var (i := 3)) la_nil))))))⟩
end
def B_Net_line (Z : Ad) : FS := (dSeq (dDrop (dCall [] (F__check_count Z) (dCons (dVarS 1) dNil)))
  (dRet [] (dCMeth [] Z.Net (F_Net_both_ways Z) (dVarS 0) (dCons (dVarS 1) (dCons (dLc (dRng1 (dCons (dOp gMin (dVarS 1) (dC (.int 1))) dNil)) [] [2] (dName 2) (fun _ K _ => K true) (dTup (dCons (dVarS 2) (dCons (dOpG gAdd (dVarS 2) (dC (.int 1))) dNil)))) dNil)))))
def F_Net_line (Z : Ad) : DF := bodyN (B_Net_line Z) [] 2 1
section
variable {Γ : GS} {P : Program} {w : World} {K : PySem.W.Frag} {mg : Str → Option Value} {base : Heap} {Z : Ad}
theorem ok_Net_line (G : Glo K mg Z) {f : Addr} {fd : FuncData} (F : Fun K "line" "Net.line" s_Net_line f fd) (h__check_count : HX P w K mg base "_check_count" 3 (spP Γ (F__check_count Z))) (h_Net_both_ways : HCX P w K mg base Z.Net "both_ways" 6 (spP Γ (F_Net_both_ways Z))) : FnX P w K mg base 7 f fd ["cls", "count"] (spP Γ (F_Net_line Z)) :=
  okP F sc_Net_line rfl rfl fun cdv A outer s H E hr => ⟨_, (pss_cons (ps_expr (px_fn E (passE rfl rfl rfl rfl) h__check_count (hr.mono (by decide)) (by rfl) (pa_cons (pv 1) pa_nil)))
  (pss_one (ps_ret (px_c E (passE rfl rfl rfl rfl) h_Net_both_ways (hr.mono (by decide)) (pv 0) (pa_cons (pv 1) (pa_cons (pe_lc (own := [("replica", 2)]) (by rfl) sc_Net_line.nd (pi_range1 (by rfl) G.g_range (pa_cons (pe_op op_sub (pv 1) pe_int) pa_nil)) (blkOk_by (own := [("replica", 2)]) (N := ["cls", "count", "replica"]) (sc := defScope s_Net_line) (by decide +kernel)) (fun _ _ _ _ _ => (pg_name (i := 2) (by exact sc_Net_line.nd) rfl (.inl rfl))) (fun _ _ _ _ _ => pts_nil) (fun _ _ _ _ _ => (pe_tup (pa_cons (pv 2) (pa_cons (pe_op op_addA (pv 2) pe_int) pa_nil))))) pa_nil)))))),
  (ls_seq (ls_drop (le_call (la_cons (le_varS (i := 1)) la_nil)))
  (ls_ret (le_cmeth (le_varS (i := 0)) (la_cons (le_varS (i := 1)) (la_cons (le_lc (li_rng1 (la_cons (le_op rs_sub (le_varS (i := 1)) (le_c rfl)) la_nil)) (lg_name (i := 2)) (by decide) lt_yes (le_tup (la_cons (le_varS (i := 2)) (la_cons (le_opG rg_add (le_varS (i := 2)) (le_c rfl)) la_nil)))) la_nil)))))⟩
end
def B_Net_star (Z : Ad) : FS := (dSeq (dDrop (dCall [] (F__check_count Z) (dCons (dVarS 1) dNil)))
  (dRet [] (dCMeth [] Z.Net (F_Net_both_ways Z) (dVarS 0) (dCons (dVarS 1) (dCons (dLc (dRng2 (dCons (dC (.int 1)) (dCons (dVarS 1) dNil))) [] [2] (dName 2) (fun _ K _ => K true) (dTup (dCons (dC (.int 0)) (dCons (dVarS 2) dNil)))) dNil)))))
def F_Net_star (Z : Ad) : DF := bodyN (B_Net_star Z) [] 2 1
section
variable {Γ : GS} {P : Program} {w : World} {K : PySem.W.Frag} {mg : Str → Option Value} {base : Heap} {Z : Ad}
theorem ok_Net_star (G : Glo K mg Z) {f : Addr} {fd : FuncData} (F : Fun K "star" "Net.star" s_Net_star f fd) (h__check_count : HX P w K mg base "_check_count" 3 (spP Γ (F__check_count Z))) (h_Net_both_ways : HCX P w K mg base Z.Net "both_ways" 6 (spP Γ (F_Net_both_ways Z))) : FnX P w K mg base 7 f fd ["cls", "count"] (spP Γ (F_Net_star Z)) :=
  okP F sc_Net_star rfl rfl fun cdv A outer s H E hr => ⟨_, (pss_cons (ps_expr (px_fn E (passE rfl rfl rfl rfl) h__check_count (hr.mono (by decide)) (by rfl) (pa_cons (pv 1) pa_nil)))
  (pss_one (ps_ret (px_c E (passE rfl rfl rfl rfl) h_Net_both_ways (hr.mono (by decide)) (pv 0) (pa_cons (pv 1) (pa_cons (pe_lc (own := [("replica", 2)]) (by rfl) sc_Net_star.nd (pi_range2 (by rfl) G.g_range (pa_cons pe_int (pa_cons (pv 1) pa_nil))) (blkOk_by (own := [("replica", 2)]) (N := ["cls", "count", "replica"]) (sc := defScope s_Net_star) (by decide +kernel)) (fun _ _ _ _ _ => (pg_name (i := 2) (by exact sc_Net_star.nd) rfl (.inl rfl))) (fun _ _ _ _ _ => pts_nil) (fun _ _ _ _ _ => (pe_tup (pa_cons pe_int (pa_cons (pv 2) pa_nil))))) pa_nil)))))),
  (ls_seq (ls_drop (le_call (la_cons (le_varS (i := 1)) la_nil)))
  (ls_ret (le_cmeth (le_varS (i := 0)) (la_cons (le_varS (i := 1)) (la_cons (le_lc (li_rng2 (la_cons (le_c rfl) (la_cons (le_varS (i := 1)) la_nil))) (lg_name (i := 2)) (by decide) lt_yes (le_tup (la_cons (le_c rfl) (la_cons (le_varS (i := 2)) la_nil)))) la_nil)))))⟩
end
def B_Net_complete (Z : Ad) : FS := (dSeq (dDrop (dCall [] (F__check_count Z) (dCons (dVarS 1) dNil)))
  (dRet [] (dCMeth [] Z.Net (F_Net_both_ways Z) (dVarS 0) (dCons (dVarS 1) (dCons (dLc2 (dRng1 (dCons (dVarS 1) dNil)) [] [2, 3] (dName 2) (fun _ K _ => K true) (dRng1 (dCons (dVarS 2) dNil)) [] [3] (dName 3) (fun _ K _ => K true) (dTup (dCons (dVarS 3) (dCons (dVarS 2) dNil)))) dNil)))))
def F_Net_complete (Z : Ad) : DF := bodyN (B_Net_complete Z) [] 2 2
section
variable {Γ : GS} {P : Program} {w : World} {K : PySem.W.Frag} {mg : Str → Option Value} {base : Heap} {Z : Ad}
theorem ok_Net_complete (G : Glo K mg Z) {f : Addr} {fd : FuncData} (F : Fun K "complete" "Net.complete" s_Net_complete f fd) (h__check_count : HX P w K mg base "_check_count" 3 (spP Γ (F__check_count Z))) (h_Net_both_ways : HCX P w K mg base Z.Net "both_ways" 6 (spP Γ (F_Net_both_ways Z))) : FnX P w K mg base 7 f fd ["cls", "count"] (spP Γ (F_Net_complete Z)) :=
  okP F sc_Net_complete rfl rfl fun cdv A outer s H E hr => ⟨_, (pss_cons (ps_expr (px_fn E (passE rfl rfl rfl rfl) h__check_count (hr.mono (by decide)) (by rfl) (pa_cons (pv 1) pa_nil)))
  (pss_one (ps_ret (px_c E (passE rfl rfl rfl rfl) h_Net_both_ways (hr.mono (by decide)) (pv 0) (pa_cons (pv 1) (pa_cons (pe_lc2 (own := [("other", 2), ("one", 3)]) (vs1 := [3]) (by rfl) sc_Net_complete.nd (pi_range1 (by rfl) G.g_range (pa_cons (pv 1) pa_nil)) (blkOk_by (own := [("other", 2), ("one", 3)]) (N := ["cls", "count", "other", "one"]) (sc := defScope s_Net_complete) (by decide +kernel)) (by decide) (fun _ _ _ _ _ => (pg_name (i := 2) (by exact sc_Net_complete.nd) rfl (.inl rfl))) (fun _ _ _ _ _ => pts_nil) (fun _ _ _ _ _ => (pi_range1 (by rfl) G.g_range (pa_cons (pv 2) pa_nil))) (fun _ _ _ _ _ => (pg_name (i := 3) (by exact sc_Net_complete.nd) rfl (.inl rfl))) (fun _ _ _ _ _ => pts_nil) (fun _ _ _ _ _ => (pe_tup (pa_cons (pv 3) (pa_cons (pv 2) pa_nil))))) pa_nil)))))),
  (ls_seq (ls_drop (le_call (la_cons (le_varS (i := 1)) la_nil)))
  (ls_ret (le_cmeth (le_varS (i := 0)) (la_cons (le_varS (i := 1)) (la_cons (le_lc2 (li_rng1 (la_cons (le_varS (i := 1)) la_nil)) (lg_name (i := 2)) (by decide) lt_yes (li_rng1 (la_cons (le_varS (i := 2)) la_nil)) (lg_name (i := 3)) (by decide) (by decide) lt_yes (le_tup (la_cons (le_varS (i := 3)) (la_cons (le_varS (i := 2)) la_nil)))) la_nil)))))⟩
end
def B_Net_ring (Z : Ad) : FS := (dSeq (dDrop (dCall [] (F__check_count Z) (dCons (dVarS 1) dNil)))
  (dSeq (dIfS (dTest (dOp gEq (dVarS 1) (dC (.int 1))))
  (dRet [] (dMakeV 0 [] Z.Net (F_Net___init__ Z) (dCons (dVarS 1) (dCons (dLst dNil) dNil))))
  dNext)
  (dSeq (dBind [] (dLc (dRng1 (dCons (dOp gMin (dVarS 1) (dC (.int 1))) dNil)) [] [3] (dName 3) (fun _ K _ => K true) (dTup (dCons (dVarS 3) (dCons (dOpG gAdd (dVarS 3) (dC (.int 1))) dNil)))) (dNameF 2))
  (dRet [] (dMakeV 0 [] Z.Net (F_Net___init__ Z) (dCons (dVarS 1) (dCons (dOpG gAdd (dVarS 2) (dLst (dCons (dTup (dCons (dOp gMin (dVarS 1) (dC (.int 1))) (dCons (dC (.int 0)) dNil))) dNil))) dNil)))))))
def F_Net_ring (Z : Ad) : DF := bodyN (B_Net_ring Z) [] 2 2
section
variable {Γ : GS} {P : Program} {w : World} {K : PySem.W.Frag} {mg : Str → Option Value} {base : Heap} {Z : Ad}
theorem ok_Net_ring (G : Glo K mg Z) {f : Addr} {fd : FuncData} (F : Fun K "ring" "Net.ring" s_Net_ring f fd) (h__check_count : HX P w K mg base "_check_count" 3 (spP Γ (F__check_count Z))) (h_Net___init__ : HIX P w K mg base Z.Net 4 (spM Γ [0] (F_Net___init__ Z))) : FnX P w K mg base 6 f fd ["cls", "count"] (spP Γ (F_Net_ring Z)) :=
  okP F sc_Net_ring rfl rfl fun cdv A outer s H E hr => ⟨_, (pss_cons (ps_expr (px_fn E (passE rfl rfl rfl rfl) h__check_count (hr.mono (by decide)) (by rfl) (pa_cons (pv 1) pa_nil)))
  (pss_cons (ps_if (pt_cmpR (eq_K K hr.units) (pv 1) pe_int (nomark _)) (pss_one (ps_ret (px_iv E (passE rfl rfl rfl rfl) h_Net___init__ (hr.mono (by decide)) (pv 0) (pa_cons (pv 1) (pa_cons (pe_lst pa_nil) pa_nil))))) pss_nil)
  (pss_cons (ps_setLc (i := 2) (own := [("replica", 3)]) (by rfl) sc_Net_ring.nd rfl rfl (sw_true rfl rfl rfl (by decide +kernel)) (pi_range1 (by rfl) G.g_range (pa_cons (pe_op op_sub (pv 1) pe_int) pa_nil)) (blkOk_by (own := [("replica", 3)]) (N := ["cls", "count", "steps", "replica"]) (sc := defScope s_Net_ring) (by decide +kernel)) (fun _ _ _ _ _ => (pg_name (i := 3) (by exact sc_Net_ring.nd) rfl (.inl rfl))) (fun _ _ _ _ _ => pts_nil) (fun _ _ _ _ _ => (pe_tup (pa_cons (pv 3) (pa_cons (pe_op op_addA (pv 3) pe_int) pa_nil)))))
  (pss_one (ps_ret (px_iv E (passE rfl rfl rfl rfl) h_Net___init__ (hr.mono (by decide)) (pv 0) (pa_cons (pv 1) (pa_cons (pe_op op_addA (pv 2) (pe_lst (pa_cons (pe_tup (pa_cons (pe_op op_sub (pv 1) pe_int) (pa_cons pe_int pa_nil))) pa_nil))) pa_nil)))))))),
  (ls_seq (ls_drop (le_call (la_cons (le_varS (i := 1)) la_nil)))
  (ls_seq (ls_if (lt_test (le_op rs_eq (le_varS (i := 1)) (le_c rfl)))
  (ls_ret (le_makeV (i := 0) (la_cons (le_varS (i := 1)) (la_cons (le_lst la_nil) la_nil))))
  ls_next)
  (ls_seq (ls_bind (le_lc (li_rng1 (la_cons (le_op rs_sub (le_varS (i := 1)) (le_c rfl)) la_nil)) (lg_name (i := 3)) (by decide) lt_yes (le_tup (la_cons (le_varS (i := 3)) (la_cons (le_opG rg_add (le_varS (i := 3)) (le_c rfl)) la_nil)))) (lg_nameF (i := 2)))
  (ls_ret (le_makeV (i := 0) (la_cons (le_varS (i := 1)) (la_cons (le_opG rg_add (le_varS (i := 2)) (le_lst (la_cons (le_tup (la_cons (le_op rs_sub (le_varS (i := 1)) (le_c rfl)) (la_cons (le_c rfl) la_nil))) la_nil))) la_nil)))))))⟩
end
def B_Net_links (Z : Ad) : FS := (dRet [] (dCBG gList (dCons (dFld Z.Net "_links" (dVarS 0)) dNil)))
def F_Net_links (Z : Ad) : DF := bodyN (B_Net_links Z) [] 1 0
section
variable {Γ : GS} {P : Program} {w : World} {K : PySem.W.Frag} {mg : Str → Option Value} {base : Heap} {Z : Ad}
theorem ok_Net_links (G : Glo K mg Z) {f : Addr} {fd : FuncData} (F : Fun K "links" "Net.links" s_Net_links f fd) : FnX P w K mg base 1 f fd ["self"] (spP Γ (F_Net_links Z)) :=
  okP F sc_Net_links rfl rfl fun cdv A outer s H E hr => ⟨_, (pss_one (ps_ret (pe_callTy (lst_K K) (by rfl) G.g_list (by decide +kernel) (pa_cons (fld_K K (pv 0)) pa_nil)))),
  (ls_ret (le_cbG rc_list (la_cons (le_fld G.c_Net G.n_Net__links (le_varS (i := 0))) la_nil)))⟩
end
def B_Net_sources (Z : Ad) : FS := (dSeq (dIfS (dNot (dTru (dCall [] (F__is_below Z) (dCons (dVarS 1) (dCons (dFld Z.Net "count" (dVarS 0)) dNil)))))
  (dRaise Z.UnknownReplica ["replica"] [0] [] (dCons (dVarS 1) dNil))
  dNext)
  (dRet [] (dLc (dRng1 (dCons (dFld Z.Net "count" (dVarS 0)) dNil)) [] [2] (dName 2) (dTest (dOp (gIn false) (dTup (dCons (dVarS 2) (dCons (dVarS 1) dNil))) (dFld Z.Net "_linked" (dVarS 0)))) (dVarS 2))))
def F_Net_sources (Z : Ad) : DF := bodyN (B_Net_sources Z) [] 2 1
section
variable {Γ : GS} {P : Program} {w : World} {K : PySem.W.Frag} {mg : Str → Option Value} {base : Heap} {Z : Ad}
theorem ok_Net_sources (G : Glo K mg Z) {f : Addr} {fd : FuncData} (F : Fun K "sources" "Net.sources" s_Net_sources f fd) (h__is_below : HX P w K mg base "_is_below" 1 (spP Γ (F__is_below Z))) (h_xUnknownReplica : HEX P w K mg base Z.UnknownReplica ["replica"] [0] 1) : FnX P w K mg base 3 f fd ["self", "reader"] (spP Γ (F_Net_sources Z)) :=
  okP F sc_Net_sources rfl rfl fun cdv A outer s H E hr => ⟨_, (pss_cons (ps_if (pt_not (tru_K K (px_fn E (passE rfl rfl rfl rfl) h__is_below (hr.mono (by decide)) (by rfl) (pa_cons (pv 1) (pa_cons (fld_K K (pv 0)) pa_nil))) (by intro _; rfl))) (pss_one (px_raise (W := DL.WE E) (L2N.takes_of rfl rfl rfl rfl) rfl h_xUnknownReplica G.m_UnknownReplica (hr.mono (by decide)) (by rfl) (pa_cons (pv 1) pa_nil))) pss_nil)
  (pss_one (ps_ret (pe_lc (own := [("source", 2)]) (by rfl) sc_Net_sources.nd (pi_range1 (by rfl) G.g_range (pa_cons (fld_K K (pv 0)) pa_nil)) (blkOk_by (own := [("source", 2)]) (N := ["self", "reader", "source"]) (sc := defScope s_Net_sources) (by decide +kernel)) (fun _ _ _ _ _ => (pg_name (i := 2) (by exact sc_Net_sources.nd) rfl (.inl rfl))) (fun _ _ _ _ _ => (pts_one (pt_cmpR (inA_K K hr) (pe_tup (pa_cons (pv 2) (pa_cons (pv 1) pa_nil))) (fld_K K (pv 0)) (by rfl)))) (fun _ _ _ _ _ => (pv 2)))))),
  (ls_seq (ls_if (lt_not (lt_tru (le_call (la_cons (le_varS (i := 1)) (la_cons (le_fld G.c_Net G.n_Net_count (le_varS (i := 0))) la_nil)))))
  (ls_raise (la_cons (le_varS (i := 1)) la_nil))
  ls_next)
  (ls_ret (le_lc (li_rng1 (la_cons (le_fld G.c_Net G.n_Net_count (le_varS (i := 0))) la_nil)) (lg_name (i := 2)) (by decide) (lt_test (le_op rs_inT (le_tup (la_cons (le_varS (i := 2)) (la_cons (le_varS (i := 1)) la_nil))) (le_fld G.c_Net G.n_Net__linked (le_varS (i := 0))))) (le_varS (i := 2)))))⟩
end
def B_Net_readers (Z : Ad) : FS := (dSeq (dIfS (dNot (dTru (dCall [] (F__is_below Z) (dCons (dVarS 1) (dCons (dFld Z.Net "count" (dVarS 0)) dNil)))))
  (dRaise Z.UnknownReplica ["replica"] [0] [] (dCons (dVarS 1) dNil))
  dNext)
  (dRet [] (dLc (dRng1 (dCons (dFld Z.Net "count" (dVarS 0)) dNil)) [] [2] (dName 2) (dTest (dOp (gIn false) (dTup (dCons (dVarS 1) (dCons (dVarS 2) dNil))) (dFld Z.Net "_linked" (dVarS 0)))) (dVarS 2))))
def F_Net_readers (Z : Ad) : DF := bodyN (B_Net_readers Z) [] 2 1
section
variable {Γ : GS} {P : Program} {w : World} {K : PySem.W.Frag} {mg : Str → Option Value} {base : Heap} {Z : Ad}
theorem ok_Net_readers (G : Glo K mg Z) {f : Addr} {fd : FuncData} (F : Fun K "readers" "Net.readers" s_Net_readers f fd) (h__is_below : HX P w K mg base "_is_below" 1 (spP Γ (F__is_below Z))) (h_xUnknownReplica : HEX P w K mg base Z.UnknownReplica ["replica"] [0] 1) : FnX P w K mg base 3 f fd ["self", "source"] (spP Γ (F_Net_readers Z)) :=
  okP F sc_Net_readers rfl rfl fun cdv A outer s H E hr => ⟨_, (pss_cons (ps_if (pt_not (tru_K K (px_fn E (passE rfl rfl rfl rfl) h__is_below (hr.mono (by decide)) (by rfl) (pa_cons (pv 1) (pa_cons (fld_K K (pv 0)) pa_nil))) (by intro _; rfl))) (pss_one (px_raise (W := DL.WE E) (L2N.takes_of rfl rfl rfl rfl) rfl h_xUnknownReplica G.m_UnknownReplica (hr.mono (by decide)) (by rfl) (pa_cons (pv 1) pa_nil))) pss_nil)
  (pss_one (ps_ret (pe_lc (own := [("reader", 2)]) (by rfl) sc_Net_readers.nd (pi_range1 (by rfl) G.g_range (pa_cons (fld_K K (pv 0)) pa_nil)) (blkOk_by (own := [("reader", 2)]) (N := ["self", "source", "reader"]) (sc := defScope s_Net_readers) (by decide +kernel)) (fun _ _ _ _ _ => (pg_name (i := 2) (by exact sc_Net_readers.nd) rfl (.inl rfl))) (fun _ _ _ _ _ => (pts_one (pt_cmpR (inA_K K hr) (pe_tup (pa_cons (pv 1) (pa_cons (pv 2) pa_nil))) (fld_K K (pv 0)) (by rfl)))) (fun _ _ _ _ _ => (pv 2)))))),
  (ls_seq (ls_if (lt_not (lt_tru (le_call (la_cons (le_varS (i := 1)) (la_cons (le_fld G.c_Net G.n_Net_count (le_varS (i := 0))) la_nil)))))
  (ls_raise (la_cons (le_varS (i := 1)) la_nil))
  ls_next)
  (ls_ret (le_lc (li_rng1 (la_cons (le_fld G.c_Net G.n_Net_count (le_varS (i := 0))) la_nil)) (lg_name (i := 2)) (by decide) (lt_test (le_op rs_inT (le_tup (la_cons (le_varS (i := 1)) (la_cons (le_varS (i := 2)) la_nil))) (le_fld G.c_Net G.n_Net__linked (le_varS (i := 0))))) (le_varS (i := 2)))))⟩
end
def B_Net_has_link (Z : Ad) : FS := (dRet [] (dOp (gIn false) (dTup (dCons (dVarS 1) (dCons (dVarS 2) dNil))) (dFld Z.Net "_linked" (dVarS 0))))
def F_Net_has_link (Z : Ad) : DF := bodyN (B_Net_has_link Z) [] 3 0
section
variable {Γ : GS} {P : Program} {w : World} {K : PySem.W.Frag} {mg : Str → Option Value} {base : Heap} {Z : Ad}
theorem ok_Net_has_link (G : Glo K mg Z) {f : Addr} {fd : FuncData} (F : Fun K "has_link" "Net.has_link" s_Net_has_link f fd) : FnX P w K mg base 1 f fd ["self", "source", "reader"] (spP Γ (F_Net_has_link Z)) :=
  okP F sc_Net_has_link rfl rfl fun cdv A outer s H E hr => ⟨_, (pss_one (ps_ret (pe_cmpR (inA_K K hr) (pe_tup (pa_cons (pv 1) (pa_cons (pv 2) pa_nil))) (fld_K K (pv 0)) (by rfl)))),
  (ls_ret (le_op rs_inT (le_tup (la_cons (le_varS (i := 1)) (la_cons (le_varS (i := 2)) la_nil))) (le_fld G.c_Net G.n_Net__linked (le_varS (i := 0)))))⟩
end
def B_Net_with_link (Z : Ad) : FS := (dRet [] (dMake [] Z.Net (F_Net___init__ Z) (dCons (dFld Z.Net "count" (dVarS 0)) (dCons (dOpG gAdd (dFld Z.Net "_links" (dVarS 0)) (dLst (dCons (dTup (dCons (dVarS 1) (dCons (dVarS 2) dNil))) dNil))) dNil))))
def F_Net_with_link (Z : Ad) : DF := bodyN (B_Net_with_link Z) [] 3 0
section
variable {Γ : GS} {P : Program} {w : World} {K : PySem.W.Frag} {mg : Str → Option Value} {base : Heap} {Z : Ad}
theorem ok_Net_with_link (G : Glo K mg Z) {f : Addr} {fd : FuncData} (F : Fun K "with_link" "Net.with_link" s_Net_with_link f fd) (h_Net___init__ : HIX P w K mg base Z.Net 4 (spM Γ [0] (F_Net___init__ Z))) : FnX P w K mg base 6 f fd ["self", "source", "reader"] (spP Γ (F_Net_with_link Z)) :=
  okP F sc_Net_with_link rfl rfl fun cdv A outer s H E hr => ⟨_, (pss_one (ps_ret (px_i E (passE rfl rfl rfl rfl) h_Net___init__ G.m_Net (hr.mono (by decide)) (by rfl) (pa_cons (fld_K K (pv 0)) (pa_cons (pe_op op_addA (fld_K K (pv 0)) (pe_lst (pa_cons (pe_tup (pa_cons (pv 1) (pa_cons (pv 2) pa_nil))) pa_nil))) pa_nil))))),
  (ls_ret (le_make (la_cons (le_fld G.c_Net G.n_Net_count (le_varS (i := 0))) (la_cons (le_opG rg_add (le_fld G.c_Net G.n_Net__links (le_varS (i := 0))) (le_lst (la_cons (le_tup (la_cons (le_varS (i := 1)) (la_cons (le_varS (i := 2)) la_nil))) la_nil))) la_nil))))⟩
end
def B_Net_without_link (Z : Ad) : FS := (dSeq (dIfS (dNot (dTru (dMeth [] Z.Net "has_link" (F_Net_has_link Z) (dVarS 0) (dCons (dVarS 1) (dCons (dVarS 2) dNil)))))
  (dRaise Z.NotLinked ["source", "reader"] [0, 1] [] (dCons (dVarS 1) (dCons (dVarS 2) dNil)))
  dNext)
  (dRet [] (dMake [] Z.Net (F_Net___init__ Z) (dCons (dFld Z.Net "count" (dVarS 0)) (dCons (dLc (dIl (dFld Z.Net "_links" (dVarS 0))) [] [3] (dName 3) (dTest (dOp gNe (dVarS 3) (dTup (dCons (dVarS 1) (dCons (dVarS 2) dNil))))) (dVarS 3)) dNil)))))
def F_Net_without_link (Z : Ad) : DF := bodyN (B_Net_without_link Z) [] 3 1
section
variable {Γ : GS} {P : Program} {w : World} {K : PySem.W.Frag} {mg : Str → Option Value} {base : Heap} {Z : Ad}
theorem ok_Net_without_link (G : Glo K mg Z) {f : Addr} {fd : FuncData} (F : Fun K "without_link" "Net.without_link" s_Net_without_link f fd) (h_Net_has_link : HMX P w K mg base Z.Net "has_link" 1 (spP Γ (F_Net_has_link Z))) (h_Net___init__ : HIX P w K mg base Z.Net 4 (spM Γ [0] (F_Net___init__ Z))) (h_xNotLinked : HEX P w K mg base Z.NotLinked ["source", "reader"] [0, 1] 1) : FnX P w K mg base 6 f fd ["self", "source", "reader"] (spP Γ (F_Net_without_link Z)) :=
  okP F sc_Net_without_link rfl rfl fun cdv A outer s H E hr => ⟨_, (pss_cons (ps_if (pt_not (tru_K K (px_m E (passE rfl rfl rfl rfl) h_Net_has_link G.c_Net (hr.mono (by decide)) (pv 0) (pa_cons (pv 1) (pa_cons (pv 2) pa_nil))) (by intro _; rfl))) (pss_one (px_raise (W := DL.WE E) (L2N.takes_of rfl rfl rfl rfl) rfl h_xNotLinked G.m_NotLinked (hr.mono (by decide)) (by rfl) (pa_cons (pv 1) (pa_cons (pv 2) pa_nil)))) pss_nil)
  (pss_one (ps_ret (px_i E (passE rfl rfl rfl rfl) h_Net___init__ G.m_Net (hr.mono (by decide)) (by rfl) (pa_cons (fld_K K (pv 0)) (pa_cons (pe_lc (own := [("link", 3)]) (by rfl) sc_Net_without_link.nd (pi_lstK K (fld_K K (pv 0))) (blkOk_by (own := [("link", 3)]) (N := ["self", "source", "reader", "link"]) (sc := defScope s_Net_without_link) (by decide +kernel)) (fun _ _ _ _ _ => (pg_name (i := 3) (by exact sc_Net_without_link.nd) rfl (.inl rfl))) (fun _ _ _ _ _ => (pts_one (pt_cmpR (ne_K K hr.units) (pv 3) (pe_tup (pa_cons (pv 1) (pa_cons (pv 2) pa_nil))) (nomark _)))) (fun _ _ _ _ _ => (pv 3))) pa_nil)))))),
  (ls_seq (ls_if (lt_not (lt_tru (le_meth (le_varS (i := 0)) (la_cons (le_varS (i := 1)) (la_cons (le_varS (i := 2)) la_nil)))))
  (ls_raise (la_cons (le_varS (i := 1)) (la_cons (le_varS (i := 2)) la_nil)))
  ls_next)
  (ls_ret (le_make (la_cons (le_fld G.c_Net G.n_Net_count (le_varS (i := 0))) (la_cons (le_lc (li_lst (le_fld G.c_Net G.n_Net__links (le_varS (i := 0)))) (lg_name (i := 3)) (by decide) (lt_test (le_op rs_ne (le_varS (i := 3)) (le_tup (la_cons (le_varS (i := 1)) (la_cons (le_varS (i := 2)) la_nil))))) (le_varS (i := 3))) la_nil)))))⟩
end
def B__law_great (Z : Ad) : FS := (dSeq (dBind [] (dCall [] (F__law_draw Z) (dCons (dVarS 0) (dCons (dC (.int 100000000)) dNil))) (dNameF 1))
  (dSeq (dBind [] (dCall [] (F__law_draw Z) (dCons (dVarS 0) (dCons (dC (.int 100000000)) dNil))) (dNameF 2))
  (dSeq (dBind [] (dCall [] (F__law_draw Z) (dCons (dVarS 0) (dCons (dC (.int 100000000)) dNil))) (dNameF 3))
  (dSeq (dBind [] (dCall [] (F__law_draw Z) (dCons (dVarS 0) (dCons (dC (.int 1000000)) dNil))) (dNameF 4))
  (dRet [] (dOpG gAdd (dOpG gMul (dOpG gAdd (dOpG gMul (dOpG gAdd (dOpG gMul (dVarS 4) (dC (.int 100000000))) (dVarS 3)) (dC (.int 100000000))) (dVarS 2)) (dC (.int 100000000))) (dVarS 1)))))))
def F__law_great (Z : Ad) : DF := bodyN (B__law_great Z) [] 1 4
section
variable {Γ : GS} {P : Program} {w : World} {K : PySem.W.Frag} {mg : Str → Option Value} {base : Heap} {Z : Ad}
theorem ok__law_great (G : Glo K mg Z) {f : Addr} {fd : FuncData} (F : Fun K "_law_great" "_law_great" s__law_great f fd) (h__law_draw : HX P w K mg base "_law_draw" 1 (spP Γ (F__law_draw Z))) : FnX P w K mg base 2 f fd ["_law_box_here"] (spP Γ (F__law_great Z)) :=
  okP F sc__law_great rfl rfl fun cdv A outer s H E hr => ⟨_, (pss_cons (ps_set (i := 1) sc__law_great.nd rfl (.inl rfl) (px_fn E (passE rfl rfl rfl rfl) h__law_draw (hr.mono (by decide)) (by rfl) (pa_cons (pv 0) (pa_cons (pe_powC (z := 100000000) (by decide +kernel) ⟨by decide, by decide, by decide⟩) pa_nil))))
  (pss_cons (ps_set (i := 2) sc__law_great.nd rfl (.inl rfl) (px_fn E (passE rfl rfl rfl rfl) h__law_draw (hr.mono (by decide)) (by rfl) (pa_cons (pv 0) (pa_cons (pe_powC (z := 100000000) (by decide +kernel) ⟨by decide, by decide, by decide⟩) pa_nil))))
  (pss_cons (ps_set (i := 3) sc__law_great.nd rfl (.inl rfl) (px_fn E (passE rfl rfl rfl rfl) h__law_draw (hr.mono (by decide)) (by rfl) (pa_cons (pv 0) (pa_cons (pe_powC (z := 100000000) (by decide +kernel) ⟨by decide, by decide, by decide⟩) pa_nil))))
  (pss_cons (ps_set (i := 4) sc__law_great.nd rfl (.inl rfl) (px_fn E (passE rfl rfl rfl rfl) h__law_draw (hr.mono (by decide)) (by rfl) (pa_cons (pv 0) (pa_cons (pe_powC (z := 1000000) (by decide +kernel) ⟨by decide, by decide, by decide⟩) pa_nil))))
  (pss_one (ps_ret (pe_op op_addA (pe_op op_mulA (pe_op op_addA (pe_op op_mulA (pe_op op_addA (pe_op op_mulA (pv 4) (pe_powC (z := 100000000) (by decide +kernel) ⟨by decide, by decide, by decide⟩)) (pv 3)) (pe_powC (z := 100000000) (by decide +kernel) ⟨by decide, by decide, by decide⟩)) (pv 2)) (pe_powC (z := 100000000) (by decide +kernel) ⟨by decide, by decide, by decide⟩)) (pv 1)))))))),
  (ls_seq (ls_bind (le_call (la_cons (le_varS (i := 0)) (la_cons (le_c rfl) la_nil))) (lg_nameF (i := 1)))
  (ls_seq (ls_bind (le_call (la_cons (le_varS (i := 0)) (la_cons (le_c rfl) la_nil))) (lg_nameF (i := 2)))
  (ls_seq (ls_bind (le_call (la_cons (le_varS (i := 0)) (la_cons (le_c rfl) la_nil))) (lg_nameF (i := 3)))
  (ls_seq (ls_bind (le_call (la_cons (le_varS (i := 0)) (la_cons (le_c rfl) la_nil))) (lg_nameF (i := 4)))
  (ls_ret (le_opG rg_add (le_opG rg_mul (le_opG rg_add (le_opG rg_mul (le_opG rg_add (le_opG rg_mul (le_varS (i := 4)) (le_c rfl)) (le_varS (i := 3))) (le_c rfl)) (le_varS (i := 2))) (le_c rfl)) (le_varS (i := 1))))))))⟩
end
def B__law_is_int (Z : Ad) : FS := (dRet [] (dAndV (dCB gIsi (dCons (dVarS 0) (dCons (dC (.ty "int")) dNil))) (dNotV (dCB gIsi (dCons (dVarS 0) (dCons (dC (.ty "bool")) dNil))))))
def F__law_is_int (Z : Ad) : DF := bodyN (B__law_is_int Z) [] 1 0
section
variable {Γ : GS} {P : Program} {w : World} {K : PySem.W.Frag} {mg : Str → Option Value} {base : Heap} {Z : Ad}
theorem ok__law_is_int (G : Glo K mg Z) {f : Addr} {fd : FuncData} (F : Fun K "_law_is_int" "_law_is_int" s__law_is_int f fd) : FnX P w K mg base 1 f fd ["_law_actual"] (spP Γ (F__law_is_int Z)) :=
  okP F sc__law_is_int rfl rfl fun cdv A outer s H E hr => ⟨_, (pss_one (ps_ret (pe_and (pe_callB (isi_K K) (by rfl) G.g_isinstance (by decide +kernel) (pa_cons (pv 0) (pa_cons (pe_bltn (v := .ty "int") (by rfl) G.g_int (by decide +kernel) rfl) pa_nil))) (pe_one (pe_not (pe_callB (isi_K K) (by rfl) G.g_isinstance (by decide +kernel) (pa_cons (pv 0) (pa_cons (pe_bltn (v := .ty "bool") (by rfl) G.g_bool (by decide +kernel) rfl) pa_nil)))))))),
  (ls_ret (le_andV (le_cbS rc_isi (la_cons (le_varS (i := 0)) (la_cons (le_c rfl) la_nil))) (le_notV (le_cbS rc_isi (la_cons (le_varS (i := 0)) (la_cons (le_c rfl) la_nil))))))⟩
theorem okH__law_is_int (G : Glo K mg Z) {f : Addr} {fd : FuncData} (F : Fun K "_law_is_int" "_law_is_int" s__law_is_int f fd) : L2H.FnH P w K mg base (L2N.CX P w) 1 f fd ["_law_actual"] (spP Γ (F__law_is_int Z)) :=
  okH F sc__law_is_int rfl rfl fun cdv A outer s H E pp hot hr => ⟨_, (pss_one (ps_ret (pe_and (pe_callB (isi_K K) (by rfl) G.g_isinstance (by decide +kernel) (pa_cons (pv 0) (pa_cons (pe_bltn (v := .ty "int") (by rfl) G.g_int (by decide +kernel) rfl) pa_nil))) (pe_one (pe_not (pe_callB (isi_K K) (by rfl) G.g_isinstance (by decide +kernel) (pa_cons (pv 0) (pa_cons (pe_bltn (v := .ty "bool") (by rfl) G.g_bool (by decide +kernel) rfl) pa_nil)))))))),
  (ls_ret (le_andV (le_cbS rc_isi (la_cons (le_varS (i := 0)) (la_cons (le_c rfl) la_nil))) (le_notV (le_cbS rc_isi (la_cons (le_varS (i := 0)) (la_cons (le_c rfl) la_nil))))))⟩
end
def B__law_stranger (Z : Ad) : FS := (dSeq (dBind [] (dCall [] (F__law_draw Z) (dCons (dVarS 0) (dCons (dC (.int 6)) dNil))) (dNameF 2))
  (dSeq (dIfS (dTest (dOp gEq (dVarS 2) (dC (.int 0))))
  (dRet [] (dNeg (dC (.int 1))))
  dNext)
  (dSeq (dIfS (dTest (dOp gEq (dVarS 2) (dC (.int 1))))
  (dRet [] (dVarS 1))
  dNext)
  (dSeq (dIfS (dTest (dOp gEq (dVarS 2) (dC (.int 2))))
  (dRet [] (dOp gMin (dNeg (dC (.int 1))) (dCall [] (F__law_draw Z) (dCons (dVarS 0) (dCons (dC (.int 24)) dNil)))))
  dNext)
  (dSeq (dIfS (dTest (dOp gEq (dVarS 2) (dC (.int 3))))
  (dRet [] (dOpG gAdd (dVarS 1) (dCall [] (F__law_draw Z) (dCons (dVarS 0) (dCons (dC (.int 4)) dNil)))))
  dNext)
  (dSeq (dBind [] (dCall [] (F__law_great Z) (dCons (dVarS 0) dNil)) (dNameF 3))
  (dSeq (dIfS (dTest (dOp gEq (dVarS 2) (dC (.int 4))))
  (dRet [] (dCB gMx (dCons (dVarS 1) (dCons (dVarS 3) dNil))))
  dNext)
  (dRet [] (dCB gMn (dCons (dNeg (dC (.int 1))) (dCons (dOp gMin (dC (.int 0)) (dVarS 3)) dNil)))))))))))
def F__law_stranger (Z : Ad) : DF := bodyN (B__law_stranger Z) [] 2 2
section
variable {Γ : GS} {P : Program} {w : World} {K : PySem.W.Frag} {mg : Str → Option Value} {base : Heap} {Z : Ad}
theorem ok__law_stranger (G : Glo K mg Z) {f : Addr} {fd : FuncData} (F : Fun K "_law_stranger" "_law_stranger" s__law_stranger f fd) (h__law_draw : HX P w K mg base "_law_draw" 1 (spP Γ (F__law_draw Z))) (h__law_great : HX P w K mg base "_law_great" 2 (spP Γ (F__law_great Z))) : FnX P w K mg base 3 f fd ["_law_box_here", "_law_count_here"] (spP Γ (F__law_stranger Z)) :=
  okP F sc__law_stranger rfl rfl fun cdv A outer s H E hr => ⟨_, (pss_cons (ps_set (i := 2) sc__law_stranger.nd rfl (.inl rfl) (px_fn E (passE rfl rfl rfl rfl) h__law_draw (hr.mono (by decide)) (by rfl) (pa_cons (pv 0) (pa_cons pe_int pa_nil))))
  (pss_cons (ps_if (pt_cmpR (eq_K K hr.units) (pv 2) pe_int (nomark _)) (pss_one (ps_ret (pe_un un_neg pe_int))) pss_nil)
  (pss_cons (ps_if (pt_cmpR (eq_K K hr.units) (pv 2) pe_int (nomark _)) (pss_one (ps_ret (pv 1))) pss_nil)
  (pss_cons (ps_if (pt_cmpR (eq_K K hr.units) (pv 2) pe_int (nomark _)) (pss_one (ps_ret (pe_op op_sub (pe_un un_neg pe_int) (px_fn E (passE rfl rfl rfl rfl) h__law_draw (hr.mono (by decide)) (by rfl) (pa_cons (pv 0) (pa_cons pe_int pa_nil)))))) pss_nil)
  (pss_cons (ps_if (pt_cmpR (eq_K K hr.units) (pv 2) pe_int (nomark _)) (pss_one (ps_ret (pe_op op_addA (pv 1) (px_fn E (passE rfl rfl rfl rfl) h__law_draw (hr.mono (by decide)) (by rfl) (pa_cons (pv 0) (pa_cons pe_int pa_nil)))))) pss_nil)
  (pss_cons (ps_set (i := 3) sc__law_stranger.nd rfl (.inl rfl) (px_fn E (passE rfl rfl rfl rfl) h__law_great (hr.mono (by decide)) (by rfl) (pa_cons (pv 0) pa_nil)))
  (pss_cons (ps_if (pt_cmpR (eq_K K hr.units) (pv 2) pe_int (nomark _)) (pss_one (ps_ret (pe_callB (call_max2 rfl) (by rfl) G.g_max (by decide +kernel) (pa_cons (pv 1) (pa_cons (pv 3) pa_nil))))) pss_nil)
  (pss_one (ps_ret (pe_callB (call_min2 rfl) (by rfl) G.g_min (by decide +kernel) (pa_cons (pe_un un_neg pe_int) (pa_cons (pe_op op_sub pe_int (pv 3)) pa_nil)))))))))))),
  (ls_seq (ls_bind (le_call (la_cons (le_varS (i := 0)) (la_cons (le_c rfl) la_nil))) (lg_nameF (i := 2)))
  (ls_seq (ls_if (lt_test (le_op rs_eq (le_varS (i := 2)) (le_c rfl)))
  (ls_ret (le_neg (le_c rfl)))
  ls_next)
  (ls_seq (ls_if (lt_test (le_op rs_eq (le_varS (i := 2)) (le_c rfl)))
  (ls_ret (le_varS (i := 1)))
  ls_next)
  (ls_seq (ls_if (lt_test (le_op rs_eq (le_varS (i := 2)) (le_c rfl)))
  (ls_ret (le_op rs_sub (le_neg (le_c rfl)) (le_call (la_cons (le_varS (i := 0)) (la_cons (le_c rfl) la_nil)))))
  ls_next)
  (ls_seq (ls_if (lt_test (le_op rs_eq (le_varS (i := 2)) (le_c rfl)))
  (ls_ret (le_opG rg_add (le_varS (i := 1)) (le_call (la_cons (le_varS (i := 0)) (la_cons (le_c rfl) la_nil)))))
  ls_next)
  (ls_seq (ls_bind (le_call (la_cons (le_varS (i := 0)) la_nil)) (lg_nameF (i := 3)))
  (ls_seq (ls_if (lt_test (le_op rs_eq (le_varS (i := 2)) (le_c rfl)))
  (ls_ret (le_cbS rc_max2 (la_cons (le_varS (i := 1)) (la_cons (le_varS (i := 3)) la_nil))))
  ls_next)
  (ls_ret (le_cbS rc_min2 (la_cons (le_neg (le_c rfl)) (la_cons (le_op rs_sub (le_c rfl) (le_varS (i := 3))) la_nil)))))))))))⟩
end
def B__law_truth (Z : Ad) : FS := (dRet [] (dAndV (dCB gIsi (dCons (dVarS 0) (dCons (dC (.ty "bool")) dNil))) (dOp gEq (dVarS 0) (dVarS 1))))
def F__law_truth (Z : Ad) : DF := bodyN (B__law_truth Z) [] 2 0
section
variable {Γ : GS} {P : Program} {w : World} {K : PySem.W.Frag} {mg : Str → Option Value} {base : Heap} {Z : Ad}
theorem ok__law_truth (G : Glo K mg Z) {f : Addr} {fd : FuncData} (F : Fun K "_law_truth" "_law_truth" s__law_truth f fd) : FnX P w K mg base 1 f fd ["_law_actual", "_law_due"] (spP Γ (F__law_truth Z)) :=
  okP F sc__law_truth rfl rfl fun cdv A outer s H E hr => ⟨_, (pss_one (ps_ret (pe_and (pe_callB (isi_K K) (by rfl) G.g_isinstance (by decide +kernel) (pa_cons (pv 0) (pa_cons (pe_bltn (v := .ty "bool") (by rfl) G.g_bool (by decide +kernel) rfl) pa_nil))) (pe_one (pe_cmpR (eq_K K hr.units) (pv 0) (pv 1) (nomark _)))))),
  (ls_ret (le_andV (le_cbS rc_isi (la_cons (le_varS (i := 0)) (la_cons (le_c rfl) la_nil))) (le_op rs_eq (le_varS (i := 0)) (le_varS (i := 1)))))⟩
end
def B__law_is_pair (Z : Ad) : FS := (dSeq (dIfS (dOr (dNot (dTru (dCB gIsi (dCons (dVarS 0) (dCons (dC (.ty "tuple")) dNil))))) (dTest (dOp gNe (dCB gLen (dCons (dVarS 0) dNil)) (dC (.int 2)))))
  (dRet [] (dC (.bl false)))
  dNext)
  (dRet [] (dAndV (dCall [] (F__law_is_int Z) (dCons (dOpG gIx (dVarS 0) (dC (.int 0))) dNil)) (dAndV (dCall [] (F__law_is_int Z) (dCons (dOpG gIx (dVarS 0) (dC (.int 1))) dNil)) (dOp gEq (dVarS 0) (dVarS 1))))))
def F__law_is_pair (Z : Ad) : DF := bodyN (B__law_is_pair Z) [] 2 0
section
variable {Γ : GS} {P : Program} {w : World} {K : PySem.W.Frag} {mg : Str → Option Value} {base : Heap} {Z : Ad}
theorem ok__law_is_pair (G : Glo K mg Z) {f : Addr} {fd : FuncData} (F : Fun K "_law_is_pair" "_law_is_pair" s__law_is_pair f fd) (h__law_is_int : HX P w K mg base "_law_is_int" 1 (spP Γ (F__law_is_int Z))) : FnX P w K mg base 2 f fd ["_law_actual", "_law_due"] (spP Γ (F__law_is_pair Z)) :=
  okP F sc__law_is_pair rfl rfl fun cdv A outer s H E hr => ⟨_, (pss_cons (ps_if (PW.pt (pw_or (pt_not (tru_K K (pe_callB (isi_K K) (by rfl) G.g_isinstance (by decide +kernel) (pa_cons (pv 0) (pa_cons (pe_bltn (v := .ty "tuple") (by rfl) G.g_tuple (by decide +kernel) rfl) pa_nil))) (by intro _; rfl))) (pw_or1 (pt_cmpR (ne_K K hr.units) (pe_callB (len_K K) (by rfl) G.g_len (by decide +kernel) (pa_cons (pv 0) pa_nil)) pe_int (nomark _))))) (pss_one (ps_ret pe_bl)) pss_nil)
  (pss_one (ps_ret (pe_and (px_fn E (passE rfl rfl rfl rfl) h__law_is_int (hr.mono (by decide)) (by rfl) (pa_cons (pe_ix (ixA_K K hr) (pv 0) pe_int (fun _ _ => rfl)) pa_nil)) (pe_and (px_fn E (passE rfl rfl rfl rfl) h__law_is_int (hr.mono (by decide)) (by rfl) (pa_cons (pe_ix (ixA_K K hr) (pv 0) pe_int (fun _ _ => rfl)) pa_nil)) (pe_one (pe_cmpR (eq_K K hr.units) (pv 0) (pv 1) (nomark _)))))))),
  (ls_seq (ls_if (lt_or (lt_not (lt_tru (le_cbS rc_isi (la_cons (le_varS (i := 0)) (la_cons (le_c rfl) la_nil))))) (lt_test (le_op rs_ne (le_cbS rc_len (la_cons (le_varS (i := 0)) la_nil)) (le_c rfl))))
  (ls_ret (le_c rfl))
  ls_next)
  (ls_ret (le_andV (le_call (la_cons (le_opG rg_ix (le_varS (i := 0)) (le_c rfl)) la_nil)) (le_andV (le_call (la_cons (le_opG rg_ix (le_varS (i := 0)) (le_c rfl)) la_nil)) (le_op rs_eq (le_varS (i := 0)) (le_varS (i := 1)))))))⟩
end
def B__law_pairs_are (Z : Ad) : FS := (dSeq (dIfS (dOr (dNot (dTru (dCB gIsi (dCons (dVarS 0) (dCons (dC (.ty "list")) dNil))))) (dTest (dOp gNe (dCB gLen (dCons (dVarS 0) dNil)) (dCB gLen (dCons (dVarS 1) dNil)))))
  (dRet [] (dC (.bl false)))
  dNext)
  (dSeq (dFor (dRng1 (dCons (dCB gLen (dCons (dVarS 1) dNil)) dNil)) [] (dName 2)
  (dIfS (dNot (dTru (dCall [] (F__law_is_pair Z) (dCons (dOpG gIx (dVarS 0) (dVarS 2)) (dCons (dOpG gIx (dVarS 1) (dVarS 2)) dNil)))))
  (dRet [] (dC (.bl false)))
  dNext))
  (dRet [] (dC (.bl true)))))
def F__law_pairs_are (Z : Ad) : DF := bodyN (B__law_pairs_are Z) [] 2 1
section
variable {Γ : GS} {P : Program} {w : World} {K : PySem.W.Frag} {mg : Str → Option Value} {base : Heap} {Z : Ad}
theorem ok__law_pairs_are (G : Glo K mg Z) {f : Addr} {fd : FuncData} (F : Fun K "_law_pairs_are" "_law_pairs_are" s__law_pairs_are f fd) (h__law_is_pair : HX P w K mg base "_law_is_pair" 2 (spP Γ (F__law_is_pair Z))) : FnX P w K mg base 3 f fd ["_law_told", "_law_due"] (spP Γ (F__law_pairs_are Z)) :=
  okP F sc__law_pairs_are rfl rfl fun cdv A outer s H E hr => ⟨_, (pss_cons (ps_if (PW.pt (pw_or (pt_not (tru_K K (pe_callB (isi_K K) (by rfl) G.g_isinstance (by decide +kernel) (pa_cons (pv 0) (pa_cons (pe_bltn (v := .ty "list") (by rfl) G.g_list (by decide +kernel) rfl) pa_nil))) (by intro _; rfl))) (pw_or1 (pt_cmpR (ne_K K hr.units) (pe_callB (len_K K) (by rfl) G.g_len (by decide +kernel) (pa_cons (pv 0) pa_nil)) (pe_callB (len_K K) (by rfl) G.g_len (by decide +kernel) (pa_cons (pv 1) pa_nil)) (nomark _))))) (pss_one (ps_ret pe_bl)) pss_nil)
  (pss_cons (ps_for (passes_of rfl) rfl (pi_range1 (by rfl) G.g_range (pa_cons (pe_callB (len_K K) (by rfl) G.g_len (by decide +kernel) (pa_cons (pv 1) pa_nil)) pa_nil)) (pg_name (i := 2) (by exact sc__law_pairs_are.nd) rfl (.inl rfl)) (pss_one (ps_if (pt_not (tru_K K (px_fn E (passE rfl rfl rfl rfl) h__law_is_pair (hr.mono (by decide)) (by rfl) (pa_cons (pe_ix (ixA_K K hr) (pv 0) (pv 2) (fun _ _ => rfl)) (pa_cons (pe_ix (ixA_K K hr) (pv 1) (pv 2) (fun _ _ => rfl)) pa_nil))) (by intro _; rfl))) (pss_one (ps_ret pe_bl)) pss_nil)))
  (pss_one (ps_ret pe_bl)))),
  (ls_seq (ls_if (lt_or (lt_not (lt_tru (le_cbS rc_isi (la_cons (le_varS (i := 0)) (la_cons (le_c rfl) la_nil))))) (lt_test (le_op rs_ne (le_cbS rc_len (la_cons (le_varS (i := 0)) la_nil)) (le_cbS rc_len (la_cons (le_varS (i := 1)) la_nil)))))
  (ls_ret (le_c rfl))
  ls_next)
  (ls_seq (ls_for (li_rng1 (la_cons (le_cbS rc_len (la_cons (le_varS (i := 1)) la_nil)) la_nil)) (lg_name (i := 2))
  (ls_if (lt_not (lt_tru (le_call (la_cons (le_opG rg_ix (le_varS (i := 0)) (le_varS (i := 2))) (la_cons (le_opG rg_ix (le_varS (i := 1)) (le_varS (i := 2))) la_nil)))))
  (ls_ret (le_c rfl))
  ls_next))
  (ls_ret (le_c rfl))))⟩
end
def B__law_ints_are (Z : Ad) : FS := (dSeq (dIfS (dOr (dNot (dTru (dCB gIsi (dCons (dVarS 0) (dCons (dC (.ty "list")) dNil))))) (dTest (dOp gNe (dCB gLen (dCons (dVarS 0) dNil)) (dCB gLen (dCons (dVarS 1) dNil)))))
  (dRet [] (dC (.bl false)))
  dNext)
  (dSeq (dFor (dRng1 (dCons (dCB gLen (dCons (dVarS 1) dNil)) dNil)) [] (dName 2)
  (dIfS (dOr (dNot (dTru (dCall [] (F__law_is_int Z) (dCons (dOpG gIx (dVarS 0) (dVarS 2)) dNil)))) (dTest (dOp gNe (dOpG gIx (dVarS 0) (dVarS 2)) (dOpG gIx (dVarS 1) (dVarS 2)))))
  (dRet [] (dC (.bl false)))
  dNext))
  (dRet [] (dC (.bl true)))))
def F__law_ints_are (Z : Ad) : DF := bodyN (B__law_ints_are Z) [] 2 1
section
variable {Γ : GS} {P : Program} {w : World} {K : PySem.W.Frag} {mg : Str → Option Value} {base : Heap} {Z : Ad}
theorem ok__law_ints_are (G : Glo K mg Z) {f : Addr} {fd : FuncData} (F : Fun K "_law_ints_are" "_law_ints_are" s__law_ints_are f fd) (h__law_is_int : HX P w K mg base "_law_is_int" 1 (spP Γ (F__law_is_int Z))) : FnX P w K mg base 2 f fd ["_law_told", "_law_due"] (spP Γ (F__law_ints_are Z)) :=
  okP F sc__law_ints_are rfl rfl fun cdv A outer s H E hr => ⟨_, (pss_cons (ps_if (PW.pt (pw_or (pt_not (tru_K K (pe_callB (isi_K K) (by rfl) G.g_isinstance (by decide +kernel) (pa_cons (pv 0) (pa_cons (pe_bltn (v := .ty "list") (by rfl) G.g_list (by decide +kernel) rfl) pa_nil))) (by intro _; rfl))) (pw_or1 (pt_cmpR (ne_K K hr.units) (pe_callB (len_K K) (by rfl) G.g_len (by decide +kernel) (pa_cons (pv 0) pa_nil)) (pe_callB (len_K K) (by rfl) G.g_len (by decide +kernel) (pa_cons (pv 1) pa_nil)) (nomark _))))) (pss_one (ps_ret pe_bl)) pss_nil)
  (pss_cons (ps_for (passes_of rfl) rfl (pi_range1 (by rfl) G.g_range (pa_cons (pe_callB (len_K K) (by rfl) G.g_len (by decide +kernel) (pa_cons (pv 1) pa_nil)) pa_nil)) (pg_name (i := 2) (by exact sc__law_ints_are.nd) rfl (.inl rfl)) (pss_one (ps_if (PW.pt (pw_or (pt_not (tru_K K (px_fn E (passE rfl rfl rfl rfl) h__law_is_int (hr.mono (by decide)) (by rfl) (pa_cons (pe_ix (ixA_K K hr) (pv 0) (pv 2) (fun _ _ => rfl)) pa_nil)) (by intro _; rfl))) (pw_or1 (pt_cmpR (ne_K K hr.units) (pe_ix (ixA_K K hr) (pv 0) (pv 2) (fun _ _ => rfl)) (pe_ix (ixA_K K hr) (pv 1) (pv 2) (fun _ _ => rfl)) (nomark _))))) (pss_one (ps_ret pe_bl)) pss_nil)))
  (pss_one (ps_ret pe_bl)))),
  (ls_seq (ls_if (lt_or (lt_not (lt_tru (le_cbS rc_isi (la_cons (le_varS (i := 0)) (la_cons (le_c rfl) la_nil))))) (lt_test (le_op rs_ne (le_cbS rc_len (la_cons (le_varS (i := 0)) la_nil)) (le_cbS rc_len (la_cons (le_varS (i := 1)) la_nil)))))
  (ls_ret (le_c rfl))
  ls_next)
  (ls_seq (ls_for (li_rng1 (la_cons (le_cbS rc_len (la_cons (le_varS (i := 1)) la_nil)) la_nil)) (lg_name (i := 2))
  (ls_if (lt_or (lt_not (lt_tru (le_call (la_cons (le_opG rg_ix (le_varS (i := 0)) (le_varS (i := 2))) la_nil)))) (lt_test (le_op rs_ne (le_opG rg_ix (le_varS (i := 0)) (le_varS (i := 2))) (le_opG rg_ix (le_varS (i := 1)) (le_varS (i := 2))))))
  (ls_ret (le_c rfl))
  ls_next))
  (ls_ret (le_c rfl))))⟩
end
def B__law_count (Z : Ad) : FS := (dSeq (dBind [] (dCall [] (F__law_draw Z) (dCons (dVarS 0) (dCons (dC (.int 8)) dNil))) (dNameF 1))
  (dSeq (dIfS (dTest (dOp gLt (dVarS 1) (dC (.int 6))))
  (dRet [] (dOpG gAdd (dC (.int 1)) (dCall [] (F__law_draw Z) (dCons (dVarS 0) (dCons (dC (.int 6)) dNil)))))
  dNext)
  (dSeq (dIfS (dTest (dOp gEq (dVarS 1) (dC (.int 6))))
  (dRet [] (dOpG gAdd (dC (.int 1)) (dCall [] (F__law_draw Z) (dCons (dVarS 0) (dCons (dC (.int 24)) dNil)))))
  dNext)
  (dRet [] (dOpG gAdd (dC (.int 23)) (dCall [] (F__law_draw Z) (dCons (dVarS 0) (dCons (dC (.int 2)) dNil))))))))
def F__law_count (Z : Ad) : DF := bodyN (B__law_count Z) [] 1 1
section
variable {Γ : GS} {P : Program} {w : World} {K : PySem.W.Frag} {mg : Str → Option Value} {base : Heap} {Z : Ad}
theorem ok__law_count (G : Glo K mg Z) {f : Addr} {fd : FuncData} (F : Fun K "_law_count" "_law_count" s__law_count f fd) (h__law_draw : HX P w K mg base "_law_draw" 1 (spP Γ (F__law_draw Z))) : FnX P w K mg base 2 f fd ["_law_box_here"] (spP Γ (F__law_count Z)) :=
  okP F sc__law_count rfl rfl fun cdv A outer s H E hr => ⟨_, (pss_cons (ps_set (i := 1) sc__law_count.nd rfl (.inl rfl) (px_fn E (passE rfl rfl rfl rfl) h__law_draw (hr.mono (by decide)) (by rfl) (pa_cons (pv 0) (pa_cons pe_int pa_nil))))
  (pss_cons (ps_if (pt_cmpR (op_lt) (pv 1) pe_int (nomark _)) (pss_one (ps_ret (pe_op op_addA pe_int (px_fn E (passE rfl rfl rfl rfl) h__law_draw (hr.mono (by decide)) (by rfl) (pa_cons (pv 0) (pa_cons pe_int pa_nil)))))) pss_nil)
  (pss_cons (ps_if (pt_cmpR (eq_K K hr.units) (pv 1) pe_int (nomark _)) (pss_one (ps_ret (pe_op op_addA pe_int (px_fn E (passE rfl rfl rfl rfl) h__law_draw (hr.mono (by decide)) (by rfl) (pa_cons (pv 0) (pa_cons pe_int pa_nil)))))) pss_nil)
  (pss_one (ps_ret (pe_op op_addA pe_int (px_fn E (passE rfl rfl rfl rfl) h__law_draw (hr.mono (by decide)) (by rfl) (pa_cons (pv 0) (pa_cons pe_int pa_nil))))))))),
  (ls_seq (ls_bind (le_call (la_cons (le_varS (i := 0)) (la_cons (le_c rfl) la_nil))) (lg_nameF (i := 1)))
  (ls_seq (ls_if (lt_test (le_op rs_cmp (le_varS (i := 1)) (le_c rfl)))
  (ls_ret (le_opG rg_add (le_c rfl) (le_call (la_cons (le_varS (i := 0)) (la_cons (le_c rfl) la_nil)))))
  ls_next)
  (ls_seq (ls_if (lt_test (le_op rs_eq (le_varS (i := 1)) (le_c rfl)))
  (ls_ret (le_opG rg_add (le_c rfl) (le_call (la_cons (le_varS (i := 0)) (la_cons (le_c rfl) la_nil)))))
  ls_next)
  (ls_ret (le_opG rg_add (le_c rfl) (le_call (la_cons (le_varS (i := 0)) (la_cons (le_c rfl) la_nil))))))))⟩
end
def B__law_pair (Z : Ad) : FS := (dSeq (dBind [] (dCall [] (F__law_draw Z) (dCons (dVarS 0) (dCons (dVarS 1) dNil))) (dNameF 2))
  (dRet [] (dTup (dCons (dVarS 2) (dCons (dOp gMod (dCB gInt (dCons (dOpG gAdd (dOpG gAdd (dVarS 2) (dC (.int 1))) (dCall [] (F__law_draw Z) (dCons (dVarS 0) (dCons (dOp gMin (dVarS 1) (dC (.int 1))) dNil)))) dNil)) (dVarS 1)) dNil)))))
def F__law_pair (Z : Ad) : DF := bodyN (B__law_pair Z) [] 2 1
section
variable {Γ : GS} {P : Program} {w : World} {K : PySem.W.Frag} {mg : Str → Option Value} {base : Heap} {Z : Ad}
theorem ok__law_pair (G : Glo K mg Z) {f : Addr} {fd : FuncData} (F : Fun K "_law_pair" "_law_pair" s__law_pair f fd) (h__law_draw : HX P w K mg base "_law_draw" 1 (spP Γ (F__law_draw Z))) : FnX P w K mg base 2 f fd ["_law_box_here", "_law_count_here"] (spP Γ (F__law_pair Z)) :=
  okP F sc__law_pair rfl rfl fun cdv A outer s H E hr => ⟨_, (pss_cons (ps_set (i := 2) sc__law_pair.nd rfl (.inl rfl) (px_fn E (passE rfl rfl rfl rfl) h__law_draw (hr.mono (by decide)) (by rfl) (pa_cons (pv 0) (pa_cons (pv 1) pa_nil))))
  (pss_one (ps_ret (pe_tup (pa_cons (pv 2) (pa_cons (pe_op op_modA (pe_callTy (int_K K) (by rfl) G.g_int (by decide +kernel) (pa_cons (pe_op op_addA (pe_op op_addA (pv 2) pe_int) (px_fn E (passE rfl rfl rfl rfl) h__law_draw (hr.mono (by decide)) (by rfl) (pa_cons (pv 0) (pa_cons (pe_op op_sub (pv 1) pe_int) pa_nil)))) pa_nil)) (pv 1)) pa_nil)))))),
  (ls_seq (ls_bind (le_call (la_cons (le_varS (i := 0)) (la_cons (le_varS (i := 1)) la_nil))) (lg_nameF (i := 2)))
  (ls_ret (le_tup (la_cons (le_varS (i := 2)) (la_cons (le_op rs_mod (le_cbS rc_int (la_cons (le_opG rg_add (le_opG rg_add (le_varS (i := 2)) (le_c rfl)) (le_call (la_cons (le_varS (i := 0)) (la_cons (le_op rs_sub (le_varS (i := 1)) (le_c rfl)) la_nil)))) la_nil)) (le_varS (i := 1))) la_nil)))))⟩
end
def B__law_good_pairs (Z : Ad) : FS := (dSeq (dBind [] (dLst dNil) (dName 2))
  (dSeq (dBind [] (dCall [] (F__law_draw Z) (dCons (dVarS 0) (dCons (dC (.int 13)) dNil))) (dNameF 3))
  (dCut (dIfS (dTest (dOp gEq (dCall [] (F__law_draw Z) (dCons (dVarS 0) (dCons (dC (.int 8)) dNil))) (dC (.int 7))))
  (dBind [] (dOpG gAdd (dC (.int 40)) (dCall [] (F__law_draw Z) (dCons (dVarS 0) (dCons (dC (.int 21)) dNil)))) (dNameF 3))
  dNext)
  (dCut (dIfS (dTest (dOp gEq (dVarS 1) (dC (.int 1))))
  (dBind [] (dC (.int 0)) (dNameF 3))
  dNext)
  (dSeq (dFor (dRng1 (dCons (dVarS 3) dNil)) [] (dName 4)
  (dIfS (dAnd (dTest (dOp gNe (dVar 2) (dLst dNil))) (dTest (dOp gEq (dCall [] (F__law_draw Z) (dCons (dVarS 0) (dCons (dC (.int 5)) dNil))) (dC (.int 4)))))
  (dApp 2 (dPv 2) [2] (dOpG gIx (dVar 2) (dCall [] (F__law_draw Z) (dCons (dVarS 0) (dCons (dCB gLen (dCons (dVar 2) dNil)) dNil)))))
  (dApp 2 (dPv 2) [] (dCall [] (F__law_pair Z) (dCons (dVarS 0) (dCons (dVarS 1) dNil))))))
  (dRetM 2))))))
def F__law_good_pairs (Z : Ad) : DF := bodyN (B__law_good_pairs Z) [] 2 3
section
variable {Γ : GS} {P : Program} {w : World} {K : PySem.W.Frag} {mg : Str → Option Value} {base : Heap} {Z : Ad}
theorem ok__law_good_pairs (G : Glo K mg Z) {f : Addr} {fd : FuncData} (F : Fun K "_law_good_pairs" "_law_good_pairs" s__law_good_pairs f fd) (h__law_draw : HX P w K mg base "_law_draw" 1 (spP Γ (F__law_draw Z))) (h__law_pair : HX P w K mg base "_law_pair" 2 (spP Γ (F__law_pair Z))) : FnX P w K mg base 3 f fd ["_law_box_here", "_law_count_here"] (spP Γ (F__law_good_pairs Z)) :=
  okP F sc__law_good_pairs rfl rfl fun cdv A outer s H E hr => ⟨_, (pss_cons (ps_set (i := 2) sc__law_good_pairs.nd rfl (.inl rfl) (pe_lst pa_nil))
  (pss_cons (ps_set (i := 3) sc__law_good_pairs.nd rfl (.inl rfl) (px_fn E (passE rfl rfl rfl rfl) h__law_draw (hr.mono (by decide)) (by rfl) (pa_cons (pv 0) (pa_cons pe_int pa_nil))))
  (pss_cons (ps_if (pt_cmpR (eq_K K hr.units) (px_fn E (passE rfl rfl rfl rfl) h__law_draw (hr.mono (by decide)) (by rfl) (pa_cons (pv 0) (pa_cons pe_int pa_nil))) pe_int (nomark _)) (pss_one (ps_set (i := 3) sc__law_good_pairs.nd rfl (.inl rfl) (pe_op op_addA pe_int (px_fn E (passE rfl rfl rfl rfl) h__law_draw (hr.mono (by decide)) (by rfl) (pa_cons (pv 0) (pa_cons pe_int pa_nil)))))) pss_nil)
  (pss_cons (ps_if (pt_cmpR (eq_K K hr.units) (pv 1) pe_int (nomark _)) (pss_one (ps_set (i := 3) sc__law_good_pairs.nd rfl (.inl rfl) pe_int)) pss_nil)
  (pss_cons (ps_for (passes_of rfl) rfl (pi_range1 (by rfl) G.g_range (pa_cons (pv 3) pa_nil)) (pg_name (i := 4) (by exact sc__law_good_pairs.nd) rfl (.inl rfl)) (pss_one (ps_if (PW.pt (pw_and (pt_cmpR (ne_K K hr.units) (pv 2) (pe_lst pa_nil) (nomark _)) (pw_and1 (pt_cmpR (eq_K K hr.units) (px_fn E (passE rfl rfl rfl rfl) h__law_draw (hr.mono (by decide)) (by rfl) (pa_cons (pv 0) (pa_cons pe_int pa_nil))) pe_int (nomark _))))) (pss_one (ps_expr (bm_K K PySem.F.plainAttrs_list PySem.F.slot_list_append PySem.F.type_list_append mt_append (pv 2) (pa_cons (pe_ix (ixA_K K hr) (pv 2) (px_fn E (passE rfl rfl rfl rfl) h__law_draw (hr.mono (by decide)) (by rfl) (pa_cons (pv 0) (pa_cons (pe_callB (len_K K) (by rfl) G.g_len (by decide +kernel) (pa_cons (pv 2) pa_nil)) pa_nil))) (fun _ _ => rfl)) pa_nil)))) (pss_one (ps_expr (bm_K K PySem.F.plainAttrs_list PySem.F.slot_list_append PySem.F.type_list_append mt_append (pv 2) (pa_cons (px_fn E (passE rfl rfl rfl rfl) h__law_pair (hr.mono (by decide)) (by rfl) (pa_cons (pv 0) (pa_cons (pv 1) pa_nil))) pa_nil)))))))
  (pss_one (ps_ret (pv 2)))))))),
  (ls_seq (ls_bind (le_lst la_nil) (lg_name (i := 2)))
  (ls_seq (ls_bind (le_call (la_cons (le_varS (i := 0)) (la_cons (le_c rfl) la_nil))) (lg_nameF (i := 3)))
  (ls_seq (ls_if (lt_test (le_op rs_eq (le_call (la_cons (le_varS (i := 0)) (la_cons (le_c rfl) la_nil))) (le_c rfl)))
  (ls_bind (le_opG rg_add (le_c rfl) (le_call (la_cons (le_varS (i := 0)) (la_cons (le_c rfl) la_nil)))) (lg_nameF (i := 3)))
  ls_next)
  (ls_seq (ls_if (lt_test (le_op rs_eq (le_varS (i := 1)) (le_c rfl)))
  (ls_bind (le_c rfl) (lg_nameF (i := 3)))
  ls_next)
  (ls_seq (ls_for (li_rng1 (la_cons (le_varS (i := 3)) la_nil)) (lg_name (i := 4))
  (ls_if (lt_and (lt_test (le_op rs_ne (le_var (i := 2)) (le_lst la_nil))) (lt_test (le_op rs_eq (le_call (la_cons (le_varS (i := 0)) (la_cons (le_c rfl) la_nil))) (le_c rfl))))
  (ls_app (lp_var (i := 2)) (le_opG rg_ix (le_var (i := 2)) (le_call (la_cons (le_varS (i := 0)) (la_cons (le_cbS rc_len (la_cons (le_var (i := 2)) la_nil)) la_nil)))))
  (ls_app (lp_var (i := 2)) (le_call (la_cons (le_varS (i := 0)) (la_cons (le_varS (i := 1)) la_nil))))))
  (ls_retM (i := 2)))))))⟩
end
def B__law_bad_pair (Z : Ad) : FS := (dSeq (dBind [] (dCall [] (F__law_draw Z) (dCons (dVarS 0) (dCons (dC (.int 4)) dNil))) (dNameF 2))
  (dSeq (dBind [] (dCall [] (F__law_draw Z) (dCons (dVarS 0) (dCons (dVarS 1) dNil))) (dNameF 3))
  (dSeq (dIfS (dTest (dOp gEq (dVarS 2) (dC (.int 0))))
  (dRet [] (dTup (dCons (dVarS 3) (dCons (dVarS 3) dNil))))
  dNext)
  (dSeq (dBind [] (dCall [] (F__law_stranger Z) (dCons (dVarS 0) (dCons (dVarS 1) dNil))) (dNameF 4))
  (dSeq (dIfS (dTest (dOp gEq (dVarS 2) (dC (.int 1))))
  (dRet [] (dTup (dCons (dVarS 3) (dCons (dVarS 4) dNil))))
  dNext)
  (dSeq (dIfS (dTest (dOp gEq (dVarS 2) (dC (.int 2))))
  (dRet [] (dTup (dCons (dVarS 4) (dCons (dVarS 3) dNil))))
  dNext)
  (dRet [] (dTup (dCons (dVarS 4) (dCons (dCall [] (F__law_stranger Z) (dCons (dVarS 0) (dCons (dVarS 1) dNil))) dNil))))))))))
def F__law_bad_pair (Z : Ad) : DF := bodyN (B__law_bad_pair Z) [] 2 3
section
variable {Γ : GS} {P : Program} {w : World} {K : PySem.W.Frag} {mg : Str → Option Value} {base : Heap} {Z : Ad}
theorem ok__law_bad_pair (G : Glo K mg Z) {f : Addr} {fd : FuncData} (F : Fun K "_law_bad_pair" "_law_bad_pair" s__law_bad_pair f fd) (h__law_draw : HX P w K mg base "_law_draw" 1 (spP Γ (F__law_draw Z))) (h__law_stranger : HX P w K mg base "_law_stranger" 3 (spP Γ (F__law_stranger Z))) : FnX P w K mg base 4 f fd ["_law_box_here", "_law_count_here"] (spP Γ (F__law_bad_pair Z)) :=
  okP F sc__law_bad_pair rfl rfl fun cdv A outer s H E hr => ⟨_, (pss_cons (ps_set (i := 2) sc__law_bad_pair.nd rfl (.inl rfl) (px_fn E (passE rfl rfl rfl rfl) h__law_draw (hr.mono (by decide)) (by rfl) (pa_cons (pv 0) (pa_cons pe_int pa_nil))))
  (pss_cons (ps_set (i := 3) sc__law_bad_pair.nd rfl (.inl rfl) (px_fn E (passE rfl rfl rfl rfl) h__law_draw (hr.mono (by decide)) (by rfl) (pa_cons (pv 0) (pa_cons (pv 1) pa_nil))))
  (pss_cons (ps_if (pt_cmpR (eq_K K hr.units) (pv 2) pe_int (nomark _)) (pss_one (ps_ret (pe_tup (pa_cons (pv 3) (pa_cons (pv 3) pa_nil))))) pss_nil)
  (pss_cons (ps_set (i := 4) sc__law_bad_pair.nd rfl (.inl rfl) (px_fn E (passE rfl rfl rfl rfl) h__law_stranger (hr.mono (by decide)) (by rfl) (pa_cons (pv 0) (pa_cons (pv 1) pa_nil))))
  (pss_cons (ps_if (pt_cmpR (eq_K K hr.units) (pv 2) pe_int (nomark _)) (pss_one (ps_ret (pe_tup (pa_cons (pv 3) (pa_cons (pv 4) pa_nil))))) pss_nil)
  (pss_cons (ps_if (pt_cmpR (eq_K K hr.units) (pv 2) pe_int (nomark _)) (pss_one (ps_ret (pe_tup (pa_cons (pv 4) (pa_cons (pv 3) pa_nil))))) pss_nil)
  (pss_one (ps_ret (pe_tup (pa_cons (pv 4) (pa_cons (px_fn E (passE rfl rfl rfl rfl) h__law_stranger (hr.mono (by decide)) (by rfl) (pa_cons (pv 0) (pa_cons (pv 1) pa_nil))) pa_nil))))))))))),
  (ls_seq (ls_bind (le_call (la_cons (le_varS (i := 0)) (la_cons (le_c rfl) la_nil))) (lg_nameF (i := 2)))
  (ls_seq (ls_bind (le_call (la_cons (le_varS (i := 0)) (la_cons (le_varS (i := 1)) la_nil))) (lg_nameF (i := 3)))
  (ls_seq (ls_if (lt_test (le_op rs_eq (le_varS (i := 2)) (le_c rfl)))
  (ls_ret (le_tup (la_cons (le_varS (i := 3)) (la_cons (le_varS (i := 3)) la_nil))))
  ls_next)
  (ls_seq (ls_bind (le_call (la_cons (le_varS (i := 0)) (la_cons (le_varS (i := 1)) la_nil))) (lg_nameF (i := 4)))
  (ls_seq (ls_if (lt_test (le_op rs_eq (le_varS (i := 2)) (le_c rfl)))
  (ls_ret (le_tup (la_cons (le_varS (i := 3)) (la_cons (le_varS (i := 4)) la_nil))))
  ls_next)
  (ls_seq (ls_if (lt_test (le_op rs_eq (le_varS (i := 2)) (le_c rfl)))
  (ls_ret (le_tup (la_cons (le_varS (i := 4)) (la_cons (le_varS (i := 3)) la_nil))))
  ls_next)
  (ls_ret (le_tup (la_cons (le_varS (i := 4)) (la_cons (le_call (la_cons (le_varS (i := 0)) (la_cons (le_varS (i := 1)) la_nil))) la_nil))))))))))⟩
end
def B__law_spoilt (Z : Ad) : FS := (dSeq (dBind [] (dCBG gList (dCons (dVarS 2) dNil)) (dName 3))
  (dSeq (dFor (dRng1 (dCons (dOpG gAdd (dC (.int 1)) (dCall [] (F__law_draw Z) (dCons (dVarS 0) (dCons (dC (.int 2)) dNil)))) dNil)) [] (dName 4)
  (dSeq (dBind [] (dCall [] (F__law_draw Z) (dCons (dVarS 0) (dCons (dOpG gAdd (dCB gLen (dCons (dVar 3) dNil)) (dC (.int 1))) dNil))) (dNameF 5))
  (dIns 3 (dPv 3) (dVarS 5) [] (dCall [] (F__law_bad_pair Z) (dCons (dVarS 0) (dCons (dVarS 1) dNil))))))
  (dRetM 3)))
def F__law_spoilt (Z : Ad) : DF := bodyN (B__law_spoilt Z) [] 3 3
section
variable {Γ : GS} {P : Program} {w : World} {K : PySem.W.Frag} {mg : Str → Option Value} {base : Heap} {Z : Ad}
theorem ok__law_spoilt (G : Glo K mg Z) {f : Addr} {fd : FuncData} (F : Fun K "_law_spoilt" "_law_spoilt" s__law_spoilt f fd) (h__law_draw : HX P w K mg base "_law_draw" 1 (spP Γ (F__law_draw Z))) (h__law_bad_pair : HX P w K mg base "_law_bad_pair" 4 (spP Γ (F__law_bad_pair Z))) : FnX P w K mg base 5 f fd ["_law_box_here", "_law_count_here", "_law_pairs"] (spP Γ (F__law_spoilt Z)) :=
  okP F sc__law_spoilt rfl rfl fun cdv A outer s H E hr => ⟨_, (pss_cons (ps_set (i := 3) sc__law_spoilt.nd rfl (.inl rfl) (pe_callTy (lst_K K) (by rfl) G.g_list (by decide +kernel) (pa_cons (pv 2) pa_nil)))
  (pss_cons (ps_for (passes_of rfl) rfl (pi_range1 (by rfl) G.g_range (pa_cons (pe_op op_addA pe_int (px_fn E (passE rfl rfl rfl rfl) h__law_draw (hr.mono (by decide)) (by rfl) (pa_cons (pv 0) (pa_cons pe_int pa_nil)))) pa_nil)) (pg_name (i := 4) (by exact sc__law_spoilt.nd) rfl (.inl rfl)) (pss_cons (ps_set (i := 5) sc__law_spoilt.nd rfl (.inl rfl) (px_fn E (passE rfl rfl rfl rfl) h__law_draw (hr.mono (by decide)) (by rfl) (pa_cons (pv 0) (pa_cons (pe_op op_addA (pe_callB (len_K K) (by rfl) G.g_len (by decide +kernel) (pa_cons (pv 3) pa_nil)) pe_int) pa_nil))))
  (pss_one (ps_expr (bm_K K PySem.F.plainAttrs_list PySem.F.slot_list_insert PySem.F.type_list_insert mt_ins (pv 3) (pa_cons (pv 5) (pa_cons (px_fn E (passE rfl rfl rfl rfl) h__law_bad_pair (hr.mono (by decide)) (by rfl) (pa_cons (pv 0) (pa_cons (pv 1) pa_nil))) pa_nil)))))))
  (pss_one (ps_ret (pv 3))))),
  (ls_seq (ls_bind (le_cbG rc_list (la_cons (le_varS (i := 2)) la_nil)) (lg_name (i := 3)))
  (ls_seq (ls_for (li_rng1 (la_cons (le_opG rg_add (le_c rfl) (le_call (la_cons (le_varS (i := 0)) (la_cons (le_c rfl) la_nil)))) la_nil)) (lg_name (i := 4))
  (ls_seq (ls_bind (le_call (la_cons (le_varS (i := 0)) (la_cons (le_opG rg_add (le_cbS rc_len (la_cons (le_var (i := 3)) la_nil)) (le_c rfl)) la_nil))) (lg_nameF (i := 5)))
  (ls_ins (lp_var (i := 3)) (le_varS (i := 5)) (le_call (la_cons (le_varS (i := 0)) (la_cons (le_varS (i := 1)) la_nil))))))
  (ls_retM (i := 3))))⟩
end
def B__law_first_bad (Z : Ad) : FS := (dSeq (dFor (dIl (dVarS 1)) [] (dName 2)
  (dSeq (dBind [] (dAndV (dChain gLe gLt (dC (.int 0)) (dOpG gIx (dVarS 2) (dC (.int 0))) (dVarS 0)) (dChain gLe gLt (dC (.int 0)) (dOpG gIx (dVarS 2) (dC (.int 1))) (dVarS 0))) (dNameF 3))
  (dIfS (dOr (dNot (dTru (dVarS 3))) (dTest (dOp gEq (dOpG gIx (dVarS 2) (dC (.int 0))) (dOpG gIx (dVarS 2) (dC (.int 1))))))
  (dRet [] (dVarS 2))
  dNext)))
  (dRet [] (dC .non)))
def F__law_first_bad (Z : Ad) : DF := bodyN (B__law_first_bad Z) [] 2 2
section
variable {Γ : GS} {P : Program} {w : World} {K : PySem.W.Frag} {mg : Str → Option Value} {base : Heap} {Z : Ad}
theorem ok__law_first_bad (G : Glo K mg Z) {f : Addr} {fd : FuncData} (F : Fun K "_law_first_bad" "_law_first_bad" s__law_first_bad f fd) : FnX P w K mg base 1 f fd ["_law_count_here", "_law_pairs"] (spP Γ (F__law_first_bad Z)) :=
  okP F sc__law_first_bad rfl rfl fun cdv A outer s H E hr => ⟨_, (pss_cons (ps_for (passes_of rfl) rfl (pi_lstK K (pv 1)) (pg_name (i := 2) (by exact sc__law_first_bad.nd) rfl (.inl rfl)) (pss_cons (ps_set (i := 3) sc__law_first_bad.nd rfl (.inl rfl) (pe_and (pe_chain (op_le) (op_lt) pe_int (pe_ix (ixA_K K hr) (pv 2) pe_int (fun _ _ => rfl)) (pv 0)) (pe_one (pe_chain (op_le) (op_lt) pe_int (pe_ix (ixA_K K hr) (pv 2) pe_int (fun _ _ => rfl)) (pv 0)))))
  (pss_one (ps_if (PW.pt (pw_or (pt_not (tru_K K (pv 3) (by intro _; rfl))) (pw_or1 (pt_cmpR (eq_K K hr.units) (pe_ix (ixA_K K hr) (pv 2) pe_int (fun _ _ => rfl)) (pe_ix (ixA_K K hr) (pv 2) pe_int (fun _ _ => rfl)) (nomark _))))) (pss_one (ps_ret (pv 2))) pss_nil))))
  (pss_one (ps_ret pe_non))),
  (ls_seq (ls_for (li_lst (le_varS (i := 1))) (lg_name (i := 2))
  (ls_seq (ls_bind (le_andV (le_chain rs_cmp rs_cmp (le_c rfl) (le_opG rg_ix (le_varS (i := 2)) (le_c rfl)) (le_varS (i := 0))) (le_chain rs_cmp rs_cmp (le_c rfl) (le_opG rg_ix (le_varS (i := 2)) (le_c rfl)) (le_varS (i := 0)))) (lg_nameF (i := 3)))
  (ls_if (lt_or (lt_not (lt_tru (le_varS (i := 3)))) (lt_test (le_op rs_eq (le_opG rg_ix (le_varS (i := 2)) (le_c rfl)) (le_opG rg_ix (le_varS (i := 2)) (le_c rfl)))))
  (ls_ret (le_varS (i := 2)))
  ls_next)))
  (ls_ret (le_c rfl)))⟩
end
def B__law_table (Z : Ad) : FS := (dSeq (dBind [] (dOpG gMul (dLst (dCons (dC (.int 0)) dNil)) (dOpG gMul (dVarS 0) (dVarS 0))) (dName 3))
  (dSeq (dFor (dIl (dVarS 1)) [] (dName 4)
  (dSeq (dSetI 3 (dPv 3) [] (dC (.int 1)) (dOpG gAdd (dOpG gMul (dOpG gIx (dVarS 4) (dC (.int 0))) (dVarS 0)) (dOpG gIx (dVarS 4) (dC (.int 1)))))
  (dIfS (dTru (dVarS 2))
  (dSetI 3 (dPv 3) [] (dC (.int 1)) (dOpG gAdd (dOpG gMul (dOpG gIx (dVarS 4) (dC (.int 1))) (dVarS 0)) (dOpG gIx (dVarS 4) (dC (.int 0)))))
  dNext)))
  (dRetM 3)))
def F__law_table (Z : Ad) : DF := bodyN (B__law_table Z) [] 3 2
section
variable {Γ : GS} {P : Program} {w : World} {K : PySem.W.Frag} {mg : Str → Option Value} {base : Heap} {Z : Ad}
theorem ok__law_table (G : Glo K mg Z) {f : Addr} {fd : FuncData} (F : Fun K "_law_table" "_law_table" s__law_table f fd) : FnX P w K mg base 1 f fd ["_law_count_here", "_law_pairs", "_law_both"] (spP Γ (F__law_table Z)) :=
  okP F sc__law_table rfl rfl fun cdv A outer s H E hr => ⟨_, (pss_cons (ps_set (i := 3) sc__law_table.nd rfl (.inl rfl) (pe_op op_mulA (pe_lst (pa_cons pe_int pa_nil)) (pe_op op_mulA (pv 0) (pv 0))))
  (pss_cons (ps_for (passes_of rfl) rfl (pi_lstK K (pv 1)) (pg_name (i := 4) (by exact sc__law_table.nd) rfl (.inl rfl)) (pss_cons (ps_asg pe_int (pg_sub (pv 3) (pe_op op_addA (pe_op op_mulA (pe_ix (ixA_K K hr) (pv 4) pe_int (fun _ _ => rfl)) (pv 0)) (pe_ix (ixA_K K hr) (pv 4) pe_int (fun _ _ => rfl))) (setA hr)))
  (pss_one (ps_if (tru_K K (pv 2) (by intro _; rfl)) (pss_one (ps_asg pe_int (pg_sub (pv 3) (pe_op op_addA (pe_op op_mulA (pe_ix (ixA_K K hr) (pv 4) pe_int (fun _ _ => rfl)) (pv 0)) (pe_ix (ixA_K K hr) (pv 4) pe_int (fun _ _ => rfl))) (setA hr)))) pss_nil))))
  (pss_one (ps_ret (pv 3))))),
  (ls_seq (ls_bind (le_opG rg_mul (le_lst (la_cons (le_c rfl) la_nil)) (le_opG rg_mul (le_varS (i := 0)) (le_varS (i := 0)))) (lg_name (i := 3)))
  (ls_seq (ls_for (li_lst (le_varS (i := 1))) (lg_name (i := 4))
  (ls_seq (ls_setI (lp_var (i := 3)) (le_c rfl) (le_opG rg_add (le_opG rg_mul (le_opG rg_ix (le_varS (i := 4)) (le_c rfl)) (le_varS (i := 0))) (le_opG rg_ix (le_varS (i := 4)) (le_c rfl))))
  (ls_if (lt_tru (le_varS (i := 2)))
  (ls_setI (lp_var (i := 3)) (le_c rfl) (le_opG rg_add (le_opG rg_mul (le_opG rg_ix (le_varS (i := 4)) (le_c rfl)) (le_varS (i := 0))) (le_opG rg_ix (le_varS (i := 4)) (le_c rfl))))
  ls_next)))
  (ls_retM (i := 3))))⟩
end
def B__law_ties (Z : Ad) : FS := (dSeq (dBind [] (dLst dNil) (dName 2))
  (dSeq (dFor (dRng1 (dCons (dVarS 0) dNil)) [] (dName 3)
  (dFor (dRng1 (dCons (dVarS 0) dNil)) [] (dName 4)
  (dIfS (dTest (dOp gEq (dOpG gIx (dVarS 1) (dOpG gAdd (dOpG gMul (dVarS 3) (dVarS 0)) (dVarS 4))) (dC (.int 1))))
  (dApp 2 (dPv 2) [] (dTup (dCons (dVarS 3) (dCons (dVarS 4) dNil))))
  dNext)))
  (dRetM 2)))
def F__law_ties (Z : Ad) : DF := bodyN (B__law_ties Z) [] 2 3
section
variable {Γ : GS} {P : Program} {w : World} {K : PySem.W.Frag} {mg : Str → Option Value} {base : Heap} {Z : Ad}
theorem ok__law_ties (G : Glo K mg Z) {f : Addr} {fd : FuncData} (F : Fun K "_law_ties" "_law_ties" s__law_ties f fd) : FnX P w K mg base 1 f fd ["_law_count_here", "_law_table_here"] (spP Γ (F__law_ties Z)) :=
  okP F sc__law_ties rfl rfl fun cdv A outer s H E hr => ⟨_, (pss_cons (ps_set (i := 2) sc__law_ties.nd rfl (.inl rfl) (pe_lst pa_nil))
  (pss_cons (ps_for (passes_of rfl) rfl (pi_range1 (by rfl) G.g_range (pa_cons (pv 0) pa_nil)) (pg_name (i := 3) (by exact sc__law_ties.nd) rfl (.inl rfl)) (pss_one (ps_for (passes_of rfl) rfl (pi_range1 (by rfl) G.g_range (pa_cons (pv 0) pa_nil)) (pg_name (i := 4) (by exact sc__law_ties.nd) rfl (.inl rfl)) (pss_one (ps_if (pt_cmpR (eq_K K hr.units) (pe_ix (ixA_K K hr) (pv 1) (pe_op op_addA (pe_op op_mulA (pv 3) (pv 0)) (pv 4)) (fun _ _ => rfl)) pe_int (nomark _)) (pss_one (ps_expr (bm_K K PySem.F.plainAttrs_list PySem.F.slot_list_append PySem.F.type_list_append mt_append (pv 2) (pa_cons (pe_tup (pa_cons (pv 3) (pa_cons (pv 4) pa_nil))) pa_nil)))) pss_nil)))))
  (pss_one (ps_ret (pv 2))))),
  (ls_seq (ls_bind (le_lst la_nil) (lg_name (i := 2)))
  (ls_seq (ls_for (li_rng1 (la_cons (le_varS (i := 0)) la_nil)) (lg_name (i := 3))
  (ls_for (li_rng1 (la_cons (le_varS (i := 0)) la_nil)) (lg_name (i := 4))
  (ls_if (lt_test (le_op rs_eq (le_opG rg_ix (le_varS (i := 1)) (le_opG rg_add (le_opG rg_mul (le_varS (i := 3)) (le_varS (i := 0))) (le_varS (i := 4)))) (le_c rfl)))
  (ls_app (lp_var (i := 2)) (le_tup (la_cons (le_varS (i := 3)) (la_cons (le_varS (i := 4)) la_nil))))
  ls_next)))
  (ls_retM (i := 2))))⟩
end
def B__law_call (Z : Ad) : FS := (dSeq (dIfS (dTest (dOp gEq (dVarS 0) (dC (.int 0))))
  (dRet [] (dMake [] Z.Net (F_Net___init__ Z) (dCons (dVarS 1) (dCons (dVarS 2) dNil))))
  dNext)
  (dSeq (dIfS (dTest (dOp gEq (dVarS 0) (dC (.int 1))))
  (dRet [] (dCMeth [] Z.Net (F_Net_both_ways Z) (dC (.adr Z.Net)) (dCons (dVarS 1) (dCons (dVarS 2) dNil))))
  dNext)
  (dSeq (dIfS (dTest (dOp gEq (dVarS 0) (dC (.int 2))))
  (dRet [] (dCMeth [] Z.Net (F_Net_line Z) (dC (.adr Z.Net)) (dCons (dVarS 1) dNil)))
  dNext)
  (dSeq (dIfS (dTest (dOp gEq (dVarS 0) (dC (.int 3))))
  (dRet [] (dCMeth [] Z.Net (F_Net_star Z) (dC (.adr Z.Net)) (dCons (dVarS 1) dNil)))
  dNext)
  (dSeq (dIfS (dTest (dOp gEq (dVarS 0) (dC (.int 4))))
  (dRet [] (dCMeth [] Z.Net (F_Net_complete Z) (dC (.adr Z.Net)) (dCons (dVarS 1) dNil)))
  dNext)
  (dRet [] (dCMeth [] Z.Net (F_Net_ring Z) (dC (.adr Z.Net)) (dCons (dVarS 1) dNil))))))))
def F__law_call (Z : Ad) : DF := bodyN (B__law_call Z) [] 3 0
section
variable {Γ : GS} {P : Program} {w : World} {K : PySem.W.Frag} {mg : Str → Option Value} {base : Heap} {Z : Ad}
theorem ok__law_call (G : Glo K mg Z) {f : Addr} {fd : FuncData} (F : Fun K "_law_call" "_law_call" s__law_call f fd) (h_Net___init__ : HIX P w K mg base Z.Net 4 (spM Γ [0] (F_Net___init__ Z))) (h_Net_both_ways : HCX P w K mg base Z.Net "both_ways" 6 (spP Γ (F_Net_both_ways Z))) (h_Net_line : HCX P w K mg base Z.Net "line" 7 (spP Γ (F_Net_line Z))) (h_Net_star : HCX P w K mg base Z.Net "star" 7 (spP Γ (F_Net_star Z))) (h_Net_complete : HCX P w K mg base Z.Net "complete" 7 (spP Γ (F_Net_complete Z))) (h_Net_ring : HCX P w K mg base Z.Net "ring" 6 (spP Γ (F_Net_ring Z))) : FnX P w K mg base 8 f fd ["_law_way", "_law_count_here", "_law_pairs"] (spP Γ (F__law_call Z)) :=
  okP F sc__law_call rfl rfl fun cdv A outer s H E hr => ⟨_, (pss_cons (ps_if (pt_cmpR (eq_K K hr.units) (pv 0) pe_int (nomark _)) (pss_one (ps_ret (px_i E (passE rfl rfl rfl rfl) h_Net___init__ G.m_Net (hr.mono (by decide)) (by rfl) (pa_cons (pv 1) (pa_cons (pv 2) pa_nil))))) pss_nil)
  (pss_cons (ps_if (pt_cmpR (eq_K K hr.units) (pv 0) pe_int (nomark _)) (pss_one (ps_ret (px_c E (passE rfl rfl rfl rfl) h_Net_both_ways (hr.mono (by decide)) (pe_clsN G.m_Net (by rfl)) (pa_cons (pv 1) (pa_cons (pv 2) pa_nil))))) pss_nil)
  (pss_cons (ps_if (pt_cmpR (eq_K K hr.units) (pv 0) pe_int (nomark _)) (pss_one (ps_ret (px_c E (passE rfl rfl rfl rfl) h_Net_line (hr.mono (by decide)) (pe_clsN G.m_Net (by rfl)) (pa_cons (pv 1) pa_nil)))) pss_nil)
  (pss_cons (ps_if (pt_cmpR (eq_K K hr.units) (pv 0) pe_int (nomark _)) (pss_one (ps_ret (px_c E (passE rfl rfl rfl rfl) h_Net_star (hr.mono (by decide)) (pe_clsN G.m_Net (by rfl)) (pa_cons (pv 1) pa_nil)))) pss_nil)
  (pss_cons (ps_if (pt_cmpR (eq_K K hr.units) (pv 0) pe_int (nomark _)) (pss_one (ps_ret (px_c E (passE rfl rfl rfl rfl) h_Net_complete (hr.mono (by decide)) (pe_clsN G.m_Net (by rfl)) (pa_cons (pv 1) pa_nil)))) pss_nil)
  (pss_one (ps_ret (px_c E (passE rfl rfl rfl rfl) h_Net_ring (hr.mono (by decide)) (pe_clsN G.m_Net (by rfl)) (pa_cons (pv 1) pa_nil))))))))),
  (ls_seq (ls_if (lt_test (le_op rs_eq (le_varS (i := 0)) (le_c rfl)))
  (ls_ret (le_make (la_cons (le_varS (i := 1)) (la_cons (le_varS (i := 2)) la_nil))))
  ls_next)
  (ls_seq (ls_if (lt_test (le_op rs_eq (le_varS (i := 0)) (le_c rfl)))
  (ls_ret (le_cmeth (le_c rfl) (la_cons (le_varS (i := 1)) (la_cons (le_varS (i := 2)) la_nil))))
  ls_next)
  (ls_seq (ls_if (lt_test (le_op rs_eq (le_varS (i := 0)) (le_c rfl)))
  (ls_ret (le_cmeth (le_c rfl) (la_cons (le_varS (i := 1)) la_nil)))
  ls_next)
  (ls_seq (ls_if (lt_test (le_op rs_eq (le_varS (i := 0)) (le_c rfl)))
  (ls_ret (le_cmeth (le_c rfl) (la_cons (le_varS (i := 1)) la_nil)))
  ls_next)
  (ls_seq (ls_if (lt_test (le_op rs_eq (le_varS (i := 0)) (le_c rfl)))
  (ls_ret (le_cmeth (le_c rfl) (la_cons (le_varS (i := 1)) la_nil)))
  ls_next)
  (ls_ret (le_cmeth (le_c rfl) (la_cons (le_varS (i := 1)) la_nil))))))))⟩
end
def B__law_made (Z : Ad) : FS := (dTryAs (tab_StoreError Z) 3 (dRet [] (dTup (dCons (dC (.bl true)) (dCons (dCall [] (F__law_call Z) (dCons (dVarS 0) (dCons (dVarS 1) (dCons (dVarS 2) dNil)))) dNil)))) (fun ea ec ed => (dSeq (dBind [] (dLst (dCons (dCB (gIsD ea ec ed (tab_InvalidNet Z) (.adr Z.InvalidNet)) (dCons (dVarS 3) (dCons (dC (.adr Z.InvalidNet)) dNil))) (dCons (dCB (gIsD ea ec ed (tab_NotLinked Z) (.adr Z.NotLinked)) (dCons (dVarS 3) (dCons (dC (.adr Z.NotLinked)) dNil))) (dCons (dCB (gIsD ea ec ed (tab_UnknownReplica Z) (.adr Z.UnknownReplica)) (dCons (dVarS 3) (dCons (dC (.adr Z.UnknownReplica)) dNil))) dNil)))) (dNameF 4))
  (dSeq (dIfS (dOr (dTest (dOp gNe (dVarS 4) (dLst (dCons (dC (.bl true)) (dCons (dC (.bl false)) (dCons (dC (.bl false)) dNil)))))) (dNot (dTru (dCB (gIsD ea ec ed (tab_ValueError Z) (.ty "ValueError")) (dCons (dVarS 3) (dCons (dC (.ty "ValueError")) dNil))))))
  (dRet [] (dTup (dCons (dC (.bl false)) (dCons (dC (.bl false)) (dCons (dC .non) dNil)))))
  dNext)
  (dRet [] (dTup (dCons (dC (.bl false)) (dCons (dC (.bl true)) (dCons (dXf ea ec ed [Z.InvalidNet] 3 "link") dNil)))))))))
def F__law_made (Z : Ad) : DF := bodyN (B__law_made Z) [] 3 2
section
variable {Γ : GS} {P : Program} {w : World} {K : PySem.W.Frag} {mg : Str → Option Value} {base : Heap} {Z : Ad}
theorem ok__law_made (G : Glo K mg Z) {f : Addr} {fd : FuncData} (F : Fun K "_law_made" "_law_made" s__law_made f fd) (h__law_call : HX P w K mg base "_law_call" 8 (spP Γ (F__law_call Z))) : FnX P w K mg base 9 f fd ["_law_way", "_law_count_here", "_law_pairs"] (spP Γ (F__law_made Z)) :=
  okP F sc__law_made rfl rfl fun cdv A outer s H E hr => ⟨_, (pss_one (L2N.ps_try_as (i := 3) rfl rfl sc__law_made.nd rfl rfl ⟨by rfl, by decide, .inl G.m_StoreError⟩ (L2N.takes_of rfl rfl rfl rfl) (fun W pn xe hk hps => (pss_one (ps_ret (pe_tup (pa_cons pe_bl (pa_cons (px_fnS hk h__law_call (hr.mono (by decide)) (by rfl) (pa_cons (pv 0) (pa_cons (pv 1) (pa_cons (pv 2) pa_nil)))) pa_nil)))))) (fun ea oe ec ed pn hz hf => (pss_cons (ps_set (i := 4) sc__law_made.nd rfl (.inl rfl) (pe_lst (pa_cons (pe_callB (PX.call_isD hz.zc hf) (by rfl) G.g_isinstance (by decide +kernel) (pa_cons (pv 3) (pa_cons (pe_clsN G.m_InvalidNet (by rfl)) pa_nil))) (pa_cons (pe_callB (PX.call_isD hz.zc hf) (by rfl) G.g_isinstance (by decide +kernel) (pa_cons (pv 3) (pa_cons (pe_clsN G.m_NotLinked (by rfl)) pa_nil))) (pa_cons (pe_callB (PX.call_isD hz.zc hf) (by rfl) G.g_isinstance (by decide +kernel) (pa_cons (pv 3) (pa_cons (pe_clsN G.m_UnknownReplica (by rfl)) pa_nil))) pa_nil)))))
  (pss_cons (ps_if (PW.pt (pw_or (pt_cmpR (ne_K K (suite_units hr)) (pv 4) (pe_lst (pa_cons pe_bl (pa_cons pe_bl (pa_cons pe_bl pa_nil)))) (nomark _)) (pw_or1 (pt_not (tru_K K (pe_callB (PX.call_isD hz.zc hf) (by rfl) G.g_isinstance (by decide +kernel) (pa_cons (pv 3) (pa_cons (pe_bltn (v := .ty "ValueError") (by rfl) G.g_ValueError (by decide +kernel) rfl) pa_nil))) (by intro _; rfl)))))) (pss_one (ps_ret (pe_tup (pa_cons pe_bl (pa_cons pe_bl (pa_cons pe_non pa_nil)))))) pss_nil)
  (pss_one (ps_ret (pe_tup (pa_cons pe_bl (pa_cons pe_bl (pa_cons (pe_xfs G.xf_link hz.zc hf (pv 3)) pa_nil))))))))))),
  (ls_tryAs (i := 3) (fun W => (ls_ret (le_tup (la_cons (le_c rfl) (la_cons (le_callS (la_cons (le_varS (i := 0)) (la_cons (le_varS (i := 1)) (la_cons (le_varS (i := 2)) la_nil)))) la_nil))))) (fun ea ec ed => (ls_seq (ls_bind (le_lst (la_cons (le_cbS (rc_isD rfl (fun _ z => by exact z) G.i_InvalidNet) (la_cons (le_varS (i := 3)) (la_cons (le_c rfl) la_nil))) (la_cons (le_cbS (rc_isD rfl (fun _ z => by exact z) G.i_NotLinked) (la_cons (le_varS (i := 3)) (la_cons (le_c rfl) la_nil))) (la_cons (le_cbS (rc_isD rfl (fun _ z => by exact z) G.i_UnknownReplica) (la_cons (le_varS (i := 3)) (la_cons (le_c rfl) la_nil))) la_nil)))) (lg_nameF (i := 4)))
  (ls_seq (ls_if (lt_or (lt_test (le_op rs_ne (le_varS (i := 4)) (le_lst (la_cons (le_c rfl) (la_cons (le_c rfl) (la_cons (le_c rfl) la_nil)))))) (lt_not (lt_tru (le_cbS (rc_isD rfl (fun _ z => by exact z) G.i_ValueError) (la_cons (le_varS (i := 3)) (la_cons (le_c rfl) la_nil))))))
  (ls_ret (le_tup (la_cons (le_c rfl) (la_cons (le_c rfl) (la_cons (le_c rfl) la_nil)))))
  ls_next)
  (ls_ret (le_tup (la_cons (le_c rfl) (la_cons (le_c rfl) (la_cons le_xf la_nil)))))))) G.e_StoreError)⟩
end
def B__law_changed (Z : Ad) : FS := (dSeq (dIfS (dTru (dVarS 0))
  (dRet [] (dMeth [] Z.Net "with_link" (F_Net_with_link Z) (dVarS 1) (dCons (dOpG gIx (dVarS 2) (dC (.int 0))) (dCons (dOpG gIx (dVarS 2) (dC (.int 1))) dNil))))
  dNext)
  (dRet [] (dMeth [] Z.Net "without_link" (F_Net_without_link Z) (dVarS 1) (dCons (dOpG gIx (dVarS 2) (dC (.int 0))) (dCons (dOpG gIx (dVarS 2) (dC (.int 1))) dNil)))))
def F__law_changed (Z : Ad) : DF := bodyN (B__law_changed Z) [] 3 0
section
variable {Γ : GS} {P : Program} {w : World} {K : PySem.W.Frag} {mg : Str → Option Value} {base : Heap} {Z : Ad}
theorem ok__law_changed (G : Glo K mg Z) {f : Addr} {fd : FuncData} (F : Fun K "_law_changed" "_law_changed" s__law_changed f fd) (h_Net_with_link : HMX P w K mg base Z.Net "with_link" 6 (spP Γ (F_Net_with_link Z))) (h_Net_without_link : HMX P w K mg base Z.Net "without_link" 6 (spP Γ (F_Net_without_link Z))) : FnX P w K mg base 7 f fd ["_law_adds", "_law_net", "_law_pair_here"] (spP Γ (F__law_changed Z)) :=
  okP F sc__law_changed rfl rfl fun cdv A outer s H E hr => ⟨_, (pss_cons (ps_if (tru_K K (pv 0) (by intro _; rfl)) (pss_one (ps_ret (px_m E (passE rfl rfl rfl rfl) h_Net_with_link G.c_Net (hr.mono (by decide)) (pv 1) (pa_cons (pe_ix (ixA_K K hr) (pv 2) pe_int (fun _ _ => rfl)) (pa_cons (pe_ix (ixA_K K hr) (pv 2) pe_int (fun _ _ => rfl)) pa_nil))))) pss_nil)
  (pss_one (ps_ret (px_m E (passE rfl rfl rfl rfl) h_Net_without_link G.c_Net (hr.mono (by decide)) (pv 1) (pa_cons (pe_ix (ixA_K K hr) (pv 2) pe_int (fun _ _ => rfl)) (pa_cons (pe_ix (ixA_K K hr) (pv 2) pe_int (fun _ _ => rfl)) pa_nil)))))),
  (ls_seq (ls_if (lt_tru (le_varS (i := 0)))
  (ls_ret (le_meth (le_varS (i := 1)) (la_cons (le_opG rg_ix (le_varS (i := 2)) (le_c rfl)) (la_cons (le_opG rg_ix (le_varS (i := 2)) (le_c rfl)) la_nil))))
  ls_next)
  (ls_ret (le_meth (le_varS (i := 1)) (la_cons (le_opG rg_ix (le_varS (i := 2)) (le_c rfl)) (la_cons (le_opG rg_ix (le_varS (i := 2)) (le_c rfl)) la_nil)))))⟩
end
def B__law_deed (Z : Ad) : FS := (dTryAs (tab_StoreError Z) 3 (dRet [] (dTup (dCons (dC (.bl true)) (dCons (dCall [] (F__law_changed Z) (dCons (dVarS 0) (dCons (dVarS 1) (dCons (dVarS 2) dNil)))) dNil)))) (fun ea ec ed => (dSeq (dBind [] (dLst (dCons (dCB (gIsD ea ec ed (tab_InvalidNet Z) (.adr Z.InvalidNet)) (dCons (dVarS 3) (dCons (dC (.adr Z.InvalidNet)) dNil))) (dCons (dCB (gIsD ea ec ed (tab_NotLinked Z) (.adr Z.NotLinked)) (dCons (dVarS 3) (dCons (dC (.adr Z.NotLinked)) dNil))) (dCons (dCB (gIsD ea ec ed (tab_UnknownReplica Z) (.adr Z.UnknownReplica)) (dCons (dVarS 3) (dCons (dC (.adr Z.UnknownReplica)) dNil))) dNil)))) (dNameF 4))
  (dSeq (dIfS (dOr (dTest (dOp gNe (dVarS 4) (dLst (dCons (dVarS 0) (dCons (dNotV (dVarS 0)) (dCons (dC (.bl false)) dNil)))))) (dNot (dTru (dCB (gIsD ea ec ed (tab_ValueError Z) (.ty "ValueError")) (dCons (dVarS 3) (dCons (dC (.ty "ValueError")) dNil))))))
  (dRet [] (dTup (dCons (dC (.bl false)) (dCons (dC (.bl false)) (dCons (dC .non) dNil)))))
  dNext)
  (dSeq (dIfS (dTru (dVarS 0))
  (dRet [] (dTup (dCons (dC (.bl false)) (dCons (dC (.bl true)) (dCons (dXf ea ec ed [Z.InvalidNet] 3 "link") dNil)))))
  dNext)
  (dRet [] (dTup (dCons (dC (.bl false)) (dCons (dC (.bl true)) (dCons (dTup (dCons (dXf ea ec ed [Z.NotLinked] 3 "source") (dCons (dXf ea ec ed [Z.NotLinked] 3 "reader") dNil))) dNil))))))))))
def F__law_deed (Z : Ad) : DF := bodyN (B__law_deed Z) [] 3 2
section
variable {Γ : GS} {P : Program} {w : World} {K : PySem.W.Frag} {mg : Str → Option Value} {base : Heap} {Z : Ad}
theorem ok__law_deed (G : Glo K mg Z) {f : Addr} {fd : FuncData} (F : Fun K "_law_deed" "_law_deed" s__law_deed f fd) (h__law_changed : HX P w K mg base "_law_changed" 7 (spP Γ (F__law_changed Z))) : FnX P w K mg base 8 f fd ["_law_adds", "_law_net", "_law_pair_here"] (spP Γ (F__law_deed Z)) :=
  okP F sc__law_deed rfl rfl fun cdv A outer s H E hr => ⟨_, (pss_one (L2N.ps_try_as (i := 3) rfl rfl sc__law_deed.nd rfl rfl ⟨by rfl, by decide, .inl G.m_StoreError⟩ (L2N.takes_of rfl rfl rfl rfl) (fun W pn xe hk hps => (pss_one (ps_ret (pe_tup (pa_cons pe_bl (pa_cons (px_fnS hk h__law_changed (hr.mono (by decide)) (by rfl) (pa_cons (pv 0) (pa_cons (pv 1) (pa_cons (pv 2) pa_nil)))) pa_nil)))))) (fun ea oe ec ed pn hz hf => (pss_cons (ps_set (i := 4) sc__law_deed.nd rfl (.inl rfl) (pe_lst (pa_cons (pe_callB (PX.call_isD hz.zc hf) (by rfl) G.g_isinstance (by decide +kernel) (pa_cons (pv 3) (pa_cons (pe_clsN G.m_InvalidNet (by rfl)) pa_nil))) (pa_cons (pe_callB (PX.call_isD hz.zc hf) (by rfl) G.g_isinstance (by decide +kernel) (pa_cons (pv 3) (pa_cons (pe_clsN G.m_NotLinked (by rfl)) pa_nil))) (pa_cons (pe_callB (PX.call_isD hz.zc hf) (by rfl) G.g_isinstance (by decide +kernel) (pa_cons (pv 3) (pa_cons (pe_clsN G.m_UnknownReplica (by rfl)) pa_nil))) pa_nil)))))
  (pss_cons (ps_if (PW.pt (pw_or (pt_cmpR (ne_K K (suite_units hr)) (pv 4) (pe_lst (pa_cons (pv 0) (pa_cons (pe_not (pv 0)) (pa_cons pe_bl pa_nil)))) (nomark _)) (pw_or1 (pt_not (tru_K K (pe_callB (PX.call_isD hz.zc hf) (by rfl) G.g_isinstance (by decide +kernel) (pa_cons (pv 3) (pa_cons (pe_bltn (v := .ty "ValueError") (by rfl) G.g_ValueError (by decide +kernel) rfl) pa_nil))) (by intro _; rfl)))))) (pss_one (ps_ret (pe_tup (pa_cons pe_bl (pa_cons pe_bl (pa_cons pe_non pa_nil)))))) pss_nil)
  (pss_cons (ps_if (tru_K K (pv 0) (by intro _; rfl)) (pss_one (ps_ret (pe_tup (pa_cons pe_bl (pa_cons pe_bl (pa_cons (pe_xfs G.xf_link hz.zc hf (pv 3)) pa_nil)))))) pss_nil)
  (pss_one (ps_ret (pe_tup (pa_cons pe_bl (pa_cons pe_bl (pa_cons (pe_tup (pa_cons (pe_xfs G.xf_source hz.zc hf (pv 3)) (pa_cons (pe_xfs G.xf_reader hz.zc hf (pv 3)) pa_nil))) pa_nil)))))))))))),
  (ls_tryAs (i := 3) (fun W => (ls_ret (le_tup (la_cons (le_c rfl) (la_cons (le_callS (la_cons (le_varS (i := 0)) (la_cons (le_varS (i := 1)) (la_cons (le_varS (i := 2)) la_nil)))) la_nil))))) (fun ea ec ed => (ls_seq (ls_bind (le_lst (la_cons (le_cbS (rc_isD rfl (fun _ z => by exact z) G.i_InvalidNet) (la_cons (le_varS (i := 3)) (la_cons (le_c rfl) la_nil))) (la_cons (le_cbS (rc_isD rfl (fun _ z => by exact z) G.i_NotLinked) (la_cons (le_varS (i := 3)) (la_cons (le_c rfl) la_nil))) (la_cons (le_cbS (rc_isD rfl (fun _ z => by exact z) G.i_UnknownReplica) (la_cons (le_varS (i := 3)) (la_cons (le_c rfl) la_nil))) la_nil)))) (lg_nameF (i := 4)))
  (ls_seq (ls_if (lt_or (lt_test (le_op rs_ne (le_varS (i := 4)) (le_lst (la_cons (le_varS (i := 0)) (la_cons (le_notV (le_varS (i := 0))) (la_cons (le_c rfl) la_nil)))))) (lt_not (lt_tru (le_cbS (rc_isD rfl (fun _ z => by exact z) G.i_ValueError) (la_cons (le_varS (i := 3)) (la_cons (le_c rfl) la_nil))))))
  (ls_ret (le_tup (la_cons (le_c rfl) (la_cons (le_c rfl) (la_cons (le_c rfl) la_nil)))))
  ls_next)
  (ls_seq (ls_if (lt_tru (le_varS (i := 0)))
  (ls_ret (le_tup (la_cons (le_c rfl) (la_cons (le_c rfl) (la_cons le_xf la_nil)))))
  ls_next)
  (ls_ret (le_tup (la_cons (le_c rfl) (la_cons (le_c rfl) (la_cons (le_tup (la_cons le_xf (la_cons le_xf la_nil))) la_nil))))))))) G.e_StoreError)⟩
end
def B__law_refused (Z : Ad) : FS := (dSeq (dIfS (dOr (dTru (dOpG gIx (dVarS 0) (dC (.int 0)))) (dNot (dTru (dOpG gIx (dVarS 0) (dC (.int 1))))))
  (dRet [] (dC (.bl false)))
  dNext)
  (dSeq (dIfS (dTest (dOp (gIs false) (dVarS 1) (dC .non)))
  (dRet [] (dOp (gIs false) (dOpG gIx (dVarS 0) (dC (.int 2))) (dC .non)))
  dNext)
  (dRet [] (dCall [] (F__law_is_pair Z) (dCons (dOpG gIx (dVarS 0) (dC (.int 2))) (dCons (dVarS 1) dNil))))))
def F__law_refused (Z : Ad) : DF := bodyN (B__law_refused Z) [] 2 0
section
variable {Γ : GS} {P : Program} {w : World} {K : PySem.W.Frag} {mg : Str → Option Value} {base : Heap} {Z : Ad}
theorem ok__law_refused (G : Glo K mg Z) {f : Addr} {fd : FuncData} (F : Fun K "_law_refused" "_law_refused" s__law_refused f fd) (h__law_is_pair : HX P w K mg base "_law_is_pair" 2 (spP Γ (F__law_is_pair Z))) : FnX P w K mg base 3 f fd ["_law_made_here", "_law_due"] (spP Γ (F__law_refused Z)) :=
  okP F sc__law_refused rfl rfl fun cdv A outer s H E hr => ⟨_, (pss_cons (ps_if (PW.pt (pw_or (tru_K K (pe_ix (ixA_K K hr) (pv 0) pe_int (fun _ _ => rfl)) (by intro _; rfl)) (pw_or1 (pt_not (tru_K K (pe_ix (ixA_K K hr) (pv 0) pe_int (fun _ _ => rfl)) (by intro _; rfl)))))) (pss_one (ps_ret pe_bl)) pss_nil)
  (pss_cons (ps_if (pt_cmpR op_isA (pv 1) pe_non (nomark _)) (pss_one (ps_ret (pe_cmpR op_isA (pe_ix (ixA_K K hr) (pv 0) pe_int (fun _ _ => rfl)) pe_non (nomark _)))) pss_nil)
  (pss_one (ps_ret (px_fn E (passE rfl rfl rfl rfl) h__law_is_pair (hr.mono (by decide)) (by rfl) (pa_cons (pe_ix (ixA_K K hr) (pv 0) pe_int (fun _ _ => rfl)) (pa_cons (pv 1) pa_nil))))))),
  (ls_seq (ls_if (lt_or (lt_tru (le_opG rg_ix (le_varS (i := 0)) (le_c rfl))) (lt_not (lt_tru (le_opG rg_ix (le_varS (i := 0)) (le_c rfl)))))
  (ls_ret (le_c rfl))
  ls_next)
  (ls_seq (ls_if (lt_test (le_op rs_is (le_varS (i := 1)) (le_c rfl)))
  (ls_ret (le_op rs_is (le_opG rg_ix (le_varS (i := 0)) (le_c rfl)) (le_c rfl)))
  ls_next)
  (ls_ret (le_call (la_cons (le_opG rg_ix (le_varS (i := 0)) (le_c rfl)) (la_cons (le_varS (i := 1)) la_nil))))))⟩
end
def B__law_row (Z : Ad) : FS := (dSeq (dIfS (dTest (dOp gEq (dVarS 1) (dC (.int 0))))
  (dRet [] (dMeth [] Z.Net "sources" (F_Net_sources Z) (dVarS 0) (dCons (dVarS 2) dNil)))
  dNext)
  (dRet [] (dMeth [] Z.Net "readers" (F_Net_readers Z) (dVarS 0) (dCons (dVarS 2) dNil))))
def F__law_row (Z : Ad) : DF := bodyN (B__law_row Z) [] 3 0
section
variable {Γ : GS} {P : Program} {w : World} {K : PySem.W.Frag} {mg : Str → Option Value} {base : Heap} {Z : Ad}
theorem ok__law_row (G : Glo K mg Z) {f : Addr} {fd : FuncData} (F : Fun K "_law_row" "_law_row" s__law_row f fd) (h_Net_sources : HMX P w K mg base Z.Net "sources" 3 (spP Γ (F_Net_sources Z))) (h_Net_readers : HMX P w K mg base Z.Net "readers" 3 (spP Γ (F_Net_readers Z))) : FnX P w K mg base 4 f fd ["_law_net", "_law_way", "_law_replica"] (spP Γ (F__law_row Z)) :=
  okP F sc__law_row rfl rfl fun cdv A outer s H E hr => ⟨_, (pss_cons (ps_if (pt_cmpR (eq_K K hr.units) (pv 1) pe_int (nomark _)) (pss_one (ps_ret (px_m E (passE rfl rfl rfl rfl) h_Net_sources G.c_Net (hr.mono (by decide)) (pv 0) (pa_cons (pv 2) pa_nil)))) pss_nil)
  (pss_one (ps_ret (px_m E (passE rfl rfl rfl rfl) h_Net_readers G.c_Net (hr.mono (by decide)) (pv 0) (pa_cons (pv 2) pa_nil))))),
  (ls_seq (ls_if (lt_test (le_op rs_eq (le_varS (i := 1)) (le_c rfl)))
  (ls_ret (le_meth (le_varS (i := 0)) (la_cons (le_varS (i := 2)) la_nil)))
  ls_next)
  (ls_ret (le_meth (le_varS (i := 0)) (la_cons (le_varS (i := 2)) la_nil))))⟩
end
def B__law_row_is (Z : Ad) : FS := (dSeq (dBind [] (dCall [] (F__law_row Z) (dCons (dVarS 0) (dCons (dVarS 1) (dCons (dVarS 2) dNil)))) (dName 4))
  (dSeq (dIfS (dNot (dTru (dCall [4] (F__law_ints_are Z) (dCons (dVar 4) (dCons (dVarS 3) dNil)))))
  (dRet [] (dC (.bl false)))
  dNext)
  (dSeq (dRev 4 (dPv 4))
  (dSeq (dApp 4 (dPv 4) [] (dVarS 2))
  (dRet [] (dCall [] (F__law_ints_are Z) (dCons (dCall [] (F__law_row Z) (dCons (dVarS 0) (dCons (dVarS 1) (dCons (dVarS 2) dNil)))) (dCons (dVarS 3) dNil))))))))
def F__law_row_is (Z : Ad) : DF := bodyN (B__law_row_is Z) [] 4 1
section
variable {Γ : GS} {P : Program} {w : World} {K : PySem.W.Frag} {mg : Str → Option Value} {base : Heap} {Z : Ad}
theorem ok__law_row_is (G : Glo K mg Z) {f : Addr} {fd : FuncData} (F : Fun K "_law_row_is" "_law_row_is" s__law_row_is f fd) (h__law_row : HX P w K mg base "_law_row" 4 (spP Γ (F__law_row Z))) (h__law_ints_are : HX P w K mg base "_law_ints_are" 2 (spP Γ (F__law_ints_are Z))) : FnX P w K mg base 5 f fd ["_law_net", "_law_way", "_law_replica", "_law_due"] (spP Γ (F__law_row_is Z)) :=
  okP F sc__law_row_is rfl rfl fun cdv A outer s H E hr => ⟨_, (pss_cons (ps_set (i := 4) sc__law_row_is.nd rfl (.inl rfl) (px_fn E (passE rfl rfl rfl rfl) h__law_row (hr.mono (by decide)) (by rfl) (pa_cons (pv 0) (pa_cons (pv 1) (pa_cons (pv 2) pa_nil)))))
  (pss_cons (ps_if (pt_not (tru_K K (px_fn E (passE rfl rfl rfl rfl) h__law_ints_are (hr.mono (by decide)) (by rfl) (pa_cons (pv 4) (pa_cons (pv 3) pa_nil))) (by intro _; rfl))) (pss_one (ps_ret pe_bl)) pss_nil)
  (pss_cons (ps_expr (bm0_K K PySem.F.plainAttrs_list PySem.F.slot_list_reverse PySem.F.type_list_reverse mt_reverse (pv 4)))
  (pss_cons (ps_expr (bm_K K PySem.F.plainAttrs_list PySem.F.slot_list_append PySem.F.type_list_append mt_append (pv 4) (pa_cons (pv 2) pa_nil)))
  (pss_one (ps_ret (px_fn E (passE rfl rfl rfl rfl) h__law_ints_are (hr.mono (by decide)) (by rfl) (pa_cons (px_fn E (passE rfl rfl rfl rfl) h__law_row (hr.mono (by decide)) (by rfl) (pa_cons (pv 0) (pa_cons (pv 1) (pa_cons (pv 2) pa_nil)))) (pa_cons (pv 3) pa_nil))))))))),
  (ls_seq (ls_bind (le_call (la_cons (le_varS (i := 0)) (la_cons (le_varS (i := 1)) (la_cons (le_varS (i := 2)) la_nil)))) (lg_name (i := 4)))
  (ls_seq (ls_if (lt_not (lt_tru (le_call (la_cons (le_var (i := 4)) (la_cons (le_varS (i := 3)) la_nil)))))
  (ls_ret (le_c rfl))
  ls_next)
  (ls_seq (ls_rev (lp_var (i := 4)))
  (ls_seq (ls_app (lp_var (i := 4)) (le_varS (i := 2)))
  (ls_ret (le_call (la_cons (le_call (la_cons (le_varS (i := 0)) (la_cons (le_varS (i := 1)) (la_cons (le_varS (i := 2)) la_nil)))) (la_cons (le_varS (i := 3)) la_nil))))))))⟩
end
def B__law_unknown (Z : Ad) : FS := (dSeq (dTryAs (tab_StoreError Z) 3 (dDrop (dCall [] (F__law_row Z) (dCons (dVarS 0) (dCons (dVarS 1) (dCons (dVarS 2) dNil))))) (fun ea ec ed => (dSeq (dBind [] (dLst (dCons (dCB (gIsD ea ec ed (tab_InvalidNet Z) (.adr Z.InvalidNet)) (dCons (dVarS 3) (dCons (dC (.adr Z.InvalidNet)) dNil))) (dCons (dCB (gIsD ea ec ed (tab_NotLinked Z) (.adr Z.NotLinked)) (dCons (dVarS 3) (dCons (dC (.adr Z.NotLinked)) dNil))) (dCons (dCB (gIsD ea ec ed (tab_UnknownReplica Z) (.adr Z.UnknownReplica)) (dCons (dVarS 3) (dCons (dC (.adr Z.UnknownReplica)) dNil))) dNil)))) (dNameF 4))
  (dSeq (dIfS (dOr (dTest (dOp gNe (dVarS 4) (dLst (dCons (dC (.bl false)) (dCons (dC (.bl false)) (dCons (dC (.bl true)) dNil)))))) (dNot (dTru (dCB (gIsD ea ec ed (tab_ValueError Z) (.ty "ValueError")) (dCons (dVarS 3) (dCons (dC (.ty "ValueError")) dNil))))))
  (dRet [] (dC (.bl false)))
  dNext)
  (dRet [] (dAndV (dCall [] (F__law_is_int Z) (dCons (dXf ea ec ed [Z.UnknownReplica] 3 "replica") dNil)) (dOp gEq (dXf ea ec ed [Z.UnknownReplica] 3 "replica") (dVarS 2))))))))
  (dRet [] (dC (.bl false))))
def F__law_unknown (Z : Ad) : DF := bodyN (B__law_unknown Z) [] 3 2
section
variable {Γ : GS} {P : Program} {w : World} {K : PySem.W.Frag} {mg : Str → Option Value} {base : Heap} {Z : Ad}
theorem ok__law_unknown (G : Glo K mg Z) {f : Addr} {fd : FuncData} (F : Fun K "_law_unknown" "_law_unknown" s__law_unknown f fd) (h__law_row : HX P w K mg base "_law_row" 4 (spP Γ (F__law_row Z))) (H__law_is_int : HXH P w K mg base "_law_is_int" 1 (spP Γ (F__law_is_int Z))) : FnX P w K mg base 5 f fd ["_law_net", "_law_way", "_law_replica"] (spP Γ (F__law_unknown Z)) :=
  okP F sc__law_unknown rfl rfl fun cdv A outer s H E hr => ⟨_, (pss_cons (L2N.ps_try_as (i := 3) rfl rfl sc__law_unknown.nd rfl rfl ⟨by rfl, by decide, .inl G.m_StoreError⟩ (L2N.takes_of rfl rfl rfl rfl) (fun W pn xe hk hps => (pss_one (ps_expr (px_fnS hk h__law_row (hr.mono (by decide)) (by rfl) (pa_cons (pv 0) (pa_cons (pv 1) (pa_cons (pv 2) pa_nil))))))) (fun ea oe ec ed pn hz hf => (pss_cons (ps_set (i := 4) sc__law_unknown.nd rfl (.inl rfl) (pe_lst (pa_cons (pe_callB (PX.call_isD hz.zc hf) (by rfl) G.g_isinstance (by decide +kernel) (pa_cons (pv 3) (pa_cons (pe_clsN G.m_InvalidNet (by rfl)) pa_nil))) (pa_cons (pe_callB (PX.call_isD hz.zc hf) (by rfl) G.g_isinstance (by decide +kernel) (pa_cons (pv 3) (pa_cons (pe_clsN G.m_NotLinked (by rfl)) pa_nil))) (pa_cons (pe_callB (PX.call_isD hz.zc hf) (by rfl) G.g_isinstance (by decide +kernel) (pa_cons (pv 3) (pa_cons (pe_clsN G.m_UnknownReplica (by rfl)) pa_nil))) pa_nil)))))
  (pss_cons (ps_if (PW.pt (pw_or (pt_cmpR (ne_K K (suite_units hr)) (pv 4) (pe_lst (pa_cons pe_bl (pa_cons pe_bl (pa_cons pe_bl pa_nil)))) (nomark _)) (pw_or1 (pt_not (tru_K K (pe_callB (PX.call_isD hz.zc hf) (by rfl) G.g_isinstance (by decide +kernel) (pa_cons (pv 3) (pa_cons (pe_bltn (v := .ty "ValueError") (by rfl) G.g_ValueError (by decide +kernel) rfl) pa_nil))) (by intro _; rfl)))))) (pss_one (ps_ret pe_bl)) pss_nil)
  (pss_one (ps_ret (pe_and (px_fnH (hot_of hz hf) H__law_is_int (roomH_suite (hr.mono (by decide))) (by rfl) (pa_cons (pe_xfs G.xf_replica hz.zc hf (pv 3)) pa_nil)) (pe_one (pe_cmpR (eq_K K (suite_units hr)) (pe_xfs G.xf_replica hz.zc hf (pv 3)) (pv 2) (nomark _))))))))))
  (pss_one (ps_ret pe_bl))),
  (ls_seq (ls_tryAs (i := 3) (fun W => (ls_drop (le_callS (la_cons (le_varS (i := 0)) (la_cons (le_varS (i := 1)) (la_cons (le_varS (i := 2)) la_nil)))))) (fun ea ec ed => (ls_seq (ls_bind (le_lst (la_cons (le_cbS (rc_isD rfl (fun _ z => by exact z) G.i_InvalidNet) (la_cons (le_varS (i := 3)) (la_cons (le_c rfl) la_nil))) (la_cons (le_cbS (rc_isD rfl (fun _ z => by exact z) G.i_NotLinked) (la_cons (le_varS (i := 3)) (la_cons (le_c rfl) la_nil))) (la_cons (le_cbS (rc_isD rfl (fun _ z => by exact z) G.i_UnknownReplica) (la_cons (le_varS (i := 3)) (la_cons (le_c rfl) la_nil))) la_nil)))) (lg_nameF (i := 4)))
  (ls_seq (ls_if (lt_or (lt_test (le_op rs_ne (le_varS (i := 4)) (le_lst (la_cons (le_c rfl) (la_cons (le_c rfl) (la_cons (le_c rfl) la_nil)))))) (lt_not (lt_tru (le_cbS (rc_isD rfl (fun _ z => by exact z) G.i_ValueError) (la_cons (le_varS (i := 3)) (la_cons (le_c rfl) la_nil))))))
  (ls_ret (le_c rfl))
  ls_next)
  (ls_ret (le_andV (le_callS (W := DL.WN) (la_cons le_xf la_nil)) (le_op rs_eq le_xf (le_varS (i := 2)))))))) G.e_StoreError)
  (ls_ret (le_c rfl)))⟩
end
def B__law_has (Z : Ad) : FS := (dSeq (dBind [] (dLc (dRng2 (dCons (dNeg (dC (.int 1))) (dCons (dOpG gAdd (dVarS 2) (dC (.int 1))) dNil))) [] [5] (dName 5) (fun _ K _ => K true) (dVarS 5)) (dName 4))
  (dCut (dIfS (dTest (dOp gGt (dVarS 2) (dC (.int 6))))
  (dBind [] (dLst (dCons (dNeg (dC (.int 1))) (dCons (dCall [] (F__law_draw Z) (dCons (dVarS 0) (dCons (dVarS 2) dNil))) (dCons (dOp gMin (dVarS 2) (dC (.int 1))) (dCons (dVarS 2) dNil))))) (dName 4))
  dNext)
  (dSeq (dApp 4 (dPv 4) [] (dCall [] (F__law_stranger Z) (dCons (dVarS 0) (dCons (dVarS 2) dNil))))
  (dSeq (dFor (dIl (dVar 4)) [4] (dName 5)
  (dFor (dRng2 (dCons (dNeg (dC (.int 1))) (dCons (dOpG gAdd (dVarS 2) (dC (.int 1))) dNil))) [] (dName 6)
  (dSeq (dBind [] (dAndV (dChain gLe gLt (dC (.int 0)) (dVarS 5) (dVarS 2)) (dChain gLe gLt (dC (.int 0)) (dVarS 6) (dVarS 2))) (dNameF 7))
  (dSeq (dBind [] (dAndV (dVarS 7) (dOp gEq (dOpG gIx (dVarS 3) (dOpG gAdd (dOpG gMul (dVarS 5) (dVarS 2)) (dVarS 6))) (dC (.int 1)))) (dNameF 8))
  (dSeq (dBind [] (dAndV (dVarS 7) (dOp gEq (dOpG gIx (dVarS 3) (dOpG gAdd (dOpG gMul (dVarS 6) (dVarS 2)) (dVarS 5))) (dC (.int 1)))) (dNameF 9))
  (dIfS (dOr (dNot (dTru (dCall [] (F__law_truth Z) (dCons (dMeth [] Z.Net "has_link" (F_Net_has_link Z) (dVarS 1) (dCons (dVarS 5) (dCons (dVarS 6) dNil))) (dCons (dVarS 8) dNil))))) (dNot (dTru (dCall [] (F__law_truth Z) (dCons (dMeth [] Z.Net "has_link" (F_Net_has_link Z) (dVarS 1) (dCons (dVarS 6) (dCons (dVarS 5) dNil))) (dCons (dVarS 9) dNil))))))
  (dRet [] (dC (.bl false)))
  dNext))))))
  (dRet [] (dC (.bl true)))))))
def F__law_has (Z : Ad) : DF := bodyN (B__law_has Z) [] 4 6
section
variable {Γ : GS} {P : Program} {w : World} {K : PySem.W.Frag} {mg : Str → Option Value} {base : Heap} {Z : Ad}
theorem ok__law_has (G : Glo K mg Z) {f : Addr} {fd : FuncData} (F : Fun K "_law_has" "_law_has" s__law_has f fd) (h__law_draw : HX P w K mg base "_law_draw" 1 (spP Γ (F__law_draw Z))) (h__law_stranger : HX P w K mg base "_law_stranger" 3 (spP Γ (F__law_stranger Z))) (h__law_truth : HX P w K mg base "_law_truth" 1 (spP Γ (F__law_truth Z))) (h_Net_has_link : HMX P w K mg base Z.Net "has_link" 1 (spP Γ (F_Net_has_link Z))) : FnX P w K mg base 4 f fd ["_law_box_here", "_law_net", "_law_count_here", "_law_table_here"] (spP Γ (F__law_has Z)) :=
  okP F sc__law_has rfl rfl fun cdv A outer s H E hr => ⟨_, (pss_cons (ps_setLc (i := 4) (own := [("_law_x", 5)]) (by rfl) sc__law_has.nd rfl rfl (sw_true rfl rfl rfl (by decide +kernel)) (pi_range2 (by rfl) G.g_range (pa_cons (pe_un un_neg pe_int) (pa_cons (pe_op op_addA (pv 2) pe_int) pa_nil))) (blkOk_by (own := [("_law_x", 5)]) (N := ["_law_box_here", "_law_net", "_law_count_here", "_law_table_here", "_law_sources", "_law_x", "_law_y", "_law_inside", "_law_forth", "_law_back"]) (sc := defScope s__law_has) (by decide +kernel)) (fun _ _ _ _ _ => (pg_name (i := 5) (by exact sc__law_has.nd) rfl (.inl rfl))) (fun _ _ _ _ _ => pts_nil) (fun _ _ _ _ _ => (pv 5)))
  (pss_cons (ps_if (pt_cmpR (op_gt) (pv 2) pe_int (nomark _)) (pss_one (ps_set (i := 4) sc__law_has.nd rfl (.inl rfl) (pe_lst (pa_cons (pe_un un_neg pe_int) (pa_cons (px_fn E (passE rfl rfl rfl rfl) h__law_draw (hr.mono (by decide)) (by rfl) (pa_cons (pv 0) (pa_cons (pv 2) pa_nil))) (pa_cons (pe_op op_sub (pv 2) pe_int) (pa_cons (pv 2) pa_nil))))))) pss_nil)
  (pss_cons (ps_expr (bm_K K PySem.F.plainAttrs_list PySem.F.slot_list_append PySem.F.type_list_append mt_append (pv 4) (pa_cons (px_fn E (passE rfl rfl rfl rfl) h__law_stranger (hr.mono (by decide)) (by rfl) (pa_cons (pv 0) (pa_cons (pv 2) pa_nil))) pa_nil)))
  (pss_cons (ps_for (passes_of rfl) rfl (pi_lstK K (pv 4)) (pg_name (i := 5) (by exact sc__law_has.nd) rfl (.inl rfl)) (pss_one (ps_for (passes_of rfl) rfl (pi_range2 (by rfl) G.g_range (pa_cons (pe_un un_neg pe_int) (pa_cons (pe_op op_addA (pv 2) pe_int) pa_nil))) (pg_name (i := 6) (by exact sc__law_has.nd) rfl (.inl rfl)) (pss_cons (ps_set (i := 7) sc__law_has.nd rfl (.inl rfl) (pe_and (pe_chain (op_le) (op_lt) pe_int (pv 5) (pv 2)) (pe_one (pe_chain (op_le) (op_lt) pe_int (pv 6) (pv 2)))))
  (pss_cons (ps_set (i := 8) sc__law_has.nd rfl (.inl rfl) (pe_and (pv 7) (pe_one (pe_cmpR (eq_K K hr.units) (pe_ix (ixA_K K hr) (pv 3) (pe_op op_addA (pe_op op_mulA (pv 5) (pv 2)) (pv 6)) (fun _ _ => rfl)) pe_int (nomark _)))))
  (pss_cons (ps_set (i := 9) sc__law_has.nd rfl (.inl rfl) (pe_and (pv 7) (pe_one (pe_cmpR (eq_K K hr.units) (pe_ix (ixA_K K hr) (pv 3) (pe_op op_addA (pe_op op_mulA (pv 6) (pv 2)) (pv 5)) (fun _ _ => rfl)) pe_int (nomark _)))))
  (pss_one (ps_if (PW.pt (pw_or (pt_not (tru_K K (px_fn E (passE rfl rfl rfl rfl) h__law_truth (hr.mono (by decide)) (by rfl) (pa_cons (px_m E (passE rfl rfl rfl rfl) h_Net_has_link G.c_Net (hr.mono (by decide)) (pv 1) (pa_cons (pv 5) (pa_cons (pv 6) pa_nil))) (pa_cons (pv 8) pa_nil))) (by intro _; rfl))) (pw_or1 (pt_not (tru_K K (px_fn E (passE rfl rfl rfl rfl) h__law_truth (hr.mono (by decide)) (by rfl) (pa_cons (px_m E (passE rfl rfl rfl rfl) h_Net_has_link G.c_Net (hr.mono (by decide)) (pv 1) (pa_cons (pv 6) (pa_cons (pv 5) pa_nil))) (pa_cons (pv 9) pa_nil))) (by intro _; rfl)))))) (pss_one (ps_ret pe_bl)) pss_nil))))))))
  (pss_one (ps_ret pe_bl)))))),
  (ls_seq (ls_bind (le_lc (li_rng2 (la_cons (le_neg (le_c rfl)) (la_cons (le_opG rg_add (le_varS (i := 2)) (le_c rfl)) la_nil))) (lg_name (i := 5)) (by decide) lt_yes (le_varS (i := 5))) (lg_name (i := 4)))
  (ls_seq (ls_if (lt_test (le_op rs_cmp (le_varS (i := 2)) (le_c rfl)))
  (ls_bind (le_lst (la_cons (le_neg (le_c rfl)) (la_cons (le_call (la_cons (le_varS (i := 0)) (la_cons (le_varS (i := 2)) la_nil))) (la_cons (le_op rs_sub (le_varS (i := 2)) (le_c rfl)) (la_cons (le_varS (i := 2)) la_nil))))) (lg_name (i := 4)))
  ls_next)
  (ls_seq (ls_app (lp_var (i := 4)) (le_call (la_cons (le_varS (i := 0)) (la_cons (le_varS (i := 2)) la_nil))))
  (ls_seq (ls_for (li_lst (le_var (i := 4))) (lg_name (i := 5))
  (ls_for (li_rng2 (la_cons (le_neg (le_c rfl)) (la_cons (le_opG rg_add (le_varS (i := 2)) (le_c rfl)) la_nil))) (lg_name (i := 6))
  (ls_seq (ls_bind (le_andV (le_chain rs_cmp rs_cmp (le_c rfl) (le_varS (i := 5)) (le_varS (i := 2))) (le_chain rs_cmp rs_cmp (le_c rfl) (le_varS (i := 6)) (le_varS (i := 2)))) (lg_nameF (i := 7)))
  (ls_seq (ls_bind (le_andV (le_varS (i := 7)) (le_op rs_eq (le_opG rg_ix (le_varS (i := 3)) (le_opG rg_add (le_opG rg_mul (le_varS (i := 5)) (le_varS (i := 2))) (le_varS (i := 6)))) (le_c rfl))) (lg_nameF (i := 8)))
  (ls_seq (ls_bind (le_andV (le_varS (i := 7)) (le_op rs_eq (le_opG rg_ix (le_varS (i := 3)) (le_opG rg_add (le_opG rg_mul (le_varS (i := 6)) (le_varS (i := 2))) (le_varS (i := 5)))) (le_c rfl))) (lg_nameF (i := 9)))
  (ls_if (lt_or (lt_not (lt_tru (le_call (la_cons (le_meth (le_varS (i := 1)) (la_cons (le_varS (i := 5)) (la_cons (le_varS (i := 6)) la_nil))) (la_cons (le_varS (i := 8)) la_nil))))) (lt_not (lt_tru (le_call (la_cons (le_meth (le_varS (i := 1)) (la_cons (le_varS (i := 6)) (la_cons (le_varS (i := 5)) la_nil))) (la_cons (le_varS (i := 9)) la_nil))))))
  (ls_ret (le_c rfl))
  ls_next))))))
  (ls_ret (le_c rfl))))))⟩
end
def B__law_net_is (Z : Ad) : FS := (dSeq (dBind [] (dCall [] (F__law_ties Z) (dCons (dVarS 2) (dCons (dVarS 3) dNil))) (dNameF 4))
  (dSeq (dIfS (dOr (dNot (dTru (dCall [] (F__law_is_int Z) (dCons (dFld Z.Net "count" (dVarS 1)) dNil)))) (dTest (dOp gNe (dFld Z.Net "count" (dVarS 1)) (dVarS 2))))
  (dRet [] (dC (.bl false)))
  dNext)
  (dSeq (dBind [] (dPropN [] Z.Net (F_Net_links Z) (dVarS 1)) (dName 5))
  (dSeq (dIfS (dNot (dTru (dCall [5] (F__law_pairs_are Z) (dCons (dVar 5) (dCons (dVarS 4) dNil)))))
  (dRet [] (dC (.bl false)))
  dNext)
  (dSeq (dRev 5 (dPv 5))
  (dSeq (dApp 5 (dPv 5) [] (dTup (dCons (dC (.int 0)) (dCons (dC (.int 0)) dNil))))
  (dSeq (dIfS (dNot (dTru (dCall [] (F__law_pairs_are Z) (dCons (dPropN [] Z.Net (F_Net_links Z) (dVarS 1)) (dCons (dVarS 4) dNil)))))
  (dRet [] (dC (.bl false)))
  dNext)
  (dSeq (dFor (dRng1 (dCons (dVarS 2) dNil)) [] (dName 6)
  (dSeq (dIfS (dNot (dTru (dCall [] (F__law_row_is Z) (dCons (dVarS 1) (dCons (dC (.int 0)) (dCons (dVarS 6) (dCons (dLc (dRng1 (dCons (dVarS 2) dNil)) [] [8] (dName 8) (dTest (dOp gEq (dOpG gIx (dVarS 3) (dOpG gAdd (dOpG gMul (dVarS 8) (dVarS 2)) (dVarS 6))) (dC (.int 1)))) (dVarS 8)) dNil)))))))
  (dRet [] (dC (.bl false)))
  dNext)
  (dIfS (dNot (dTru (dCall [] (F__law_row_is Z) (dCons (dVarS 1) (dCons (dC (.int 1)) (dCons (dVarS 6) (dCons (dLc (dRng1 (dCons (dVarS 2) dNil)) [] [8] (dName 8) (dTest (dOp gEq (dOpG gIx (dVarS 3) (dOpG gAdd (dOpG gMul (dVarS 6) (dVarS 2)) (dVarS 8))) (dC (.int 1)))) (dVarS 8)) dNil)))))))
  (dRet [] (dC (.bl false)))
  dNext)))
  (dSeq (dFor (dRng1 (dCons (dC (.int 2)) dNil)) [] (dName 7)
  (dIfS (dNot (dTru (dCall [] (F__law_unknown Z) (dCons (dVarS 1) (dCons (dVarS 7) (dCons (dCall [] (F__law_stranger Z) (dCons (dVarS 0) (dCons (dVarS 2) dNil))) dNil))))))
  (dRet [] (dC (.bl false)))
  dNext))
  (dRet [] (dCall [] (F__law_has Z) (dCons (dVarS 0) (dCons (dVarS 1) (dCons (dVarS 2) (dCons (dVarS 3) dNil)))))))))))))))
def F__law_net_is (Z : Ad) : DF := bodyN (B__law_net_is Z) [] 4 5
section
variable {Γ : GS} {P : Program} {w : World} {K : PySem.W.Frag} {mg : Str → Option Value} {base : Heap} {Z : Ad}
theorem ok__law_net_is (G : Glo K mg Z) {f : Addr} {fd : FuncData} (F : Fun K "_law_net_is" "_law_net_is" s__law_net_is f fd) (h__law_ties : HX P w K mg base "_law_ties" 1 (spP Γ (F__law_ties Z))) (h__law_is_int : HX P w K mg base "_law_is_int" 1 (spP Γ (F__law_is_int Z))) (h_Net_links : HPX P w K mg base Z.Net "links" 1 (spP Γ (F_Net_links Z))) (h__law_pairs_are : HX P w K mg base "_law_pairs_are" 3 (spP Γ (F__law_pairs_are Z))) (h__law_row_is : HX P w K mg base "_law_row_is" 5 (spP Γ (F__law_row_is Z))) (h__law_unknown : HX P w K mg base "_law_unknown" 5 (spP Γ (F__law_unknown Z))) (h__law_stranger : HX P w K mg base "_law_stranger" 3 (spP Γ (F__law_stranger Z))) (h__law_has : HX P w K mg base "_law_has" 4 (spP Γ (F__law_has Z))) : FnX P w K mg base 6 f fd ["_law_box_here", "_law_net", "_law_count_here", "_law_table_here"] (spP Γ (F__law_net_is Z)) :=
  okP F sc__law_net_is rfl rfl fun cdv A outer s H E hr => ⟨_, (pss_cons (ps_set (i := 4) sc__law_net_is.nd rfl (.inl rfl) (px_fn E (passE rfl rfl rfl rfl) h__law_ties (hr.mono (by decide)) (by rfl) (pa_cons (pv 2) (pa_cons (pv 3) pa_nil))))
  (pss_cons (ps_if (PW.pt (pw_or (pt_not (tru_K K (px_fn E (passE rfl rfl rfl rfl) h__law_is_int (hr.mono (by decide)) (by rfl) (pa_cons (fld_K K (pv 1)) pa_nil)) (by intro _; rfl))) (pw_or1 (pt_cmpR (ne_K K hr.units) (fld_K K (pv 1)) (pv 2) (nomark _))))) (pss_one (ps_ret pe_bl)) pss_nil)
  (pss_cons (ps_set (i := 5) sc__law_net_is.nd rfl (.inl rfl) (px_p h_Net_links G.c_Net (hr.mono (by decide)) (pv 1)))
  (pss_cons (ps_if (pt_not (tru_K K (px_fn E (passE rfl rfl rfl rfl) h__law_pairs_are (hr.mono (by decide)) (by rfl) (pa_cons (pv 5) (pa_cons (pv 4) pa_nil))) (by intro _; rfl))) (pss_one (ps_ret pe_bl)) pss_nil)
  (pss_cons (ps_expr (bm0_K K PySem.F.plainAttrs_list PySem.F.slot_list_reverse PySem.F.type_list_reverse mt_reverse (pv 5)))
  (pss_cons (ps_expr (bm_K K PySem.F.plainAttrs_list PySem.F.slot_list_append PySem.F.type_list_append mt_append (pv 5) (pa_cons (pe_tup (pa_cons pe_int (pa_cons pe_int pa_nil))) pa_nil)))
  (pss_cons (ps_if (pt_not (tru_K K (px_fn E (passE rfl rfl rfl rfl) h__law_pairs_are (hr.mono (by decide)) (by rfl) (pa_cons (px_p h_Net_links G.c_Net (hr.mono (by decide)) (pv 1)) (pa_cons (pv 4) pa_nil))) (by intro _; rfl))) (pss_one (ps_ret pe_bl)) pss_nil)
  (pss_cons (ps_for (passes_of rfl) rfl (pi_range1 (by rfl) G.g_range (pa_cons (pv 2) pa_nil)) (pg_name (i := 6) (by exact sc__law_net_is.nd) rfl (.inr rfl)) (pss_cons (ps_if (pt_not (tru_K K (px_fn E (passE rfl rfl rfl rfl) h__law_row_is (hr.mono (by decide)) (by rfl) (pa_cons (pv 1) (pa_cons pe_int (pa_cons (pv 6) (pa_cons (pe_lc (own := [("_law_y", 8)]) (by rfl) sc__law_net_is.nd (pi_range1 (by rfl) G.g_range (pa_cons (pv 2) pa_nil)) (blkOk_by (own := [("_law_y", 8)]) (N := ["_law_box_here", "_law_net", "_law_count_here", "_law_table_here", "_law_due", "_law_told", "_law_x", "_law_way", "_law_y"]) (sc := defScope s__law_net_is) (by decide +kernel)) (fun _ _ _ _ _ => (pg_name (i := 8) (by exact sc__law_net_is.nd) rfl (.inl rfl))) (fun _ _ _ _ _ => (pts_one (pt_cmpR (eq_K K hr.units) (pe_ix (ixA_K K hr) (pv 3) (pe_op op_addA (pe_op op_mulA (pv 8) (pv 2)) (pv 6)) (fun _ _ => rfl)) pe_int (nomark _)))) (fun _ _ _ _ _ => (pv 8))) pa_nil))))) (by intro _; rfl))) (pss_one (ps_ret pe_bl)) pss_nil)
  (pss_one (ps_if (pt_not (tru_K K (px_fn E (passE rfl rfl rfl rfl) h__law_row_is (hr.mono (by decide)) (by rfl) (pa_cons (pv 1) (pa_cons pe_int (pa_cons (pv 6) (pa_cons (pe_lc (own := [("_law_y", 8)]) (by rfl) sc__law_net_is.nd (pi_range1 (by rfl) G.g_range (pa_cons (pv 2) pa_nil)) (blkOk_by (own := [("_law_y", 8)]) (N := ["_law_box_here", "_law_net", "_law_count_here", "_law_table_here", "_law_due", "_law_told", "_law_x", "_law_way", "_law_y"]) (sc := defScope s__law_net_is) (by decide +kernel)) (fun _ _ _ _ _ => (pg_name (i := 8) (by exact sc__law_net_is.nd) rfl (.inl rfl))) (fun _ _ _ _ _ => (pts_one (pt_cmpR (eq_K K hr.units) (pe_ix (ixA_K K hr) (pv 3) (pe_op op_addA (pe_op op_mulA (pv 6) (pv 2)) (pv 8)) (fun _ _ => rfl)) pe_int (nomark _)))) (fun _ _ _ _ _ => (pv 8))) pa_nil))))) (by intro _; rfl))) (pss_one (ps_ret pe_bl)) pss_nil))))
  (pss_cons (ps_for (passes_of rfl) rfl (pi_range1 (by rfl) G.g_range (pa_cons pe_int pa_nil)) (pg_name (i := 7) (by exact sc__law_net_is.nd) rfl (.inl rfl)) (pss_one (ps_if (pt_not (tru_K K (px_fn E (passE rfl rfl rfl rfl) h__law_unknown (hr.mono (by decide)) (by rfl) (pa_cons (pv 1) (pa_cons (pv 7) (pa_cons (px_fn E (passE rfl rfl rfl rfl) h__law_stranger (hr.mono (by decide)) (by rfl) (pa_cons (pv 0) (pa_cons (pv 2) pa_nil))) pa_nil)))) (by intro _; rfl))) (pss_one (ps_ret pe_bl)) pss_nil)))
  (pss_one (ps_ret (px_fn E (passE rfl rfl rfl rfl) h__law_has (hr.mono (by decide)) (by rfl) (pa_cons (pv 0) (pa_cons (pv 1) (pa_cons (pv 2) (pa_cons (pv 3) pa_nil)))))))))))))))),
  (ls_seq (ls_bind (le_call (la_cons (le_varS (i := 2)) (la_cons (le_varS (i := 3)) la_nil))) (lg_nameF (i := 4)))
  (ls_seq (ls_if (lt_or (lt_not (lt_tru (le_call (la_cons (le_fld G.c_Net G.n_Net_count (le_varS (i := 1))) la_nil)))) (lt_test (le_op rs_ne (le_fld G.c_Net G.n_Net_count (le_varS (i := 1))) (le_varS (i := 2)))))
  (ls_ret (le_c rfl))
  ls_next)
  (ls_seq (ls_bind (le_propN (le_varS (i := 1))) (lg_name (i := 5)))
  (ls_seq (ls_if (lt_not (lt_tru (le_call (la_cons (le_var (i := 5)) (la_cons (le_varS (i := 4)) la_nil)))))
  (ls_ret (le_c rfl))
  ls_next)
  (ls_seq (ls_rev (lp_var (i := 5)))
  (ls_seq (ls_app (lp_var (i := 5)) (le_tup (la_cons (le_c rfl) (la_cons (le_c rfl) la_nil))))
  (ls_seq (ls_if (lt_not (lt_tru (le_call (la_cons (le_propN (le_varS (i := 1))) (la_cons (le_varS (i := 4)) la_nil)))))
  (ls_ret (le_c rfl))
  ls_next)
  (ls_seq (ls_for (li_rng1 (la_cons (le_varS (i := 2)) la_nil)) (lg_name (i := 6))
  (ls_seq (ls_if (lt_not (lt_tru (le_call (la_cons (le_varS (i := 1)) (la_cons (le_c rfl) (la_cons (le_varS (i := 6)) (la_cons (le_lc (li_rng1 (la_cons (le_varS (i := 2)) la_nil)) (lg_name (i := 8)) (by decide) (lt_test (le_op rs_eq (le_opG rg_ix (le_varS (i := 3)) (le_opG rg_add (le_opG rg_mul (le_varS (i := 8)) (le_varS (i := 2))) (le_varS (i := 6)))) (le_c rfl))) (le_varS (i := 8))) la_nil)))))))
  (ls_ret (le_c rfl))
  ls_next)
  (ls_if (lt_not (lt_tru (le_call (la_cons (le_varS (i := 1)) (la_cons (le_c rfl) (la_cons (le_varS (i := 6)) (la_cons (le_lc (li_rng1 (la_cons (le_varS (i := 2)) la_nil)) (lg_name (i := 8)) (by decide) (lt_test (le_op rs_eq (le_opG rg_ix (le_varS (i := 3)) (le_opG rg_add (le_opG rg_mul (le_varS (i := 6)) (le_varS (i := 2))) (le_varS (i := 8)))) (le_c rfl))) (le_varS (i := 8))) la_nil)))))))
  (ls_ret (le_c rfl))
  ls_next)))
  (ls_seq (ls_for (li_rng1 (la_cons (le_c rfl) la_nil)) (lg_name (i := 7))
  (ls_if (lt_not (lt_tru (le_call (la_cons (le_varS (i := 1)) (la_cons (le_varS (i := 7)) (la_cons (le_call (la_cons (le_varS (i := 0)) (la_cons (le_varS (i := 2)) la_nil))) la_nil))))))
  (ls_ret (le_c rfl))
  ls_next))
  (ls_ret (le_call (la_cons (le_varS (i := 0)) (la_cons (le_varS (i := 1)) (la_cons (le_varS (i := 2)) (la_cons (le_varS (i := 3)) la_nil)))))))))))))))⟩
end
def B__law_builds (Z : Ad) : FS := (dSeq (dFor (dRng1 (dCons (dC (.int 2)) dNil)) [] (dName 3)
  (dSeq (dBind [] (dCBG gList (dCons (dVarS 2) dNil)) (dName 4))
  (dSeq (dBind [4] (dCall [4] (F__law_made Z) (dCons (dVarS 3) (dCons (dVarS 1) (dCons (dVar 4) dNil)))) (dNameF 5))
  (dSeq (dIfS (dOr (dNot (dTru (dOpG gIx (dVarS 5) (dC (.int 0))))) (dTest (dOp gNe (dVar 4) (dVarS 2))))
  (dRet [] (dC (.bl false)))
  dNext)
  (dSeq (dRev 4 (dPv 4))
  (dSeq (dApp 4 (dPv 4) [] (dTup (dCons (dC (.int 0)) (dCons (dOp gMin (dVarS 1) (dC (.int 1))) dNil))))
  (dSeq (dIfS (dNot (dTru (dCall [] (F__law_net_is Z) (dCons (dVarS 0) (dCons (dOpG gIx (dVarS 5) (dC (.int 1))) (dCons (dVarS 1) (dCons (dCall [] (F__law_table Z) (dCons (dVarS 1) (dCons (dVarS 2) (dCons (dOp gEq (dVarS 3) (dC (.int 1))) dNil)))) dNil)))))))
  (dRet [] (dC (.bl false)))
  dNext)
  (dSeq (dBind [] (dCall [] (F__law_spoilt Z) (dCons (dVarS 0) (dCons (dVarS 1) (dCons (dVarS 2) dNil)))) (dNameF 6))
  (dSeq (dBind [] (dCBG gList (dCons (dVarS 6) dNil)) (dName 4))
  (dSeq (dBind [4] (dCall [4] (F__law_made Z) (dCons (dVarS 3) (dCons (dVarS 1) (dCons (dVar 4) dNil)))) (dNameF 5))
  (dIfS (dOr (dTest (dOp gNe (dVar 4) (dVarS 6))) (dNot (dTru (dCall [] (F__law_refused Z) (dCons (dVarS 5) (dCons (dCall [] (F__law_first_bad Z) (dCons (dVarS 1) (dCons (dVarS 6) dNil))) dNil))))))
  (dRet [] (dC (.bl false)))
  dNext)))))))))))
  (dRet [] (dC (.bl true))))
def F__law_builds (Z : Ad) : DF := bodyN (B__law_builds Z) [] 3 4
section
variable {Γ : GS} {P : Program} {w : World} {K : PySem.W.Frag} {mg : Str → Option Value} {base : Heap} {Z : Ad}
theorem ok__law_builds (G : Glo K mg Z) {f : Addr} {fd : FuncData} (F : Fun K "_law_builds" "_law_builds" s__law_builds f fd) (h__law_made : HX P w K mg base "_law_made" 9 (spP Γ (F__law_made Z))) (h__law_net_is : HX P w K mg base "_law_net_is" 6 (spP Γ (F__law_net_is Z))) (h__law_table : HX P w K mg base "_law_table" 1 (spP Γ (F__law_table Z))) (h__law_spoilt : HX P w K mg base "_law_spoilt" 5 (spP Γ (F__law_spoilt Z))) (h__law_refused : HX P w K mg base "_law_refused" 3 (spP Γ (F__law_refused Z))) (h__law_first_bad : HX P w K mg base "_law_first_bad" 1 (spP Γ (F__law_first_bad Z))) : FnX P w K mg base 10 f fd ["_law_box_here", "_law_count_here", "_law_pairs"] (spP Γ (F__law_builds Z)) :=
  okP F sc__law_builds rfl rfl fun cdv A outer s H E hr => ⟨_, (pss_cons (ps_for (passes_of rfl) rfl (pi_range1 (by rfl) G.g_range (pa_cons pe_int pa_nil)) (pg_name (i := 3) (by exact sc__law_builds.nd) rfl (.inl rfl)) (pss_cons (ps_set (i := 4) sc__law_builds.nd rfl (.inl rfl) (pe_callTy (lst_K K) (by rfl) G.g_list (by decide +kernel) (pa_cons (pv 2) pa_nil)))
  (pss_cons (ps_set (i := 5) sc__law_builds.nd rfl (.inl rfl) (px_fn E (passE rfl rfl rfl rfl) h__law_made (hr.mono (by decide)) (by rfl) (pa_cons (pv 3) (pa_cons (pv 1) (pa_cons (pv 4) pa_nil)))))
  (pss_cons (ps_if (PW.pt (pw_or (pt_not (tru_K K (pe_ix (ixA_K K hr) (pv 5) pe_int (fun _ _ => rfl)) (by intro _; rfl))) (pw_or1 (pt_cmpR (ne_K K hr.units) (pv 4) (pv 2) (nomark _))))) (pss_one (ps_ret pe_bl)) pss_nil)
  (pss_cons (ps_expr (bm0_K K PySem.F.plainAttrs_list PySem.F.slot_list_reverse PySem.F.type_list_reverse mt_reverse (pv 4)))
  (pss_cons (ps_expr (bm_K K PySem.F.plainAttrs_list PySem.F.slot_list_append PySem.F.type_list_append mt_append (pv 4) (pa_cons (pe_tup (pa_cons pe_int (pa_cons (pe_op op_sub (pv 1) pe_int) pa_nil))) pa_nil)))
  (pss_cons (ps_if (pt_not (tru_K K (px_fn E (passE rfl rfl rfl rfl) h__law_net_is (hr.mono (by decide)) (by rfl) (pa_cons (pv 0) (pa_cons (pe_ix (ixA_K K hr) (pv 5) pe_int (fun _ _ => rfl)) (pa_cons (pv 1) (pa_cons (px_fn E (passE rfl rfl rfl rfl) h__law_table (hr.mono (by decide)) (by rfl) (pa_cons (pv 1) (pa_cons (pv 2) (pa_cons (pe_cmpR (eq_K K hr.units) (pv 3) pe_int (nomark _)) pa_nil)))) pa_nil))))) (by intro _; rfl))) (pss_one (ps_ret pe_bl)) pss_nil)
  (pss_cons (ps_set (i := 6) sc__law_builds.nd rfl (.inl rfl) (px_fn E (passE rfl rfl rfl rfl) h__law_spoilt (hr.mono (by decide)) (by rfl) (pa_cons (pv 0) (pa_cons (pv 1) (pa_cons (pv 2) pa_nil)))))
  (pss_cons (ps_set (i := 4) sc__law_builds.nd rfl (.inl rfl) (pe_callTy (lst_K K) (by rfl) G.g_list (by decide +kernel) (pa_cons (pv 6) pa_nil)))
  (pss_cons (ps_set (i := 5) sc__law_builds.nd rfl (.inl rfl) (px_fn E (passE rfl rfl rfl rfl) h__law_made (hr.mono (by decide)) (by rfl) (pa_cons (pv 3) (pa_cons (pv 1) (pa_cons (pv 4) pa_nil)))))
  (pss_one (ps_if (PW.pt (pw_or (pt_cmpR (ne_K K hr.units) (pv 4) (pv 6) (nomark _)) (pw_or1 (pt_not (tru_K K (px_fn E (passE rfl rfl rfl rfl) h__law_refused (hr.mono (by decide)) (by rfl) (pa_cons (pv 5) (pa_cons (px_fn E (passE rfl rfl rfl rfl) h__law_first_bad (hr.mono (by decide)) (by rfl) (pa_cons (pv 1) (pa_cons (pv 6) pa_nil))) pa_nil))) (by intro _; rfl)))))) (pss_one (ps_ret pe_bl)) pss_nil))))))))))))
  (pss_one (ps_ret pe_bl))),
  (ls_seq (ls_for (li_rng1 (la_cons (le_c rfl) la_nil)) (lg_name (i := 3))
  (ls_seq (ls_bind (le_cbG rc_list (la_cons (le_varS (i := 2)) la_nil)) (lg_name (i := 4)))
  (ls_seq (ls_bind (le_call (la_cons (le_varS (i := 3)) (la_cons (le_varS (i := 1)) (la_cons (le_var (i := 4)) la_nil)))) (lg_nameF (i := 5)))
  (ls_seq (ls_if (lt_or (lt_not (lt_tru (le_opG rg_ix (le_varS (i := 5)) (le_c rfl)))) (lt_test (le_op rs_ne (le_var (i := 4)) (le_varS (i := 2)))))
  (ls_ret (le_c rfl))
  ls_next)
  (ls_seq (ls_rev (lp_var (i := 4)))
  (ls_seq (ls_app (lp_var (i := 4)) (le_tup (la_cons (le_c rfl) (la_cons (le_op rs_sub (le_varS (i := 1)) (le_c rfl)) la_nil))))
  (ls_seq (ls_if (lt_not (lt_tru (le_call (la_cons (le_varS (i := 0)) (la_cons (le_opG rg_ix (le_varS (i := 5)) (le_c rfl)) (la_cons (le_varS (i := 1)) (la_cons (le_call (la_cons (le_varS (i := 1)) (la_cons (le_varS (i := 2)) (la_cons (le_op rs_eq (le_varS (i := 3)) (le_c rfl)) la_nil)))) la_nil)))))))
  (ls_ret (le_c rfl))
  ls_next)
  (ls_seq (ls_bind (le_call (la_cons (le_varS (i := 0)) (la_cons (le_varS (i := 1)) (la_cons (le_varS (i := 2)) la_nil)))) (lg_nameF (i := 6)))
  (ls_seq (ls_bind (le_cbG rc_list (la_cons (le_varS (i := 6)) la_nil)) (lg_name (i := 4)))
  (ls_seq (ls_bind (le_call (la_cons (le_varS (i := 3)) (la_cons (le_varS (i := 1)) (la_cons (le_var (i := 4)) la_nil)))) (lg_nameF (i := 5)))
  (ls_if (lt_or (lt_test (le_op rs_ne (le_var (i := 4)) (le_varS (i := 6)))) (lt_not (lt_tru (le_call (la_cons (le_varS (i := 5)) (la_cons (le_call (la_cons (le_varS (i := 1)) (la_cons (le_varS (i := 6)) la_nil))) la_nil))))))
  (ls_ret (le_c rfl))
  ls_next)))))))))))
  (ls_ret (le_c rfl)))⟩
end
def B__law_deed_pair (Z : Ad) : FS := (dSeq (dBind [] (dCall [] (F__law_ties Z) (dCons (dVarS 1) (dCons (dVarS 2) dNil))) (dNameF 3))
  (dSeq (dBind [] (dCall [] (F__law_draw Z) (dCons (dVarS 0) (dCons (dC (.int 6)) dNil))) (dNameF 4))
  (dSeq (dIfS (dOr (dTest (dOp gEq (dVarS 4) (dC (.int 0)))) (dTest (dOp gEq (dVarS 1) (dC (.int 1)))))
  (dRet [] (dCall [] (F__law_bad_pair Z) (dCons (dVarS 0) (dCons (dVarS 1) dNil))))
  dNext)
  (dSeq (dIfS (dOr (dTest (dOp gLt (dVarS 4) (dC (.int 3)))) (dTest (dOp gEq (dVarS 3) (dLst dNil))))
  (dRet [] (dCall [] (F__law_pair Z) (dCons (dVarS 0) (dCons (dVarS 1) dNil))))
  dNext)
  (dSeq (dBind [] (dOpG gIx (dVarS 3) (dCall [] (F__law_draw Z) (dCons (dVarS 0) (dCons (dCB gLen (dCons (dVarS 3) dNil)) dNil)))) (dNameF 5))
  (dSeq (dIfS (dTest (dOp gEq (dVarS 4) (dC (.int 5))))
  (dRet [] (dTup (dCons (dOpG gIx (dVarS 5) (dC (.int 1))) (dCons (dOpG gIx (dVarS 5) (dC (.int 0))) dNil))))
  dNext)
  (dRet [] (dVarS 5))))))))
def F__law_deed_pair (Z : Ad) : DF := bodyN (B__law_deed_pair Z) [] 3 3
section
variable {Γ : GS} {P : Program} {w : World} {K : PySem.W.Frag} {mg : Str → Option Value} {base : Heap} {Z : Ad}
theorem ok__law_deed_pair (G : Glo K mg Z) {f : Addr} {fd : FuncData} (F : Fun K "_law_deed_pair" "_law_deed_pair" s__law_deed_pair f fd) (h__law_ties : HX P w K mg base "_law_ties" 1 (spP Γ (F__law_ties Z))) (h__law_draw : HX P w K mg base "_law_draw" 1 (spP Γ (F__law_draw Z))) (h__law_bad_pair : HX P w K mg base "_law_bad_pair" 4 (spP Γ (F__law_bad_pair Z))) (h__law_pair : HX P w K mg base "_law_pair" 2 (spP Γ (F__law_pair Z))) : FnX P w K mg base 5 f fd ["_law_box_here", "_law_count_here", "_law_table_here"] (spP Γ (F__law_deed_pair Z)) :=
  okP F sc__law_deed_pair rfl rfl fun cdv A outer s H E hr => ⟨_, (pss_cons (ps_set (i := 3) sc__law_deed_pair.nd rfl (.inl rfl) (px_fn E (passE rfl rfl rfl rfl) h__law_ties (hr.mono (by decide)) (by rfl) (pa_cons (pv 1) (pa_cons (pv 2) pa_nil))))
  (pss_cons (ps_set (i := 4) sc__law_deed_pair.nd rfl (.inl rfl) (px_fn E (passE rfl rfl rfl rfl) h__law_draw (hr.mono (by decide)) (by rfl) (pa_cons (pv 0) (pa_cons pe_int pa_nil))))
  (pss_cons (ps_if (PW.pt (pw_or (pt_cmpR (eq_K K hr.units) (pv 4) pe_int (nomark _)) (pw_or1 (pt_cmpR (eq_K K hr.units) (pv 1) pe_int (nomark _))))) (pss_one (ps_ret (px_fn E (passE rfl rfl rfl rfl) h__law_bad_pair (hr.mono (by decide)) (by rfl) (pa_cons (pv 0) (pa_cons (pv 1) pa_nil))))) pss_nil)
  (pss_cons (ps_if (PW.pt (pw_or (pt_cmpR (op_lt) (pv 4) pe_int (nomark _)) (pw_or1 (pt_cmpR (eq_K K hr.units) (pv 3) (pe_lst pa_nil) (nomark _))))) (pss_one (ps_ret (px_fn E (passE rfl rfl rfl rfl) h__law_pair (hr.mono (by decide)) (by rfl) (pa_cons (pv 0) (pa_cons (pv 1) pa_nil))))) pss_nil)
  (pss_cons (ps_set (i := 5) sc__law_deed_pair.nd rfl (.inl rfl) (pe_ix (ixA_K K hr) (pv 3) (px_fn E (passE rfl rfl rfl rfl) h__law_draw (hr.mono (by decide)) (by rfl) (pa_cons (pv 0) (pa_cons (pe_callB (len_K K) (by rfl) G.g_len (by decide +kernel) (pa_cons (pv 3) pa_nil)) pa_nil))) (fun _ _ => rfl)))
  (pss_cons (ps_if (pt_cmpR (eq_K K hr.units) (pv 4) pe_int (nomark _)) (pss_one (ps_ret (pe_tup (pa_cons (pe_ix (ixA_K K hr) (pv 5) pe_int (fun _ _ => rfl)) (pa_cons (pe_ix (ixA_K K hr) (pv 5) pe_int (fun _ _ => rfl)) pa_nil))))) pss_nil)
  (pss_one (ps_ret (pv 5))))))))),
  (ls_seq (ls_bind (le_call (la_cons (le_varS (i := 1)) (la_cons (le_varS (i := 2)) la_nil))) (lg_nameF (i := 3)))
  (ls_seq (ls_bind (le_call (la_cons (le_varS (i := 0)) (la_cons (le_c rfl) la_nil))) (lg_nameF (i := 4)))
  (ls_seq (ls_if (lt_or (lt_test (le_op rs_eq (le_varS (i := 4)) (le_c rfl))) (lt_test (le_op rs_eq (le_varS (i := 1)) (le_c rfl))))
  (ls_ret (le_call (la_cons (le_varS (i := 0)) (la_cons (le_varS (i := 1)) la_nil))))
  ls_next)
  (ls_seq (ls_if (lt_or (lt_test (le_op rs_cmp (le_varS (i := 4)) (le_c rfl))) (lt_test (le_op rs_eq (le_varS (i := 3)) (le_lst la_nil))))
  (ls_ret (le_call (la_cons (le_varS (i := 0)) (la_cons (le_varS (i := 1)) la_nil))))
  ls_next)
  (ls_seq (ls_bind (le_opG rg_ix (le_varS (i := 3)) (le_call (la_cons (le_varS (i := 0)) (la_cons (le_cbS rc_len (la_cons (le_varS (i := 3)) la_nil)) la_nil)))) (lg_nameF (i := 5)))
  (ls_seq (ls_if (lt_test (le_op rs_eq (le_varS (i := 4)) (le_c rfl)))
  (ls_ret (le_tup (la_cons (le_opG rg_ix (le_varS (i := 5)) (le_c rfl)) (la_cons (le_opG rg_ix (le_varS (i := 5)) (le_c rfl)) la_nil))))
  ls_next)
  (ls_ret (le_varS (i := 5)))))))))⟩
end
def B__law_deeds (Z : Ad) : FS := (dSeq (dBind [] (dLst (dCons (dMake [] Z.Net (F_Net___init__ Z) (dCons (dVarS 1) (dCons (dCBG gList (dCons (dVarS 2) dNil)) dNil))) dNil)) (dName 3))
  (dSeq (dBind [] (dLst (dCons (dCall [] (F__law_table Z) (dCons (dVarS 1) (dCons (dVarS 2) (dCons (dC (.bl false)) dNil)))) dNil)) (dName 4))
  (dSeq (dFor (dRng1 (dCons (dCall [] (F__law_draw Z) (dCons (dVarS 0) (dCons (dC (.int 9)) dNil))) dNil)) [] (dName 5)
  (dSeq (dBind [] (dCall [] (F__law_draw Z) (dCons (dVarS 0) (dCons (dCB gLen (dCons (dVar 3) dNil)) dNil))) (dNameF 6))
  (dSeq (dBind [4] (dCBG gList (dCons (dOpG gIx (dVar 4) (dVarS 6)) dNil)) (dName 7))
  (dSeq (dBind [7] (dCall [7] (F__law_deed_pair Z) (dCons (dVarS 0) (dCons (dVarS 1) (dCons (dVar 7) dNil)))) (dNameF 8))
  (dSeq (dBind [] (dOp gEq (dCall [] (F__law_draw Z) (dCons (dVarS 0) (dCons (dC (.int 2)) dNil))) (dC (.int 0))) (dNameF 9))
  (dSeq (dBind [] (dOp (gIs false) (dCall [] (F__law_first_bad Z) (dCons (dVarS 1) (dCons (dLst (dCons (dVarS 8) dNil)) dNil))) (dC .non)) (dNameF 10))
  (dCut (dIfS (dAnd (dTru (dVarS 10)) (dNot (dTru (dVarS 9))))
  (dBind [] (dOp gEq (dOpG gIx (dVar 7) (dOpG gAdd (dOpG gMul (dOpG gIx (dVarS 8) (dC (.int 0))) (dVarS 1)) (dOpG gIx (dVarS 8) (dC (.int 1))))) (dC (.int 1))) (dNameF 10))
  dNext)
  (dSeq (dBind [3] (dCall [3] (F__law_deed Z) (dCons (dVarS 9) (dCons (dOpG gIx (dVar 3) (dVarS 6)) (dCons (dVarS 8) dNil)))) (dNameF 11))
  (dIfS (dNot (dTru (dVarS 10)))
  (dIfS (dNot (dTru (dCall [] (F__law_refused Z) (dCons (dVarS 11) (dCons (dVarS 8) dNil)))))
  (dRet [] (dC (.bl false)))
  dNext)
  (dSeq (dIfS (dNot (dTru (dOpG gIx (dVarS 11) (dC (.int 0)))))
  (dRet [] (dC (.bl false)))
  dNext)
  (dSeq (dSetI 7 (dPv 7) [] (dCB gInt (dCons (dVarS 9) dNil)) (dOpG gAdd (dOpG gMul (dOpG gIx (dVarS 8) (dC (.int 0))) (dVarS 1)) (dOpG gIx (dVarS 8) (dC (.int 1)))))
  (dSeq (dApp 3 (dPv 3) [] (dOpG gIx (dVarS 11) (dC (.int 1))))
  (dApp 4 (dPv 4) [7] (dVar 7))))))))))))))
  (dSeq (dFor (dRng1 (dCons (dCB gLen (dCons (dVar 3) dNil)) dNil)) [] (dName 5)
  (dIfS (dNot (dTru (dCall [3, 4] (F__law_pairs_are Z) (dCons (dPropN [3] Z.Net (F_Net_links Z) (dOpG gIx (dVar 3) (dVarS 5))) (dCons (dCall [4] (F__law_ties Z) (dCons (dVarS 1) (dCons (dOpG gIx (dVar 4) (dVarS 5)) dNil))) dNil)))))
  (dRet [] (dC (.bl false)))
  dNext))
  (dSeq (dBind [] (dOp gMin (dCB gLen (dCons (dVar 3) dNil)) (dC (.int 1))) (dNameF 12))
  (dSeq (dIfS (dNot (dTru (dCall [3, 4] (F__law_net_is Z) (dCons (dVarS 0) (dCons (dOpG gIx (dVar 3) (dVarS 12)) (dCons (dVarS 1) (dCons (dOpG gIx (dVar 4) (dVarS 12)) dNil)))))))
  (dRet [] (dC (.bl false)))
  dNext)
  (dRet [3, 4] (dCall [3, 4] (F__law_net_is Z) (dCons (dVarS 0) (dCons (dOpG gIx (dVar 3) (dC (.int 0))) (dCons (dVarS 1) (dCons (dOpG gIx (dVar 4) (dC (.int 0))) dNil))))))))))))
def F__law_deeds (Z : Ad) : DF := bodyN (B__law_deeds Z) [] 3 10
section
variable {Γ : GS} {P : Program} {w : World} {K : PySem.W.Frag} {mg : Str → Option Value} {base : Heap} {Z : Ad}
theorem ok__law_deeds (G : Glo K mg Z) {f : Addr} {fd : FuncData} (F : Fun K "_law_deeds" "_law_deeds" s__law_deeds f fd) (h_Net___init__ : HIX P w K mg base Z.Net 4 (spM Γ [0] (F_Net___init__ Z))) (h__law_table : HX P w K mg base "_law_table" 1 (spP Γ (F__law_table Z))) (h__law_draw : HX P w K mg base "_law_draw" 1 (spP Γ (F__law_draw Z))) (h__law_deed_pair : HX P w K mg base "_law_deed_pair" 5 (spP Γ (F__law_deed_pair Z))) (h__law_first_bad : HX P w K mg base "_law_first_bad" 1 (spP Γ (F__law_first_bad Z))) (h__law_deed : HX P w K mg base "_law_deed" 8 (spP Γ (F__law_deed Z))) (h__law_refused : HX P w K mg base "_law_refused" 3 (spP Γ (F__law_refused Z))) (h__law_pairs_are : HX P w K mg base "_law_pairs_are" 3 (spP Γ (F__law_pairs_are Z))) (h__law_ties : HX P w K mg base "_law_ties" 1 (spP Γ (F__law_ties Z))) (h_Net_links : HPX P w K mg base Z.Net "links" 1 (spP Γ (F_Net_links Z))) (h__law_net_is : HX P w K mg base "_law_net_is" 6 (spP Γ (F__law_net_is Z))) : FnX P w K mg base 9 f fd ["_law_box_here", "_law_count_here", "_law_pairs"] (spP Γ (F__law_deeds Z)) :=
  okP F sc__law_deeds rfl rfl fun cdv A outer s H E hr => ⟨_, (pss_cons (ps_set (i := 3) sc__law_deeds.nd rfl (.inl rfl) (pe_lst (pa_cons (px_i E (passE rfl rfl rfl rfl) h_Net___init__ G.m_Net (hr.mono (by decide)) (by rfl) (pa_cons (pv 1) (pa_cons (pe_callTy (lst_K K) (by rfl) G.g_list (by decide +kernel) (pa_cons (pv 2) pa_nil)) pa_nil))) pa_nil)))
  (pss_cons (ps_set (i := 4) sc__law_deeds.nd rfl (.inl rfl) (pe_lst (pa_cons (px_fn E (passE rfl rfl rfl rfl) h__law_table (hr.mono (by decide)) (by rfl) (pa_cons (pv 1) (pa_cons (pv 2) (pa_cons pe_bl pa_nil)))) pa_nil)))
  (pss_cons (ps_for (passes_of rfl) rfl (pi_range1 (by rfl) G.g_range (pa_cons (px_fn E (passE rfl rfl rfl rfl) h__law_draw (hr.mono (by decide)) (by rfl) (pa_cons (pv 0) (pa_cons pe_int pa_nil))) pa_nil)) (pg_name (i := 5) (by exact sc__law_deeds.nd) rfl (.inl rfl)) (pss_cons (ps_set (i := 6) sc__law_deeds.nd rfl (.inl rfl) (px_fn E (passE rfl rfl rfl rfl) h__law_draw (hr.mono (by decide)) (by rfl) (pa_cons (pv 0) (pa_cons (pe_callB (len_K K) (by rfl) G.g_len (by decide +kernel) (pa_cons (pv 3) pa_nil)) pa_nil))))
  (pss_cons (ps_set (i := 7) sc__law_deeds.nd rfl (.inl rfl) (pe_callTy (lst_K K) (by rfl) G.g_list (by decide +kernel) (pa_cons (pe_ix (ixA_K K hr) (pv 4) (pv 6) (fun _ _ => rfl)) pa_nil)))
  (pss_cons (ps_set (i := 8) sc__law_deeds.nd rfl (.inl rfl) (px_fn E (passE rfl rfl rfl rfl) h__law_deed_pair (hr.mono (by decide)) (by rfl) (pa_cons (pv 0) (pa_cons (pv 1) (pa_cons (pv 7) pa_nil)))))
  (pss_cons (ps_set (i := 9) sc__law_deeds.nd rfl (.inl rfl) (pe_cmpR (eq_K K hr.units) (px_fn E (passE rfl rfl rfl rfl) h__law_draw (hr.mono (by decide)) (by rfl) (pa_cons (pv 0) (pa_cons pe_int pa_nil))) pe_int (nomark _)))
  (pss_cons (ps_set (i := 10) sc__law_deeds.nd rfl (.inl rfl) (pe_cmpR op_isA (px_fn E (passE rfl rfl rfl rfl) h__law_first_bad (hr.mono (by decide)) (by rfl) (pa_cons (pv 1) (pa_cons (pe_lst (pa_cons (pv 8) pa_nil)) pa_nil))) pe_non (nomark _)))
  (pss_cons (ps_if (PW.pt (pw_and (tru_K K (pv 10) (by intro _; rfl)) (pw_and1 (pt_not (tru_K K (pv 9) (by intro _; rfl)))))) (pss_one (ps_set (i := 10) sc__law_deeds.nd rfl (.inl rfl) (pe_cmpR (eq_K K hr.units) (pe_ix (ixA_K K hr) (pv 7) (pe_op op_addA (pe_op op_mulA (pe_ix (ixA_K K hr) (pv 8) pe_int (fun _ _ => rfl)) (pv 1)) (pe_ix (ixA_K K hr) (pv 8) pe_int (fun _ _ => rfl))) (fun _ _ => rfl)) pe_int (nomark _)))) pss_nil)
  (pss_cons (ps_set (i := 11) sc__law_deeds.nd rfl (.inl rfl) (px_fn E (passE rfl rfl rfl rfl) h__law_deed (hr.mono (by decide)) (by rfl) (pa_cons (pv 9) (pa_cons (pe_ix (ixA_K K hr) (pv 3) (pv 6) (fun _ _ => rfl)) (pa_cons (pv 8) pa_nil)))))
  (pss_one (ps_if (pt_not (tru_K K (pv 10) (by intro _; rfl))) (pss_one (ps_if (pt_not (tru_K K (px_fn E (passE rfl rfl rfl rfl) h__law_refused (hr.mono (by decide)) (by rfl) (pa_cons (pv 11) (pa_cons (pv 8) pa_nil))) (by intro _; rfl))) (pss_one (ps_ret pe_bl)) pss_nil)) (pss_cons (ps_if (pt_not (tru_K K (pe_ix (ixA_K K hr) (pv 11) pe_int (fun _ _ => rfl)) (by intro _; rfl))) (pss_one (ps_ret pe_bl)) pss_nil)
  (pss_cons (ps_asg (pe_callTy (int_K K) (by rfl) G.g_int (by decide +kernel) (pa_cons (pv 9) pa_nil)) (pg_sub (pv 7) (pe_op op_addA (pe_op op_mulA (pe_ix (ixA_K K hr) (pv 8) pe_int (fun _ _ => rfl)) (pv 1)) (pe_ix (ixA_K K hr) (pv 8) pe_int (fun _ _ => rfl))) (setA hr)))
  (pss_cons (ps_expr (bm_K K PySem.F.plainAttrs_list PySem.F.slot_list_append PySem.F.type_list_append mt_append (pv 3) (pa_cons (pe_ix (ixA_K K hr) (pv 11) pe_int (fun _ _ => rfl)) pa_nil)))
  (pss_one (ps_expr (bm_K K PySem.F.plainAttrs_list PySem.F.slot_list_append PySem.F.type_list_append mt_append (pv 4) (pa_cons (pv 7) pa_nil)))))))))))))))))
  (pss_cons (ps_for (passes_of rfl) rfl (pi_range1 (by rfl) G.g_range (pa_cons (pe_callB (len_K K) (by rfl) G.g_len (by decide +kernel) (pa_cons (pv 3) pa_nil)) pa_nil)) (pg_name (i := 5) (by exact sc__law_deeds.nd) rfl (.inl rfl)) (pss_one (ps_if (pt_not (tru_K K (px_fn E (passE rfl rfl rfl rfl) h__law_pairs_are (hr.mono (by decide)) (by rfl) (pa_cons (px_p h_Net_links G.c_Net (hr.mono (by decide)) (pe_ix (ixA_K K hr) (pv 3) (pv 5) (fun _ _ => rfl))) (pa_cons (px_fn E (passE rfl rfl rfl rfl) h__law_ties (hr.mono (by decide)) (by rfl) (pa_cons (pv 1) (pa_cons (pe_ix (ixA_K K hr) (pv 4) (pv 5) (fun _ _ => rfl)) pa_nil))) pa_nil))) (by intro _; rfl))) (pss_one (ps_ret pe_bl)) pss_nil)))
  (pss_cons (ps_set (i := 12) sc__law_deeds.nd rfl (.inl rfl) (pe_op op_sub (pe_callB (len_K K) (by rfl) G.g_len (by decide +kernel) (pa_cons (pv 3) pa_nil)) pe_int))
  (pss_cons (ps_if (pt_not (tru_K K (px_fn E (passE rfl rfl rfl rfl) h__law_net_is (hr.mono (by decide)) (by rfl) (pa_cons (pv 0) (pa_cons (pe_ix (ixA_K K hr) (pv 3) (pv 12) (fun _ _ => rfl)) (pa_cons (pv 1) (pa_cons (pe_ix (ixA_K K hr) (pv 4) (pv 12) (fun _ _ => rfl)) pa_nil))))) (by intro _; rfl))) (pss_one (ps_ret pe_bl)) pss_nil)
  (pss_one (ps_ret (px_fn E (passE rfl rfl rfl rfl) h__law_net_is (hr.mono (by decide)) (by rfl) (pa_cons (pv 0) (pa_cons (pe_ix (ixA_K K hr) (pv 3) pe_int (fun _ _ => rfl)) (pa_cons (pv 1) (pa_cons (pe_ix (ixA_K K hr) (pv 4) pe_int (fun _ _ => rfl)) pa_nil))))))))))))),
  (ls_seq (ls_bind (le_lst (la_cons (le_make (la_cons (le_varS (i := 1)) (la_cons (le_cbG rc_list (la_cons (le_varS (i := 2)) la_nil)) la_nil))) la_nil)) (lg_name (i := 3)))
  (ls_seq (ls_bind (le_lst (la_cons (le_call (la_cons (le_varS (i := 1)) (la_cons (le_varS (i := 2)) (la_cons (le_c rfl) la_nil)))) la_nil)) (lg_name (i := 4)))
  (ls_seq (ls_for (li_rng1 (la_cons (le_call (la_cons (le_varS (i := 0)) (la_cons (le_c rfl) la_nil))) la_nil)) (lg_name (i := 5))
  (ls_seq (ls_bind (le_call (la_cons (le_varS (i := 0)) (la_cons (le_cbS rc_len (la_cons (le_var (i := 3)) la_nil)) la_nil))) (lg_nameF (i := 6)))
  (ls_seq (ls_bind (le_cbG rc_list (la_cons (le_opG rg_ix (le_var (i := 4)) (le_varS (i := 6))) la_nil)) (lg_name (i := 7)))
  (ls_seq (ls_bind (le_call (la_cons (le_varS (i := 0)) (la_cons (le_varS (i := 1)) (la_cons (le_var (i := 7)) la_nil)))) (lg_nameF (i := 8)))
  (ls_seq (ls_bind (le_op rs_eq (le_call (la_cons (le_varS (i := 0)) (la_cons (le_c rfl) la_nil))) (le_c rfl)) (lg_nameF (i := 9)))
  (ls_seq (ls_bind (le_op rs_is (le_call (la_cons (le_varS (i := 1)) (la_cons (le_lst (la_cons (le_varS (i := 8)) la_nil)) la_nil))) (le_c rfl)) (lg_nameF (i := 10)))
  (ls_seq (ls_if (lt_and (lt_tru (le_varS (i := 10))) (lt_not (lt_tru (le_varS (i := 9)))))
  (ls_bind (le_op rs_eq (le_opG rg_ix (le_var (i := 7)) (le_opG rg_add (le_opG rg_mul (le_opG rg_ix (le_varS (i := 8)) (le_c rfl)) (le_varS (i := 1))) (le_opG rg_ix (le_varS (i := 8)) (le_c rfl)))) (le_c rfl)) (lg_nameF (i := 10)))
  ls_next)
  (ls_seq (ls_bind (le_call (la_cons (le_varS (i := 9)) (la_cons (le_opG rg_ix (le_var (i := 3)) (le_varS (i := 6))) (la_cons (le_varS (i := 8)) la_nil)))) (lg_nameF (i := 11)))
  (ls_if (lt_not (lt_tru (le_varS (i := 10))))
  (ls_if (lt_not (lt_tru (le_call (la_cons (le_varS (i := 11)) (la_cons (le_varS (i := 8)) la_nil)))))
  (ls_ret (le_c rfl))
  ls_next)
  (ls_seq (ls_if (lt_not (lt_tru (le_opG rg_ix (le_varS (i := 11)) (le_c rfl))))
  (ls_ret (le_c rfl))
  ls_next)
  (ls_seq (ls_setI (lp_var (i := 7)) (le_cbS rc_int (la_cons (le_varS (i := 9)) la_nil)) (le_opG rg_add (le_opG rg_mul (le_opG rg_ix (le_varS (i := 8)) (le_c rfl)) (le_varS (i := 1))) (le_opG rg_ix (le_varS (i := 8)) (le_c rfl))))
  (ls_seq (ls_app (lp_var (i := 3)) (le_opG rg_ix (le_varS (i := 11)) (le_c rfl)))
  (ls_app (lp_var (i := 4)) (le_var (i := 7)))))))))))))))
  (ls_seq (ls_for (li_rng1 (la_cons (le_cbS rc_len (la_cons (le_var (i := 3)) la_nil)) la_nil)) (lg_name (i := 5))
  (ls_if (lt_not (lt_tru (le_call (la_cons (le_propN (le_opG rg_ix (le_var (i := 3)) (le_varS (i := 5)))) (la_cons (le_call (la_cons (le_varS (i := 1)) (la_cons (le_opG rg_ix (le_var (i := 4)) (le_varS (i := 5))) la_nil))) la_nil)))))
  (ls_ret (le_c rfl))
  ls_next))
  (ls_seq (ls_bind (le_op rs_sub (le_cbS rc_len (la_cons (le_var (i := 3)) la_nil)) (le_c rfl)) (lg_nameF (i := 12)))
  (ls_seq (ls_if (lt_not (lt_tru (le_call (la_cons (le_varS (i := 0)) (la_cons (le_opG rg_ix (le_var (i := 3)) (le_varS (i := 12))) (la_cons (le_varS (i := 1)) (la_cons (le_opG rg_ix (le_var (i := 4)) (le_varS (i := 12))) la_nil)))))))
  (ls_ret (le_c rfl))
  ls_next)
  (ls_ret (le_call (la_cons (le_varS (i := 0)) (la_cons (le_opG rg_ix (le_var (i := 3)) (le_c rfl)) (la_cons (le_varS (i := 1)) (la_cons (le_opG rg_ix (le_var (i := 4)) (le_c rfl)) la_nil))))))))))))⟩
end
def B__law_named_table (Z : Ad) : FS := (dSeq (dBind [] (dOpG gMul (dLst (dCons (dC (.int 0)) dNil)) (dOpG gMul (dVarS 1) (dVarS 1))) (dName 2))
  (dSeq (dFor (dRng1 (dCons (dVarS 1) dNil)) [] (dName 3)
  (dFor (dRng1 (dCons (dVarS 1) dNil)) [] (dName 4)
  (dSeq (dBind [] (dOp gNe (dVarS 3) (dVarS 4)) (dNameF 5))
  (dCut (dIfS (dTest (dOp gEq (dVarS 0) (dC (.int 2))))
  (dBind [] (dOrV (dOp gEq (dOp gMin (dVarS 3) (dVarS 4)) (dC (.int 1))) (dOp gEq (dOp gMin (dVarS 4) (dVarS 3)) (dC (.int 1)))) (dNameF 5))
  dNext)
  (dCut (dIfS (dTest (dOp gEq (dVarS 0) (dC (.int 3))))
  (dBind [] (dAndV (dOp gNe (dVarS 3) (dVarS 4)) (dOrV (dOp gEq (dVarS 3) (dC (.int 0))) (dOp gEq (dVarS 4) (dC (.int 0))))) (dNameF 5))
  dNext)
  (dCut (dIfS (dTest (dOp gEq (dVarS 0) (dC (.int 5))))
  (dBind [] (dAndV (dOp gNe (dVarS 3) (dVarS 4)) (dOp gEq (dVarS 4) (dOp gMod (dCB gInt (dCons (dOpG gAdd (dVarS 3) (dC (.int 1))) dNil)) (dVarS 1)))) (dNameF 5))
  dNext)
  (dSetI 2 (dPv 2) [] (dCB gInt (dCons (dVarS 5) dNil)) (dOpG gAdd (dOpG gMul (dVarS 3) (dVarS 1)) (dVarS 4)))))))))
  (dRetM 2)))
def F__law_named_table (Z : Ad) : DF := bodyN (B__law_named_table Z) [] 2 4
section
variable {Γ : GS} {P : Program} {w : World} {K : PySem.W.Frag} {mg : Str → Option Value} {base : Heap} {Z : Ad}
theorem ok__law_named_table (G : Glo K mg Z) {f : Addr} {fd : FuncData} (F : Fun K "_law_named_table" "_law_named_table" s__law_named_table f fd) : FnX P w K mg base 1 f fd ["_law_way", "_law_count_here"] (spP Γ (F__law_named_table Z)) :=
  okP F sc__law_named_table rfl rfl fun cdv A outer s H E hr => ⟨_, (pss_cons (ps_set (i := 2) sc__law_named_table.nd rfl (.inl rfl) (pe_op op_mulA (pe_lst (pa_cons pe_int pa_nil)) (pe_op op_mulA (pv 1) (pv 1))))
  (pss_cons (ps_for (passes_of rfl) rfl (pi_range1 (by rfl) G.g_range (pa_cons (pv 1) pa_nil)) (pg_name (i := 3) (by exact sc__law_named_table.nd) rfl (.inl rfl)) (pss_one (ps_for (passes_of rfl) rfl (pi_range1 (by rfl) G.g_range (pa_cons (pv 1) pa_nil)) (pg_name (i := 4) (by exact sc__law_named_table.nd) rfl (.inl rfl)) (pss_cons (ps_set (i := 5) sc__law_named_table.nd rfl (.inl rfl) (pe_cmpR (ne_K K hr.units) (pv 3) (pv 4) (nomark _)))
  (pss_cons (ps_if (pt_cmpR (eq_K K hr.units) (pv 0) pe_int (nomark _)) (pss_one (ps_set (i := 5) sc__law_named_table.nd rfl (.inl rfl) (pe_or (pe_cmpR (eq_K K hr.units) (pe_op op_sub (pv 3) (pv 4)) pe_int (nomark _)) (pe_one (pe_cmpR (eq_K K hr.units) (pe_op op_sub (pv 4) (pv 3)) pe_int (nomark _)))))) pss_nil)
  (pss_cons (ps_if (pt_cmpR (eq_K K hr.units) (pv 0) pe_int (nomark _)) (pss_one (ps_set (i := 5) sc__law_named_table.nd rfl (.inl rfl) (pe_and (pe_cmpR (ne_K K hr.units) (pv 3) (pv 4) (nomark _)) (pe_one (pe_or (pe_cmpR (eq_K K hr.units) (pv 3) pe_int (nomark _)) (pe_one (pe_cmpR (eq_K K hr.units) (pv 4) pe_int (nomark _)))))))) pss_nil)
  (pss_cons (ps_if (pt_cmpR (eq_K K hr.units) (pv 0) pe_int (nomark _)) (pss_one (ps_set (i := 5) sc__law_named_table.nd rfl (.inl rfl) (pe_and (pe_cmpR (ne_K K hr.units) (pv 3) (pv 4) (nomark _)) (pe_one (pe_cmpR (eq_K K hr.units) (pv 4) (pe_op op_modA (pe_callTy (int_K K) (by rfl) G.g_int (by decide +kernel) (pa_cons (pe_op op_addA (pv 3) pe_int) pa_nil)) (pv 1)) (nomark _)))))) pss_nil)
  (pss_one (ps_asg (pe_callTy (int_K K) (by rfl) G.g_int (by decide +kernel) (pa_cons (pv 5) pa_nil)) (pg_sub (pv 2) (pe_op op_addA (pe_op op_mulA (pv 3) (pv 1)) (pv 4)) (setA hr)))))))))))
  (pss_one (ps_ret (pv 2))))),
  (ls_seq (ls_bind (le_opG rg_mul (le_lst (la_cons (le_c rfl) la_nil)) (le_opG rg_mul (le_varS (i := 1)) (le_varS (i := 1)))) (lg_name (i := 2)))
  (ls_seq (ls_for (li_rng1 (la_cons (le_varS (i := 1)) la_nil)) (lg_name (i := 3))
  (ls_for (li_rng1 (la_cons (le_varS (i := 1)) la_nil)) (lg_name (i := 4))
  (ls_seq (ls_bind (le_op rs_ne (le_varS (i := 3)) (le_varS (i := 4))) (lg_nameF (i := 5)))
  (ls_seq (ls_if (lt_test (le_op rs_eq (le_varS (i := 0)) (le_c rfl)))
  (ls_bind (le_orV (le_op rs_eq (le_op rs_sub (le_varS (i := 3)) (le_varS (i := 4))) (le_c rfl)) (le_op rs_eq (le_op rs_sub (le_varS (i := 4)) (le_varS (i := 3))) (le_c rfl))) (lg_nameF (i := 5)))
  ls_next)
  (ls_seq (ls_if (lt_test (le_op rs_eq (le_varS (i := 0)) (le_c rfl)))
  (ls_bind (le_andV (le_op rs_ne (le_varS (i := 3)) (le_varS (i := 4))) (le_orV (le_op rs_eq (le_varS (i := 3)) (le_c rfl)) (le_op rs_eq (le_varS (i := 4)) (le_c rfl)))) (lg_nameF (i := 5)))
  ls_next)
  (ls_seq (ls_if (lt_test (le_op rs_eq (le_varS (i := 0)) (le_c rfl)))
  (ls_bind (le_andV (le_op rs_ne (le_varS (i := 3)) (le_varS (i := 4))) (le_op rs_eq (le_varS (i := 4)) (le_op rs_mod (le_cbS rc_int (la_cons (le_opG rg_add (le_varS (i := 3)) (le_c rfl)) la_nil)) (le_varS (i := 1))))) (lg_nameF (i := 5)))
  ls_next)
  (ls_setI (lp_var (i := 2)) (le_cbS rc_int (la_cons (le_varS (i := 5)) la_nil)) (le_opG rg_add (le_opG rg_mul (le_varS (i := 3)) (le_varS (i := 1))) (le_varS (i := 4))))))))))
  (ls_retM (i := 2))))⟩
end
def B__law_named (Z : Ad) : FS := (dSeq (dBind [] (dOpG gAdd (dC (.int 2)) (dCall [] (F__law_draw Z) (dCons (dVarS 0) (dCons (dC (.int 4)) dNil)))) (dNameF 2))
  (dSeq (dFor (dRng2 (dCons (dC (.int 2)) (dCons (dC (.int 6)) dNil))) [] (dName 3)
  (dSeq (dBind [] (dCall [] (F__law_named_table Z) (dCons (dVarS 3) (dCons (dVarS 1) dNil))) (dNameF 4))
  (dSeq (dBind [] (dCall [] (F__law_made Z) (dCons (dVarS 3) (dCons (dVarS 1) (dCons (dLst dNil) dNil)))) (dNameF 5))
  (dSeq (dIfS (dOr (dNot (dTru (dOpG gIx (dVarS 5) (dC (.int 0))))) (dNot (dTru (dCall [] (F__law_pairs_are Z) (dCons (dPropN [] Z.Net (F_Net_links Z) (dOpG gIx (dVarS 5) (dC (.int 1)))) (dCons (dCall [] (F__law_ties Z) (dCons (dVarS 1) (dCons (dVarS 4) dNil))) dNil))))))
  (dRet [] (dC (.bl false)))
  dNext)
  (dSeq (dIfS (dOr (dNot (dTru (dCall [] (F__law_is_int Z) (dCons (dFld Z.Net "count" (dOpG gIx (dVarS 5) (dC (.int 1)))) dNil)))) (dTest (dOp gNe (dFld Z.Net "count" (dOpG gIx (dVarS 5) (dC (.int 1)))) (dVarS 1))))
  (dRet [] (dC (.bl false)))
  dNext)
  (dIfS (dAnd (dTest (dOp gEq (dVarS 3) (dVarS 2))) (dNot (dTru (dCall [] (F__law_net_is Z) (dCons (dVarS 0) (dCons (dOpG gIx (dVarS 5) (dC (.int 1))) (dCons (dVarS 1) (dCons (dVarS 4) dNil))))))))
  (dRet [] (dC (.bl false)))
  dNext))))))
  (dRet [] (dC (.bl true)))))
def F__law_named (Z : Ad) : DF := bodyN (B__law_named Z) [] 2 4
section
variable {Γ : GS} {P : Program} {w : World} {K : PySem.W.Frag} {mg : Str → Option Value} {base : Heap} {Z : Ad}
theorem ok__law_named (G : Glo K mg Z) {f : Addr} {fd : FuncData} (F : Fun K "_law_named" "_law_named" s__law_named f fd) (h__law_draw : HX P w K mg base "_law_draw" 1 (spP Γ (F__law_draw Z))) (h__law_named_table : HX P w K mg base "_law_named_table" 1 (spP Γ (F__law_named_table Z))) (h__law_made : HX P w K mg base "_law_made" 9 (spP Γ (F__law_made Z))) (h__law_pairs_are : HX P w K mg base "_law_pairs_are" 3 (spP Γ (F__law_pairs_are Z))) (h__law_ties : HX P w K mg base "_law_ties" 1 (spP Γ (F__law_ties Z))) (h_Net_links : HPX P w K mg base Z.Net "links" 1 (spP Γ (F_Net_links Z))) (h__law_is_int : HX P w K mg base "_law_is_int" 1 (spP Γ (F__law_is_int Z))) (h__law_net_is : HX P w K mg base "_law_net_is" 6 (spP Γ (F__law_net_is Z))) : FnX P w K mg base 10 f fd ["_law_box_here", "_law_count_here"] (spP Γ (F__law_named Z)) :=
  okP F sc__law_named rfl rfl fun cdv A outer s H E hr => ⟨_, (pss_cons (ps_set (i := 2) sc__law_named.nd rfl (.inl rfl) (pe_op op_addA pe_int (px_fn E (passE rfl rfl rfl rfl) h__law_draw (hr.mono (by decide)) (by rfl) (pa_cons (pv 0) (pa_cons pe_int pa_nil)))))
  (pss_cons (ps_for (passes_of rfl) rfl (pi_range2 (by rfl) G.g_range (pa_cons pe_int (pa_cons pe_int pa_nil))) (pg_name (i := 3) (by exact sc__law_named.nd) rfl (.inl rfl)) (pss_cons (ps_set (i := 4) sc__law_named.nd rfl (.inl rfl) (px_fn E (passE rfl rfl rfl rfl) h__law_named_table (hr.mono (by decide)) (by rfl) (pa_cons (pv 3) (pa_cons (pv 1) pa_nil))))
  (pss_cons (ps_set (i := 5) sc__law_named.nd rfl (.inl rfl) (px_fn E (passE rfl rfl rfl rfl) h__law_made (hr.mono (by decide)) (by rfl) (pa_cons (pv 3) (pa_cons (pv 1) (pa_cons (pe_lst pa_nil) pa_nil)))))
  (pss_cons (ps_if (PW.pt (pw_or (pt_not (tru_K K (pe_ix (ixA_K K hr) (pv 5) pe_int (fun _ _ => rfl)) (by intro _; rfl))) (pw_or1 (pt_not (tru_K K (px_fn E (passE rfl rfl rfl rfl) h__law_pairs_are (hr.mono (by decide)) (by rfl) (pa_cons (px_p h_Net_links G.c_Net (hr.mono (by decide)) (pe_ix (ixA_K K hr) (pv 5) pe_int (fun _ _ => rfl))) (pa_cons (px_fn E (passE rfl rfl rfl rfl) h__law_ties (hr.mono (by decide)) (by rfl) (pa_cons (pv 1) (pa_cons (pv 4) pa_nil))) pa_nil))) (by intro _; rfl)))))) (pss_one (ps_ret pe_bl)) pss_nil)
  (pss_cons (ps_if (PW.pt (pw_or (pt_not (tru_K K (px_fn E (passE rfl rfl rfl rfl) h__law_is_int (hr.mono (by decide)) (by rfl) (pa_cons (fld_K K (pe_ix (ixA_K K hr) (pv 5) pe_int (fun _ _ => rfl))) pa_nil)) (by intro _; rfl))) (pw_or1 (pt_cmpR (ne_K K hr.units) (fld_K K (pe_ix (ixA_K K hr) (pv 5) pe_int (fun _ _ => rfl))) (pv 1) (nomark _))))) (pss_one (ps_ret pe_bl)) pss_nil)
  (pss_one (ps_if (PW.pt (pw_and (pt_cmpR (eq_K K hr.units) (pv 3) (pv 2) (nomark _)) (pw_and1 (pt_not (tru_K K (px_fn E (passE rfl rfl rfl rfl) h__law_net_is (hr.mono (by decide)) (by rfl) (pa_cons (pv 0) (pa_cons (pe_ix (ixA_K K hr) (pv 5) pe_int (fun _ _ => rfl)) (pa_cons (pv 1) (pa_cons (pv 4) pa_nil))))) (by intro _; rfl)))))) (pss_one (ps_ret pe_bl)) pss_nil)))))))
  (pss_one (ps_ret pe_bl)))),
  (ls_seq (ls_bind (le_opG rg_add (le_c rfl) (le_call (la_cons (le_varS (i := 0)) (la_cons (le_c rfl) la_nil)))) (lg_nameF (i := 2)))
  (ls_seq (ls_for (li_rng2 (la_cons (le_c rfl) (la_cons (le_c rfl) la_nil))) (lg_name (i := 3))
  (ls_seq (ls_bind (le_call (la_cons (le_varS (i := 3)) (la_cons (le_varS (i := 1)) la_nil))) (lg_nameF (i := 4)))
  (ls_seq (ls_bind (le_call (la_cons (le_varS (i := 3)) (la_cons (le_varS (i := 1)) (la_cons (le_lst la_nil) la_nil)))) (lg_nameF (i := 5)))
  (ls_seq (ls_if (lt_or (lt_not (lt_tru (le_opG rg_ix (le_varS (i := 5)) (le_c rfl)))) (lt_not (lt_tru (le_call (la_cons (le_propN (le_opG rg_ix (le_varS (i := 5)) (le_c rfl))) (la_cons (le_call (la_cons (le_varS (i := 1)) (la_cons (le_varS (i := 4)) la_nil))) la_nil))))))
  (ls_ret (le_c rfl))
  ls_next)
  (ls_seq (ls_if (lt_or (lt_not (lt_tru (le_call (la_cons (le_fld G.c_Net G.n_Net_count (le_opG rg_ix (le_varS (i := 5)) (le_c rfl))) la_nil)))) (lt_test (le_op rs_ne (le_fld G.c_Net G.n_Net_count (le_opG rg_ix (le_varS (i := 5)) (le_c rfl))) (le_varS (i := 1)))))
  (ls_ret (le_c rfl))
  ls_next)
  (ls_if (lt_and (lt_test (le_op rs_eq (le_varS (i := 3)) (le_varS (i := 2)))) (lt_not (lt_tru (le_call (la_cons (le_varS (i := 0)) (la_cons (le_opG rg_ix (le_varS (i := 5)) (le_c rfl)) (la_cons (le_varS (i := 1)) (la_cons (le_varS (i := 4)) la_nil))))))))
  (ls_ret (le_c rfl))
  ls_next))))))
  (ls_ret (le_c rfl))))⟩
end
def B__law_wrong_count (Z : Ad) : FS := (dSeq (dBind [] (dCall [] (F__law_draw Z) (dCons (dVarS 0) (dCons (dC (.int 6)) dNil))) (dNameF 2))
  (dSeq (dIfS (dTest (dOp gEq (dVarS 2) (dC (.int 0))))
  (dRet [] (dC (.int 0)))
  dNext)
  (dSeq (dIfS (dTest (dOp gEq (dVarS 2) (dC (.int 1))))
  (dRet [] (dC (.int 25)))
  dNext)
  (dSeq (dIfS (dTest (dOp gEq (dVarS 2) (dC (.int 2))))
  (dRet [] (dOp gMin (dNeg (dC (.int 1))) (dCall [] (F__law_draw Z) (dCons (dVarS 0) (dCons (dC (.int 30)) dNil)))))
  dNext)
  (dSeq (dIfS (dOr (dTest (dOp gEq (dVarS 2) (dC (.int 3)))) (dTest (dOp gGt (dVarS 1) (dC (.int 1)))))
  (dRet [] (dOpG gAdd (dC (.int 25)) (dCall [] (F__law_draw Z) (dCons (dVarS 0) (dCons (dC (.int 36)) dNil)))))
  dNext)
  (dSeq (dBind [] (dCall [] (F__law_great Z) (dCons (dVarS 0) dNil)) (dNameF 3))
  (dSeq (dIfS (dTest (dOp gEq (dVarS 2) (dC (.int 4))))
  (dRet [] (dCB gMx (dCons (dC (.int 25)) (dCons (dVarS 3) dNil))))
  dNext)
  (dRet [] (dCB gMn (dCons (dC (.int 0)) (dCons (dOp gMin (dC (.int 0)) (dVarS 3)) dNil)))))))))))
def F__law_wrong_count (Z : Ad) : DF := bodyN (B__law_wrong_count Z) [] 2 2
section
variable {Γ : GS} {P : Program} {w : World} {K : PySem.W.Frag} {mg : Str → Option Value} {base : Heap} {Z : Ad}
theorem ok__law_wrong_count (G : Glo K mg Z) {f : Addr} {fd : FuncData} (F : Fun K "_law_wrong_count" "_law_wrong_count" s__law_wrong_count f fd) (h__law_draw : HX P w K mg base "_law_draw" 1 (spP Γ (F__law_draw Z))) (h__law_great : HX P w K mg base "_law_great" 2 (spP Γ (F__law_great Z))) : FnX P w K mg base 3 f fd ["_law_box_here", "_law_way"] (spP Γ (F__law_wrong_count Z)) :=
  okP F sc__law_wrong_count rfl rfl fun cdv A outer s H E hr => ⟨_, (pss_cons (ps_set (i := 2) sc__law_wrong_count.nd rfl (.inl rfl) (px_fn E (passE rfl rfl rfl rfl) h__law_draw (hr.mono (by decide)) (by rfl) (pa_cons (pv 0) (pa_cons pe_int pa_nil))))
  (pss_cons (ps_if (pt_cmpR (eq_K K hr.units) (pv 2) pe_int (nomark _)) (pss_one (ps_ret pe_int)) pss_nil)
  (pss_cons (ps_if (pt_cmpR (eq_K K hr.units) (pv 2) pe_int (nomark _)) (pss_one (ps_ret pe_int)) pss_nil)
  (pss_cons (ps_if (pt_cmpR (eq_K K hr.units) (pv 2) pe_int (nomark _)) (pss_one (ps_ret (pe_op op_sub (pe_un un_neg pe_int) (px_fn E (passE rfl rfl rfl rfl) h__law_draw (hr.mono (by decide)) (by rfl) (pa_cons (pv 0) (pa_cons pe_int pa_nil)))))) pss_nil)
  (pss_cons (ps_if (PW.pt (pw_or (pt_cmpR (eq_K K hr.units) (pv 2) pe_int (nomark _)) (pw_or1 (pt_cmpR (op_gt) (pv 1) pe_int (nomark _))))) (pss_one (ps_ret (pe_op op_addA pe_int (px_fn E (passE rfl rfl rfl rfl) h__law_draw (hr.mono (by decide)) (by rfl) (pa_cons (pv 0) (pa_cons pe_int pa_nil)))))) pss_nil)
  (pss_cons (ps_set (i := 3) sc__law_wrong_count.nd rfl (.inl rfl) (px_fn E (passE rfl rfl rfl rfl) h__law_great (hr.mono (by decide)) (by rfl) (pa_cons (pv 0) pa_nil)))
  (pss_cons (ps_if (pt_cmpR (eq_K K hr.units) (pv 2) pe_int (nomark _)) (pss_one (ps_ret (pe_callB (call_max2 rfl) (by rfl) G.g_max (by decide +kernel) (pa_cons pe_int (pa_cons (pv 3) pa_nil))))) pss_nil)
  (pss_one (ps_ret (pe_callB (call_min2 rfl) (by rfl) G.g_min (by decide +kernel) (pa_cons pe_int (pa_cons (pe_op op_sub pe_int (pv 3)) pa_nil)))))))))))),
  (ls_seq (ls_bind (le_call (la_cons (le_varS (i := 0)) (la_cons (le_c rfl) la_nil))) (lg_nameF (i := 2)))
  (ls_seq (ls_if (lt_test (le_op rs_eq (le_varS (i := 2)) (le_c rfl)))
  (ls_ret (le_c rfl))
  ls_next)
  (ls_seq (ls_if (lt_test (le_op rs_eq (le_varS (i := 2)) (le_c rfl)))
  (ls_ret (le_c rfl))
  ls_next)
  (ls_seq (ls_if (lt_test (le_op rs_eq (le_varS (i := 2)) (le_c rfl)))
  (ls_ret (le_op rs_sub (le_neg (le_c rfl)) (le_call (la_cons (le_varS (i := 0)) (la_cons (le_c rfl) la_nil)))))
  ls_next)
  (ls_seq (ls_if (lt_or (lt_test (le_op rs_eq (le_varS (i := 2)) (le_c rfl))) (lt_test (le_op rs_cmp (le_varS (i := 1)) (le_c rfl))))
  (ls_ret (le_opG rg_add (le_c rfl) (le_call (la_cons (le_varS (i := 0)) (la_cons (le_c rfl) la_nil)))))
  ls_next)
  (ls_seq (ls_bind (le_call (la_cons (le_varS (i := 0)) la_nil)) (lg_nameF (i := 3)))
  (ls_seq (ls_if (lt_test (le_op rs_eq (le_varS (i := 2)) (le_c rfl)))
  (ls_ret (le_cbS rc_max2 (la_cons (le_c rfl) (la_cons (le_varS (i := 3)) la_nil))))
  ls_next)
  (ls_ret (le_cbS rc_min2 (la_cons (le_c rfl) (la_cons (le_op rs_sub (le_c rfl) (le_varS (i := 3))) la_nil)))))))))))⟩
end
def B__law_counts (Z : Ad) : FS := (dSeq (dBind [] (dCBG gList (dCons (dVarS 2) dNil)) (dNameF 3))
  (dCut (dIfS (dTest (dOp gEq (dCall [] (F__law_draw Z) (dCons (dVarS 0) (dCons (dC (.int 2)) dNil))) (dC (.int 1))))
  (dBind [] (dCall [] (F__law_spoilt Z) (dCons (dVarS 0) (dCons (dVarS 1) (dCons (dVarS 2) dNil)))) (dNameF 3))
  dNext)
  (dSeq (dFor (dRng1 (dCons (dC (.int 6)) dNil)) [] (dName 4)
  (dIfS (dNot (dTru (dCall [] (F__law_refused Z) (dCons (dCall [] (F__law_made Z) (dCons (dVarS 4) (dCons (dCall [] (F__law_wrong_count Z) (dCons (dVarS 0) (dCons (dVarS 4) dNil))) (dCons (dCBG gList (dCons (dVarS 3) dNil)) dNil)))) (dCons (dC .non) dNil)))))
  (dRet [] (dC (.bl false)))
  dNext))
  (dRet [] (dC (.bl true))))))
def F__law_counts (Z : Ad) : DF := bodyN (B__law_counts Z) [] 3 2
section
variable {Γ : GS} {P : Program} {w : World} {K : PySem.W.Frag} {mg : Str → Option Value} {base : Heap} {Z : Ad}
theorem ok__law_counts (G : Glo K mg Z) {f : Addr} {fd : FuncData} (F : Fun K "_law_counts" "_law_counts" s__law_counts f fd) (h__law_spoilt : HX P w K mg base "_law_spoilt" 5 (spP Γ (F__law_spoilt Z))) (h__law_draw : HX P w K mg base "_law_draw" 1 (spP Γ (F__law_draw Z))) (h__law_refused : HX P w K mg base "_law_refused" 3 (spP Γ (F__law_refused Z))) (h__law_made : HX P w K mg base "_law_made" 9 (spP Γ (F__law_made Z))) (h__law_wrong_count : HX P w K mg base "_law_wrong_count" 3 (spP Γ (F__law_wrong_count Z))) : FnX P w K mg base 10 f fd ["_law_box_here", "_law_count_here", "_law_pairs"] (spP Γ (F__law_counts Z)) :=
  okP F sc__law_counts rfl rfl fun cdv A outer s H E hr => ⟨_, (pss_cons (ps_set (i := 3) sc__law_counts.nd rfl (.inl rfl) (pe_callTy (lst_K K) (by rfl) G.g_list (by decide +kernel) (pa_cons (pv 2) pa_nil)))
  (pss_cons (ps_if (pt_cmpR (eq_K K hr.units) (px_fn E (passE rfl rfl rfl rfl) h__law_draw (hr.mono (by decide)) (by rfl) (pa_cons (pv 0) (pa_cons pe_int pa_nil))) pe_int (nomark _)) (pss_one (ps_set (i := 3) sc__law_counts.nd rfl (.inl rfl) (px_fn E (passE rfl rfl rfl rfl) h__law_spoilt (hr.mono (by decide)) (by rfl) (pa_cons (pv 0) (pa_cons (pv 1) (pa_cons (pv 2) pa_nil)))))) pss_nil)
  (pss_cons (ps_for (passes_of rfl) rfl (pi_range1 (by rfl) G.g_range (pa_cons pe_int pa_nil)) (pg_name (i := 4) (by exact sc__law_counts.nd) rfl (.inl rfl)) (pss_one (ps_if (pt_not (tru_K K (px_fn E (passE rfl rfl rfl rfl) h__law_refused (hr.mono (by decide)) (by rfl) (pa_cons (px_fn E (passE rfl rfl rfl rfl) h__law_made (hr.mono (by decide)) (by rfl) (pa_cons (pv 4) (pa_cons (px_fn E (passE rfl rfl rfl rfl) h__law_wrong_count (hr.mono (by decide)) (by rfl) (pa_cons (pv 0) (pa_cons (pv 4) pa_nil))) (pa_cons (pe_callTy (lst_K K) (by rfl) G.g_list (by decide +kernel) (pa_cons (pv 3) pa_nil)) pa_nil)))) (pa_cons pe_non pa_nil))) (by intro _; rfl))) (pss_one (ps_ret pe_bl)) pss_nil)))
  (pss_one (ps_ret pe_bl))))),
  (ls_seq (ls_bind (le_cbG rc_list (la_cons (le_varS (i := 2)) la_nil)) (lg_nameF (i := 3)))
  (ls_seq (ls_if (lt_test (le_op rs_eq (le_call (la_cons (le_varS (i := 0)) (la_cons (le_c rfl) la_nil))) (le_c rfl)))
  (ls_bind (le_call (la_cons (le_varS (i := 0)) (la_cons (le_varS (i := 1)) (la_cons (le_varS (i := 2)) la_nil)))) (lg_nameF (i := 3)))
  ls_next)
  (ls_seq (ls_for (li_rng1 (la_cons (le_c rfl) la_nil)) (lg_name (i := 4))
  (ls_if (lt_not (lt_tru (le_call (la_cons (le_call (la_cons (le_varS (i := 4)) (la_cons (le_call (la_cons (le_varS (i := 0)) (la_cons (le_varS (i := 4)) la_nil))) (la_cons (le_cbG rc_list (la_cons (le_varS (i := 3)) la_nil)) la_nil)))) (la_cons (le_c rfl) la_nil)))))
  (ls_ret (le_c rfl))
  ls_next))
  (ls_ret (le_c rfl)))))⟩
end
def B_law (Z : Ad) : FS := (dSeq (dBind [] (dCall [] (F__law_box Z) (dCons (dVarS 0) dNil)) (dNameF 1))
  (dSeq (dDrop (dCall [] (F__law_step Z) (dCons (dVarS 1) dNil)))
  (dSeq (dBind [] (dCall [] (F__law_count Z) (dCons (dVarS 1) dNil)) (dNameF 2))
  (dSeq (dBind [] (dCall [] (F__law_good_pairs Z) (dCons (dVarS 1) (dCons (dVarS 2) dNil))) (dNameF 3))
  (dSeq (dIfS (dOr (dNot (dTru (dCall [] (F__law_is_int Z) (dCons (dC (.int 24)) dNil)))) (dTest (dOp gNe (dC (.int 24)) (dC (.int 24)))))
  (dRet [] (dC (.bl false)))
  dNext)
  (dSeq (dIfS (dNot (dTru (dCall [] (F__law_builds Z) (dCons (dVarS 1) (dCons (dVarS 2) (dCons (dVarS 3) dNil))))))
  (dRet [] (dC (.bl false)))
  dNext)
  (dSeq (dDrop (dCall [] (F__law_step Z) (dCons (dVarS 1) dNil)))
  (dSeq (dIfS (dNot (dTru (dCall [] (F__law_deeds Z) (dCons (dVarS 1) (dCons (dVarS 2) (dCons (dVarS 3) dNil))))))
  (dRet [] (dC (.bl false)))
  dNext)
  (dSeq (dDrop (dCall [] (F__law_step Z) (dCons (dVarS 1) dNil)))
  (dRet [] (dAndV (dCall [] (F__law_named Z) (dCons (dVarS 1) (dCons (dVarS 2) dNil))) (dCall [] (F__law_counts Z) (dCons (dVarS 1) (dCons (dVarS 2) (dCons (dVarS 3) dNil)))))))))))))))
def F_law (Z : Ad) : DF := bodyN (B_law Z) [] 1 3
section
variable {Γ : GS} {P : Program} {w : World} {K : PySem.W.Frag} {mg : Str → Option Value} {base : Heap} {Z : Ad}
theorem ok_law (G : Glo K mg Z) {f : Addr} {fd : FuncData} (F : Fun K "law" "law" s_law f fd) (h__law_box : HX P w K mg base "_law_box" 1 (spP Γ (F__law_box Z))) (h__law_step : HX P w K mg base "_law_step" 1 (spP Γ (F__law_step Z))) (h__law_count : HX P w K mg base "_law_count" 2 (spP Γ (F__law_count Z))) (h__law_good_pairs : HX P w K mg base "_law_good_pairs" 3 (spP Γ (F__law_good_pairs Z))) (h__law_is_int : HX P w K mg base "_law_is_int" 1 (spP Γ (F__law_is_int Z))) (h__law_builds : HX P w K mg base "_law_builds" 10 (spP Γ (F__law_builds Z))) (h__law_deeds : HX P w K mg base "_law_deeds" 9 (spP Γ (F__law_deeds Z))) (h__law_counts : HX P w K mg base "_law_counts" 10 (spP Γ (F__law_counts Z))) (h__law_named : HX P w K mg base "_law_named" 10 (spP Γ (F__law_named Z))) : FnX P w K mg base 11 f fd ["_law_script"] (spP Γ (F_law Z)) :=
  okP F sc_law rfl rfl fun cdv A outer s H E hr => ⟨_, (pss_cons (ps_set (i := 1) sc_law.nd rfl (.inl rfl) (px_fn E (passE rfl rfl rfl rfl) h__law_box (hr.mono (by decide)) (by rfl) (pa_cons (pv 0) pa_nil)))
  (pss_cons (ps_expr (px_fn E (passE rfl rfl rfl rfl) h__law_step (hr.mono (by decide)) (by rfl) (pa_cons (pv 1) pa_nil)))
  (pss_cons (ps_set (i := 2) sc_law.nd rfl (.inl rfl) (px_fn E (passE rfl rfl rfl rfl) h__law_count (hr.mono (by decide)) (by rfl) (pa_cons (pv 1) pa_nil)))
  (pss_cons (ps_set (i := 3) sc_law.nd rfl (.inl rfl) (px_fn E (passE rfl rfl rfl rfl) h__law_good_pairs (hr.mono (by decide)) (by rfl) (pa_cons (pv 1) (pa_cons (pv 2) pa_nil))))
  (pss_cons (ps_if (PW.pt (pw_or (pt_not (tru_K K (px_fn E (passE rfl rfl rfl rfl) h__law_is_int (hr.mono (by decide)) (by rfl) (pa_cons (cval_K K (pe_clsN G.m_Net (by rfl))) pa_nil)) (by intro _; rfl))) (pw_or1 (pt_cmpR (ne_K K hr.units) (cval_K K (pe_clsN G.m_Net (by rfl))) pe_int (nomark _))))) (pss_one (ps_ret pe_bl)) pss_nil)
  (pss_cons (ps_if (pt_not (tru_K K (px_fn E (passE rfl rfl rfl rfl) h__law_builds (hr.mono (by decide)) (by rfl) (pa_cons (pv 1) (pa_cons (pv 2) (pa_cons (pv 3) pa_nil)))) (by intro _; rfl))) (pss_one (ps_ret pe_bl)) pss_nil)
  (pss_cons (ps_expr (px_fn E (passE rfl rfl rfl rfl) h__law_step (hr.mono (by decide)) (by rfl) (pa_cons (pv 1) pa_nil)))
  (pss_cons (ps_if (pt_not (tru_K K (px_fn E (passE rfl rfl rfl rfl) h__law_deeds (hr.mono (by decide)) (by rfl) (pa_cons (pv 1) (pa_cons (pv 2) (pa_cons (pv 3) pa_nil)))) (by intro _; rfl))) (pss_one (ps_ret pe_bl)) pss_nil)
  (pss_cons (ps_expr (px_fn E (passE rfl rfl rfl rfl) h__law_step (hr.mono (by decide)) (by rfl) (pa_cons (pv 1) pa_nil)))
  (pss_one (ps_ret (pe_and (px_fn E (passE rfl rfl rfl rfl) h__law_named (hr.mono (by decide)) (by rfl) (pa_cons (pv 1) (pa_cons (pv 2) pa_nil))) (pe_one (px_fn E (passE rfl rfl rfl rfl) h__law_counts (hr.mono (by decide)) (by rfl) (pa_cons (pv 1) (pa_cons (pv 2) (pa_cons (pv 3) pa_nil))))))))))))))))),
  (ls_seq (ls_bind (le_call (la_cons (le_varS (i := 0)) la_nil)) (lg_nameF (i := 1)))
  (ls_seq (ls_drop (le_call (la_cons (le_varS (i := 1)) la_nil)))
  (ls_seq (ls_bind (le_call (la_cons (le_varS (i := 1)) la_nil)) (lg_nameF (i := 2)))
  (ls_seq (ls_bind (le_call (la_cons (le_varS (i := 1)) (la_cons (le_varS (i := 2)) la_nil))) (lg_nameF (i := 3)))
  (ls_seq (ls_if (lt_or (lt_not (lt_tru (le_call (la_cons (le_cval G.r_Net G.v_Net_MOST) la_nil)))) (lt_test (le_op rs_ne (le_cval G.r_Net G.v_Net_MOST) (le_c rfl))))
  (ls_ret (le_c rfl))
  ls_next)
  (ls_seq (ls_if (lt_not (lt_tru (le_call (la_cons (le_varS (i := 1)) (la_cons (le_varS (i := 2)) (la_cons (le_varS (i := 3)) la_nil))))))
  (ls_ret (le_c rfl))
  ls_next)
  (ls_seq (ls_drop (le_call (la_cons (le_varS (i := 1)) la_nil)))
  (ls_seq (ls_if (lt_not (lt_tru (le_call (la_cons (le_varS (i := 1)) (la_cons (le_varS (i := 2)) (la_cons (le_varS (i := 3)) la_nil))))))
  (ls_ret (le_c rfl))
  ls_next)
  (ls_seq (ls_drop (le_call (la_cons (le_varS (i := 1)) la_nil)))
  (ls_ret (le_andV (le_call (la_cons (le_varS (i := 1)) (la_cons (le_varS (i := 2)) la_nil))) (le_call (la_cons (le_varS (i := 1)) (la_cons (le_varS (i := 2)) (la_cons (le_varS (i := 3)) la_nil)))))))))))))))⟩
end
end Pr
namespace Pr
open PySem PySem.Spec PyProof.Rows L2 Evl PL DL
open DL.Enc (enc)
set_option maxHeartbeats 1000000
local macro_rules | `(tactic| walk_at "d0") => `(tactic| simp only [frz_frz, frzs_frzs, frz_shr, frzs_shrs, frzs_app, frzs_length, at_frzs, nofks_ints, nofks_pairs, nofk_pairE, nook_enc, nooks_enc, sepD, sep1, D.nofk, D.nofks, D.nook, D.nooks, Nat.reduceBNe, bne_self_eq_false, Enc.frz, Enc.shr, clean_pairE, ok_pairE, oks_ints, oks_pairs, at_0, at_1, at_2, at_3, at_4, at_map, ex_map, cast_0, cast_1, cast_2, cast_3, cast_4, rngD_len, lcStep, lcStepB, lc2Step, bodyN, bodyF, dSeq, dNext, dBrk, dCnt, dDrop, dIfS, dBind, dRet, dRetN, dRetM, dName, dNameF, dC, dVar, dVarS, dOp, dOpG, dTest, dTru, dNot, dAnd, dOr, dAndV, dOrV, dNotV, dIf, dChain, dNil, dCons, dLst, dTup, dCB, dCBG, dCall, dMeth, dProp, dPropN, dMake, dMakeV, dCMeth, dLc, dLc2, dFor, dApp, dSetI, dSetF, dIns, dRev, dPv, modAt, isOwnL, pathOk, D.at, D.put, D.idx, D.kids, D.wk, dRaise, dNever, dTryAs, dTryOnly, DEn.calm, DEn.still, dX, dBindX, dDropX, dRetX, dXT, dTestX, dTruX, dNotX, dAndX, dOrX, dIfX, dPop, dPopAt, modAt2, dAppX, dNoPart, dIndex, dGet2, gLt, gLe, gGt, gGe, gEq, gNe, D.frz, D.frzs, outs, okX, D.shr, D.shrs, D.clean, D.cleans, frzC, frzAt, frz1, wipeE, putN, lookF, enc_int, enc_list, enc_pair, frzs_map, shrs_map, frz_lst, deq_lst, clean_int_list, clean_pair_list, asBl_bl, gTru_non, gTru_bl, gTru_int, gTru_lst, gTru_tup, gTru_dK, gCmp_int, gIs_non, isNon_non, isNon_bl, isNon_int, isNon_lst, isNon_tup, isNon_ins, isNon_str, gAdd_int, gAdd_lst, gMin_int, gMul_int, gMul_lst, gDiv_int, gMod_int, gIx_lst, gIx_tup, gIx_dK, gIx_dT, gIn_lst, gIn_tup, gIn_dK, gIn_dT, gLen_lst, gLen_tup, gInt_int, gInt_bl, gList_lst, gList_tup, gMx_int, gMn_int, gIsi_int_int, gIsi_int_bool, gIsi_bl_bool, gIsi_bl_int, gIsi_lst_list, gIsi_tup_tuple, gIsi_non_int, gIsi_non_tuple, gIsi_non_list, gIsi_str_str, key_int, key_str, keys_nil, keys_1, keys_2, opApp_lst, opIns_lst, opRev_lst, opSet_lst, opSet_dK, opSet_dT, opFld_ins, opPop_none, opPop_some, isIns_ins, isInsP_ins, dFld_eq, gFld_ins, dRng1_eq, gRng1_int, dRng2_eq, gRng2_int, dIl_eq, gIl_lst, dEnum_eq, gEnum_lst, dLrg1_eq, gLrg1_int, dNeg_eq, gNeg_int, dPart_eq, gPart_int, dSl_eq, gSl_lst, dGTup_eq, gGT_tup, dGNil_nil, dGCons_cons, dPix_eq, gPix_int, dAug_eq, gAug_int, dLenSet_eq, gLenSet_lst, gGet_dK, gGet_dT, isDict_dK, isDict_dT, isList_lst, gIndex_lst, ok_non, ok_bl, ok_int, ok_tup, ok_lstS, oks_nil, oks_cons, flat_non, flat_bl, flat_int, flat_str, all_flat_int, deq_int, deq_bl, deq_non, deq_lsts, deq_tups, deqs_nil, deqs_cons, deqs_nc, deqs_cn, deqs_map, deqs_map_nil, deq_non_int, deq_int_non, any_int, and_assoc, Bool.not_true, Bool.not_false, Bool.and_self, Bool.and_true, Bool.true_and, Bool.and_false, Bool.false_and, Bool.or_self, Bool.or_true, Bool.true_or, Bool.or_false, Bool.false_or, Bool.xor_false, Bool.false_xor, Bool.true_xor, Bool.xor_true, Bool.not_not, List.map_cons, List.map_nil, List.replicate, List.cons_append, List.nil_append, List.append_nil, List.length_cons, List.length_nil, List.length_map, List.length_reverse, List.length_replicate, List.length_range, List.length_set, List.length_append, List.getElem?_cons_zero, List.getElem?_cons_succ, List.getElem?_nil, List.set_cons_zero, List.set_cons_succ, List.set_nil, List.cons.injEq, List.not_mem_nil, List.mem_cons, List.zip_cons_cons, List.zip_nil_left, List.lookup_cons, List.findIdx?_cons, List.findIdx?_nil, List.all_cons, List.all_nil, List.any_cons, List.any_nil, List.isEmpty_cons, List.isEmpty_nil, List.reverse_cons, List.reverse_nil, Option.some.injEq, Option.map_some, Option.map_none, Option.join_some, Option.getD_some, Option.getD_none, Option.bind_some, D.int.injEq, D.bl.injEq, D.tup.injEq, D.lst.injEq, D.str.injEq, D.adr.injEq, D.ins.injEq, D.xo.injEq, D.dK.injEq, D.dT.injEq, exists_eq_left', exists_eq_left, exists_eq_right', exists_eq_right, exists_eq, exists_eq', exists_and_left, exists_and_right, exists_const, and_true, true_and, and_false, false_and, and_self, or_true, true_or, or_false, false_or, not_true, not_false_iff, implies_true, forall_const, forall_eq', forall_eq, if_true, if_false, ite_true, ite_false, reduceCtorEq, reduceIte, decide_eq_true_eq, decide_eq_false_iff_not, Bool.not_eq_true', Bool.not_eq_eq_eq_not, Bool.false_eq_true, Bool.true_eq_false, decide_true, decide_false, Nat.reduceAdd, Nat.reduceLT, Nat.reduceLeDiff, Nat.reduceEqDiff, Nat.lt_irrefl, Nat.succ_ne_zero, beq_self_eq_true, Nat.zero_add, eq_self_iff_true, ne_eq, Nat.zero_lt_succ, Int.reduceNeg, Int.reduceMul, Int.reduceAdd, Int.reduceSub, Int.reduceLT, Int.reduceLE, Int.reduceEq, exists_false, false_implies, true_implies, Bool.and_eq_true, Bool.or_eq_true])
set_option maxHeartbeats 1000000
abbrev KT := D → DL.Env → Prop
abbrev XT := XD → DL.Env → Prop
/-! ### plain facts -/
def Big (i : Int) : Prop := -(10 ^ 40) ≤ i ∧ i ≤ 10 ^ 40
theorem fs_int {i : Int} (h : Big i) : (D.int i).fs = true := by
  show decide (i.natAbs.log2 < 1920) = true
  rw [decide_eq_true_eq]
  have h1 : i.natAbs ≤ 10 ^ 40 := by
    obtain ⟨a, b⟩ := h
    omega
  by_cases h0 : i.natAbs = 0
  · rw [h0]; decide
  · exact (Nat.log2_lt h0).mpr (Nat.lt_of_le_of_lt h1 (by decide))
theorem fm_int {i : Int} (h : Big i) : (D.int i).fm = true := fs_int h
theorem fm_non : D.non.fm = true := rfl
theorem fm_pair {i j : Int} (h : Big i) (g : Big j) : (D.tup [.int i, .int j]).fm = true := by
  show (decide (2 ≤ 10) && [D.int i, .int j].all D.fs) = true
  simp [fs_int h, fs_int g]
abbrev IP := Int × Int
def keyP (q : IP) : List Key := [.inl q.1, .inl q.2]
theorem keyP_inj {a b : IP} : keyP a = keyP b ↔ a = b := by
  unfold keyP
  constructor
  · intro h
    simp at h
    exact Prod.ext h.1 h.2
  · rintro rfl; rfl
theorem any_keyP (ks : List IP) (q : IP) : (ks.map keyP).any (fun z => decide (z = keyP q)) = decide (q ∈ ks) := by
  rw [List.any_map]
  refine Bool.eq_iff_iff.mpr ?_
  simp only [List.any_eq_true, Function.comp, decide_eq_true_eq]
  exact ⟨fun ⟨x, h, e⟩ => keyP_inj.mp e ▸ h, fun h => ⟨q, h, rfl⟩⟩
def addK (ks : List IP) (q : IP) : List IP := if q ∈ ks then ks else ks ++ [q]
abbrev tru {α : Type} (l : List α) : List D := l.map fun _ => D.bl true
theorem tru_len {α β : Type} {l : List α} {m : List β} (h : l.length = m.length) : tru l = tru m := by
  unfold tru
  rw [List.map_const', List.map_const', h]
theorem putL_keyP (ks : List IP) (q : IP) : putL (ks.map keyP) (tru ks) (keyP q) (.bl true) = ((addK ks q).map keyP, tru (addK ks q)) := by
  unfold putL addK
  by_cases h : q ∈ ks
  · rw [if_pos h]
    cases e : (ks.map keyP).findIdx? fun z => decide (z = keyP q) with
    | none =>
      have := List.findIdx?_eq_none_iff.mp e (keyP q) (List.mem_map.mpr ⟨q, h, rfl⟩)
      simp at this
    | some j =>
      simp only
      congr 1
      unfold tru
      rw [List.map_const', List.set_replicate_self]
  · rw [if_neg h]
    have e : ((ks.map keyP).findIdx? fun z => decide (z = keyP q)) = none := by
      refine List.findIdx?_eq_none_iff.mpr fun z hz => ?_
      obtain ⟨x, hx, rfl⟩ := List.mem_map.mp hz
      exact decide_eq_false fun e => h (keyP_inj.mp e ▸ hx)
    rw [e]
    simp [tru]
structure LinkOk (n : Int) (q : IP) : Prop where
  ne : q.1 ≠ q.2
  a0 : 0 ≤ q.1
  a1 : q.1 < n
  b0 : 0 ≤ q.2
  b1 : q.2 < n
instance {n : Int} {q : IP} : Decidable (LinkOk n q) := decidable_of_iff (q.1 ≠ q.2 ∧ 0 ≤ q.1 ∧ q.1 < n ∧ 0 ≤ q.2 ∧ q.2 < n) ⟨fun ⟨a, b, c, d, e⟩ => ⟨a, b, c, d, e⟩, fun ⟨a, b, c, d, e⟩ => ⟨a, b, c, d, e⟩⟩
/-- a net: how many, the keys of its table, its links -/
def netD (Z : Ad) (o : Bool) (n : Int) (ks L : List IP) : D := .ins o Z.Net ["count", "_linked", "_links"] [.int n, .dT o (ks.map keyP) (tru ks), .lst o (L.map enc)]
/-- a net just made -/
def netT (Z : Ad) (n : Int) (ks L : List IP) : D := .ins true Z.Net ["count", "_linked", "_links"] [.int n, .dT false (ks.map keyP) (tru ks), .lst true (L.map enc)]
theorem frzs_tru {α : Type} (l : List α) : D.frzs (tru l) = tru l := by
  induction l with
  | nil => rfl
  | cons a l ih => show D.frzs (.bl true :: tru l) = _; rw [D.frzs, ih]; rfl
theorem shrs_tru {α : Type} (l : List α) : D.shrs (tru l) = true := by
  induction l with
  | nil => rfl
  | cons a l ih => show D.shrs (.bl true :: tru l) = _; rw [D.shrs, ih]; rfl
theorem cleans_tru {α : Type} (l : List α) : D.cleans (tru l) = true := by
  induction l with
  | nil => rfl
  | cons a l ih => show D.cleans (.bl true :: tru l) = _; rw [D.cleans, ih]; rfl
theorem netD_frz {Z : Ad} {o : Bool} {n : Int} {ks L : List IP} : (netD Z o n ks L).frz = netD Z false n ks L := by
  unfold netD
  simp only [D.frz, D.frzs, frzs_tru, frzs_map]
theorem netD_shr {Z : Ad} {n : Int} {ks L : List IP} : (netD Z false n ks L).shr = true := by
  unfold netD
  simp only [D.shr, D.shrs, shrs_tru, shrs_map]
  rfl
theorem netT_frz {Z : Ad} {n : Int} {ks L : List IP} : (netT Z n ks L).frz = netD Z false n ks L := by
  unfold netD netT
  simp only [D.frz, D.frzs, frzs_tru, frzs_map]
theorem netT_clean {Z : Ad} {n : Int} {ks L : List IP} : (netT Z n ks L).clean = false := by
  unfold netT
  simp [D.clean, D.cleans]
theorem nofks_tru {α : Type} {k : Nat} (l : List α) : D.nofks k (tru l) = true := by
  induction l with
  | nil => rfl
  | cons a l ih => show D.nofks k (.bl true :: tru l) = _; rw [D.nofks, ih]; rfl
theorem netT_nofk {Z : Ad} {n : Int} {ks L : List IP} {k : Nat} : (netT Z n ks L).nofk k = (k != 2) := by
  unfold netT
  simp [D.nofk, D.nofks, nofks_tru, nofks_pairs]
theorem isIns_netD {Z : Ad} {o : Bool} {n : Int} {ks L : List IP} {m : Str} : isIns Z.Net m (netD Z o n ks L) = (m ∉ ([Str.ofString "count", Str.ofString "_linked", Str.ofString "_links"] : List Str)) := by
  unfold netD
  rw [isIns_ins]
  simp only [true_and]
theorem isInsP_netD {Z : Ad} {o : Bool} {n : Int} {ks L : List IP} : isInsP Z.Net (netD Z o n ks L) = True := by
  unfold netD
  rw [isInsP_ins]
  simp only
theorem sne_1 : (Str.ofString "count" == Str.ofString "_linked") = false := by decide
theorem sne_2 : (Str.ofString "count" == Str.ofString "_links") = false := by decide
theorem sne_3 : (Str.ofString "_linked" == Str.ofString "_links") = false := by decide
theorem sne_4 : (Str.ofString "_linked" == Str.ofString "count") = false := by decide
theorem sne_5 : (Str.ofString "_links" == Str.ofString "count") = false := by decide
theorem sne_6 : (Str.ofString "_links" == Str.ofString "_linked") = false := by decide
theorem fld_count {Z : Ad} {o : Bool} {n : Int} {ks L : List IP} {K : D → Prop} : gFld Z.Net "count" (netD Z o n ks L) K = K (.int n) := by
  unfold netD
  rw [gFld_ins]
  simp [lookF]
theorem fld_linked {Z : Ad} {o : Bool} {n : Int} {ks L : List IP} {K : D → Prop} : gFld Z.Net "_linked" (netD Z o n ks L) K = K (.dT o (ks.map keyP) (tru ks)) := by
  unfold netD
  rw [gFld_ins]
  simp [lookF, List.lookup, sne_4, sne_5, sne_6]
theorem fld_links {Z : Ad} {o : Bool} {n : Int} {ks L : List IP} {K : D → Prop} : gFld Z.Net "_links" (netD Z o n ks L) K = K (.lst o (L.map enc)) := by
  unfold netD
  rw [gFld_ins]
  simp [lookF, List.lookup, sne_4, sne_5, sne_6]
structure NetI (n : Int) (ks L : List IP) : Prop where
  n1 : 1 ≤ n
  n2 : n ≤ 24
  lk : ∀ q ∈ ks, LinkOk n q
  nd : ks.Nodup
  pm : L.Perm ks
  pw : L.Pairwise PO.LexLe
local macro_rules | `(tactic| walk_at "d0") => `(tactic| simp only [frz_frz, frzs_frzs, frz_shr, frzs_shrs, frzs_app, frzs_length, at_frzs, nofks_ints, nofks_pairs, nofk_pairE, nook_enc, nooks_enc, sepD, sep1, D.nofk, D.nofks, D.nook, D.nooks, Nat.reduceBNe, bne_self_eq_false, Enc.frz, Enc.shr, clean_pairE, ok_pairE, oks_ints, oks_pairs, at_0, at_1, at_2, at_3, at_4, at_map, ex_map, cast_0, cast_1, cast_2, cast_3, cast_4, rngD_len, lcStep, lcStepB, lc2Step, bodyN, bodyF, dSeq, dNext, dBrk, dCnt, dDrop, dIfS, dBind, dRet, dRetN, dRetM, dName, dNameF, dC, dVar, dVarS, dOp, dOpG, dTest, dTru, dNot, dAnd, dOr, dAndV, dOrV, dNotV, dIf, dChain, dNil, dCons, dLst, dTup, dCB, dCBG, dCall, dMeth, dProp, dPropN, dMake, dMakeV, dCMeth, dLc, dLc2, dFor, dApp, dSetI, dSetF, dIns, dRev, dPv, modAt, isOwnL, pathOk, D.at, D.put, D.idx, D.kids, D.wk, dRaise, dNever, dTryAs, dTryOnly, DEn.calm, DEn.still, dX, dBindX, dDropX, dRetX, dXT, dTestX, dTruX, dNotX, dAndX, dOrX, dIfX, dPop, dPopAt, modAt2, dAppX, dNoPart, dIndex, dGet2, gLt, gLe, gGt, gGe, gEq, gNe, D.frz, D.frzs, outs, okX, D.shr, D.shrs, D.clean, D.cleans, frzC, frzAt, frz1, wipeE, putN, lookF, enc_int, enc_list, enc_pair, frzs_map, shrs_map, frz_lst, deq_lst, clean_int_list, clean_pair_list, asBl_bl, gTru_non, gTru_bl, gTru_int, gTru_lst, gTru_tup, gTru_dK, gCmp_int, gIs_non, isNon_non, isNon_bl, isNon_int, isNon_lst, isNon_tup, isNon_ins, isNon_str, gAdd_int, gAdd_lst, gMin_int, gMul_int, gMul_lst, gDiv_int, gMod_int, gIx_lst, gIx_tup, gIx_dK, gIx_dT, gIn_lst, gIn_tup, gIn_dK, gIn_dT, gLen_lst, gLen_tup, gInt_int, gInt_bl, gList_lst, gList_tup, gMx_int, gMn_int, gIsi_int_int, gIsi_int_bool, gIsi_bl_bool, gIsi_bl_int, gIsi_lst_list, gIsi_tup_tuple, gIsi_non_int, gIsi_non_tuple, gIsi_non_list, gIsi_str_str, key_int, key_str, keys_nil, keys_1, keys_2, opApp_lst, opIns_lst, opRev_lst, opSet_lst, opSet_dK, opSet_dT, opFld_ins, opPop_none, opPop_some, isIns_ins, isInsP_ins, dFld_eq, gFld_ins, dRng1_eq, gRng1_int, dRng2_eq, gRng2_int, dIl_eq, gIl_lst, dEnum_eq, gEnum_lst, dLrg1_eq, gLrg1_int, dNeg_eq, gNeg_int, dPart_eq, gPart_int, dSl_eq, gSl_lst, dGTup_eq, gGT_tup, dGNil_nil, dGCons_cons, dPix_eq, gPix_int, dAug_eq, gAug_int, dLenSet_eq, gLenSet_lst, gGet_dK, gGet_dT, isDict_dK, isDict_dT, isList_lst, gIndex_lst, ok_non, ok_bl, ok_int, ok_tup, ok_lstS, oks_nil, oks_cons, flat_non, flat_bl, flat_int, flat_str, all_flat_int, deq_int, deq_bl, deq_non, deq_lsts, deq_tups, deqs_nil, deqs_cons, deqs_nc, deqs_cn, deqs_map, deqs_map_nil, deq_non_int, deq_int_non, any_int, and_assoc, Bool.not_true, Bool.not_false, Bool.and_self, Bool.and_true, Bool.true_and, Bool.and_false, Bool.false_and, Bool.or_self, Bool.or_true, Bool.true_or, Bool.or_false, Bool.false_or, Bool.xor_false, Bool.false_xor, Bool.true_xor, Bool.xor_true, Bool.not_not, List.map_cons, List.map_nil, List.replicate, List.cons_append, List.nil_append, List.append_nil, List.length_cons, List.length_nil, List.length_map, List.length_reverse, List.length_replicate, List.length_range, List.length_set, List.length_append, List.getElem?_cons_zero, List.getElem?_cons_succ, List.getElem?_nil, List.set_cons_zero, List.set_cons_succ, List.set_nil, List.cons.injEq, List.not_mem_nil, List.mem_cons, List.zip_cons_cons, List.zip_nil_left, List.lookup_cons, List.findIdx?_cons, List.findIdx?_nil, List.all_cons, List.all_nil, List.any_cons, List.any_nil, List.isEmpty_cons, List.isEmpty_nil, List.reverse_cons, List.reverse_nil, Option.some.injEq, Option.map_some, Option.map_none, Option.join_some, Option.getD_some, Option.getD_none, Option.bind_some, D.int.injEq, D.bl.injEq, D.tup.injEq, D.lst.injEq, D.str.injEq, D.adr.injEq, D.ins.injEq, D.xo.injEq, D.dK.injEq, D.dT.injEq, exists_eq_left', exists_eq_left, exists_eq_right', exists_eq_right, exists_eq, exists_eq', exists_and_left, exists_and_right, exists_const, and_true, true_and, and_false, false_and, and_self, or_true, true_or, or_false, false_or, not_true, not_false_iff, implies_true, forall_const, forall_eq', forall_eq, if_true, if_false, ite_true, ite_false, reduceCtorEq, reduceIte, decide_eq_true_eq, decide_eq_false_iff_not, Bool.not_eq_true', Bool.not_eq_eq_eq_not, Bool.false_eq_true, Bool.true_eq_false, decide_true, decide_false, Nat.reduceAdd, Nat.reduceLT, Nat.reduceLeDiff, Nat.reduceEqDiff, Nat.lt_irrefl, Nat.succ_ne_zero, beq_self_eq_true, Nat.zero_add, eq_self_iff_true, ne_eq, Nat.zero_lt_succ, Int.reduceNeg, Int.reduceMul, Int.reduceAdd, Int.reduceSub, Int.reduceLT, Int.reduceLE, Int.reduceEq, exists_false, false_implies, true_implies, Bool.and_eq_true, Bool.or_eq_true, netT_nofk, nofks_tru, netT_frz, netT_clean, isIns_netD, isInsP_netD, fld_count, fld_linked, fld_links, sne_1, sne_2, sne_3, sne_4, sne_5, sne_6, frzs_tru, shrs_tru, cleans_tru, netD_frz, netD_shr])
section
variable {Z : Ad} {K : KT} {X : XT}
theorem is_below {i n : Int} (h : K (.bl (decide (0 ≤ i ∧ i < n))) []) : F__is_below Z [.int i, .int n] K X := by
  unfold F__is_below B__is_below
  (try walk_at "d0")
  split
  · rename_i h0; simpa [h0] using h
  · rename_i h0; simpa [h0] using h
theorem check_count {n : Int} (h : 1 ≤ n → n ≤ 24 → K .non []) (h2 : ¬ (1 ≤ n ∧ n ≤ 24) → X ⟨.ref Z.InvalidNet, ["link"], [.non]⟩ []) : F__check_count Z [.int n] K X := by
  unfold F__check_count B__check_count
  (try walk_at "d0")
  split
  · exact ⟨rfl, h2 (by omega)⟩
  · split
    · exact ⟨rfl, h2 (by omega)⟩
    · exact h (by omega) (by omega)
/-- the pairs so far are links: the table -/
def tab : List IP → List IP := List.foldl addK []
theorem tab_app (l m : List IP) : tab (l ++ m) = m.foldl addK (tab l) := List.foldl_append
theorem tab_snoc (l : List IP) (q : IP) : tab (l ++ [q]) = addK (tab l) q := tab_app l [q]
theorem addK_mem {ks : List IP} {q x : IP} : x ∈ addK ks q ↔ x ∈ ks ∨ x = q := by
  unfold addK
  split
  · rename_i h
    exact ⟨.inl, fun z => z.elim id fun z => z ▸ h⟩
  · simp
theorem tab_mem {l : List IP} {x : IP} : x ∈ tab l ↔ x ∈ l := by
  have : ∀ (l a : List IP), x ∈ l.foldl addK a ↔ x ∈ a ∨ x ∈ l := by
    intro l
    induction l with
    | nil => intro a; simp
    | cons b l ih => intro a; rw [List.foldl_cons, ih, addK_mem, List.mem_cons, or_assoc]
  rw [tab, this l []]
  simp
theorem addK_nodup {ks : List IP} {q : IP} (h : ks.Nodup) : (addK ks q).Nodup := by
  unfold addK
  split
  · exact h
  · rename_i hq
    exact List.nodup_append.mpr ⟨h, by simp, fun x m y m2 e => by rw [List.mem_singleton.mp m2] at e; exact hq (e ▸ m)⟩
theorem tab_nodup (l : List IP) : (tab l).Nodup := by
  have : ∀ (l a : List IP), a.Nodup → (l.foldl addK a).Nodup := by
    intro l
    induction l with
    | nil => intro a h; exact h
    | cons b l ih => intro a h; exact ih _ (addK_nodup h)
  exact this l [] List.nodup_nil
theorem addK_len {ks : List IP} {q : IP} : (addK ks q).length ≤ ks.length + 1 := by
  unfold addK
  split <;> simp
theorem tab_len (l : List IP) : (tab l).length ≤ l.length := by
  have : ∀ (l a : List IP), (l.foldl addK a).length ≤ a.length + l.length := by
    intro l
    induction l with
    | nil => intro a; simp
    | cons b l ih =>
      intro a
      have := ih (addK a b)
      have := addK_len (ks := a) (q := b)
      rw [List.foldl_cons, List.length_cons]
      omega
  have := this l []
  rw [List.length_nil, Nat.zero_add] at this
  exact this
theorem find_no {α : Type} {p : α → Bool} {pre post : List α} {a : α} (h : ∀ x ∈ pre, p x = false) (ha : p a = true) : (pre ++ a :: post).find? p = some a := by
  rw [List.find?_append, List.find?_eq_none.mpr fun x m => by rw [h x m]; exact Bool.false_ne_true, List.find?_cons_of_pos ha]
  rfl
theorem keyPair_keyP (q : IP) : PO.keyPair (keyP q) = q := rfl
theorem net_init {n : Int} {ps : List IP} (hl : ps.length ≤ 2000) (hb : ∀ q ∈ ps, Big q.1 ∧ Big q.2) (hc : ¬ (1 ≤ n ∧ n ≤ 24) → ∀ z, X ⟨.ref Z.InvalidNet, ["link"], [.non]⟩ [z])
    (hx : 1 ≤ n → n ≤ 24 → ∀ q, ps.find? (fun q => !decide (LinkOk n q)) = some q → ∀ z, X ⟨.ref Z.InvalidNet, ["link"], [enc q]⟩ [z])
    (h : ∀ ks L, NetI n ks L → (∀ q, q ∈ ks ↔ q ∈ ps) → K .non [some (netT Z n ks L)]) : F_Net___init__ Z [.ins true Z.Net [] [], .int n, enc ps] K X := by
  unfold F_Net___init__ B_Net___init__
  (try walk_at "d0")
  refine check_count (fun n1 n2 => ?_) (fun z => hc z _)
  refine forE (l := ps) (fun pre ρ => ∃ x y, ρ = [some (.ins true Z.Net [] []), some (.int n), some (.lst false (ps.map enc)), some (.dT true ((tab pre).map keyP) (tru (tab pre))), x, y] ∧ ∀ q ∈ pre, LinkOk n q) ⟨_, _, rfl, by simp⟩ ?_ ?_
  · rintro pre ⟨s, r⟩ post ρ N e ⟨x, y, rfl, ok⟩ q
    have bg := hb (s, r) (by rw [e]; simp)
    have bad : ¬ LinkOk n (s, r) → (D.tup [D.int s, D.int r]).fm = true ∧ X ⟨.ref Z.InvalidNet, ["link"], [.tup [.int s, .int r]]⟩ [some (.ins true Z.Net [] [])] := fun z =>
      ⟨fm_pair bg.1 bg.2, hx n1 n2 (s, r) (by rw [e]; exact find_no (fun x m => by simp [ok x m]) (by simp [z])) _⟩
    (try walk_at "d0")
    split
    · rename_i h0
      exact bad fun z => z.ne h0
    · rename_i h0
      refine is_below ?_
      (try walk_at "d0")
      split
      · rename_i h1
        exact bad fun z => h1 ⟨z.a0, z.a1⟩
      · rename_i h1
        refine is_below ?_
        (try walk_at "d0")
        split
        · rename_i h2
          exact bad fun z => h2 ⟨z.b0, z.b1⟩
        · rename_i h2
          have e1 := putL_keyP (tab pre) (s, r)
          rw [keyP] at e1
          simp only at e1
          rw [e1, ← tab_snoc]
          refine ⟨?_, q _ ⟨_, _, rfl, fun x m => ?_⟩⟩
          · have := tab_len pre
            have : pre.length ≤ ps.length := by rw [e]; simp
            omega
          · rcases List.mem_append.mp m with m | m
            · exact ok x m
            · rw [List.mem_singleton.mp m]
              simp only [Decidable.not_not] at h1 h2
              exact ⟨h0, h1.1, h1.2, h2.1, h2.2⟩
  · rintro ρ ⟨x, y, rfl, ok⟩
    (try walk_at "d0")
    refine ⟨fun k hk => ?_, fun L pm pw => ?_⟩
    · obtain ⟨q, hq, rfl⟩ := List.mem_map.mp hk
      exact ⟨q.1, q.2, rfl⟩
    · rw [List.map_map, show PO.keyPair ∘ keyP = id from rfl, List.map_id] at pm
      rw [show L.map dPair = L.map enc from rfl]
      (try walk_at "d0")
      exact h _ _ ⟨n1, n2, fun q m => ok q (tab_mem.mp m), tab_nodup _, pm, pw⟩ fun q => tab_mem
/-- what a def that makes a net is to answer -/
structure Mk (Z : Ad) (n : Int) (P : IP → Prop) (d : D) : Prop where
  ex : ∃ ks L, d = netT Z n ks L ∧ NetI n ks L ∧ ∀ q, q ∈ ks ↔ P q
abbrev xN (Z : Ad) (d : D) : XD := ⟨.ref Z.InvalidNet, ["link"], [d]⟩
theorem LinkOk.swap {n : Int} {q : IP} (h : LinkOk n q) : LinkOk n (q.2, q.1) := ⟨h.ne.symm, h.b0, h.b1, h.a0, h.a1⟩
def dbl (l : List IP) : List IP := l.flatMap fun q => [q, (q.2, q.1)]
theorem dbl_mem {l : List IP} {q : IP} : q ∈ dbl l ↔ q ∈ l ∨ (q.2, q.1) ∈ l := by
  unfold dbl
  rw [List.mem_flatMap]
  constructor
  · rintro ⟨a, ha, hq⟩
    rcases List.mem_cons.mp hq with e | e
    · exact .inl (e ▸ ha)
    · rw [List.mem_singleton.mp e]; exact .inr ha
  · rintro (h | h)
    · exact ⟨q, h, List.mem_cons_self⟩
    · exact ⟨_, h, List.mem_cons_of_mem _ (List.mem_singleton.mpr rfl)⟩
theorem dbl_len (l : List IP) : (dbl l).length = 2 * l.length := by
  induction l with
  | nil => rfl
  | cons a l ih =>
    show ([a, (a.2, a.1)] ++ dbl l).length = _
    rw [List.length_append, ih, List.length_cons]
    simp
    omega
theorem dbl_find {n : Int} (l : List IP) : (dbl l).find? (fun q => !decide (LinkOk n q)) = l.find? (fun q => !decide (LinkOk n q)) := by
  induction l with
  | nil => rfl
  | cons a l ih =>
    show ([a, (a.2, a.1)] ++ dbl l).find? _ = _
    rw [List.find?_append, ih, List.find?_cons, List.find?_cons, List.find?_cons]
    by_cases h : LinkOk n a
    · simp [h, h.swap]
    · simp [h]
theorem dbl_snoc (l : List IP) (q : IP) : dbl (l ++ [q]) = dbl l ++ [q, (q.2, q.1)] := by
  unfold dbl
  rw [List.flatMap_append]
  rfl
theorem both_ways {n : Int} {ps : List IP} (hl : ps.length ≤ 800) (hb : ∀ q ∈ ps, Big q.1 ∧ Big q.2) (hc : ¬ (1 ≤ n ∧ n ≤ 24) → X (xN Z .non) [])
    (hx : 1 ≤ n → n ≤ 24 → ∀ q, ps.find? (fun q => !decide (LinkOk n q)) = some q → X (xN Z (enc q)) [])
    (h : ∀ d, Mk Z n (fun q => q ∈ ps ∨ (q.2, q.1) ∈ ps) d → K d []) : F_Net_both_ways Z [.adr Z.Net, .int n, enc ps] K X := by
  unfold F_Net_both_ways B_Net_both_ways
  (try walk_at "d0")
  refine forE (l := ps) (fun pre ρ => ∃ x y, ρ = [some (.adr Z.Net), some (.int n), some (.lst false (ps.map enc)), some (.lst true ((dbl pre).map enc)), x, y]) ⟨_, _, rfl⟩ ?_ ?_
  · rintro pre ⟨s, r⟩ post ρ N e ⟨x, y, rfl⟩ q
    have l1 : pre.length < ps.length := by rw [e]; simp
    have l2 := dbl_len pre
    (try walk_at "d0")
    refine ⟨by omega, by omega, q _ ⟨some (.int s), some (.int r), ?_⟩⟩
    rw [dbl_snoc]
    simp [enc_pair, enc_int]
  · rintro ρ ⟨x, y, rfl⟩
    (try walk_at "d0")
    refine net_init (ps := dbl ps) (by rw [dbl_len]; omega) (fun q m => ?_) (fun z w => ⟨rfl, hc z⟩) (fun n1 n2 q hq z => ⟨rfl, ?_⟩) fun ks L I mm => ⟨rfl, _, rfl, ?_⟩
    · rcases dbl_mem.mp m with m | m
      · exact hb _ m
      · exact (hb _ m).symm
    · rw [dbl_find] at hq
      exact hx n1 n2 q hq
    · have := h (netT Z n ks L) ⟨ks, L, rfl, I, fun q => (mm q).trans dbl_mem⟩
      exact this
theorem mk_eq {n : Int} {P P' : IP → Prop} {d : D} (m : Mk Z n P d) (h : ∀ q, P q ↔ P' q) : Mk Z n P' d := let ⟨ks, L, e, I, f⟩ := m.ex; ⟨ks, L, e, I, fun q => (f q).trans (h q)⟩
theorem rng_mem {a b i : Int} : i ∈ ((List.range (b - a).toNat).map fun (k : Nat) => a + (k : Int)) ↔ a ≤ i ∧ i < b := by
  rw [List.mem_map]
  constructor
  · rintro ⟨k, hk, rfl⟩
    have := List.mem_range.mp hk
    omega
  · rintro ⟨h1, h2⟩
    exact ⟨(i - a).toNat, List.mem_range.mpr (by omega), by omega⟩
theorem rng_len {a b : Int} : ((List.range (b - a).toNat).map fun (k : Nat) => a + (k : Int)).length = (b - a).toNat := by simp
theorem rng_pw {a b : Int} : ((List.range (b - a).toNat).map fun (k : Nat) => a + (k : Int)).Pairwise (· < ·) := by
  rw [List.pairwise_map]
  exact List.pairwise_lt_range.imp fun h => by omega
abbrev rngI (a b : Int) : List Int := (List.range (b - a).toNat).map fun (k : Nat) => a + (k : Int)
theorem fm_mem {α : Type} {f g : α → D} {i : Nat} {a b d : D} (h1 : a.fm = true) (h2 : b.fm = true) (h : [a, b][i]? = some d) : d.fm = true := by
  rcases i with _ | _ | i
  · cases h; exact h1
  · cases h; exact h2
  · cases h
theorem filterMap_some {α β : Type} (f : α → β) (l : List α) : l.filterMap (fun x => some (f x)) = l.map f := by
  induction l with
  | nil => rfl
  | cons a l ih => simp [ih]
theorem net_line {n : Int} (hc : ¬ (1 ≤ n ∧ n ≤ 24) → X (xN Z .non) []) (h : 1 ≤ n → n ≤ 24 → ∀ d, Mk Z n (fun q => LinkOk n q ∧ (q.1 - q.2 = 1 ∨ q.2 - q.1 = 1)) d → K d []) : F_Net_line Z [.adr Z.Net, .int n] K X := by
  unfold F_Net_line B_Net_line
  (try walk_at "d0")
  refine check_count (fun n1 n2 => ?_) hc
  refine ⟨by omega, by omega, by omega, compR (fun i => some (i, i + 1)) (fun i acc N h0 h1 hN => ?_) ?_⟩
  · (try walk_at "d0")
    exact hN
  · (try walk_at "d0")
    rw [filterMap_some]
    have mm : ∀ q : IP, q ∈ (rngI 0 (n - 1)).map (fun i => (i, i + 1)) → LinkOk n q ∧ q.2 = q.1 + 1 := fun q m => by
      obtain ⟨i, hi, rfl⟩ := List.mem_map.mp m
      have := rng_mem.mp hi
      exact ⟨⟨by show i ≠ i + 1; omega, this.1, by show i < n; omega, by show 0 ≤ i + 1; omega, by show i + 1 < n; omega⟩, rfl⟩
    refine both_ways (by rw [List.length_map, rng_len]; omega) (fun q m => ?_) hc (fun _ _ q hq => ?_) fun d m => h n1 n2 d (mk_eq m fun q => ?_)
    · have := (mm q m).1
      obtain ⟨_, a, b, c, d⟩ := this
      exact ⟨⟨by omega, by omega⟩, ⟨by omega, by omega⟩⟩
    · have := List.find?_some hq
      simp [(mm q (List.mem_of_find?_eq_some hq)).1] at this
    · constructor
      · rintro (m | m)
        · have := mm _ m
          exact ⟨this.1, .inr (by omega)⟩
        · have := mm _ m
          exact ⟨this.1.swap, .inl (by have := this.2; simp only at this; omega)⟩
      · rintro ⟨⟨a, b, c, d, e⟩, f | f⟩
        · exact .inr (List.mem_map.mpr ⟨q.2, rng_mem.mpr ⟨d, by omega⟩, Prod.ext rfl (by show q.2 + 1 = q.1; omega)⟩)
        · exact .inl (List.mem_map.mpr ⟨q.1, rng_mem.mpr ⟨b, by omega⟩, Prod.ext rfl (by show q.1 + 1 = q.2; omega)⟩)
theorem net_star {n : Int} (hc : ¬ (1 ≤ n ∧ n ≤ 24) → X (xN Z .non) []) (h : 1 ≤ n → n ≤ 24 → ∀ d, Mk Z n (fun q => LinkOk n q ∧ (q.1 = 0 ∨ q.2 = 0)) d → K d []) : F_Net_star Z [.adr Z.Net, .int n] K X := by
  unfold F_Net_star B_Net_star
  (try walk_at "d0")
  refine check_count (fun n1 n2 => ?_) hc
  refine ⟨by omega, by omega, by omega, by omega, by omega, compR (fun i => some ((0 : Int), i)) (fun i acc N h0 h1 hN => ?_) ?_⟩
  · (try walk_at "d0")
    exact hN
  · (try walk_at "d0")
    rw [filterMap_some]
    have mm : ∀ q : IP, q ∈ (rngI 1 n).map (fun i => ((0 : Int), i)) → LinkOk n q ∧ q.1 = 0 := fun q m => by
      obtain ⟨i, hi, rfl⟩ := List.mem_map.mp m
      have := rng_mem.mp hi
      exact ⟨⟨by show (0 : Int) ≠ i; omega, Int.le_refl 0, by show (0 : Int) < n; omega, by show 0 ≤ i; omega, by show i < n; omega⟩, rfl⟩
    refine both_ways (by rw [List.length_map, rng_len]; omega) (fun q m => ?_) hc (fun _ _ q hq => ?_) fun d m => h n1 n2 d (mk_eq m fun q => ?_)
    · have := (mm q m).1
      obtain ⟨_, a, b, c, d⟩ := this
      exact ⟨⟨by omega, by omega⟩, ⟨by omega, by omega⟩⟩
    · have := List.find?_some hq
      simp [(mm q (List.mem_of_find?_eq_some hq)).1] at this
    · constructor
      · rintro (m | m)
        · have := mm _ m
          exact ⟨this.1, .inl this.2⟩
        · have := mm _ m
          exact ⟨this.1.swap, .inr this.2⟩
      · rintro ⟨⟨a, b, c, d, e⟩, f | f⟩
        · exact .inl (List.mem_map.mpr ⟨q.2, rng_mem.mpr ⟨by omega, by omega⟩, Prod.ext f.symm rfl⟩)
        · exact .inr (List.mem_map.mpr ⟨q.1, rng_mem.mpr ⟨by omega, by omega⟩, Prod.ext f.symm rfl⟩)
theorem net_ring {n : Int} (hc : ¬ (1 ≤ n ∧ n ≤ 24) → X (xN Z .non) []) (h : 1 ≤ n → n ≤ 24 → ∀ d, Mk Z n (fun q => LinkOk n q ∧ q.2 = (q.1 + 1) % n) d → K d []) : F_Net_ring Z [.adr Z.Net, .int n] K X := by
  unfold F_Net_ring B_Net_ring
  (try walk_at "d0")
  refine check_count (fun n1 n2 => ?_) hc
  split
  · rename_i h1
    subst h1
    refine net_init (ps := []) (Nat.zero_le _) (fun q m => nomatch m) (fun z => absurd ⟨by omega, by omega⟩ z) (fun _ _ q hq => nomatch hq) fun ks L I mm => ⟨rfl, _, rfl, h (by omega) (by omega) _ ⟨ks, L, rfl, I, fun q => (mm q).trans ⟨fun m => (nomatch m), fun z => ?_⟩⟩⟩
    obtain ⟨⟨a, b, c, d, e⟩, f⟩ := z
    omega
  · rename_i h1
    refine ⟨by omega, by omega, by omega, compR (fun i => some (i, i + 1)) (fun i acc N h0 h1 hN => ?_) ?_⟩
    · (try walk_at "d0")
      exact hN
    · (try walk_at "d0")
      rw [filterMap_some]
      (try walk_at "d0")
      refine ⟨by omega, ?_⟩
      have mm : ∀ q : IP, q ∈ (rngI 0 (n - 1)).map (fun i => (i, i + 1)) ++ [(n - 1, (0 : Int))] ↔ LinkOk n q ∧ q.2 = (q.1 + 1) % n := fun q => by
        rw [List.mem_append, List.mem_map, List.mem_singleton]
        constructor
        · rintro (⟨i, hi, rfl⟩ | rfl)
          · have := rng_mem.mp hi
            exact ⟨⟨by show i ≠ i + 1; omega, this.1, by show i < n; omega, by show 0 ≤ i + 1; omega, by show i + 1 < n; omega⟩, by show i + 1 = (i + 1) % n; rw [Int.emod_eq_of_lt (by omega) (by omega)]⟩
          · exact ⟨⟨by show n - 1 ≠ 0; omega, by show 0 ≤ n - 1; omega, by show n - 1 < n; omega, Int.le_refl 0, by show (0 : Int) < n; omega⟩, by show (0 : Int) = (n - 1 + 1) % n; rw [Int.sub_add_cancel, Int.emod_self]⟩
        · rintro ⟨⟨a, b, c, d, e⟩, f⟩
          by_cases hq : q.1 = n - 1
          · refine .inr (Prod.ext hq ?_)
            rw [hq, Int.sub_add_cancel, Int.emod_self] at f
            exact f
          · rw [Int.emod_eq_of_lt (by omega) (by omega)] at f
            exact .inl ⟨q.1, rng_mem.mpr ⟨b, by omega⟩, Prod.ext rfl f.symm⟩
      rw [show D.tup [D.int (n - 1), D.int 0] = enc (n - 1, (0 : Int)) from rfl, show ([enc (n - 1, (0 : Int))] : List D) = [(n - 1, (0 : Int))].map enc from rfl, ← List.map_append]
      (try walk_at "d0")
      refine net_init (ps := (rngI 0 (n - 1)).map (fun i => (i, i + 1)) ++ [(n - 1, (0 : Int))]) (by rw [List.length_append, List.length_map, rng_len]; simp; omega) (fun q m => ?_) (fun z => absurd ⟨by omega, by omega⟩ z) (fun _ _ q hq => ?_) fun ks L I m2 => ⟨rfl, _, rfl, h (by omega) (by omega) _ ⟨ks, L, rfl, I, fun q => (m2 q).trans (mm q)⟩⟩
      · obtain ⟨⟨_, a, b, c, d⟩, _⟩ := (mm q).mp m
        exact ⟨⟨by omega, by omega⟩, ⟨by omega, by omega⟩⟩
      · have := List.find?_some hq
        simp [((mm q).mp (List.mem_of_find?_eq_some hq)).1] at this
theorem net_complete {n : Int} (hc : ¬ (1 ≤ n ∧ n ≤ 24) → X (xN Z .non) []) (h : 1 ≤ n → n ≤ 24 → ∀ d, Mk Z n (fun q => LinkOk n q) d → K d []) : F_Net_complete Z [.adr Z.Net, .int n] K X := by
  unfold F_Net_complete B_Net_complete
  (try walk_at "d0")
  refine check_count (fun n1 n2 => ?_) hc
  refine ⟨by omega, by omega, ?_⟩
  refine compD_ind (Pv := fun k acc => ∃ l : List IP, acc = l.map enc ∧ (∀ q : IP, q ∈ l ↔ 0 ≤ q.1 ∧ q.1 < q.2 ∧ q.2 < k) ∧ l.length ≤ k * 24) ⟨[], rfl, fun q => ⟨fun m => (nomatch m), fun z => by omega⟩, Nat.zero_le _⟩ ?_ ?_
  · rintro k d acc N hd ⟨l, rfl, ml, ll⟩ hN
    have hk : k < n.toNat ∧ d = .int k := by
      unfold rngD at hd
      rw [List.getElem?_map] at hd
      obtain ⟨j, hj, e⟩ := Option.map_eq_some_iff.mp hd
      have hj2 := List.getElem?_eq_some_iff.mp hj
      obtain ⟨h1, h2⟩ := hj2
      rw [List.getElem_range] at h2
      rw [List.length_range] at h1
      subst h2
      exact ⟨by omega, by rw [← e]; simp⟩
    obtain ⟨hk, rfl⟩ := hk
    (try walk_at "d0")
    refine ⟨by omega, by omega, ?_⟩
    refine compD_ind (Pv := fun j acc => ∃ l' : List IP, acc = l'.map enc ∧ (∀ q : IP, q ∈ l' ↔ (0 ≤ q.1 ∧ q.1 < q.2 ∧ q.2 < k) ∨ (q.2 = k ∧ 0 ≤ q.1 ∧ q.1 < j ∧ q.1 < k)) ∧ l'.length ≤ k * 24 + j) ⟨l, rfl, fun q => (ml q).trans ⟨.inl, fun z => z.resolve_right (by omega)⟩, ll⟩ ?_ ?_
    · rintro j d acc N hd ⟨l', rfl, ml', ll'⟩ hN
      have hj : j < k ∧ d = .int j := by
        unfold rngD at hd
        rw [List.getElem?_map] at hd
        obtain ⟨j', hj, e⟩ := Option.map_eq_some_iff.mp hd
        obtain ⟨h1, h2⟩ := List.getElem?_eq_some_iff.mp hj
        rw [List.getElem_range] at h2
        rw [List.length_range] at h1
        subst h2
        exact ⟨by omega, by rw [← e]; simp⟩
      obtain ⟨hj, rfl⟩ := hj
      (try walk_at "d0")
      refine ⟨by omega, hN _ ⟨l' ++ [((j : Int), (k : Int))], by simp [enc_pair, enc_int], fun q => ?_, by simp; omega⟩⟩
      rw [List.mem_append, ml', List.mem_singleton, Prod.ext_iff]
      simp only
      omega
    · rintro acc ⟨l', rfl, ml', ll'⟩
      rw [rngD_len] at ml' ll'
      refine hN _ ⟨l', rfl, fun q => (ml' q).trans (by omega), by omega⟩
  · rintro acc ⟨l, rfl, ml, ll⟩
    rw [rngD_len] at ml ll
    (try walk_at "d0")
    have lk : ∀ q ∈ l, LinkOk n q := fun q m => by
      have := (ml q).mp m
      exact ⟨by omega, by omega, by omega, by omega, by omega⟩
    refine both_ways (by omega) (fun q m => ?_) hc (fun _ _ q hq => ?_) fun d m => h n1 n2 d (mk_eq m fun q => ?_)
    · obtain ⟨_, a, b, c, d⟩ := lk q m
      exact ⟨⟨by omega, by omega⟩, ⟨by omega, by omega⟩⟩
    · have := List.find?_some hq
      simp [lk q (List.mem_of_find?_eq_some hq)] at this
    · constructor
      · rintro (m | m)
        · exact lk q m
        · exact (lk _ m).swap
      · rintro ⟨a, b, c, d, e⟩
        by_cases hlt : q.1 < q.2
        · exact .inl ((ml q).mpr ⟨b, hlt, by omega⟩)
        · exact .inr ((ml _).mpr ⟨d, by show q.2 < q.1; omega, by show q.1 < _; omega⟩)
theorem net_has {n s r : Int} {ks L : List IP} (h : K (.bl (decide ((s, r) ∈ ks))) []) : F_Net_has_link Z [netD Z false n ks L, .int s, .int r] K X := by
  unfold F_Net_has_link B_Net_has_link
  (try walk_at "d0")
  have := any_keyP ks (s, r)
  rw [keyP] at this
  rw [this]
  exact h
theorem net_links {n : Int} {ks L : List IP} (h : K (.lst true (L.map enc)) []) : F_Net_links Z [netD Z false n ks L] K X := by
  unfold F_Net_links B_Net_links
  (try walk_at "d0")
  exact h
theorem nodup_perm_mem {L ks : List IP} {n : Int} (I : NetI n ks L) (q : IP) : q ∈ L ↔ q ∈ ks := I.pm.mem_iff
theorem net_sources {n r : Int} {ks L : List IP} (I : NetI n ks L) (hb : Big r) (hx : ¬ (0 ≤ r ∧ r < n) → X ⟨.ref Z.UnknownReplica, ["replica"], [.int r]⟩ [])
    (h : 0 ≤ r → r < n → K (.lst true (((rngI 0 n).filterMap fun s => if (s, r) ∈ ks then some s else none).map enc)) []) : F_Net_sources Z [netD Z false n ks L, .int r] K X := by
  unfold F_Net_sources B_Net_sources
  have n2 := I.n2
  (try walk_at "d0")
  refine is_below ?_
  (try walk_at "d0")
  split
  · rename_i h0
    exact ⟨fm_int hb, hx h0⟩
  · rename_i h0
    refine ⟨by omega, by omega, by omega, compR (fun s => if (s, r) ∈ ks then some s else none) (fun i acc N _ _ hN => ?_) ?_⟩
    · have := any_keyP ks (i, r)
      rw [keyP] at this
      (try walk_at "d0")
      rw [this]
      by_cases hh : (i, r) ∈ ks
      · simp only [hh, if_true, Option.toList, List.map_cons, List.map_nil, decide_true] at hN ⊢
        exact hN
      · simp only [hh, if_false, Option.toList, List.map_nil, List.append_nil, decide_false, Bool.false_eq_true] at hN ⊢
        exact hN
    · exact h (by omega) (by omega)
theorem net_readers {n r : Int} {ks L : List IP} (I : NetI n ks L) (hb : Big r) (hx : ¬ (0 ≤ r ∧ r < n) → X ⟨.ref Z.UnknownReplica, ["replica"], [.int r]⟩ [])
    (h : 0 ≤ r → r < n → K (.lst true (((rngI 0 n).filterMap fun s => if (r, s) ∈ ks then some s else none).map enc)) []) : F_Net_readers Z [netD Z false n ks L, .int r] K X := by
  unfold F_Net_readers B_Net_readers
  have n2 := I.n2
  (try walk_at "d0")
  refine is_below ?_
  (try walk_at "d0")
  split
  · rename_i h0
    exact ⟨fm_int hb, hx h0⟩
  · rename_i h0
    refine ⟨by omega, by omega, by omega, compR (fun s => if (r, s) ∈ ks then some s else none) (fun i acc N _ _ hN => ?_) ?_⟩
    · have := any_keyP ks (r, i)
      rw [keyP] at this
      (try walk_at "d0")
      rw [this]
      by_cases hh : (r, i) ∈ ks
      · simp only [hh, if_true, Option.toList, List.map_cons, List.map_nil, decide_true] at hN ⊢
        exact hN
      · simp only [hh, if_false, Option.toList, List.map_nil, List.append_nil, decide_false, Bool.false_eq_true] at hN ⊢
        exact hN
    · exact h (by omega) (by omega)
theorem nodup_lt : ∀ (m : Nat) (l : List Nat), l.Nodup → (∀ x ∈ l, x < m) → l.length ≤ m
  | 0, l, _, h => by
    cases l with
    | nil => exact Nat.le_refl 0
    | cons a l => exact absurd (h a List.mem_cons_self) (Nat.not_lt_zero a)
  | m + 1, l, nd, h => by
    by_cases hm : m ∈ l
    · have ih := nodup_lt m (l.erase m) (nd.erase m) fun x hx => by
        have := (List.Nodup.mem_erase_iff nd).mp hx
        have := h x this.2
        omega
      rw [List.length_erase_of_mem hm] at ih
      omega
    · have ih := nodup_lt m l nd fun x hx => by
        have := h x hx
        have : x ≠ m := fun e => hm (e ▸ hx)
        omega
      omega
theorem net_len {n : Int} {ks L : List IP} (I : NetI n ks L) : L.length ≤ 600 := by
  have h := I.nd
  have n1 := I.n1
  have n2 := I.n2
  rw [I.pm.length_eq]
  -- distinct pairs below 24: their codes are distinct numbers below 576
  have nd2 : (ks.map fun q => q.1.toNat * 24 + q.2.toNat).Nodup := by
    refine List.pairwise_map.mpr (List.Pairwise.imp_of_mem (fun {a b} ha hb hab => ?_) h)
    intro e
    have la := I.lk a ha
    have lb := I.lk b hb
    obtain ⟨_, a0, a1, a2, a3⟩ := la
    obtain ⟨_, b0, b1, b2, b3⟩ := lb
    exact hab (Prod.ext (by omega) (by omega))
  have := nodup_lt 576 _ nd2 fun x m => by
    obtain ⟨q, hq, rfl⟩ := List.mem_map.mp m
    obtain ⟨_, a0, a1, a2, a3⟩ := I.lk q hq
    omega
  rw [List.length_map] at this
  omega
theorem net_with {n s r : Int} {ks L : List IP} (I : NetI n ks L) (hb : Big s ∧ Big r) (hx : ¬ LinkOk n (s, r) → X (xN Z (enc (s, r))) []) (h : LinkOk n (s, r) → ∀ d, Mk Z n (fun q => q ∈ ks ∨ q = (s, r)) d → K d []) :
    F_Net_with_link Z [netD Z false n ks L, .int s, .int r] K X := by
  unfold F_Net_with_link B_Net_with_link
  have ll := net_len I
  (try walk_at "d0")
  rw [show D.tup [D.int s, D.int r] = enc (s, r) from rfl, show ([enc (s, r)] : List D) = [(s, r)].map enc from rfl, ← List.map_append]
  (try walk_at "d0")
  have lk : ∀ q ∈ L, LinkOk n q := fun q m => I.lk q ((nodup_perm_mem I q).mp m)
  refine ⟨by omega, net_init (ps := L ++ [(s, r)]) (by rw [List.length_append]; simp; omega) (fun q m => ?_) (fun z => absurd ⟨I.n1, I.n2⟩ z) (fun _ _ q hq z => ?_) fun ks' L' I' mm => ?_⟩
  · rcases List.mem_append.mp m with m | m
    · have n2 := I.n2
      obtain ⟨_, a, b, c, d⟩ := lk q m
      exact ⟨⟨by omega, by omega⟩, ⟨by omega, by omega⟩⟩
    · rw [List.mem_singleton.mp m]; exact hb
  · have e1 : ¬ LinkOk n q := by simpa using List.find?_some hq
    have : q = (s, r) := by
      rcases List.mem_append.mp (List.mem_of_find?_eq_some hq) with m | m
      · exact absurd (lk q m) e1
      · exact List.mem_singleton.mp m
    subst this
    exact hx e1
  · refine ⟨rfl, _, rfl, h (I'.lk _ ((mm _).mpr (by simp))) _ ⟨ks', L', rfl, I', fun q => (mm q).trans ?_⟩⟩
    rw [List.mem_append, List.mem_singleton, nodup_perm_mem I]
theorem net_without {n s r : Int} {ks L : List IP} (I : NetI n ks L) (hb : Big s ∧ Big r) (hx : (s, r) ∉ ks → X ⟨.ref Z.NotLinked, ["reader", "source"], [.int r, .int s]⟩ []) (h : (s, r) ∈ ks → ∀ d, Mk Z n (fun q => q ∈ ks ∧ q ≠ (s, r)) d → K d []) :
    F_Net_without_link Z [netD Z false n ks L, .int s, .int r] K X := by
  unfold F_Net_without_link B_Net_without_link
  have ll := net_len I
  (try walk_at "d0")
  refine ⟨by decide, net_has ?_⟩
  (try walk_at "d0")
  split
  · rename_i h0
    exact ⟨fun i _ d hd => fm_mem (α := Unit) (f := fun _ => .non) (g := fun _ => .non) (fm_int hb.1) (fm_int hb.2) hd, hx h0⟩
  · rename_i h0
    rw [Decidable.not_not] at h0
    refine ⟨by omega, compD_fm (fun q => if q ≠ (s, r) then some q else none) (fun q acc N hq hN => ?_) ?_⟩
    · obtain ⟨a, b⟩ := q
      (try walk_at "d0")
      by_cases hh : (a, b) = (s, r)
      · obtain ⟨rfl, rfl⟩ := Prod.mk.inj hh
        simpa using hN
      · rw [if_pos hh] at hN
        have h2 : ¬ (a = s ∧ b = r) := fun z => hh (Prod.ext z.1 z.2)
        simp only [Option.toList, List.map_cons, List.map_nil, enc_pair, enc_int] at hN
        by_cases h3 : a = s
        · have h4 : ¬ b = r := fun z => h2 ⟨h3, z⟩
          simp [h3, h4] at hN ⊢
          exact hN
        · simp [h3] at hN ⊢
          exact hN
    · (try walk_at "d0")
      refine net_init (Nat.le_trans (List.length_filterMap_le _ _) (by omega)) (fun q m => ?_) (fun z => absurd ⟨I.n1, I.n2⟩ z) (fun _ _ q hq => ?_) fun ks' L' I' mm => ⟨rfl, _, rfl, h h0 _ ⟨ks', L', rfl, I', fun q => (mm q).trans ?_⟩⟩
      · obtain ⟨q', m', e⟩ := List.mem_filterMap.mp m
        split at e
        · cases e
          have n2 := I.n2
          obtain ⟨_, a, b, c, d⟩ := I.lk q ((nodup_perm_mem I q).mp m')
          exact ⟨⟨by omega, by omega⟩, ⟨by omega, by omega⟩⟩
        · cases e
      · obtain ⟨q', m', e⟩ := List.mem_filterMap.mp (List.mem_of_find?_eq_some hq)
        split at e
        · cases e
          have := List.find?_some hq
          simp [I.lk q ((nodup_perm_mem I q).mp m')] at this
        · cases e
      · rw [List.mem_filterMap]
        constructor
        · rintro ⟨q', m', e⟩
          split at e
          · rename_i hne
            cases e
            exact ⟨(nodup_perm_mem I q).mp m', hne⟩
          · cases e
        · rintro ⟨m', hne⟩
          exact ⟨q, (nodup_perm_mem I q).mpr m', if_pos hne⟩
end
set_option maxHeartbeats 1000000
theorem get_lt {α : Type} {l : List α} {i : Int} (h0 : 0 ≤ i) (h1 : i < l.length) : ∃ a, atI l i = some a ∧ a ∈ l := by
  have h : i.toNat < l.length := by omega
  exact ⟨l[i.toNat], by rw [at_in h0 h1]; exact List.getElem?_eq_getElem h, List.getElem_mem h⟩
class BoxI (b : D) : Prop where
  is : IsBox g0 b
theorem box_frz {b : D} [h : BoxI b] : b.frz = b := h.is.frz
theorem box_shr {b : D} [h : BoxI b] : b.shr = true := h.is.shr
theorem box_clean {b : D} [h : BoxI b] : b.clean = false := h.is.clean
theorem box_nofk {b : D} {k : Nat} [h : BoxI b] : b.nofk k = true := by obtain ⟨t, n, rfl⟩ := h.is; rfl
local macro_rules | `(tactic| walk_at "d0") => `(tactic| simp only [frz_frz, frzs_frzs, frz_shr, frzs_shrs, frzs_app, frzs_length, at_frzs, nofks_ints, nofks_pairs, nofk_pairE, nook_enc, nooks_enc, sepD, sep1, D.nofk, D.nofks, D.nook, D.nooks, Nat.reduceBNe, bne_self_eq_false, Enc.frz, Enc.shr, clean_pairE, ok_pairE, oks_ints, oks_pairs, at_0, at_1, at_2, at_3, at_4, at_map, ex_map, cast_0, cast_1, cast_2, cast_3, cast_4, rngD_len, lcStep, lcStepB, lc2Step, bodyN, bodyF, dSeq, dNext, dBrk, dCnt, dDrop, dIfS, dBind, dRet, dRetN, dRetM, dName, dNameF, dC, dVar, dVarS, dOp, dOpG, dTest, dTru, dNot, dAnd, dOr, dAndV, dOrV, dNotV, dIf, dChain, dNil, dCons, dLst, dTup, dCB, dCBG, dCall, dMeth, dProp, dPropN, dMake, dMakeV, dCMeth, dLc, dLc2, dFor, dApp, dSetI, dSetF, dIns, dRev, dPv, modAt, isOwnL, pathOk, D.at, D.put, D.idx, D.kids, D.wk, dRaise, dNever, dTryAs, dTryOnly, DEn.calm, DEn.still, dX, dBindX, dDropX, dRetX, dXT, dTestX, dTruX, dNotX, dAndX, dOrX, dIfX, dPop, dPopAt, modAt2, dAppX, dNoPart, dIndex, dGet2, gLt, gLe, gGt, gGe, gEq, gNe, D.frz, D.frzs, outs, okX, D.shr, D.shrs, D.clean, D.cleans, frzC, frzAt, frz1, wipeE, putN, lookF, enc_int, enc_list, enc_pair, frzs_map, shrs_map, frz_lst, deq_lst, clean_int_list, clean_pair_list, asBl_bl, gTru_non, gTru_bl, gTru_int, gTru_lst, gTru_tup, gTru_dK, gCmp_int, gIs_non, isNon_non, isNon_bl, isNon_int, isNon_lst, isNon_tup, isNon_ins, isNon_str, gAdd_int, gAdd_lst, gMin_int, gMul_int, gMul_lst, gDiv_int, gMod_int, gIx_lst, gIx_tup, gIx_dK, gIx_dT, gIn_lst, gIn_tup, gIn_dK, gIn_dT, gLen_lst, gLen_tup, gInt_int, gInt_bl, gList_lst, gList_tup, gMx_int, gMn_int, gIsi_int_int, gIsi_int_bool, gIsi_bl_bool, gIsi_bl_int, gIsi_lst_list, gIsi_tup_tuple, gIsi_non_int, gIsi_non_tuple, gIsi_non_list, gIsi_str_str, key_int, key_str, keys_nil, keys_1, keys_2, opApp_lst, opIns_lst, opRev_lst, opSet_lst, opSet_dK, opSet_dT, opFld_ins, opPop_none, opPop_some, isIns_ins, isInsP_ins, dFld_eq, gFld_ins, dRng1_eq, gRng1_int, dRng2_eq, gRng2_int, dIl_eq, gIl_lst, dEnum_eq, gEnum_lst, dLrg1_eq, gLrg1_int, dNeg_eq, gNeg_int, dPart_eq, gPart_int, dSl_eq, gSl_lst, dGTup_eq, gGT_tup, dGNil_nil, dGCons_cons, dPix_eq, gPix_int, dAug_eq, gAug_int, dLenSet_eq, gLenSet_lst, gGet_dK, gGet_dT, isDict_dK, isDict_dT, isList_lst, gIndex_lst, ok_non, ok_bl, ok_int, ok_tup, ok_lstS, oks_nil, oks_cons, flat_non, flat_bl, flat_int, flat_str, all_flat_int, deq_int, deq_bl, deq_non, deq_lsts, deq_tups, deqs_nil, deqs_cons, deqs_nc, deqs_cn, deqs_map, deqs_map_nil, deq_non_int, deq_int_non, any_int, and_assoc, Bool.not_true, Bool.not_false, Bool.and_self, Bool.and_true, Bool.true_and, Bool.and_false, Bool.false_and, Bool.or_self, Bool.or_true, Bool.true_or, Bool.or_false, Bool.false_or, Bool.xor_false, Bool.false_xor, Bool.true_xor, Bool.xor_true, Bool.not_not, List.map_cons, List.map_nil, List.replicate, List.cons_append, List.nil_append, List.append_nil, List.length_cons, List.length_nil, List.length_map, List.length_reverse, List.length_replicate, List.length_range, List.length_set, List.length_append, List.getElem?_cons_zero, List.getElem?_cons_succ, List.getElem?_nil, List.set_cons_zero, List.set_cons_succ, List.set_nil, List.cons.injEq, List.not_mem_nil, List.mem_cons, List.zip_cons_cons, List.zip_nil_left, List.lookup_cons, List.findIdx?_cons, List.findIdx?_nil, List.all_cons, List.all_nil, List.any_cons, List.any_nil, List.isEmpty_cons, List.isEmpty_nil, List.reverse_cons, List.reverse_nil, Option.some.injEq, Option.map_some, Option.map_none, Option.join_some, Option.getD_some, Option.getD_none, Option.bind_some, D.int.injEq, D.bl.injEq, D.tup.injEq, D.lst.injEq, D.str.injEq, D.adr.injEq, D.ins.injEq, D.xo.injEq, D.dK.injEq, D.dT.injEq, exists_eq_left', exists_eq_left, exists_eq_right', exists_eq_right, exists_eq, exists_eq', exists_and_left, exists_and_right, exists_const, and_true, true_and, and_false, false_and, and_self, or_true, true_or, or_false, false_or, not_true, not_false_iff, implies_true, forall_const, forall_eq', forall_eq, if_true, if_false, ite_true, ite_false, reduceCtorEq, reduceIte, decide_eq_true_eq, decide_eq_false_iff_not, Bool.not_eq_true', Bool.not_eq_eq_eq_not, Bool.false_eq_true, Bool.true_eq_false, decide_true, decide_false, Nat.reduceAdd, Nat.reduceLT, Nat.reduceLeDiff, Nat.reduceEqDiff, Nat.lt_irrefl, Nat.succ_ne_zero, beq_self_eq_true, Nat.zero_add, eq_self_iff_true, ne_eq, Nat.zero_lt_succ, Int.reduceNeg, Int.reduceMul, Int.reduceAdd, Int.reduceSub, Int.reduceLT, Int.reduceLE, Int.reduceEq, exists_false, false_implies, true_implies, Bool.and_eq_true, Bool.or_eq_true, netT_nofk, nofks_tru, netT_frz, netT_clean, isIns_netD, isInsP_netD, fld_count, fld_linked, fld_links, sne_1, sne_2, sne_3, sne_4, sne_5, sne_6, frzs_tru, shrs_tru, cleans_tru, netD_frz, netD_shr, box_nofk, box_frz, box_shr, box_clean])
theorem cmul_r {i j : Int} (h : -(2 ^ 64) < j ∧ j < 2 ^ 64) : CMul i j := .inr h
theorem log_small {j : Int} (h : 0 < j) (h2 : j < 2 ^ 1000) : 0 < j ∧ j.natAbs.log2 < 9000 := by
  refine ⟨h, ?_⟩
  have h1 : j.natAbs ≠ 0 := by omega
  refine (Nat.log2_lt h1).mpr (Nat.lt_trans (m := 2 ^ 1000) (by omega) (Nat.pow_lt_pow_right (by omega) (by omega)))
section
variable {Z : Ad} {K : KT} {X : XT} {b : D} [BoxI b]
theorem draw {m : Int} (h0 : 0 < m) (h1 : m ≤ 1000000000) (h : ∀ d, 0 ≤ d → d < m → K (.int d) []) : F__law_draw Z [b, .int m] K X :=
  ⟨b, [m], rfl, rfl, BoxI.is, m, rfl, h0, h1, h⟩
theorem step (h : K .non []) : F__law_step Z [b] K X := ⟨b, [], rfl, rfl, BoxI.is, rfl, h⟩
theorem great (h : ∀ r, 0 ≤ r → r < 10 ^ 30 → K (.int r) []) : F__law_great Z [b] K X := by
  unfold F__law_great B__law_great
  (try walk_at "d0")
  refine draw (by omega) (by omega) fun d1 a1 b1 => ?_
  (try walk_at "d0")
  refine draw (by omega) (by omega) fun d2 a2 b2 => ?_
  (try walk_at "d0")
  refine draw (by omega) (by omega) fun d3 a3 b3 => ?_
  (try walk_at "d0")
  refine draw (by omega) (by omega) fun d4 a4 b4 => ?_
  (try walk_at "d0")
  exact ⟨cmul_r (by omega), cmul_r (by omega), cmul_r (by omega), h _ (by omega) (by omega)⟩
theorem is_int {i : Int} (h : K (.bl true) []) : F__law_is_int Z [.int i] K X := by
  unfold F__law_is_int B__law_is_int
  (try walk_at "d0")
  exact h
theorem stranger {n : Int} (n1 : 1 ≤ n) (n2 : n ≤ 24) (h : ∀ r, ¬ (0 ≤ r ∧ r < n) → Big r → K (.int r) []) : F__law_stranger Z [b, .int n] K X := by
  unfold F__law_stranger B__law_stranger
  (try walk_at "d0")
  have g : ∀ r, ¬ (0 ≤ r ∧ r < n) → (-(10 ^ 30) ≤ r ∧ r ≤ 10 ^ 30) → K (.int r) [] := fun r h1 h2 => h r h1 ⟨by omega, by omega⟩
  refine draw (by omega) (by omega) fun d a1 a2 => ?_
  (try walk_at "d0")
  split
  · exact g _ (by omega) (by omega)
  · split
    · exact g _ (by omega) (by omega)
    · split
      · refine draw (by omega) (by omega) fun d2 b1 b2 => ?_
        (try walk_at "d0")
        exact g _ (by omega) (by omega)
      · split
        · refine draw (by omega) (by omega) fun d2 b1 b2 => ?_
          (try walk_at "d0")
          exact g _ (by omega) (by omega)
        · refine great fun r r1 r2 => ?_
          (try walk_at "d0")
          split
          · exact g _ (by omega) (by omega)
          · exact g _ (by omega) (by omega)
theorem truth {x y : Bool} (h : K (.bl (x == y)) []) : F__law_truth Z [.bl x, .bl y] K X := by
  unfold F__law_truth B__law_truth
  (try walk_at "d0")
  exact h
theorem is_pair {p q : IP} (h : K (.bl (decide (p = q))) []) : F__law_is_pair Z [enc p, enc q] K X := by
  obtain ⟨a, c⟩ := p
  obtain ⟨a', c'⟩ := q
  unfold F__law_is_pair B__law_is_pair
  (try walk_at "d0")
  refine is_int ?_
  (try walk_at "d0")
  refine is_int ?_
  (try walk_at "d0")
  rw [show (decide (a = a') && decide (c = c')) = decide ((a, c) = (a', c')) by
    by_cases h1 : a = a' <;> by_cases h2 : c = c' <;> simp [h1, h2]]
  exact h
theorem pairs_are {l : List IP} (hl : l.length ≤ 100000) (h : K (.bl true) []) : F__law_pairs_are Z [enc l, enc l] K X := by
  unfold F__law_pairs_are B__law_pairs_are
  (try walk_at "d0")
  refine ⟨by omega, by omega, forR (fun i ρ => ∃ x, ρ = [some (.lst false (l.map enc)), some (.lst false (l.map enc)), x]) ⟨_, rfl⟩ ?_ ?_⟩
  · rintro i ρ N h0 h1 ⟨x, rfl⟩ q
    obtain ⟨a, ha, _⟩ := get_lt h0 h1
    (try walk_at "d0")
    refine ⟨a, ha, a, ha, ?_⟩
    refine is_pair ?_
    (try walk_at "d0")
    exact q _ ⟨_, rfl⟩
  · rintro ρ ⟨x, rfl⟩
    (try walk_at "d0")
    exact h
theorem ints_are {l : List Int} (hl : l.length ≤ 100000) (h : K (.bl true) []) : F__law_ints_are Z [enc l, enc l] K X := by
  unfold F__law_ints_are B__law_ints_are
  (try walk_at "d0")
  refine ⟨by omega, by omega, forR (fun i ρ => ∃ x, ρ = [some (.lst false (l.map enc)), some (.lst false (l.map enc)), x]) ⟨_, rfl⟩ ?_ ?_⟩
  · rintro i ρ N h0 h1 ⟨x, rfl⟩ q
    obtain ⟨a, ha, _⟩ := get_lt h0 h1
    (try walk_at "d0")
    refine ⟨a, ha, ?_⟩
    refine is_int ?_
    (try walk_at "d0")
    refine ⟨a, ha, a, ha, ?_⟩
    (try walk_at "d0")
    exact q _ ⟨_, rfl⟩
  · rintro ρ ⟨x, rfl⟩
    (try walk_at "d0")
    exact h
theorem count (h : ∀ n, 1 ≤ n → n ≤ 24 → K (.int n) []) : F__law_count Z [b] K X := by
  unfold F__law_count B__law_count
  (try walk_at "d0")
  refine draw (by omega) (by omega) fun d a1 a2 => ?_
  (try walk_at "d0")
  split
  · refine draw (by omega) (by omega) fun d2 b1 b2 => ?_
    (try walk_at "d0")
    exact h _ (by omega) (by omega)
  · split
    · refine draw (by omega) (by omega) fun d2 b1 b2 => ?_
      (try walk_at "d0")
      exact h _ (by omega) (by omega)
    · refine draw (by omega) (by omega) fun d2 b1 b2 => ?_
      (try walk_at "d0")
      exact h _ (by omega) (by omega)
theorem mod_two {z n : Int} (h0 : 0 ≤ z) (h1 : z < 2 * n) : z % n = if z < n then z else z - n := by
  split
  · exact Int.emod_eq_of_lt h0 (by omega)
  · rw [← Int.sub_emod_right]
    exact Int.emod_eq_of_lt (by omega) (by omega)
theorem pair {n : Int} (n1 : 2 ≤ n) (n2 : n ≤ 24) (h : ∀ p, LinkOk n p → K (enc p) []) : F__law_pair Z [b, .int n] K X := by
  unfold F__law_pair B__law_pair
  (try walk_at "d0")
  refine draw (by omega) (by omega) fun d a1 a2 => ?_
  (try walk_at "d0")
  refine draw (by omega) (by omega) fun d2 b1 b2 => ?_
  (try walk_at "d0")
  have e := mod_two (z := d + 1 + d2) (n := n) (by omega) (by omega)
  refine ⟨by omega, h (d, (d + 1 + d2) % n) ?_⟩
  rw [e]
  split <;> exact ⟨by show d ≠ _; omega, a1, a2, by show 0 ≤ _; omega, by show _ < n; omega⟩
theorem good_pairs {n : Int} (n1 : 1 ≤ n) (n2 : n ≤ 24) (h : ∀ ps : List IP, ps.length ≤ 60 → (∀ q ∈ ps, LinkOk n q) → K (.lst true (ps.map enc)) []) : F__law_good_pairs Z [b, .int n] K X := by
  unfold F__law_good_pairs B__law_good_pairs
  (try walk_at "d0")
  refine draw (by omega) (by omega) fun d a1 a2 => ?_
  (try walk_at "d0")
  refine cut (fun ρ => ∃ z : Int, ρ = [some b, some (.int n), some (.lst true []), some (.int z), none] ∧ 0 ≤ z ∧ z ≤ 60) (fun N q => ?_) ?_
  · (try walk_at "d0")
    refine draw (by omega) (by omega) fun d2 b1 b2 => ?_
    (try walk_at "d0")
    split
    · refine draw (by omega) (by omega) fun d3 c1 c2 => ?_
      (try walk_at "d0")
      exact q _ ⟨_, rfl, by omega, by omega⟩
    · exact q _ ⟨_, rfl, by omega, by omega⟩
  · rintro ρ ⟨z, rfl, z0, z1⟩
    refine cut (fun ρ => ∃ z : Int, ρ = [some b, some (.int n), some (.lst true []), some (.int z), none] ∧ 0 ≤ z ∧ z ≤ 60 ∧ (z ≠ 0 → n ≠ 1)) (fun N q => ?_) ?_
    · (try walk_at "d0")
      split
      · exact q _ ⟨_, rfl, by omega, by omega, by omega⟩
      · rename_i h1
        exact q _ ⟨_, rfl, by omega, by omega, fun _ => h1⟩
    · rintro ρ ⟨z, rfl, z0, z1, z2⟩
      (try walk_at "d0")
      refine ⟨by omega, by omega, forR (fun i ρ => ∃ (x : Option D) (ps : List IP), ρ = [some b, some (.int n), some (.lst true (ps.map enc)), some (.int z), x] ∧ (ps.length : Int) = i ∧ ∀ q ∈ ps, LinkOk n q) ⟨_, [], rfl, rfl, fun _ m => (nomatch m)⟩ ?_ ?_⟩
      · rintro i ρ N h0 h1 ⟨x, ps, rfl, pl, ok⟩ q
        have new : ∀ p, LinkOk n p → ps.length ≤ 100000 ∧ N [some b, some (.int n), some (.lst true (ps.map enc ++ [enc p])), some (.int z), some (.int i)] := fun p hp => by
          refine ⟨by omega, q _ ⟨some (.int i), ps ++ [p], by simp, by simp; omega, fun x m => ?_⟩⟩
          rcases List.mem_append.mp m with m | m
          · exact ok x m
          · rw [List.mem_singleton.mp m]; exact hp
        (try walk_at "d0")
        split
        · rename_i hne
          have h2 : ps ≠ [] := by intro z; rw [z] at hne; cases hne
          have hl : 0 < ps.length := List.length_pos_iff.mpr h2
          refine draw (by omega) (by omega) fun d2 b1 b2 => ?_
          (try walk_at "d0")
          split
          · refine draw (by omega) (by omega) fun d3 c1 c2 => ?_
            obtain ⟨a, ha, hm⟩ := get_lt c1 c2
            (try walk_at "d0")
            refine ⟨a, ha, ?_⟩
            (try walk_at "d0")
            exact new a (ok a hm)
          · refine pair (by omega) n2 fun p hp => ?_
            (try walk_at "d0")
            exact new p hp
        · refine pair (by omega) n2 fun p hp => ?_
          (try walk_at "d0")
          exact new p hp
      · rintro ρ ⟨x, ps, rfl, pl, ok⟩
        (try walk_at "d0")
        exact h ps (by omega) ok
theorem bad_pair {n : Int} (n1 : 1 ≤ n) (n2 : n ≤ 24) (h : ∀ p, ¬ LinkOk n p → Big p.1 → Big p.2 → K (enc p) []) : F__law_bad_pair Z [b, .int n] K X := by
  unfold F__law_bad_pair B__law_bad_pair
  (try walk_at "d0")
  refine draw (by omega) (by omega) fun d a1 a2 => ?_
  (try walk_at "d0")
  refine draw (by omega) (by omega) fun d2 b1 b2 => ?_
  (try walk_at "d0")
  have bd : Big d2 := ⟨by omega, by omega⟩
  split
  · exact h (d2, d2) (fun z => z.ne rfl) bd bd
  · refine stranger n1 n2 fun r hr hb => ?_
    (try walk_at "d0")
    split
    · exact h (d2, r) (fun z => hr ⟨z.b0, z.b1⟩) bd hb
    · split
      · exact h (r, d2) (fun z => hr ⟨z.a0, z.a1⟩) hb bd
      · refine stranger n1 n2 fun r2 hr2 hb2 => ?_
        (try walk_at "d0")
        exact h (r, r2) (fun z => hr ⟨z.a0, z.a1⟩) hb hb2
theorem spoilt {n : Int} {ps : List IP} (n1 : 1 ≤ n) (n2 : n ≤ 24) (pl : ps.length ≤ 60) (ok : ∀ q ∈ ps, LinkOk n q)
    (h : ∀ ss : List IP, ss.length ≤ 62 → (∀ q ∈ ss, Big q.1 ∧ Big q.2) → (∃ q ∈ ss, ¬ LinkOk n q) → K (.lst true (ss.map enc)) []) : F__law_spoilt Z [b, .int n, enc ps] K X := by
  unfold F__law_spoilt B__law_spoilt
  (try walk_at "d0")
  refine draw (by omega) (by omega) fun d a1 a2 => ?_
  (try walk_at "d0")
  have bigL : ∀ q : IP, LinkOk n q → Big q.1 ∧ Big q.2 := fun q ⟨_, a, b, c, d⟩ => ⟨⟨by omega, by omega⟩, ⟨by omega, by omega⟩⟩
  refine ⟨by omega, by omega, forR (fun i ρ => ∃ (x y : Option D) (ss : List IP), ρ = [some b, some (.int n), some (.lst false (ps.map enc)), some (.lst true (ss.map enc)), x, y] ∧ (ss.length : Int) = ps.length + i ∧ (∀ q ∈ ss, Big q.1 ∧ Big q.2) ∧ (0 < i → ∃ q ∈ ss, ¬ LinkOk n q)) ⟨_, _, ps, rfl, by omega, fun q m => bigL q (ok q m), fun z => by omega⟩ ?_ ?_⟩
  · rintro i ρ N h0 h1 ⟨x, y, ss, rfl, sl, bg, hb⟩ q
    (try walk_at "d0")
    refine draw (by omega) (by omega) fun d2 b1 b2 => ?_
    (try walk_at "d0")
    refine bad_pair n1 n2 fun p hp p1 p2 => ?_
    (try walk_at "d0")
    refine ⟨by omega, b1, by omega, q _ ⟨some (.int i), some (.int d2), ss.take d2.toNat ++ [p] ++ ss.drop d2.toNat, by simp, ?_, fun x m => ?_, fun _ => ⟨p, by simp, hp⟩⟩⟩
    · simp only [List.length_append, List.length_take, List.length_drop, List.length_cons, List.length_nil]
      omega
    · rcases List.mem_append.mp m with m | m
      · rcases List.mem_append.mp m with m | m
        · exact bg x (List.mem_of_mem_take m)
        · rw [List.mem_singleton.mp m]; exact ⟨p1, p2⟩
      · exact bg x (List.mem_of_mem_drop m)
  · rintro ρ ⟨x, y, ss, rfl, sl, bg, hb⟩
    (try walk_at "d0")
    exact h ss (by omega) bg (hb (by omega))
def fbD (o : Option IP) : D := match o with
  | none => .non
  | some q => enc q
theorem first_bad {n : Int} {l : List IP} (hl : l.length ≤ 1000) (h : K (fbD (l.find? fun q => !decide (LinkOk n q))) []) : F__law_first_bad Z [.int n, enc l] K X := by
  unfold F__law_first_bad B__law_first_bad
  (try walk_at "d0")
  refine forE (l := l) (fun pre ρ => ∃ x y, ρ = [some (.int n), some (.lst false (l.map enc)), x, y] ∧ ∀ q ∈ pre, LinkOk n q) ⟨_, _, rfl, fun _ m => (nomatch m)⟩ ?_ ?_
  · rintro pre ⟨s, r⟩ post ρ N e ⟨x, y, rfl, ok⟩ q
    have yes : (s ≠ r ∧ 0 ≤ s ∧ s < n ∧ 0 ≤ r ∧ r < n) → ∀ x, N [some (.int n), some (.lst false (l.map enc)), some (.tup [.int s, .int r]), x] := fun hok x => q _ ⟨_, _, rfl, fun z m => by
      rcases List.mem_append.mp m with m | m
      · exact ok z m
      · rw [List.mem_singleton.mp m]; exact ⟨hok.1, hok.2.1, hok.2.2.1, hok.2.2.2.1, hok.2.2.2.2⟩⟩
    have no : ¬ (s ≠ r ∧ 0 ≤ s ∧ s < n ∧ 0 ≤ r ∧ r < n) → K (.tup [.int s, .int r]) [] := fun hok => by
      rw [e, find_no (fun x m => by simp [ok x m]) (by
        have : ¬ LinkOk n (s, r) := fun z => hok ⟨z.ne, z.a0, z.a1, z.b0, z.b1⟩
        simp [this])] at h
      exact h
    (try walk_at "d0")
    repeat' split
    all_goals first | exact no (by omega) | exact yes (by omega) _
  · rintro ρ ⟨x, y, rfl, ok⟩
    (try walk_at "d0")
    rw [List.find?_eq_none.mpr fun x m => by simp [ok x m]] at h
    exact h
/-! tables -/
def LexLt (p q : Int × Int) : Prop := p.1 < q.1 ∨ (p.1 = q.1 ∧ p.2 < q.2)
theorem lex_uniq : ∀ {L M : List (Int × Int)}, L.Pairwise LexLt → M.Pairwise LexLt → (∀ q, q ∈ L ↔ q ∈ M) → L = M
  | [], [], _, _, _ => rfl
  | [], b :: M, _, _, h => absurd ((h b).mpr List.mem_cons_self) (by simp)
  | a :: L, [], _, _, h => absurd ((h a).mp List.mem_cons_self) (by simp)
  | a :: L, b :: M, hl, hm, h => by
    obtain ⟨l1, l2⟩ := List.pairwise_cons.mp hl
    obtain ⟨m1, m2⟩ := List.pairwise_cons.mp hm
    have irr : ∀ {x y : Int × Int}, LexLt x y → LexLt y x → False := fun {x y} p q => by unfold LexLt at p q; omega
    have e : a = b := by
      rcases List.mem_cons.mp ((h a).mp List.mem_cons_self) with e | m
      · exact e
      rcases List.mem_cons.mp ((h b).mpr List.mem_cons_self) with e | m'
      · exact e.symm
      · exact (irr (l1 b m') (m1 a m)).elim
    subst e
    rw [lex_uniq l2 m2 fun q => ⟨fun p => ?_, fun p => ?_⟩]
    · rcases List.mem_cons.mp ((h q).mp (List.mem_cons_of_mem _ p)) with e | m
      · rw [e] at p
        exact (irr (l1 a p) (l1 a p)).elim
      · exact m
    · rcases List.mem_cons.mp ((h q).mpr (List.mem_cons_of_mem _ p)) with e | m
      · rw [e] at p
        exact (irr (m1 a p) (m1 a p)).elim
      · exact m
theorem lex_strict {L : List (Int × Int)} (h : L.Pairwise PO.LexLe) (n : L.Nodup) : L.Pairwise LexLt := by
  refine (h.and n).imp fun {a b} hab => ?_
  obtain ⟨h1, h2⟩ := hab
  unfold PO.LexLe at h1
  unfold LexLt
  rcases h1 with h1 | ⟨h1, h3⟩
  · exact .inl h1
  · refine .inr ⟨h1, ?_⟩
    rcases Int.lt_or_eq_of_le h3 with z | z
    · exact z
    · exact absurd (Prod.ext h1 z) h2

theorem ixN_nat {m : Nat} {i : Int} (h0 : 0 ≤ i) (h1 : i < (m : Int)) : ixN m i = some i.toNat := by
  unfold ixN
  rw [if_pos h0, if_pos h1]
theorem ix_lt {n x y : Int} (x0 : 0 ≤ x) (x1 : x < n) (y0 : 0 ≤ y) (y1 : y < n) : 0 ≤ x * n + y ∧ x * n + y < n * n := by
  have h1 : 0 ≤ x * n := Int.mul_nonneg x0 (by omega)
  have h2 : x * n ≤ (n - 1) * n := Int.mul_le_mul_of_nonneg_right (by omega) (by omega)
  rw [Int.sub_mul, Int.one_mul] at h2
  omega
theorem ix_inj {n x y x' y' : Int} (y0 : 0 ≤ y) (y1 : y < n) (y0' : 0 ≤ y') (y1' : y' < n) (e : x * n + y = x' * n + y') : x = x' ∧ y = y' := by
  have h1 : (x * n + y) % n = y := by rw [Int.add_comm, Int.add_mul_emod_self_right, Int.emod_eq_of_lt y0 y1]
  have h2 : (x' * n + y') % n = y' := by rw [Int.add_comm, Int.add_mul_emod_self_right, Int.emod_eq_of_lt y0' y1']
  have hy : y = y' := by rw [← h1, e, h2]
  subst hy
  exact ⟨Int.eq_of_mul_eq_mul_right (by omega : n ≠ 0) (by omega), rfl⟩
structure TabOk (n : Int) (P : IP → Prop) (T : List Int) : Prop where
  len : (T.length : Int) = n * n
  yes : ∀ x y : Int, 0 ≤ x → x < n → 0 ≤ y → y < n → P (x, y) → T[(x * n + y).toNat]? = some 1
  no : ∀ x y : Int, 0 ≤ x → x < n → 0 ≤ y → y < n → ¬ P (x, y) → T[(x * n + y).toNat]? = some 0
theorem nn_le {n : Int} (h : 1 ≤ n) (h2 : n ≤ 24) : 1 ≤ n * n ∧ n * n ≤ 576 := by
  have h1 : 1 * 1 ≤ n * n := Int.mul_le_mul h h (by omega) (by omega)
  have h2 : n * n ≤ 24 * 24 := Int.mul_le_mul h2 h2 (by omega) (by omega)
  omega
theorem TabOk.at {n : Int} {P : IP → Prop} {T : List Int} (t : TabOk n P T) {x y : Int} (x0 : 0 ≤ x) (x1 : x < n) (y0 : 0 ≤ y) (y1 : y < n) : ∃ v, atI T (x * n + y) = some v ∧ (v = 1 ↔ P (x, y)) ∧ (v = 0 ∨ v = 1) := by
  have b := ix_lt x0 x1 y0 y1
  rw [at_in b.1 (by rw [t.len]; exact b.2)]
  by_cases h : P (x, y)
  · exact ⟨1, t.yes x y x0 x1 y0 y1 h, by simp [h], .inr rfl⟩
  · exact ⟨0, t.no x y x0 x1 y0 y1 h, by simp [h], .inl rfl⟩
theorem TabOk.set {n : Int} {P : IP → Prop} {T : List Int} (t : TabOk n P T) {x y : Int} (x0 : 0 ≤ x) (x1 : x < n) (y0 : 0 ≤ y) (y1 : y < n) : TabOk n (fun q => P q ∨ q = (x, y)) (T.set (x * n + y).toNat 1) := by
  have b := ix_lt x0 x1 y0 y1
  have bl : (x * n + y).toNat < T.length := by have := t.len; omega
  refine ⟨by rw [List.length_set]; exact t.len, fun x' y' a0 a1 c0 c1 h => ?_, fun x' y' a0 a1 c0 c1 h => ?_⟩
  · rw [List.getElem?_set]
    split
    · rfl
    · rename_i e
      refine t.yes x' y' a0 a1 c0 c1 (h.resolve_right fun z => e ?_)
      obtain ⟨rfl, rfl⟩ := Prod.mk.inj z
      rfl
  · rw [List.getElem?_set]
    have b' := ix_lt a0 a1 c0 c1
    split
    · rename_i e
      have := ix_inj y0 y1 c0 c1 (show x * n + y = x' * n + y' by omega)
      exact absurd (.inr (Prod.ext this.1.symm this.2.symm)) h
    · exact t.no x' y' a0 a1 c0 c1 fun z => h (.inl z)
theorem TabOk.clr {n : Int} {P : IP → Prop} {T : List Int} (t : TabOk n P T) {x y : Int} (x0 : 0 ≤ x) (x1 : x < n) (y0 : 0 ≤ y) (y1 : y < n) : TabOk n (fun q => P q ∧ q ≠ (x, y)) (T.set (x * n + y).toNat 0) := by
  have b := ix_lt x0 x1 y0 y1
  have bl : (x * n + y).toNat < T.length := by have := t.len; omega
  refine ⟨by rw [List.length_set]; exact t.len, fun x' y' a0 a1 c0 c1 h => ?_, fun x' y' a0 a1 c0 c1 h => ?_⟩
  · rw [List.getElem?_set]
    have b' := ix_lt a0 a1 c0 c1
    split
    · rename_i e
      have := ix_inj y0 y1 c0 c1 (show x * n + y = x' * n + y' by omega)
      exact absurd (Prod.ext this.1.symm this.2.symm) h.2
    · exact t.yes x' y' a0 a1 c0 c1 h.1
  · rw [List.getElem?_set]
    split
    · rfl
    · rename_i e
      refine t.no x' y' a0 a1 c0 c1 fun z => h ⟨z, fun z2 => e ?_⟩
      obtain ⟨rfl, rfl⟩ := Prod.mk.inj z2
      rfl
theorem TabOk.imp {n : Int} {P P' : IP → Prop} {T : List Int} (t : TabOk n P T) (h : ∀ q : IP, 0 ≤ q.1 → q.1 < n → 0 ≤ q.2 → q.2 < n → (P q ↔ P' q)) : TabOk n P' T :=
  ⟨t.len, fun x y a c d e p => t.yes x y a c d e ((h (x, y) a c d e).mpr p), fun x y a c d e p => t.no x y a c d e fun z => p ((h (x, y) a c d e).mp z)⟩
theorem rep_flat (k : Nat) : (List.replicate k [D.int 0]).flatten = (List.replicate k (0 : Int)).map enc := by
  induction k with
  | zero => rfl
  | succ k ih => rw [List.replicate_succ, List.flatten_cons, ih]; rfl
theorem TabOk.nil {n : Int} (h : 0 ≤ n * n) : TabOk n (fun _ => False) (List.replicate (n * n).toNat 0) := by
  refine ⟨by rw [List.length_replicate]; omega, fun _ _ _ _ _ _ z => z.elim, fun x y x0 x1 y0 y1 _ => ?_⟩
  have b := ix_lt x0 x1 y0 y1
  rw [List.getElem?_replicate, if_pos (by omega)]
def bothP (l : List IP) (w : Bool) (q : IP) : Prop := q ∈ l ∨ (w = true ∧ (q.2, q.1) ∈ l)
theorem table {n : Int} {ps : List IP} {w : Bool} (n1 : 1 ≤ n) (n2 : n ≤ 24) (ok : ∀ q ∈ ps, LinkOk n q) (hl : ps.length ≤ 1000) (h : ∀ T, TabOk n (bothP ps w) T → K (.lst true (T.map enc)) []) : F__law_table Z [.int n, enc ps, .bl w] K X := by
  have nn := nn_le n1 n2
  unfold F__law_table B__law_table
  (try walk_at "d0")
  rw [rep_flat]
  (try walk_at "d0")
  refine ⟨cmul_r (by omega), by omega, by omega, by omega, forE (l := ps) (fun pre ρ => ∃ (x : Option D) (T : List Int), ρ = [some (.int n), some (.lst false (ps.map enc)), some (.bl w), some (.lst true (T.map enc)), x] ∧ TabOk n (bothP pre w) T) ⟨_, _, rfl, (TabOk.nil (by omega)).imp fun q _ _ _ _ => by simp [bothP]⟩ ?_ ?_⟩
  · rintro pre ⟨s, r⟩ post ρ N e ⟨x, T, rfl, tk⟩ q
    have lk := ok (s, r) (by rw [e]; simp)
    obtain ⟨_, s0, s1, r0, r1⟩ := lk
    simp only at s0 s1 r0 r1
    have b1 := ix_lt s0 s1 r0 r1
    have b2 := ix_lt r0 r1 s0 s1
    have tl := tk.len
    have t1 := tk.set s0 s1 r0 r1
    (try walk_at "d0")
    refine ⟨cmul_r (by omega), _, ixN_nat b1.1 (by omega), ?_⟩
    cases w with
    | false =>
      (try walk_at "d0")
      refine q _ ⟨some (.tup [.int s, .int r]), T.set (s * n + r).toNat 1, by simp [enc_int], t1.imp fun z _ _ _ _ => ?_⟩
      simp [bothP]
    | true =>
      have t2 := t1.set r0 r1 s0 s1
      (try walk_at "d0")
      refine ⟨cmul_r (by omega), _, ixN_nat b2.1 (by omega), ?_⟩
      refine q _ ⟨some (.tup [.int s, .int r]), (T.set (s * n + r).toNat 1).set (r * n + s).toNat 1, by simp [enc_int], t2.imp fun z _ _ _ _ => ?_⟩
      simp only [bothP, List.mem_append, List.mem_singleton, Prod.ext_iff]
      simp only [true_and]
      constructor
      · rintro ((h | h) | h)
        · exact h.imp .inl .inl
        · exact .inl (.inr h)
        · exact .inr (.inr ⟨h.2, h.1⟩)
      · rintro ((h | h) | (h | h))
        · exact .inl (.inl (.inl h))
        · exact .inl (.inr h)
        · exact .inl (.inl (.inr h))
        · exact .inr ⟨h.2, h.1⟩
  · rintro ρ ⟨x, T, rfl, tk⟩
    (try walk_at "d0")
    exact h T tk
theorem ties {n : Int} {P : IP → Prop} {T : List Int} (n1 : 1 ≤ n) (n2 : n ≤ 24) (tk : TabOk n P T) (h : ∀ L : List IP, L.Pairwise LexLt → (∀ q, q ∈ L ↔ P q ∧ 0 ≤ q.1 ∧ q.1 < n ∧ 0 ≤ q.2 ∧ q.2 < n) → L.length ≤ 600 → K (.lst true (L.map enc)) []) : F__law_ties Z [.int n, enc T] K X := by
  unfold F__law_ties B__law_ties
  have nn := nn_le n1 n2
  have tl := tk.len
  (try walk_at "d0")
  refine ⟨by omega, by omega, forR (fun i ρ => ∃ (x y : Option D) (L : List IP), ρ = [some (.int n), some (.lst false (T.map enc)), some (.lst true (L.map enc)), x, y] ∧ L.Pairwise LexLt ∧ (∀ q, q ∈ L ↔ P q ∧ 0 ≤ q.1 ∧ q.1 < i ∧ 0 ≤ q.2 ∧ q.2 < n) ∧ (L.length : Int) ≤ 24 * i) ⟨_, _, [], rfl, List.Pairwise.nil, fun q => ⟨fun m => (nomatch m), fun z => by omega⟩, by simp⟩ ?_ ?_⟩
  · rintro i ρ N i0 i1 ⟨x, y, L, rfl, pw, mm, ll⟩ q
    (try walk_at "d0")
    refine ⟨by omega, by omega, forR (fun j ρ => ∃ (y : Option D) (L : List IP), ρ = [some (.int n), some (.lst false (T.map enc)), some (.lst true (L.map enc)), some (.int i), y] ∧ L.Pairwise LexLt ∧ (∀ q, q ∈ L ↔ P q ∧ 0 ≤ q.1 ∧ 0 ≤ q.2 ∧ q.2 < n ∧ (q.1 < i ∨ (q.1 = i ∧ q.2 < j))) ∧ (L.length : Int) ≤ 24 * i + j) ⟨_, L, rfl, pw, fun q => (mm q).trans (and_congr_right fun _ => by omega), by omega⟩ ?_ ?_⟩
    · rintro j ρ N j0 j1 ⟨y, L, rfl, pw, mm, ll⟩ q
      obtain ⟨v, hv, h1, h2⟩ := tk.at i0 i1 j0 j1
      (try walk_at "d0")
      refine ⟨cmul_r (by omega), v, hv, ?_⟩
      (try walk_at "d0")
      split
      · rename_i e
        refine ⟨by omega, q _ ⟨some (.int j), L ++ [(i, j)], by simp [enc_pair, enc_int], ?_, fun q => ?_, by simp; omega⟩⟩
        · refine List.pairwise_append.mpr ⟨pw, List.pairwise_singleton _ _, fun a ha c hc => ?_⟩
          rw [List.mem_singleton.mp hc]
          have := (mm a).mp ha
          show a.1 < i ∨ (a.1 = i ∧ a.2 < j)
          omega
        · rw [List.mem_append, mm, List.mem_singleton, Prod.ext_iff]
          constructor
          · rintro (⟨p, h⟩ | ⟨rfl, rfl⟩)
            · exact ⟨p, by omega⟩
            · exact ⟨h1.mp e, by omega⟩
          · rintro ⟨p, h⟩
            by_cases hq : q.1 = i ∧ q.2 = j
            · exact .inr hq
            · exact .inl ⟨p, by omega⟩
      · rename_i e
        refine q _ ⟨some (.int j), L, rfl, pw, fun q => (mm q).trans ⟨fun ⟨p, h⟩ => ⟨p, by omega⟩, fun ⟨p, h⟩ => ⟨p, ?_⟩⟩, by omega⟩
        by_cases hq : q.1 = i ∧ q.2 = j
        · exact absurd (h1.mpr (by rw [← hq.1, ← hq.2]; exact p)) e
        · omega
    · rintro ρ ⟨y, L, rfl, pw, mm, ll⟩
      exact q _ ⟨_, y, L, rfl, pw, fun q => (mm q).trans (and_congr_right fun _ => by omega), by omega⟩
  · rintro ρ ⟨x, y, L, rfl, pw, mm, ll⟩
    (try walk_at "d0")
    exact h L pw (fun q => (mm q).trans (and_congr_right fun _ => by omega)) (by omega)
/-- a net whose links are P -/
structure NetP (Z : Ad) (n : Int) (P : IP → Prop) (d : D) : Prop where
  ex : ∃ ks L, d = netD Z false n ks L ∧ NetI n ks L ∧ ∀ q, q ∈ ks ↔ P q
theorem Mk.netP {n : Int} {P : IP → Prop} {d : D} (m : Mk Z n P d) : NetP Z n P d.frz := by
  obtain ⟨ks, L, rfl, I, f⟩ := m.ex
  exact ⟨ks, L, netT_frz, I, f⟩
def WayP (way n : Int) (ps : List IP) (q : IP) : Prop :=
  if way = 0 then q ∈ ps else if way = 1 then bothP ps true q else if way = 2 then LinkOk n q ∧ (q.1 - q.2 = 1 ∨ q.2 - q.1 = 1)
  else if way = 3 then LinkOk n q ∧ (q.1 = 0 ∨ q.2 = 0) else if way = 4 then LinkOk n q else LinkOk n q ∧ q.2 = (q.1 + 1) % n
theorem call {way n : Int} {ps : List IP} (hl : ps.length ≤ 100) (hb : ∀ q ∈ ps, Big q.1 ∧ Big q.2) (w0 : 0 ≤ way) (w1 : way < 6) (hc : ¬ (1 ≤ n ∧ n ≤ 24) → X (xN Z .non) [])
    (hx : 1 ≤ n → n ≤ 24 → way < 2 → ∀ q, ps.find? (fun q => !decide (LinkOk n q)) = some q → X (xN Z (enc q)) [])
    (h : 1 ≤ n → n ≤ 24 → ∀ d, Mk Z n (WayP way n ps) d → K d []) : F__law_call Z [.int way, .int n, enc ps] K X := by
  unfold F__law_call B__law_call
  (try walk_at "d0")
  split
  · rename_i e
    subst e
    refine net_init (by omega) hb (fun z _ => hc z) (fun n1 n2 q hq z => hx n1 n2 (by omega) q hq) fun ks L I mm => ⟨rfl, _, rfl, h I.n1 I.n2 _ ⟨ks, L, rfl, I, fun q => (mm q).trans (by simp [WayP])⟩⟩
  · split
    · rename_i e
      subst e
      refine both_ways (by omega) hb hc (fun n1 n2 q hq => hx n1 n2 (by omega) q hq) fun d m => ?_
      obtain ⟨ks, L, e, I, f⟩ := m.ex
      exact h I.n1 I.n2 d ⟨ks, L, e, I, fun q => (f q).trans (by simp [WayP, bothP])⟩
    · split
      · rename_i e
        subst e
        exact net_line hc fun n1 n2 d m => h n1 n2 d (mk_eq m fun q => by simp [WayP])
      · split
        · rename_i e
          subst e
          exact net_star hc fun n1 n2 d m => h n1 n2 d (mk_eq m fun q => by simp [WayP])
        · split
          · rename_i e
            subst e
            exact net_complete hc fun n1 n2 d m => h n1 n2 d (mk_eq m fun q => by simp [WayP])
          · have e : way = 5 := by omega
            subst e
            exact net_ring hc fun n1 n2 d m => h n1 n2 d (mk_eq m fun q => by simp [WayP])
theorem made {way n : Int} {ps : List IP} (hl : ps.length ≤ 100) (hb : ∀ q ∈ ps, Big q.1 ∧ Big q.2) (w0 : 0 ≤ way) (w1 : way < 6) (hc : ¬ (1 ≤ n ∧ n ≤ 24) → K (.tup [.bl false, .bl true, .non]) [])
    (hx : 1 ≤ n → n ≤ 24 → way < 2 → ∀ q, ps.find? (fun q => !decide (LinkOk n q)) = some q → K (.tup [.bl false, .bl true, enc q]) [])
    (h : 1 ≤ n → n ≤ 24 → ∀ d, Mk Z n (WayP way n ps) d → K (.tup [.bl true, d]) []) : F__law_made Z [.int way, .int n, enc ps] K X := by
  unfold F__law_made B__law_made
  (try walk_at "d0")
  refine call hl hb w0 w1 (fun z => ?_) (fun n1 n2 w2 q hq => ?_) fun n1 n2 d m => h n1 n2 d m
  · refine ⟨true, by simp [tab_StoreError], fun _ a => ⟨fun z => (by cases z), fun dd => ?_⟩, fun z => (by cases z)⟩
    refine isD_yes (b := true) (by simp [tab_InvalidNet]) ?_
    refine isD_yes (b := false) (by simp [tab_NotLinked]) ?_
    refine isD_yes (b := false) (by simp [tab_UnknownReplica]) ?_
    (try walk_at "d0")
    refine isD_yes (b := true) (by simp [tab_ValueError]) ?_
    (try walk_at "d0")
    refine xf_yes (C := Z.InvalidNet) (by simp) rfl rfl (y := .non) (by simp [lookF]) ?_
    exact hc z
  · refine ⟨true, by simp [tab_StoreError], fun _ a => ⟨fun z => (by cases z), fun dd => ?_⟩, fun z => (by cases z)⟩
    refine isD_yes (b := true) (by simp [tab_InvalidNet]) ?_
    refine isD_yes (b := false) (by simp [tab_NotLinked]) ?_
    refine isD_yes (b := false) (by simp [tab_UnknownReplica]) ?_
    (try walk_at "d0")
    refine isD_yes (b := true) (by simp [tab_ValueError]) ?_
    (try walk_at "d0")
    refine xf_yes (C := Z.InvalidNet) (by simp) rfl rfl (y := enc q) (by simp [lookF]) ?_
    exact hx n1 n2 w2 q hq
theorem changed {adds : Bool} {n : Int} {P : IP → Prop} {d : D} {q : IP} (N : NetP Z n P d) (hb : Big q.1 ∧ Big q.2) (hx : adds = true → ¬ LinkOk n q → X (xN Z (enc q)) []) (hx2 : adds = false → ¬ P q → X ⟨.ref Z.NotLinked, ["reader", "source"], [.int q.2, .int q.1]⟩ [])
    (h1 : adds = true → LinkOk n q → ∀ d, Mk Z n (fun z => P z ∨ z = q) d → K d []) (h2 : adds = false → P q → ∀ d, Mk Z n (fun z => P z ∧ z ≠ q) d → K d []) : F__law_changed Z [.bl adds, d, enc q] K X := by
  obtain ⟨ks, L, rfl, I, f⟩ := N.ex
  obtain ⟨s, r⟩ := q
  unfold F__law_changed B__law_changed
  cases adds with
  | true =>
    (try walk_at "d0")
    refine ⟨by decide, net_with I hb (fun z => hx rfl z) fun z d m => ?_⟩
    exact h1 rfl z d (mk_eq m fun q => by rw [f])
  | false =>
    (try walk_at "d0")
    refine ⟨by decide, net_without I hb (fun z => hx2 rfl fun w => z ((f _).mpr w)) fun z d m => ?_⟩
    exact h2 rfl ((f _).mp z) d (mk_eq m fun q => by rw [f])
theorem sne_sr : (Str.ofString "source" == Str.ofString "reader") = false := by decide
theorem deed {adds : Bool} {n : Int} {P : IP → Prop} {d : D} {q : IP} (N : NetP Z n P d) (hb : Big q.1 ∧ Big q.2) (hx : adds = true → ¬ LinkOk n q → K (.tup [.bl false, .bl true, enc q]) []) (hx2 : adds = false → ¬ P q → K (.tup [.bl false, .bl true, enc q]) [])
    (h1 : adds = true → LinkOk n q → ∀ d, Mk Z n (fun z => P z ∨ z = q) d → K (.tup [.bl true, d]) []) (h2 : adds = false → P q → ∀ d, Mk Z n (fun z => P z ∧ z ≠ q) d → K (.tup [.bl true, d]) []) : F__law_deed Z [.bl adds, d, enc q] K X := by
  have dsh : d.shr = true := by obtain ⟨ks, L, rfl, _⟩ := N.ex; exact netD_shr
  have dfz : d.frz = d := by obtain ⟨ks, L, rfl, _⟩ := N.ex; exact netD_frz
  unfold F__law_deed B__law_deed
  (try walk_at "d0")
  rw [dsh, dfz]
  refine ⟨rfl, changed N hb (fun e z => ?_) (fun e z => ?_) (fun e z d m => h1 e z d m) fun e z d m => h2 e z d m⟩
  · subst e
    refine ⟨true, by simp [tab_StoreError], fun _ a => ⟨fun z => (by cases z), fun dd => ?_⟩, fun z => (by cases z)⟩
    refine isD_yes (b := true) (by simp [tab_InvalidNet]) ?_
    refine isD_yes (b := false) (by simp [tab_NotLinked]) ?_
    refine isD_yes (b := false) (by simp [tab_UnknownReplica]) ?_
    (try walk_at "d0")
    refine isD_yes (b := true) (by simp [tab_ValueError]) ?_
    (try walk_at "d0")
    refine xf_yes (C := Z.InvalidNet) (by simp) rfl rfl (y := enc q) (by simp [lookF]) ?_
    exact hx rfl z
  · subst e
    refine ⟨true, by simp [tab_StoreError], fun _ a => ⟨fun z => (by cases z), fun dd => ?_⟩, fun z => (by cases z)⟩
    refine isD_yes (b := false) (by simp [tab_InvalidNet]) ?_
    refine isD_yes (b := true) (by simp [tab_NotLinked]) ?_
    refine isD_yes (b := false) (by simp [tab_UnknownReplica]) ?_
    (try walk_at "d0")
    refine isD_yes (b := true) (by simp [tab_ValueError]) ?_
    (try walk_at "d0")
    refine xf_yes (C := Z.NotLinked) (by simp) rfl rfl (y := .int q.1) (by simp [lookF, List.lookup, sne_sr]) ?_
    refine xf_yes (C := Z.NotLinked) (by simp) rfl rfl (y := .int q.2) (by simp [lookF]) ?_
    exact hx2 rfl z
theorem refused {a : D} (h : K (.bl true) []) {q : D} (hq : (a = q ∧ q = .non) ∨ ∃ p : IP, a = enc p ∧ q = enc p) : F__law_refused Z [.tup [.bl false, .bl true, a], q] K X := by
  unfold F__law_refused B__law_refused
  rcases hq with ⟨rfl, rfl⟩ | ⟨p, rfl, rfl⟩
  · (try walk_at "d0")
    exact h
  · obtain ⟨s, r⟩ := p
    (try walk_at "d0")
    refine is_pair (p := (s, r)) (q := (s, r)) ?_
    rw [decide_eq_true rfl]
    exact h
theorem row {way n r : Int} {P : IP → Prop} {d : D} (N : NetP Z n P d) (w : way = 0 ∨ way = 1) (hb : Big r) (hx : ¬ (0 ≤ r ∧ r < n) → X ⟨.ref Z.UnknownReplica, ["replica"], [.int r]⟩ [])
    (h : 0 ≤ r → r < n → ∀ l : List Int, l.Pairwise (· < ·) → (∀ s, s ∈ l ↔ (0 ≤ s ∧ s < n) ∧ P (if way = 0 then (s, r) else (r, s))) → K (.lst true (l.map enc)) []) : F__law_row Z [d, .int way, .int r] K X := by
  obtain ⟨ks, L, rfl, I, f⟩ := N.ex
  unfold F__law_row B__law_row
  have fm : ∀ p : Int → IP, ∀ s, s ∈ ((rngI 0 n).filterMap fun s => if p s ∈ ks then some s else none) ↔ (0 ≤ s ∧ s < n) ∧ P (p s) := fun p s => by
    rw [List.mem_filterMap]
    constructor
    · rintro ⟨x, hx, e⟩
      split at e
      · rename_i hp; cases e; exact ⟨rng_mem.mp hx, (f _).mp hp⟩
      · cases e
    · rintro ⟨h1, h2⟩
      exact ⟨s, rng_mem.mpr h1, if_pos ((f _).mpr h2)⟩
  have pw : ∀ p : Int → IP, ((rngI 0 n).filterMap fun s => if p s ∈ ks then some s else none).Pairwise (· < ·) := fun p => by
    refine List.Pairwise.filterMap _ (fun a a' haa c hc c' hc' => ?_) rng_pw
    split at hc
    · split at hc'
      · cases hc; cases hc'; exact haa
      · cases hc'
    · cases hc
  (try walk_at "d0")
  rcases w with rfl | rfl
  · (try walk_at "d0")
    refine ⟨by decide, net_sources I hb hx fun r0 r1 => ?_⟩
    exact h r0 r1 _ (pw fun s => (s, r)) fun s => fm (fun s => (s, r)) s
  · (try walk_at "d0")
    refine ⟨by decide, net_readers I hb hx fun r0 r1 => ?_⟩
    exact h r0 r1 _ (pw fun s => (r, s)) fun s => fm (fun s => (r, s)) s
end
set_option maxHeartbeats 1000000
theorem NetP.shr {Z : Ad} {n : Int} {P : IP → Prop} {d : D} (N : NetP Z n P d) : d.shr = true := by obtain ⟨ks, L, rfl, _⟩ := N.ex; exact netD_shr
theorem NetP.frz {Z : Ad} {n : Int} {P : IP → Prop} {d : D} (N : NetP Z n P d) : d.frz = d := by obtain ⟨ks, L, rfl, _⟩ := N.ex; exact netD_frz
theorem NetP.n12 {Z : Ad} {n : Int} {P : IP → Prop} {d : D} (N : NetP Z n P d) : 1 ≤ n ∧ n ≤ 24 := by obtain ⟨ks, L, rfl, I, _⟩ := N.ex; exact ⟨I.n1, I.n2⟩
theorem NetP.lk {Z : Ad} {n : Int} {P : IP → Prop} {d : D} (N : NetP Z n P d) {q : IP} (h : P q) : LinkOk n q := by obtain ⟨ks, L, rfl, I, f⟩ := N.ex; exact I.lk q ((f q).mpr h)
/-- rising lists with the same members -/
theorem lt_uniq : ∀ {L M : List Int}, L.Pairwise (· < ·) → M.Pairwise (· < ·) → (∀ q, q ∈ L ↔ q ∈ M) → L = M
  | [], [], _, _, _ => rfl
  | [], b :: M, _, _, h => absurd ((h b).mpr List.mem_cons_self) (by simp)
  | a :: L, [], _, _, h => absurd ((h a).mp List.mem_cons_self) (by simp)
  | a :: L, b :: M, hl, hm, h => by
    obtain ⟨l1, l2⟩ := List.pairwise_cons.mp hl
    obtain ⟨m1, m2⟩ := List.pairwise_cons.mp hm
    have e : a = b := by
      rcases List.mem_cons.mp ((h a).mp List.mem_cons_self) with e | m
      · exact e
      rcases List.mem_cons.mp ((h b).mpr List.mem_cons_self) with e | m'
      · exact e.symm
      · have := l1 b m'; have := m1 a m; omega
    subst e
    rw [lt_uniq l2 m2 fun q => ⟨fun p => ?_, fun p => ?_⟩]
    · rcases List.mem_cons.mp ((h q).mp (List.mem_cons_of_mem _ p)) with e | m
      · have := l1 q p; omega
      · exact m
    · rcases List.mem_cons.mp ((h q).mpr (List.mem_cons_of_mem _ p)) with e | m
      · have := m1 q p; omega
      · exact m
section
variable {Z : Ad} {K : KT} {X : XT} {b : D} [BoxI b]
theorem row_is {way n r : Int} {P : IP → Prop} {d : D} {l : List Int} (N : NetP Z n P d) (w : way = 0 ∨ way = 1) (r0 : 0 ≤ r) (r1 : r < n) (pw : l.Pairwise (· < ·)) (hl : ∀ s, s ∈ l ↔ (0 ≤ s ∧ s < n) ∧ P (if way = 0 then (s, r) else (r, s))) (h : K (.bl true) []) : F__law_row_is Z [d, .int way, .int r, enc l] K X := by
  have n12 := N.n12
  have ll : l.length ≤ 1000 := by
    have := nodup_lt 24 (l.map Int.toNat) (List.pairwise_map.mpr (List.Pairwise.imp_of_mem (fun {a b} ha hb hab => by
      have := ((hl a).mp ha).1
      have := ((hl b).mp hb).1
      omega) pw)) fun x m => by
        obtain ⟨y, hy, rfl⟩ := List.mem_map.mp m
        have := ((hl y).mp hy).1
        omega
    rw [List.length_map] at this
    omega
  unfold F__law_row_is B__law_row_is
  (try walk_at "d0")
  rw [N.shr, N.frz]
  refine ⟨rfl, row N w ⟨by omega, by omega⟩ (fun z => absurd ⟨r0, r1⟩ z) fun _ _ l' pw' hl' => ?_⟩
  rw [lt_uniq pw' pw fun s => (hl' s).trans (hl s).symm]
  (try walk_at "d0")
  refine ints_are (by omega) ?_
  (try walk_at "d0")
  refine ⟨by omega, row N w ⟨by omega, by omega⟩ (fun z => absurd ⟨r0, r1⟩ z) fun _ _ l' pw' hl' => ?_⟩
  rw [lt_uniq pw' pw fun s => (hl' s).trans (hl s).symm]
  (try walk_at "d0")
  exact ints_are (by omega) h
theorem unknown {way n r : Int} {P : IP → Prop} {d : D} (N : NetP Z n P d) (w : way = 0 ∨ way = 1) (hr : ¬ (0 ≤ r ∧ r < n)) (hb : Big r) (h : K (.bl true) []) : F__law_unknown Z [d, .int way, .int r] K X := by
  unfold F__law_unknown B__law_unknown
  (try walk_at "d0")
  rw [N.shr, N.frz]
  refine ⟨rfl, row N w hb (fun z => ?_) fun z1 z2 => absurd ⟨z1, z2⟩ hr⟩
  refine ⟨true, by simp [tab_StoreError], fun _ a => ⟨fun z => (by cases z), fun dd => ?_⟩, fun z => (by cases z)⟩
  refine isD_yes (b := false) (by simp [tab_InvalidNet]) ?_
  refine isD_yes (b := false) (by simp [tab_NotLinked]) ?_
  refine isD_yes (b := true) (by simp [tab_UnknownReplica]) ?_
  (try walk_at "d0")
  refine isD_yes (b := true) (by simp [tab_ValueError]) ?_
  (try walk_at "d0")
  refine xf_yes (C := Z.UnknownReplica) (by simp) rfl rfl (y := .int r) (by simp [lookF]) ?_
  refine is_int ?_
  (try walk_at "d0")
  refine xf_yes (C := Z.UnknownReplica) (by simp) rfl rfl (y := .int r) (by simp [lookF]) ?_
  (try walk_at "d0")
  exact h
theorem has {n : Int} {P : IP → Prop} {d : D} {T : List Int} (N : NetP Z n P d) (tk : TabOk n P T) (h : K (.bl true) []) : F__law_has Z [b, d, .int n, enc T] K X := by
  obtain ⟨n1, n2⟩ := N.n12
  obtain ⟨ks, L, rfl, I, f⟩ := N.ex
  unfold F__law_has B__law_has
  (try walk_at "d0")
  refine ⟨by omega, by omega, by omega, by omega, by omega, compR (fun i => some i) (fun i acc N _ _ hN => ?_) ?_⟩
  · (try walk_at "d0")
    exact hN
  · rw [filterMap_some]
    (try walk_at "d0")
    refine cut (fun ρ => ∃ xs : List Int, ρ = [some b, some (netD Z false n ks L), some (.int n), some (.lst false (T.map enc)), some (.lst true (xs.map enc)), none, none, none, none, none] ∧ xs.length ≤ 30) (fun N q => ?_) ?_
    · (try walk_at "d0")
      split
      · refine draw (by omega) (by omega) fun d2 b1 b2 => ?_
        (try walk_at "d0")
        refine q _ ⟨[-1, d2, n - 1, n], rfl, by simp⟩
      · refine q _ ⟨_, rfl, by simp; omega⟩
    · rintro ρ ⟨xs, rfl, xl⟩
      (try walk_at "d0")
      refine stranger n1 n2 fun r hr hb => ?_
      (try walk_at "d0")
      rw [show D.int r = enc r from rfl, show ([enc r] : List D) = [r].map enc from rfl, ← List.map_append]
      (try walk_at "d0")
      refine ⟨by omega, forE (l := xs ++ [r]) (fun pre ρ => ∃ x y z u v : Option D, ρ = [some b, some (netD Z false n ks L), some (.int n), some (.lst false (T.map enc)), some (.lst false ((xs ++ [r]).map enc)), x, y, z, u, v]) ⟨_, _, _, _, _, rfl⟩ ?_ ?_⟩
      · rintro pre x post ρ N e ⟨_, y, z, u, v, rfl⟩ q
        (try walk_at "d0")
        refine ⟨by omega, by omega, by omega, by omega, forR (fun j ρ => ∃ y z u v : Option D, ρ = [some b, some (netD Z false n ks L), some (.int n), some (.lst false (T.map enc)), some (.lst false ((xs ++ [r]).map enc)), some (.int x), y, z, u, v]) ⟨_, _, _, _, rfl⟩ ?_ ?_⟩
        · rintro j ρ N _ _ ⟨y, z, u, v, rfl⟩ q
          have fin : ∀ (y z u v : Option D) (c1 c2 : Bool), c1 = decide ((x, j) ∈ ks) → c2 = decide ((j, x) ∈ ks) → N [some b, some (netD Z false n ks L), some (.int n), some (.lst false (T.map enc)), some (.lst false ((xs ++ [r]).map enc)), some (.int x), y, z, u, v] := fun y z u v _ _ _ _ => q _ ⟨y, z, u, v, rfl⟩
          by_cases hin : 0 ≤ x ∧ x < n ∧ 0 ≤ j ∧ j < n
          · obtain ⟨x0, x1, j0, j1⟩ := hin
            obtain ⟨v1, e1, i1, k1⟩ := tk.at x0 x1 j0 j1
            obtain ⟨v2, e2, i2, k2⟩ := tk.at j0 j1 x0 x1
            have t1 : decide (v1 = 1) = decide ((x, j) ∈ ks) := decide_eq_decide.mpr (i1.trans (f _).symm)
            have t2 : decide (v2 = 1) = decide ((j, x) ∈ ks) := decide_eq_decide.mpr (i2.trans (f _).symm)
            (try walk_at "d0")
            simp only [x0, x1, j0, j1, if_true]
            refine ⟨cmul_r (by omega), v1, e1, cmul_r (by omega), v2, e2, by decide, net_has ?_⟩
            rw [t1, t2]
            (try walk_at "d0")
            refine truth ?_
            rw [beq_self_eq_true]
            (try walk_at "d0")
            refine ⟨by decide, net_has ?_⟩
            (try walk_at "d0")
            refine truth ?_
            rw [beq_self_eq_true]
            (try walk_at "d0")
            exact q _ ⟨_, _, _, _, rfl⟩
          · have t1 : decide ((x, j) ∈ ks) = false := decide_eq_false fun m => hin (by obtain ⟨_, a, b, c, d⟩ := I.lk _ m; exact ⟨a, b, c, d⟩)
            have t2 : decide ((j, x) ∈ ks) = false := decide_eq_false fun m => hin (by obtain ⟨_, a, b, c, d⟩ := I.lk _ m; exact ⟨c, d, a, b⟩)
            (try walk_at "d0")
            repeat' split
            all_goals first
              | (exfalso; omega)
              | (refine ⟨by decide, net_has ?_⟩
                 rw [t1]
                 (try walk_at "d0")
                 refine truth ?_
                 rw [beq_self_eq_true]
                 (try walk_at "d0")
                 refine ⟨by decide, net_has ?_⟩
                 rw [t2]
                 (try walk_at "d0")
                 refine truth ?_
                 rw [beq_self_eq_true]
                 (try walk_at "d0")
                 exact q _ ⟨_, _, _, _, rfl⟩)
        · rintro ρ ⟨y, z, u, v, rfl⟩
          exact q _ ⟨_, _, _, _, _, rfl⟩
      · rintro ρ ⟨x, y, z, u, v, rfl⟩
        (try walk_at "d0")
        exact h
theorem net_is {n : Int} {P : IP → Prop} {d : D} {T : List Int} (N : NetP Z n P d) (tk : TabOk n P T) (h : K (.bl true) []) : F__law_net_is Z [b, d, .int n, enc T] K X := by
  obtain ⟨n1, n2⟩ := N.n12
  have N' := N
  obtain ⟨ks, L, rfl, I, f⟩ := N.ex
  unfold F__law_net_is B__law_net_is
  (try walk_at "d0")
  refine ties n1 n2 tk fun M pw mm ml => ?_
  have eM : M = L := lex_uniq pw (lex_strict I.pw (I.pm.nodup_iff.mpr I.nd)) fun q => by
    rw [mm, nodup_perm_mem I, f]
    exact ⟨fun z => z.1, fun z => ⟨z, by obtain ⟨_, a, b, c, d⟩ := I.lk q ((f q).mpr z); exact ⟨a, b, c, d⟩⟩⟩
  subst eM
  (try walk_at "d0")
  refine is_int ?_
  (try walk_at "d0")
  refine net_links ?_
  (try walk_at "d0")
  refine pairs_are (by omega) ?_
  (try walk_at "d0")
  refine ⟨by omega, net_links ?_⟩
  (try walk_at "d0")
  refine pairs_are (by omega) ?_
  (try walk_at "d0")
  refine ⟨by omega, by omega, forR (fun i ρ => ∃ x y z, ρ = [some b, some (netD Z false n ks M), some (.int n), some (.lst false (T.map enc)), some (.lst false (M.map enc)), some (.lst true ((M.map enc).reverse ++ [.tup [.int 0, .int 0]])), x, y, z]) ⟨_, _, _, rfl⟩ ?_ ?_⟩
  · rintro i ρ N i0 i1 ⟨x, y, z, rfl⟩ q
    have pick : ∀ (g : Int → IP) (ix : Int → Int), (∀ s, ix s = (g s).1 * n + (g s).2) → (∀ s, 0 ≤ s → s < n → (0 ≤ (g s).1 ∧ (g s).1 < n) ∧ 0 ≤ (g s).2 ∧ (g s).2 < n) → ∀ s, s ∈ ((rngI 0 n).filterMap fun s => if atI T (ix s) = some 1 then some s else none) ↔ (0 ≤ s ∧ s < n) ∧ P (g s) := fun g ix hix hg s => by
      rw [List.mem_filterMap]
      constructor
      · rintro ⟨s', hs', e⟩
        split at e
        · rename_i hT
          cases e
          have b := rng_mem.mp hs'
          obtain ⟨⟨a0, a1⟩, b0, b1⟩ := hg s b.1 b.2
          obtain ⟨v, hv, iv, _⟩ := tk.at a0 a1 b0 b1
          rw [hix, hv] at hT
          cases hT
          exact ⟨b, iv.mp rfl⟩
        · cases e
      · rintro ⟨b, hp⟩
        obtain ⟨⟨a0, a1⟩, b0, b1⟩ := hg s b.1 b.2
        obtain ⟨v, hv, iv, _⟩ := tk.at a0 a1 b0 b1
        exact ⟨s, rng_mem.mpr b, if_pos (by rw [hix, hv, iv.mpr hp])⟩
    have pwf : ∀ ix : Int → Int, ((rngI 0 n).filterMap fun s => if atI T (ix s) = some 1 then some s else none).Pairwise (· < ·) := fun ix => by
      refine List.Pairwise.filterMap _ (fun a a' haa c hc c' hc' => ?_) rng_pw
      split at hc
      · split at hc'
        · cases hc; cases hc'; exact haa
        · cases hc'
      · cases hc
    (try walk_at "d0")
    refine ⟨by omega, by omega, by omega, compR (fun s => if atI T (s * n + i) = some 1 then some s else none) (fun s acc N s0 s1 hN => ?_) ?_⟩
    · obtain ⟨v, hv, iv, _⟩ := tk.at s0 s1 i0 i1
      (try walk_at "d0")
      refine ⟨cmul_r (by omega), v, hv, ?_⟩
      (try walk_at "d0")
      by_cases h1 : v = 1
      · subst h1
        rw [if_pos hv] at hN
        simpa [enc_int] using hN
      · rw [if_neg (by rw [hv]; simpa using h1)] at hN
        simpa [h1] using hN
    · (try walk_at "d0")
      refine row_is N' (.inl rfl) i0 i1 (pwf _) (fun s => (pick (fun s => (s, i)) _ (fun _ => rfl) (fun s a c => ⟨⟨a, c⟩, i0, i1⟩) s).trans (by simp)) ?_
      (try walk_at "d0")
      refine ⟨by omega, by omega, by omega, compR (fun s => if atI T (i * n + s) = some 1 then some s else none) (fun s acc N s0 s1 hN => ?_) ?_⟩
      · obtain ⟨v, hv, iv, _⟩ := tk.at i0 i1 s0 s1
        (try walk_at "d0")
        refine ⟨cmul_r (by omega), v, hv, ?_⟩
        (try walk_at "d0")
        by_cases h1 : v = 1
        · subst h1
          rw [if_pos hv] at hN
          simpa [enc_int] using hN
        · rw [if_neg (by rw [hv]; simpa using h1)] at hN
          simpa [h1] using hN
      · (try walk_at "d0")
        refine row_is N' (.inr rfl) i0 i1 (pwf _) (fun s => (pick (fun s => (i, s)) _ (fun _ => rfl) (fun s a c => ⟨⟨i0, i1⟩, a, c⟩) s).trans (by simp)) ?_
        (try walk_at "d0")
        exact q _ ⟨_, _, _, rfl⟩
  · rintro ρ ⟨x, y, z, rfl⟩
    (try walk_at "d0")
    refine ⟨by omega, by omega, forR (fun i ρ => ∃ x y z, ρ = [some b, some (netD Z false n ks M), some (.int n), some (.lst false (T.map enc)), some (.lst false (M.map enc)), some (.lst true ((M.map enc).reverse ++ [.tup [.int 0, .int 0]])), x, y, z]) ⟨_, _, _, rfl⟩ ?_ ?_⟩
    · rintro i ρ N i0 i1 ⟨x, y, z, rfl⟩ q
      (try walk_at "d0")
      refine stranger n1 n2 fun r hr hb => ?_
      (try walk_at "d0")
      refine unknown N' (by omega) hr hb ?_
      (try walk_at "d0")
      exact q _ ⟨_, _, _, rfl⟩
    · rintro ρ ⟨x, y, z, rfl⟩
      (try walk_at "d0")
      exact has N' tk h
theorem deed_pair {n : Int} {P : IP → Prop} {T : List Int} (n1 : 1 ≤ n) (n2 : n ≤ 24) (tk : TabOk n P T) (h : ∀ q : IP, Big q.1 ∧ Big q.2 → K (enc q) []) : F__law_deed_pair Z [b, .int n, enc T] K X := by
  unfold F__law_deed_pair B__law_deed_pair
  (try walk_at "d0")
  refine ties n1 n2 tk fun M pw mm ml => ?_
  (try walk_at "d0")
  refine draw (by omega) (by omega) fun d a1 a2 => ?_
  (try walk_at "d0")
  have bigL : ∀ q : IP, LinkOk n q → Big q.1 ∧ Big q.2 := fun q ⟨_, a, b, c, d⟩ => ⟨⟨by omega, by omega⟩, ⟨by omega, by omega⟩⟩
  split
  · exact bad_pair n1 n2 fun p _ b1 b2 => h p ⟨b1, b2⟩
  · split
    · exact bad_pair n1 n2 fun p _ b1 b2 => h p ⟨b1, b2⟩
    · split
      · exact pair (by omega) n2 fun p hp => h p (bigL p hp)
      · split
        · exact pair (by omega) n2 fun p hp => h p (bigL p hp)
        · rename_i hne
          have hpos : 0 < M.length := List.length_pos_iff.mpr fun z => hne (by rw [z]; rfl)
          refine draw (by omega) (by omega) fun d2 b1 b2 => ?_
          obtain ⟨⟨x, y⟩, ha, hm⟩ := get_lt b1 b2
          have bx := (mm _).mp hm
          (try walk_at "d0")
          refine ⟨_, ha, ?_⟩
          (try walk_at "d0")
          split
          · exact h (y, x) ⟨⟨by have := bx.2; simp only at this; omega, by have := bx.2; simp only at this; omega⟩, ⟨by have := bx.2; simp only at this; omega, by have := bx.2; simp only at this; omega⟩⟩
          · exact h (x, y) ⟨⟨by have := bx.2; simp only at this; omega, by have := bx.2; simp only at this; omega⟩, ⟨by have := bx.2; simp only at this; omega, by have := bx.2; simp only at this; omega⟩⟩
theorem wrong_count {way : Int} (w0 : 0 ≤ way) (h : ∀ c, ¬ (1 ≤ c ∧ c ≤ 24) → K (.int c) []) : F__law_wrong_count Z [b, .int way] K X := by
  unfold F__law_wrong_count B__law_wrong_count
  (try walk_at "d0")
  refine draw (by omega) (by omega) fun d a1 a2 => ?_
  (try walk_at "d0")
  split
  · exact h _ (by omega)
  · split
    · exact h _ (by omega)
    · split
      · refine draw (by omega) (by omega) fun d2 b1 b2 => ?_
        (try walk_at "d0")
        exact h _ (by omega)
      · split
        · refine draw (by omega) (by omega) fun d2 b1 b2 => ?_
          (try walk_at "d0")
          exact h _ (by omega)
        · split
          · refine draw (by omega) (by omega) fun d2 b1 b2 => ?_
            (try walk_at "d0")
            exact h _ (by omega)
          · refine great (b := b) fun r r1 r2 => ?_
            (try walk_at "d0")
            split
            · exact h _ (by omega)
            · exact h _ (by omega)
theorem counts {n : Int} {ps : List IP} (n1 : 1 ≤ n) (n2 : n ≤ 24) (pl : ps.length ≤ 60) (ok : ∀ q ∈ ps, LinkOk n q) (h : K (.bl true) []) : F__law_counts Z [b, .int n, enc ps] K X := by
  unfold F__law_counts B__law_counts
  (try walk_at "d0")
  have bigL : ∀ q : IP, LinkOk n q → Big q.1 ∧ Big q.2 := fun q ⟨_, a, b, c, d⟩ => ⟨⟨by omega, by omega⟩, ⟨by omega, by omega⟩⟩
  refine cut (fun ρ => ∃ rs : List IP, ρ = [some b, some (.int n), some (.lst false (ps.map enc)), some (.lst false (rs.map enc)), none] ∧ rs.length ≤ 62 ∧ ∀ q ∈ rs, Big q.1 ∧ Big q.2) (fun N q => ?_) ?_
  · (try walk_at "d0")
    refine draw (by omega) (by omega) fun d a1 a2 => ?_
    (try walk_at "d0")
    split
    · refine spoilt n1 n2 pl ok fun ss sl bg _ => ?_
      (try walk_at "d0")
      exact q _ ⟨ss, rfl, sl, bg⟩
    · exact q _ ⟨ps, rfl, by omega, fun q m => bigL q (ok q m)⟩
  · rintro ρ ⟨rs, rfl, rl, bg⟩
    (try walk_at "d0")
    refine ⟨by omega, by omega, forR (fun i ρ => ∃ x, ρ = [some b, some (.int n), some (.lst false (ps.map enc)), some (.lst false (rs.map enc)), x]) ⟨_, rfl⟩ ?_ ?_⟩
    · rintro i ρ N i0 i1 ⟨x, rfl⟩ q
      (try walk_at "d0")
      refine wrong_count i0 fun c hc => ?_
      (try walk_at "d0")
      refine made (by omega) bg i0 i1 (fun _ => ?_) (fun z1 z2 => absurd ⟨z1, z2⟩ hc) fun z1 z2 => absurd ⟨z1, z2⟩ hc
      (try walk_at "d0")
      refine refused ?_ (.inl ⟨rfl, rfl⟩)
      (try walk_at "d0")
      exact q _ ⟨_, rfl⟩
    · rintro ρ ⟨x, rfl⟩
      (try walk_at "d0")
      exact h
end
set_option maxHeartbeats 1000000
section
variable {Z : Ad} {K : KT} {X : XT} {b : D} [BoxI b]
theorem named_table {way n : Int} (n1 : 1 ≤ n) (n2 : n ≤ 24) (w0 : 2 ≤ way) (w1 : way < 6) (h : ∀ T, TabOk n (WayP way n []) T → K (.lst true (T.map enc)) []) : F__law_named_table Z [.int way, .int n] K X := by
  have nn := nn_le n1 n2
  unfold F__law_named_table B__law_named_table
  (try walk_at "d0")
  rw [rep_flat]
  (try walk_at "d0")
  refine ⟨cmul_r (by omega), by omega, by omega, by omega, by omega, by omega, ?_⟩
  refine forR (fun i ρ => ∃ (x y z : Option D) (T : List Int), ρ = [some (.int way), some (.int n), some (.lst true (T.map enc)), x, y, z] ∧ TabOk n (fun q => WayP way n [] q ∧ q.1 < i) T) ⟨_, _, _, _, rfl, (TabOk.nil (by omega)).imp fun q a b c d => ⟨fun z => z.elim, fun z => by omega⟩⟩ ?_ ?_
  · rintro i ρ N i0 i1 ⟨x, y, z, T, rfl, tk⟩ q
    (try walk_at "d0")
    refine ⟨by omega, by omega, forR (fun j ρ => ∃ (y z : Option D) (T : List Int), ρ = [some (.int way), some (.int n), some (.lst true (T.map enc)), some (.int i), y, z] ∧ TabOk n (fun q => WayP way n [] q ∧ (q.1 < i ∨ (q.1 = i ∧ q.2 < j))) T) ⟨_, _, T, rfl, tk.imp fun q a b c d => and_congr_right fun _ => by omega⟩ ?_ ?_⟩
    · rintro j ρ N j0 j1 ⟨y, z, T, rfl, tk⟩ q
      have b1 := ix_lt i0 i1 j0 j1
      have tl := tk.len
      have fin : ∀ (c : Bool) (z : Option D), (c = true ↔ WayP way n [] (i, j)) → CMul i n ∧ ∃ k, ixN T.length (i * n + j) = some k ∧ N [some (.int way), some (.int n), some (.lst true ((T.map enc).set k (.int (if c = true then 1 else 0)))), some (.int i), some (.int j), z] := fun c z hc => by
        refine ⟨cmul_r (by omega), _, ixN_nat b1.1 (by omega), ?_⟩
        cases c with
        | true =>
          refine q _ ⟨some (.int j), z, T.set (i * n + j).toNat 1, by simp [enc_int], (tk.set i0 i1 j0 j1).imp fun q a b c d => ?_⟩
          rw [Prod.ext_iff]
          constructor
          · rintro (⟨h, h'⟩ | h)
            · exact ⟨h, by omega⟩
            · refine ⟨?_, by omega⟩
              have : q = (i, j) := Prod.ext h.1 h.2
              rw [this]
              exact hc.mp rfl
          · rintro ⟨h, h'⟩
            by_cases hq : q.1 = i ∧ q.2 = j
            · exact .inr hq
            · exact .inl ⟨h, by omega⟩
        | false =>
          refine q _ ⟨some (.int j), z, T.set (i * n + j).toNat 0, by simp [enc_int], (tk.clr i0 i1 j0 j1).imp fun q a b c d => ?_⟩
          rw [ne_eq, Prod.ext_iff]
          constructor
          · rintro ⟨⟨h, h'⟩, h2⟩
            exact ⟨h, by omega⟩
          · rintro ⟨h, h'⟩
            by_cases hq : q.1 = i ∧ q.2 = j
            · have : q = (i, j) := Prod.ext hq.1 hq.2
              rw [this] at h
              exact nomatch hc.mpr h
            · exact ⟨⟨h, by omega⟩, hq⟩
      have lk : LinkOk n (i, j) ↔ i ≠ j := ⟨fun z => z.ne, fun z => ⟨z, i0, i1, j0, j1⟩⟩
      have wv : way = 2 ∨ way = 3 ∨ way = 4 ∨ way = 5 := by omega
      (try walk_at "d0")
      refine cut (fun ρ => ∃ c : Bool, ρ = [some (.int way), some (.int n), some (.lst true (T.map enc)), some (.int i), some (.int j), some (.bl c)] ∧ (way = 2 → (c = true ↔ WayP way n [] (i, j))) ∧ (way ≠ 2 → (c = true ↔ i ≠ j))) (fun N q => ?_) ?_
      · (try walk_at "d0")
        split
        · rename_i e
          subst e
          have wp : WayP 2 n [] (i, j) ↔ i - j = 1 ∨ j - i = 1 := by
            simp only [WayP, lk]
            simp
            omega
          split
          · rename_i h1
            exact q _ ⟨true, rfl, fun _ => ⟨fun _ => wp.mpr (.inl h1), fun _ => rfl⟩, fun z => absurd rfl z⟩
          · rename_i h1
            exact q _ ⟨decide (j - i = 1), rfl, fun _ => by rw [decide_eq_true_eq, wp]; omega, fun z => absurd rfl z⟩
        · rename_i e
          exact q _ ⟨!decide (i = j), rfl, fun z => absurd z e, fun _ => by simp⟩
      · rintro ρ ⟨c, rfl, c1, c2⟩
        refine cut (fun ρ => ∃ c : Bool, ρ = [some (.int way), some (.int n), some (.lst true (T.map enc)), some (.int i), some (.int j), some (.bl c)] ∧ (way < 5 → (c = true ↔ WayP way n [] (i, j))) ∧ (way = 5 → (c = true ↔ i ≠ j))) (fun N q => ?_) ?_
        · (try walk_at "d0")
          split
          · rename_i e
            subst e
            have wp : WayP 3 n [] (i, j) ↔ i ≠ j ∧ (i = 0 ∨ j = 0) := by
              simp only [WayP, lk]
              simp
            split
            · rename_i h1
              split
              · rename_i h2
                exact q _ ⟨true, rfl, fun _ => ⟨fun _ => wp.mpr ⟨h1, .inl h2⟩, fun _ => rfl⟩, fun z => by omega⟩
              · rename_i h2
                exact q _ ⟨decide (j = 0), rfl, fun _ => by rw [decide_eq_true_eq, wp]; omega, fun z => by omega⟩
            · rename_i h1
              exact q _ ⟨false, rfl, fun _ => ⟨fun z => (by cases z), fun z => absurd (wp.mp z).1 h1⟩, fun z => by omega⟩
          · rename_i e
            refine q _ ⟨c, rfl, fun z => ?_, fun z => c2 (by omega)⟩
            rcases wv with w | w | w | w
            · exact c1 w
            · exact absurd w e
            · rw [c2 (by omega), w]
              simp only [WayP, lk]
              simp
            · omega
        · rintro ρ ⟨c, rfl, c1, c2⟩
          refine cut (fun ρ => ∃ c : Bool, ρ = [some (.int way), some (.int n), some (.lst true (T.map enc)), some (.int i), some (.int j), some (.bl c)] ∧ (c = true ↔ WayP way n [] (i, j))) (fun N q => ?_) ?_
          · (try walk_at "d0")
            split
            · rename_i e
              subst e
              have wp : WayP 5 n [] (i, j) ↔ i ≠ j ∧ j = (i + 1) % n := by
                simp only [WayP, lk]
                simp
              split
              · rename_i h1
                exact ⟨by omega, q _ ⟨_, rfl, by rw [decide_eq_true_eq, wp]; exact ⟨fun z => ⟨h1, z⟩, fun z => z.2⟩⟩⟩
              · rename_i h1
                exact q _ ⟨false, rfl, ⟨fun z => (by cases z), fun z => absurd (wp.mp z).1 h1⟩⟩
            · rename_i e
              exact q _ ⟨c, rfl, c1 (by omega)⟩
          · rintro ρ ⟨c, rfl, c1⟩
            (try walk_at "d0")
            exact fin c (some (.bl c)) c1
    · rintro ρ ⟨y, z, T, rfl, tk⟩
      exact q _ ⟨_, y, z, T, rfl, tk.imp fun q a b c d => and_congr_right fun _ => by omega⟩
  · rintro ρ ⟨x, y, z, T, rfl, tk⟩
    (try walk_at "d0")
    exact h T (tk.imp fun q a b c d => ⟨fun z => z.1, fun z => ⟨z, by omega⟩⟩)
theorem named {n : Int} (n1 : 1 ≤ n) (n2 : n ≤ 24) (h : K (.bl true) []) : F__law_named Z [b, .int n] K X := by
  unfold F__law_named B__law_named
  (try walk_at "d0")
  refine draw (by omega) (by omega) fun d a1 a2 => ?_
  (try walk_at "d0")
  refine ⟨by omega, by omega, by omega, by omega, forR (fun i ρ => ∃ x y z, ρ = [some b, some (.int n), some (.int (2 + d)), x, y, z]) ⟨_, _, _, rfl⟩ ?_ ?_⟩
  · rintro i ρ N i0 i1 ⟨x, y, z, rfl⟩ q
    (try walk_at "d0")
    refine named_table n1 n2 i0 i1 fun T tk => ?_
    (try walk_at "d0")
    refine made (ps := []) (Nat.zero_le _) (fun _ m => (nomatch m)) (by omega) i1 (fun z => absurd ⟨n1, n2⟩ z) (fun _ _ w => by omega) fun _ _ d m => ?_
    have N' := m.netP
    obtain ⟨ks, L, rfl, I, f⟩ := m.ex
    have ll := net_len I
    (try walk_at "d0")
    refine net_links ?_
    (try walk_at "d0")
    refine ties n1 n2 tk fun M pw mm ml => ?_
    have eM : M = L := lex_uniq pw (lex_strict I.pw (I.pm.nodup_iff.mpr I.nd)) fun q => by
      rw [mm, nodup_perm_mem I, f]
      exact ⟨fun z => z.1, fun z => ⟨z, by obtain ⟨_, a, b, c, d⟩ := I.lk q ((f q).mpr z); exact ⟨a, b, c, d⟩⟩⟩
    subst eM
    (try walk_at "d0")
    refine pairs_are (by omega) ?_
    (try walk_at "d0")
    refine is_int ?_
    (try walk_at "d0")
    split
    · rw [netT_frz] at N'
      refine net_is N' tk ?_
      (try walk_at "d0")
      exact q _ ⟨_, _, _, rfl⟩
    · exact q _ ⟨_, _, _, rfl⟩
  · rintro ρ ⟨x, y, z, rfl⟩
    (try walk_at "d0")
    exact h
theorem builds {n : Int} {ps : List IP} (n1 : 1 ≤ n) (n2 : n ≤ 24) (pl : ps.length ≤ 60) (ok : ∀ q ∈ ps, LinkOk n q) (h : K (.bl true) []) : F__law_builds Z [b, .int n, enc ps] K X := by
  unfold F__law_builds B__law_builds
  (try walk_at "d0")
  have bigL : ∀ q : IP, LinkOk n q → Big q.1 ∧ Big q.2 := fun q ⟨_, a, b, c, d⟩ => ⟨⟨by omega, by omega⟩, ⟨by omega, by omega⟩⟩
  refine ⟨by omega, by omega, forR (fun i ρ => ∃ x y z u, ρ = [some b, some (.int n), some (.lst false (ps.map enc)), x, y, z, u]) ⟨_, _, _, _, rfl⟩ ?_ ?_⟩
  · rintro i ρ N i0 i1 ⟨x, y, z, u, rfl⟩ q
    (try walk_at "d0")
    have good : ps.find? (fun q => !decide (LinkOk n q)) = none := List.find?_eq_none.mpr fun x m => by simp [ok x m]
    refine made (by omega) (fun q m => bigL q (ok q m)) i0 (by omega) (fun z => absurd ⟨n1, n2⟩ z) (fun _ _ _ q hq => by rw [good] at hq; cases hq) fun _ _ d m => ?_
    have N' := m.netP
    obtain ⟨ks, L, rfl, I, f⟩ := m.ex
    rw [netT_frz] at N'
    (try walk_at "d0")
    refine ⟨by omega, table n1 n2 ok (by omega) fun T tk => ?_⟩
    (try walk_at "d0")
    have i2 : i = 0 ∨ i = 1 := by omega
    refine net_is N' (tk.imp fun q _ _ _ _ => ?_) ?_
    · rcases i2 with rfl | rfl <;> simp [WayP, bothP]
    (try walk_at "d0")
    refine spoilt n1 n2 pl ok fun ss sl bg ⟨q0, hq0, hb0⟩ => ?_
    (try walk_at "d0")
    refine made (by omega) bg i0 (by omega) (fun z => absurd ⟨n1, n2⟩ z) (fun _ _ _ q1 hq => ?_) fun _ _ d m => ?_
    · (try walk_at "d0")
      refine first_bad (by omega) ?_
      rw [hq]
      refine refused ?_ (.inr ⟨q1, rfl, rfl⟩)
      (try walk_at "d0")
      exact q _ ⟨_, _, _, _, rfl⟩
    · have N2 := m.netP
      exact absurd (N2.lk (q := q0) (by rcases i2 with rfl | rfl <;> simp [WayP, bothP, hq0])) hb0
  · rintro ρ ⟨x, y, z, u, rfl⟩
    (try walk_at "d0")
    exact h
/-- the nets so far, their tables -/
structure NT (Z : Ad) (n : Int) (ds es : List D) : Prop where
  len : es.length = ds.length
  l1 : 1 ≤ ds.length
  nk : D.nooks 2 ds = true
  at_ : ∀ (j : Nat) d, ds[j]? = some d → ∃ P T e, es[j]? = some e ∧ e.frz = enc T ∧ NetP Z n P d.frz ∧ TabOk n P T
theorem NT.get {Z : Ad} {n : Int} {ds es : List D} (h : NT Z n ds es) {i : Int} (i0 : 0 ≤ i) (i1 : i < ds.length) : ∃ d e P T, atI ds i = some d ∧ atI es i = some e ∧ e.frz = enc T ∧ NetP Z n P d.frz ∧ TabOk n P T := by
  have hl : i.toNat < ds.length := by omega
  obtain ⟨P, T, e, h1, h2, h3, h4⟩ := h.at_ i.toNat _ (List.getElem?_eq_getElem hl)
  refine ⟨ds[i.toNat], e, P, T, by rw [at_in i0 i1]; exact List.getElem?_eq_getElem hl, ?_, h2, h3, h4⟩
  rw [at_in i0 (by rw [h.len]; exact i1)]
  exact h1
theorem nooks_app (k : Nat) (l m : List D) : D.nooks k (l ++ m) = (D.nooks k l && D.nooks k m) := by
  induction l with
  | nil => simp [D.nooks]
  | cons a l ih => rw [List.cons_append, D.nooks, D.nooks, ih, Bool.and_assoc]
theorem NT.add {Z : Ad} {n : Int} {ds es : List D} (h : NT Z n ds es) {P : IP → Prop} {d e : D} {T : List Int} (h1 : d.nook 2 = true) (h2 : e.frz = enc T) (h3 : NetP Z n P d.frz) (h4 : TabOk n P T) : NT Z n (ds ++ [d]) (es ++ [e]) := by
  refine ⟨by simp [h.len], by simp, by rw [nooks_app, h.nk]; simp [D.nooks, h1], fun j x hx => ?_⟩
  by_cases hj : j < ds.length
  · rw [List.getElem?_append_left hj] at hx
    obtain ⟨P, T, e, a, b, c, d⟩ := h.at_ j x hx
    exact ⟨P, T, e, by rw [List.getElem?_append_left (by rw [h.len]; exact hj)]; exact a, b, c, d⟩
  · rw [List.getElem?_append_right (by omega)] at hx
    have hj0 : j - ds.length = 0 := by
      have := (List.getElem?_eq_some_iff.mp hx).1
      simp at this
      omega
    rw [hj0] at hx
    cases hx
    exact ⟨P, T, e, by rw [List.getElem?_append_right (by rw [h.len]; omega), h.len, hj0]; rfl, h2, h3, h4⟩
theorem nook_netT {Z : Ad} {n : Int} {ks L : List IP} : (netT Z n ks L).nook 2 = true := by
  unfold netT
  simp [D.nook, D.nooks, nooks_enc, nooks_shr 2 _ (shrs_tru ks)]
theorem nook_netD {Z : Ad} {n : Int} {ks L : List IP} {k : Nat} : (netD Z false n ks L).nook k = true := nook_shr k _ netD_shr
local macro_rules | `(tactic| walk_at "d0") => `(tactic| simp only [frz_frz, frzs_frzs, frz_shr, frzs_shrs, frzs_app, frzs_length, at_frzs, nofks_ints, nofks_pairs, nofk_pairE, nook_enc, nooks_enc, sepD, sep1, D.nofk, D.nofks, D.nook, D.nooks, Nat.reduceBNe, bne_self_eq_false, Enc.frz, Enc.shr, clean_pairE, ok_pairE, oks_ints, oks_pairs, at_0, at_1, at_2, at_3, at_4, at_map, ex_map, cast_0, cast_1, cast_2, cast_3, cast_4, rngD_len, lcStep, lcStepB, lc2Step, bodyN, bodyF, dSeq, dNext, dBrk, dCnt, dDrop, dIfS, dBind, dRet, dRetN, dRetM, dName, dNameF, dC, dVar, dVarS, dOp, dOpG, dTest, dTru, dNot, dAnd, dOr, dAndV, dOrV, dNotV, dIf, dChain, dNil, dCons, dLst, dTup, dCB, dCBG, dCall, dMeth, dProp, dPropN, dMake, dMakeV, dCMeth, dLc, dLc2, dFor, dApp, dSetI, dSetF, dIns, dRev, dPv, modAt, isOwnL, pathOk, D.at, D.put, D.idx, D.kids, D.wk, dRaise, dNever, dTryAs, dTryOnly, DEn.calm, DEn.still, dX, dBindX, dDropX, dRetX, dXT, dTestX, dTruX, dNotX, dAndX, dOrX, dIfX, dPop, dPopAt, modAt2, dAppX, dNoPart, dIndex, dGet2, gLt, gLe, gGt, gGe, gEq, gNe, D.frz, D.frzs, outs, okX, D.shr, D.shrs, D.clean, D.cleans, frzC, frzAt, frz1, wipeE, putN, lookF, enc_int, enc_list, enc_pair, frzs_map, shrs_map, frz_lst, deq_lst, clean_int_list, clean_pair_list, asBl_bl, gTru_non, gTru_bl, gTru_int, gTru_lst, gTru_tup, gTru_dK, gCmp_int, gIs_non, isNon_non, isNon_bl, isNon_int, isNon_lst, isNon_tup, isNon_ins, isNon_str, gAdd_int, gAdd_lst, gMin_int, gMul_int, gMul_lst, gDiv_int, gMod_int, gIx_lst, gIx_tup, gIx_dK, gIx_dT, gIn_lst, gIn_tup, gIn_dK, gIn_dT, gLen_lst, gLen_tup, gInt_int, gInt_bl, gList_lst, gList_tup, gMx_int, gMn_int, gIsi_int_int, gIsi_int_bool, gIsi_bl_bool, gIsi_bl_int, gIsi_lst_list, gIsi_tup_tuple, gIsi_non_int, gIsi_non_tuple, gIsi_non_list, gIsi_str_str, key_int, key_str, keys_nil, keys_1, keys_2, opApp_lst, opIns_lst, opRev_lst, opSet_lst, opSet_dK, opSet_dT, opFld_ins, opPop_none, opPop_some, isIns_ins, isInsP_ins, dFld_eq, gFld_ins, dRng1_eq, gRng1_int, dRng2_eq, gRng2_int, dIl_eq, gIl_lst, dEnum_eq, gEnum_lst, dLrg1_eq, gLrg1_int, dNeg_eq, gNeg_int, dPart_eq, gPart_int, dSl_eq, gSl_lst, dGTup_eq, gGT_tup, dGNil_nil, dGCons_cons, dPix_eq, gPix_int, dAug_eq, gAug_int, dLenSet_eq, gLenSet_lst, gGet_dK, gGet_dT, isDict_dK, isDict_dT, isList_lst, gIndex_lst, ok_non, ok_bl, ok_int, ok_tup, ok_lstS, oks_nil, oks_cons, flat_non, flat_bl, flat_int, flat_str, all_flat_int, deq_int, deq_bl, deq_non, deq_lsts, deq_tups, deqs_nil, deqs_cons, deqs_nc, deqs_cn, deqs_map, deqs_map_nil, deq_non_int, deq_int_non, any_int, and_assoc, Bool.not_true, Bool.not_false, Bool.and_self, Bool.and_true, Bool.true_and, Bool.and_false, Bool.false_and, Bool.or_self, Bool.or_true, Bool.true_or, Bool.or_false, Bool.false_or, Bool.xor_false, Bool.false_xor, Bool.true_xor, Bool.xor_true, Bool.not_not, List.map_cons, List.map_nil, List.replicate, List.cons_append, List.nil_append, List.append_nil, List.length_cons, List.length_nil, List.length_map, List.length_reverse, List.length_replicate, List.length_range, List.length_set, List.length_append, List.getElem?_cons_zero, List.getElem?_cons_succ, List.getElem?_nil, List.set_cons_zero, List.set_cons_succ, List.set_nil, List.cons.injEq, List.not_mem_nil, List.mem_cons, List.zip_cons_cons, List.zip_nil_left, List.lookup_cons, List.findIdx?_cons, List.findIdx?_nil, List.all_cons, List.all_nil, List.any_cons, List.any_nil, List.isEmpty_cons, List.isEmpty_nil, List.reverse_cons, List.reverse_nil, Option.some.injEq, Option.map_some, Option.map_none, Option.join_some, Option.getD_some, Option.getD_none, Option.bind_some, D.int.injEq, D.bl.injEq, D.tup.injEq, D.lst.injEq, D.str.injEq, D.adr.injEq, D.ins.injEq, D.xo.injEq, D.dK.injEq, D.dT.injEq, exists_eq_left', exists_eq_left, exists_eq_right', exists_eq_right, exists_eq, exists_eq', exists_and_left, exists_and_right, exists_const, and_true, true_and, and_false, false_and, and_self, or_true, true_or, or_false, false_or, not_true, not_false_iff, implies_true, forall_const, forall_eq', forall_eq, if_true, if_false, ite_true, ite_false, reduceCtorEq, reduceIte, decide_eq_true_eq, decide_eq_false_iff_not, Bool.not_eq_true', Bool.not_eq_eq_eq_not, Bool.false_eq_true, Bool.true_eq_false, decide_true, decide_false, Nat.reduceAdd, Nat.reduceLT, Nat.reduceLeDiff, Nat.reduceEqDiff, Nat.lt_irrefl, Nat.succ_ne_zero, beq_self_eq_true, Nat.zero_add, eq_self_iff_true, ne_eq, Nat.zero_lt_succ, Int.reduceNeg, Int.reduceMul, Int.reduceAdd, Int.reduceSub, Int.reduceLT, Int.reduceLE, Int.reduceEq, exists_false, false_implies, true_implies, Bool.and_eq_true, Bool.or_eq_true, netT_nofk, nofks_tru, netT_frz, netT_clean, isIns_netD, isInsP_netD, fld_count, fld_linked, fld_links, sne_1, sne_2, sne_3, sne_4, sne_5, sne_6, frzs_tru, shrs_tru, cleans_tru, netD_frz, netD_shr, box_nofk, box_frz, box_shr, box_clean, nook_netT, nook_netD])
theorem deeds {n : Int} {ps : List IP} (n1 : 1 ≤ n) (n2 : n ≤ 24) (pl : ps.length ≤ 60) (ok : ∀ q ∈ ps, LinkOk n q) (h : K (.bl true) []) : F__law_deeds Z [b, .int n, enc ps] K X := by
  unfold F__law_deeds B__law_deeds
  have bigL : ∀ q : IP, LinkOk n q → Big q.1 ∧ Big q.2 := fun q ⟨_, a, b, c, d⟩ => ⟨⟨by omega, by omega⟩, ⟨by omega, by omega⟩⟩
  have good : ps.find? (fun q => !decide (LinkOk n q)) = none := List.find?_eq_none.mpr fun x m => by simp [ok x m]
  (try walk_at "d0")
  refine net_init (by omega) (fun q m => bigL q (ok q m)) (fun z => absurd ⟨n1, n2⟩ z) (fun _ _ q hq => by rw [good] at hq; cases hq) fun ks L I mm => ⟨rfl, _, rfl, ?_⟩
  (try walk_at "d0")
  refine table n1 n2 ok (by omega) fun T tk => ?_
  (try walk_at "d0")
  refine draw (by omega) (by omega) fun d a1 a2 => ?_
  (try walk_at "d0")
  have start : NT Z n [netT Z n ks L] [.lst true (T.map enc)] := by
    refine ⟨rfl, by simp, by simp [D.nooks, nook_netT], fun j d hd => ?_⟩
    rcases j with _ | j
    · cases hd
      exact ⟨fun q => q ∈ ps, T, _, rfl, frz_lst true T, by rw [netT_frz]; exact ⟨ks, L, rfl, I, mm⟩, tk.imp fun q _ _ _ _ => by simp [bothP]⟩
    · cases hd
  refine ⟨by omega, by omega, forR (fun i ρ => ∃ (x5 x6 x7 x8 x9 x10 x11 : Option D) (ds es : List D), ρ = [some b, some (.int n), some (.lst false (ps.map enc)), some (.lst true ds), some (.lst true es), x5, x6, x7, x8, x9, x10, x11, none] ∧ NT Z n ds es ∧ (ds.length : Int) ≤ 1 + i) ⟨_, _, _, _, _, _, _, [netT Z n ks L], [.lst true (T.map enc)], rfl, start, by simp⟩ ?_ ?_⟩
  · rintro i ρ N i0 i1 ⟨x5, x6, x7, x8, x9, x10, x11, ds, es, rfl, nt, dl⟩ q
    have l1 := nt.l1
    have nk := nt.nk
    (try walk_at "d0")
    refine draw (by omega) (by omega) fun at_ b0 b1 => ?_
    obtain ⟨dd, ee, P, T2, g1, g2, g3, N2, tk2⟩ := nt.get b0 b1
    (try walk_at "d0")
    refine ⟨ee, g2, ?_⟩
    rw [g3]
    (try walk_at "d0")
    refine deed_pair n1 n2 tk2 fun pr hb => ?_
    obtain ⟨s, r⟩ := pr
    (try walk_at "d0")
    refine draw (by omega) (by omega) fun d3 c0 c1 => ?_
    (try walk_at "d0")
    refine first_bad (l := [(s, r)]) (by simp) ?_
    have fb : (fbD ([(s, r)].find? fun q => !decide (LinkOk n q))).isNon = decide (LinkOk n (s, r)) := by
      by_cases hh : LinkOk n (s, r) <;> simp [hh, fbD, List.find?, D.isNon, enc_pair]
    rw [fb]
    refine cut (fun ρ => ∃ c : Bool, ρ = [some b, some (.int n), some (.lst false (ps.map enc)), some (.lst true ds), some (.lst true es), some (.int i), some (.int at_), some (.lst true (T2.map enc)), some (.tup [.int s, .int r]), some (.bl (decide (d3 = 0))), some (.bl c), x11, none] ∧ (d3 = 0 → (c = true ↔ LinkOk n (s, r))) ∧ (d3 ≠ 0 → (c = true ↔ P (s, r)))) (fun N q => ?_) ?_
    · by_cases hl : LinkOk n (s, r)
      · obtain ⟨v, e1, i1', _⟩ := tk2.at hl.a0 hl.a1 hl.b0 hl.b1
        simp only at e1
        rw [decide_eq_true hl]
        (try walk_at "d0")
        split
        · rename_i h0
          refine ⟨cmul_r (by omega), v, e1, ?_⟩
          (try walk_at "d0")
          exact q _ ⟨_, rfl, fun z => absurd z h0, fun _ => by rw [decide_eq_true_eq]; exact i1'⟩
        · rename_i h0
          exact q _ ⟨true, rfl, fun _ => ⟨fun _ => hl, fun _ => rfl⟩, fun z => absurd z h0⟩
      · rw [decide_eq_false hl]
        (try walk_at "d0")
        exact q _ ⟨false, rfl, fun _ => ⟨fun z => (by cases z), fun z => absurd z hl⟩, fun _ => ⟨fun z => (by cases z), fun z => absurd (N2.lk z) hl⟩⟩
    · rintro ρ ⟨c, rfl, c1, c2⟩
      have N3 := N2
      rw [← frz_frz] at N2
      (try walk_at "d0")
      refine ⟨dd, g1, ?_⟩
      have stay : ∀ (z11 : Option D) (T3 : D) , N [some b, some (.int n), some (.lst false (ps.map enc)), some (.lst true ds), some (.lst true es), some (.int i), some (.int at_), some T3, some (.tup [.int s, .int r]), some (.bl (decide (d3 = 0))), some (.bl c), z11, none] := fun z11 T3 =>
        q _ ⟨_, _, _, _, _, _, _, ds, es, rfl, nt, by omega⟩
      have grow : ∀ (z11 x7 : Option D) (P' : IP → Prop) (d' e' : D) (T3 : List Int), d'.frz = d' → NetP Z n P' d' → e'.frz = enc T3 → TabOk n P' T3 → N [some b, some (.int n), some (.lst false (ps.map enc)), some (.lst true (ds ++ [d'])), some (.lst true (es ++ [e'])), some (.int i), some (.int at_), x7, some (.tup [.int s, .int r]), some (.bl (decide (d3 = 0))), some (.bl c), z11, none] := fun z11 x7 P' d' e' T3 hd m he t3 => by
        refine q _ ⟨_, _, _, _, _, _, _, _, _, rfl, nt.add (P := P') (T := T3) (nook_shr 2 _ (by rw [← hd]; exact frz_shr d')) he (by rw [hd]; exact m) t3, by simp; omega⟩
      refine deed (q := (s, r)) N3 hb (fun e z => ?_) (fun e z => ?_) (fun e z d' m => ?_) fun e z d' m => ?_
      · have hd : d3 = 0 := by simpa using e
        have hc : c = false := by
          cases c with
          | false => rfl
          | true => exact absurd ((c1 hd).mp rfl) z
        subst hc
        (try walk_at "d0")
        refine refused ?_ (.inr ⟨(s, r), rfl, rfl⟩)
        (try walk_at "d0")
        exact stay _ _
      · have hd : d3 ≠ 0 := by simpa using e
        have hc : c = false := by
          cases c with
          | false => rfl
          | true => exact absurd ((c2 hd).mp rfl) z
        subst hc
        (try walk_at "d0")
        refine refused ?_ (.inr ⟨(s, r), rfl, rfl⟩)
        (try walk_at "d0")
        exact stay _ _
      · have hd : d3 = 0 := by simpa using e
        have hc : c = true := (c1 hd).mpr z
        subst hc
        have b1 := ix_lt z.a0 z.a1 z.b0 z.b1
        simp only at b1
        have tl := tk2.len
        have m' := m
        obtain ⟨ks2, L2, rfl, I2, f2⟩ := m.ex
        (try walk_at "d0")
        simp only [nk, or_true, true_or, and_self, if_true]
        (try walk_at "d0")
        refine ⟨cmul_r (by omega), _, ixN_nat b1.1 (by omega), by omega, by have := nt.len; omega, ?_⟩
        have N4 := m'.netP
        rw [netT_frz] at N4
        refine grow _ _ _ _ _ (T2.set (s * n + r).toNat 1) netD_frz N4 ?_ ((tk2.set z.a0 z.a1 z.b0 z.b1).imp fun q _ _ _ _ => Iff.rfl)
        simp [hd, D.frz, frzs_frzs, ← List.map_set, show D.int 1 = enc (1 : Int) from rfl, frzs_map, enc_list]
      · have hd : d3 ≠ 0 := by simpa using e
        have hc : c = true := (c2 hd).mpr z
        subst hc
        have lk := N3.lk z
        have b1 := ix_lt lk.a0 lk.a1 lk.b0 lk.b1
        simp only at b1
        have tl := tk2.len
        have m' := m
        obtain ⟨ks2, L2, rfl, I2, f2⟩ := m.ex
        (try walk_at "d0")
        simp only [nk, or_true, true_or, and_self, if_true]
        (try walk_at "d0")
        refine ⟨cmul_r (by omega), _, ixN_nat b1.1 (by omega), by omega, by have := nt.len; omega, ?_⟩
        have N4 := m'.netP
        rw [netT_frz] at N4
        refine grow _ _ _ _ _ (T2.set (s * n + r).toNat 0) netD_frz N4 ?_ ((tk2.clr lk.a0 lk.a1 lk.b0 lk.b1).imp fun q _ _ _ _ => Iff.rfl)
        simp [hd, D.frz, frzs_frzs, ← List.map_set, show D.int 0 = enc (0 : Int) from rfl, frzs_map, enc_list]
  · rintro ρ ⟨x5, x6, x7, x8, x9, x10, x11, ds, es, rfl, nt, dl⟩
    have l1 := nt.l1
    (try walk_at "d0")
    refine ⟨by omega, by omega, forR (fun i ρ => ∃ (x5 : Option D), ρ = [some b, some (.int n), some (.lst false (ps.map enc)), some (.lst true ds), some (.lst true es), x5, x6, x7, x8, x9, x10, x11, none]) ⟨_, rfl⟩ ?_ ?_⟩
    · rintro i ρ N i0 i1 ⟨x5, rfl⟩ q
      obtain ⟨dd, ee, P, T2, g1, g2, g3, N2, tk2⟩ := nt.get i0 i1
      (try walk_at "d0")
      refine ⟨dd, g1, ?_⟩
      obtain ⟨ks2, L2, e2, I2, f2⟩ := N2.ex
      have ll := net_len I2
      rw [e2]
      (try walk_at "d0")
      refine net_links ?_
      (try walk_at "d0")
      refine ⟨ee, g2, ?_⟩
      rw [g3]
      refine ties n1 n2 tk2 fun M pw m2 ml => ?_
      have eM : M = L2 := lex_uniq pw (lex_strict I2.pw (I2.pm.nodup_iff.mpr I2.nd)) fun q => by
        rw [m2, nodup_perm_mem I2, f2]
        exact ⟨fun z => z.1, fun z => ⟨z, by obtain ⟨_, a, b, c, d⟩ := I2.lk q ((f2 q).mpr z); exact ⟨a, b, c, d⟩⟩⟩
      subst eM
      (try walk_at "d0")
      refine pairs_are (by omega) ?_
      (try walk_at "d0")
      exact q _ ⟨_, rfl⟩
    · rintro ρ ⟨x5, rfl⟩
      obtain ⟨dd, ee, P, T2, g1, g2, g3, N2, tk2⟩ := nt.get (i := (ds.length : Int) - 1) (by omega) (by omega)
      obtain ⟨d0, e0, P0, T0, k1, k2, k3, N0, tk0⟩ := nt.get (i := 0) (by omega) (by omega)
      (try walk_at "d0")
      refine ⟨dd, g1, ee, g2, ?_⟩
      rw [g3]
      refine net_is N2 tk2 ?_
      (try walk_at "d0")
      refine ⟨d0, k1, e0, k2, ?_⟩
      rw [k3]
      exact net_is N0 tk0 h
end
local macro_rules | `(tactic| walk_at "d0") => `(tactic| simp only [frz_frz, frzs_frzs, frz_shr, frzs_shrs, frzs_app, frzs_length, at_frzs, nofks_ints, nofks_pairs, nofk_pairE, nook_enc, nooks_enc, sepD, sep1, D.nofk, D.nofks, D.nook, D.nooks, Nat.reduceBNe, bne_self_eq_false, Enc.frz, Enc.shr, clean_pairE, ok_pairE, oks_ints, oks_pairs, at_0, at_1, at_2, at_3, at_4, at_map, ex_map, cast_0, cast_1, cast_2, cast_3, cast_4, rngD_len, lcStep, lcStepB, lc2Step, bodyN, bodyF, dSeq, dNext, dBrk, dCnt, dDrop, dIfS, dBind, dRet, dRetN, dRetM, dName, dNameF, dC, dVar, dVarS, dOp, dOpG, dTest, dTru, dNot, dAnd, dOr, dAndV, dOrV, dNotV, dIf, dChain, dNil, dCons, dLst, dTup, dCB, dCBG, dCall, dMeth, dProp, dPropN, dMake, dMakeV, dCMeth, dLc, dLc2, dFor, dApp, dSetI, dSetF, dIns, dRev, dPv, modAt, isOwnL, pathOk, D.at, D.put, D.idx, D.kids, D.wk, dRaise, dNever, dTryAs, dTryOnly, DEn.calm, DEn.still, dX, dBindX, dDropX, dRetX, dXT, dTestX, dTruX, dNotX, dAndX, dOrX, dIfX, dPop, dPopAt, modAt2, dAppX, dNoPart, dIndex, dGet2, gLt, gLe, gGt, gGe, gEq, gNe, D.frz, D.frzs, outs, okX, D.shr, D.shrs, D.clean, D.cleans, frzC, frzAt, frz1, wipeE, putN, lookF, enc_int, enc_list, enc_pair, frzs_map, shrs_map, frz_lst, deq_lst, clean_int_list, clean_pair_list, asBl_bl, gTru_non, gTru_bl, gTru_int, gTru_lst, gTru_tup, gTru_dK, gCmp_int, gIs_non, isNon_non, isNon_bl, isNon_int, isNon_lst, isNon_tup, isNon_ins, isNon_str, gAdd_int, gAdd_lst, gMin_int, gMul_int, gMul_lst, gDiv_int, gMod_int, gIx_lst, gIx_tup, gIx_dK, gIx_dT, gIn_lst, gIn_tup, gIn_dK, gIn_dT, gLen_lst, gLen_tup, gInt_int, gInt_bl, gList_lst, gList_tup, gMx_int, gMn_int, gIsi_int_int, gIsi_int_bool, gIsi_bl_bool, gIsi_bl_int, gIsi_lst_list, gIsi_tup_tuple, gIsi_non_int, gIsi_non_tuple, gIsi_non_list, gIsi_str_str, key_int, key_str, keys_nil, keys_1, keys_2, opApp_lst, opIns_lst, opRev_lst, opSet_lst, opSet_dK, opSet_dT, opFld_ins, opPop_none, opPop_some, isIns_ins, isInsP_ins, dFld_eq, gFld_ins, dRng1_eq, gRng1_int, dRng2_eq, gRng2_int, dIl_eq, gIl_lst, dEnum_eq, gEnum_lst, dLrg1_eq, gLrg1_int, dNeg_eq, gNeg_int, dPart_eq, gPart_int, dSl_eq, gSl_lst, dGTup_eq, gGT_tup, dGNil_nil, dGCons_cons, dPix_eq, gPix_int, dAug_eq, gAug_int, dLenSet_eq, gLenSet_lst, gGet_dK, gGet_dT, isDict_dK, isDict_dT, isList_lst, gIndex_lst, ok_non, ok_bl, ok_int, ok_tup, ok_lstS, oks_nil, oks_cons, flat_non, flat_bl, flat_int, flat_str, all_flat_int, deq_int, deq_bl, deq_non, deq_lsts, deq_tups, deqs_nil, deqs_cons, deqs_nc, deqs_cn, deqs_map, deqs_map_nil, deq_non_int, deq_int_non, any_int, and_assoc, Bool.not_true, Bool.not_false, Bool.and_self, Bool.and_true, Bool.true_and, Bool.and_false, Bool.false_and, Bool.or_self, Bool.or_true, Bool.true_or, Bool.or_false, Bool.false_or, Bool.xor_false, Bool.false_xor, Bool.true_xor, Bool.xor_true, Bool.not_not, List.map_cons, List.map_nil, List.replicate, List.cons_append, List.nil_append, List.append_nil, List.length_cons, List.length_nil, List.length_map, List.length_reverse, List.length_replicate, List.length_range, List.length_set, List.length_append, List.getElem?_cons_zero, List.getElem?_cons_succ, List.getElem?_nil, List.set_cons_zero, List.set_cons_succ, List.set_nil, List.cons.injEq, List.not_mem_nil, List.mem_cons, List.zip_cons_cons, List.zip_nil_left, List.lookup_cons, List.findIdx?_cons, List.findIdx?_nil, List.all_cons, List.all_nil, List.any_cons, List.any_nil, List.isEmpty_cons, List.isEmpty_nil, List.reverse_cons, List.reverse_nil, Option.some.injEq, Option.map_some, Option.map_none, Option.join_some, Option.getD_some, Option.getD_none, Option.bind_some, D.int.injEq, D.bl.injEq, D.tup.injEq, D.lst.injEq, D.str.injEq, D.adr.injEq, D.ins.injEq, D.xo.injEq, D.dK.injEq, D.dT.injEq, exists_eq_left', exists_eq_left, exists_eq_right', exists_eq_right, exists_eq, exists_eq', exists_and_left, exists_and_right, exists_const, and_true, true_and, and_false, false_and, and_self, or_true, true_or, or_false, false_or, not_true, not_false_iff, implies_true, forall_const, forall_eq', forall_eq, if_true, if_false, ite_true, ite_false, reduceCtorEq, reduceIte, decide_eq_true_eq, decide_eq_false_iff_not, Bool.not_eq_true', Bool.not_eq_eq_eq_not, Bool.false_eq_true, Bool.true_eq_false, decide_true, decide_false, Nat.reduceAdd, Nat.reduceLT, Nat.reduceLeDiff, Nat.reduceEqDiff, Nat.lt_irrefl, Nat.succ_ne_zero, beq_self_eq_true, Nat.zero_add, eq_self_iff_true, ne_eq, Nat.zero_lt_succ, Int.reduceNeg, Int.reduceMul, Int.reduceAdd, Int.reduceSub, Int.reduceLT, Int.reduceLE, Int.reduceEq, exists_false, false_implies, true_implies, Bool.and_eq_true, Bool.or_eq_true, netT_nofk, nofks_tru, netT_frz, netT_clean, isIns_netD, isInsP_netD, fld_count, fld_linked, fld_links, sne_1, sne_2, sne_3, sne_4, sne_5, sne_6, frzs_tru, shrs_tru, cleans_tru, netD_frz, netD_shr, box_nofk, box_frz, box_shr, box_clean, nook_netT, nook_netD])
section
variable {Z : Ad} {K : KT} {X : XT}
theorem law_holds {ns : List Int} {d : D} (hd : IsScr Z.Kf ns d) (hl : ns.length ≤ 63) (h : K (.bl true) []) : F_law Z [d] K X := by
  have fz := hd.frz
  have sh := hd.shr
  unfold F_law B_law
  (try walk_at "d0")
  rw [sh, fz]
  refine ⟨rfl, d, ns, rfl, hd, hl, fun b hb => ?_⟩
  haveI : BoxI b := ⟨hb⟩
  (try walk_at "d0")
  refine step ?_
  (try walk_at "d0")
  refine count fun n n1 n2 => ?_
  (try walk_at "d0")
  refine good_pairs n1 n2 fun ps pl ok => ?_
  (try walk_at "d0")
  refine is_int ?_
  (try walk_at "d0")
  refine builds n1 n2 pl ok ?_
  (try walk_at "d0")
  refine step ?_
  (try walk_at "d0")
  refine deeds n1 n2 pl ok ?_
  (try walk_at "d0")
  refine step ?_
  (try walk_at "d0")
  refine named n1 n2 ?_
  (try walk_at "d0")
  exact counts n1 n2 pl ok h
end
end Pr
namespace Pr
open PySem PySem.Spec PyProof.Rows L2 Evl PL DL
abbrev s_InvalidNet___init__ : Stmt := inClass (topS 2) 0
theorem sx_InvalidNet : PX.SScope ["self", "link"] ["self", "link"] (defScope s_InvalidNet___init__) := ⟨rfl, rfl, rfl, by decide +kernel, rfl, by decide +kernel, by decide +kernel, by decide +kernel, rfl, rfl⟩
theorem okx_InvalidNet {P : Program} {w : World} {K : PySem.W.Frag} {mg : Str → Option Value} {base : Heap} {f cda cc C : Addr} {fd : FuncData} (F : PX.FunS K "__init__" "InvalidNet.__init__" s_InvalidNet___init__ f cda cc fd) (T : PX.SupK P K C f cda cc fd) (hg : mg "super" = none) (hno : ∀ g ∈ (["link"] : List Str), PySem.W.findIn K (.ref C) g = some none) : FnX P w K mg base 1 f fd ["self", "link"] (PX.spX C ["link"] [0]) :=
  PX.ex_init F sx_InvalidNet T rfl rfl rfl rfl (by decide) rfl hg hno rfl (fun _ => rfl) (fun _ => ⟨rfl, rfl⟩) (fun _ => ⟨_, rfl⟩) (fun A outer s H E hr => ⟨pe_joined (.cons pe_str (.cons (PX.pe_fmtA hr (pv 1)) .nil)), (pss_cons (ps_ost (pv 0) (pv 1)) pss_nil)⟩) (fun a ws H hl hf Q q => PX.tx_js (PX.txs_cons PX.tx_c (PX.txs_cons (PX.tx_p 0 hl hf) PX.txs_nil)) (by decide) fun out => q out)
abbrev s_NotLinked___init__ : Stmt := inClass (topS 4) 0
theorem sx_NotLinked : PX.SScope ["self", "source", "reader"] ["self", "source", "reader"] (defScope s_NotLinked___init__) := ⟨rfl, rfl, rfl, by decide +kernel, rfl, by decide +kernel, by decide +kernel, by decide +kernel, rfl, rfl⟩
theorem okx_NotLinked {P : Program} {w : World} {K : PySem.W.Frag} {mg : Str → Option Value} {base : Heap} {f cda cc C : Addr} {fd : FuncData} (F : PX.FunS K "__init__" "NotLinked.__init__" s_NotLinked___init__ f cda cc fd) (T : PX.SupK P K C f cda cc fd) (hg : mg "super" = none) (hno : ∀ g ∈ (["source", "reader"] : List Str), PySem.W.findIn K (.ref C) g = some none) : FnX P w K mg base 1 f fd ["self", "source", "reader"] (PX.spX C ["source", "reader"] [0, 1]) :=
  PX.ex_init F sx_NotLinked T rfl rfl rfl rfl (by decide) rfl hg hno rfl (fun _ => rfl) (fun _ => ⟨rfl, rfl⟩) (fun _ => ⟨_, rfl⟩) (fun A outer s H E hr => ⟨pe_joined (.cons pe_str (.cons (PX.pe_fmtA hr (pv 1)) (.cons pe_str (.cons (PX.pe_fmtA hr (pv 2)) .nil)))), (pss_cons (ps_ost (pv 0) (pv 1)) (pss_cons (ps_ost (pv 0) (pv 2)) pss_nil))⟩) (fun a ws H hl hf Q q => PX.tx_js (PX.txs_cons PX.tx_c (PX.txs_cons (PX.tx_p 0 hl hf) (PX.txs_cons PX.tx_c (PX.txs_cons (PX.tx_p 1 hl hf) PX.txs_nil)))) (by decide) fun out => q out)
abbrev s_UnknownReplica___init__ : Stmt := inClass (topS 3) 0
theorem sx_UnknownReplica : PX.SScope ["self", "replica"] ["self", "replica"] (defScope s_UnknownReplica___init__) := ⟨rfl, rfl, rfl, by decide +kernel, rfl, by decide +kernel, by decide +kernel, by decide +kernel, rfl, rfl⟩
theorem okx_UnknownReplica {P : Program} {w : World} {K : PySem.W.Frag} {mg : Str → Option Value} {base : Heap} {f cda cc C : Addr} {fd : FuncData} (F : PX.FunS K "__init__" "UnknownReplica.__init__" s_UnknownReplica___init__ f cda cc fd) (T : PX.SupK P K C f cda cc fd) (hg : mg "super" = none) (hno : ∀ g ∈ (["replica"] : List Str), PySem.W.findIn K (.ref C) g = some none) : FnX P w K mg base 1 f fd ["self", "replica"] (PX.spX C ["replica"] [0]) :=
  PX.ex_init F sx_UnknownReplica T rfl rfl rfl rfl (by decide) rfl hg hno rfl (fun _ => rfl) (fun _ => ⟨rfl, rfl⟩) (fun _ => ⟨_, rfl⟩) (fun A outer s H E hr => ⟨pe_joined (.cons pe_str (.cons (PX.pe_fmtA hr (pv 1)) .nil)), (pss_cons (ps_ost (pv 0) (pv 1)) pss_nil)⟩) (fun a ws H hl hf Q q => PX.tx_js (PX.txs_cons PX.tx_c (PX.txs_cons (PX.tx_p 0 hl hf) PX.txs_nil)) (by decide) fun out => q out)
set_option maxHeartbeats 0 in
theorem all_mk {l : PySem.W.OpenLaw} {w : World} {K : PySem.W.Frag} {h : Heap} {mg : Str → Option Value} {fa : Addr} (X : K.In h) (G : h.Ns mainGlobals mg) (hfa : mg "law" = some (.ref fa))
    {f_Net_links f_Net_has_link f__is_below f__law_box f__law_step f__law_draw f__law_is_int f__law_truth f__law_first_bad f__law_table f__law_ties f__law_named_table f__law_great f__law_is_pair f__law_ints_are f__law_count f__law_pair f_Net_sources f_Net_readers f__check_count f__law_stranger f__law_pairs_are f__law_good_pairs f__law_refused f__law_wrong_count f_Net___init__ f__law_bad_pair f__law_row f__law_has f__law_spoilt f__law_row_is f__law_unknown f__law_deed_pair f_Net_both_ways f_Net_ring f_Net_with_link f_Net_without_link f__law_net_is f_Net_line f_Net_star f_Net_complete f__law_changed f__law_call f__law_deed f__law_made f__law_deeds f__law_builds f__law_named f__law_counts f_law C_StoreError C_InvalidNet C_UnknownReplica C_NotLinked C_Net p_Net_links p_Net_both_ways p_Net_ring p_Net_line p_Net_star p_Net_complete f_InvalidNet___init__ da_InvalidNet cc_InvalidNet f_NotLinked___init__ da_NotLinked cc_NotLinked f_UnknownReplica___init__ da_UnknownReplica cc_UnknownReplica : Addr} {od_Net_links an_Net_links od_Net_has_link an_Net_has_link od__is_below an__is_below od__law_box an__law_box od__law_step an__law_step od__law_draw an__law_draw od__law_is_int an__law_is_int od__law_truth an__law_truth od__law_first_bad an__law_first_bad od__law_table an__law_table od__law_ties an__law_ties od__law_named_table an__law_named_table od__law_great an__law_great od__law_is_pair an__law_is_pair od__law_ints_are an__law_ints_are od__law_count an__law_count od__law_pair an__law_pair od_Net_sources an_Net_sources od_Net_readers an_Net_readers od__check_count an__check_count od__law_stranger an__law_stranger od__law_pairs_are an__law_pairs_are od__law_good_pairs an__law_good_pairs od__law_refused an__law_refused od__law_wrong_count an__law_wrong_count od_Net___init__ an_Net___init__ od__law_bad_pair an__law_bad_pair od__law_row an__law_row od__law_has an__law_has od__law_spoilt an__law_spoilt od__law_row_is an__law_row_is od__law_unknown an__law_unknown od__law_deed_pair an__law_deed_pair od_Net_both_ways an_Net_both_ways od_Net_ring an_Net_ring od_Net_with_link an_Net_with_link od_Net_without_link an_Net_without_link od__law_net_is an__law_net_is od_Net_line an_Net_line od_Net_star an_Net_star od_Net_complete an_Net_complete od__law_changed an__law_changed od__law_call an__law_call od__law_deed an__law_deed od__law_made an__law_made od__law_deeds an__law_deeds od__law_builds an__law_builds od__law_named an__law_named od__law_counts an__law_counts od_law an_law od_InvalidNet___init__ an_InvalidNet___init__ od_NotLinked___init__ an_NotLinked___init__ od_UnknownReplica___init__ an_UnknownReplica___init__ : Option Addr} {sl_Net_links sl_Net_has_link sl__is_below sl__law_box sl__law_step sl__law_draw sl__law_is_int sl__law_truth sl__law_first_bad sl__law_table sl__law_ties sl__law_named_table sl__law_great sl__law_is_pair sl__law_ints_are sl__law_count sl__law_pair sl_Net_sources sl_Net_readers sl__check_count sl__law_stranger sl__law_pairs_are sl__law_good_pairs sl__law_refused sl__law_wrong_count sl_Net___init__ sl__law_bad_pair sl__law_row sl__law_has sl__law_spoilt sl__law_row_is sl__law_unknown sl__law_deed_pair sl_Net_both_ways sl_Net_ring sl_Net_with_link sl_Net_without_link sl__law_net_is sl_Net_line sl_Net_star sl_Net_complete sl__law_changed sl__law_call sl__law_deed sl__law_made sl__law_deeds sl__law_builds sl__law_named sl__law_counts sl_law sl_InvalidNet___init__ sl_NotLinked___init__ sl_UnknownReplica___init__ : Array (Option Value)} {oc_Net_links kV_Net_links dc_Net_links pm_Net_links ct_Net_links oc_Net_has_link kV_Net_has_link dc_Net_has_link pm_Net_has_link ct_Net_has_link oc__is_below kV__is_below dc__is_below pm__is_below ct__is_below oc__law_box kV__law_box dc__law_box pm__law_box ct__law_box oc__law_step kV__law_step dc__law_step pm__law_step ct__law_step oc__law_draw kV__law_draw dc__law_draw pm__law_draw ct__law_draw oc__law_is_int kV__law_is_int dc__law_is_int pm__law_is_int ct__law_is_int oc__law_truth kV__law_truth dc__law_truth pm__law_truth ct__law_truth oc__law_first_bad kV__law_first_bad dc__law_first_bad pm__law_first_bad ct__law_first_bad oc__law_table kV__law_table dc__law_table pm__law_table ct__law_table oc__law_ties kV__law_ties dc__law_ties pm__law_ties ct__law_ties oc__law_named_table kV__law_named_table dc__law_named_table pm__law_named_table ct__law_named_table oc__law_great kV__law_great dc__law_great pm__law_great ct__law_great oc__law_is_pair kV__law_is_pair dc__law_is_pair pm__law_is_pair ct__law_is_pair oc__law_ints_are kV__law_ints_are dc__law_ints_are pm__law_ints_are ct__law_ints_are oc__law_count kV__law_count dc__law_count pm__law_count ct__law_count oc__law_pair kV__law_pair dc__law_pair pm__law_pair ct__law_pair oc_Net_sources kV_Net_sources dc_Net_sources pm_Net_sources ct_Net_sources oc_Net_readers kV_Net_readers dc_Net_readers pm_Net_readers ct_Net_readers oc__check_count kV__check_count dc__check_count pm__check_count ct__check_count oc__law_stranger kV__law_stranger dc__law_stranger pm__law_stranger ct__law_stranger oc__law_pairs_are kV__law_pairs_are dc__law_pairs_are pm__law_pairs_are ct__law_pairs_are oc__law_good_pairs kV__law_good_pairs dc__law_good_pairs pm__law_good_pairs ct__law_good_pairs oc__law_refused kV__law_refused dc__law_refused pm__law_refused ct__law_refused oc__law_wrong_count kV__law_wrong_count dc__law_wrong_count pm__law_wrong_count ct__law_wrong_count oc_Net___init__ kV_Net___init__ dc_Net___init__ pm_Net___init__ ct_Net___init__ oc__law_bad_pair kV__law_bad_pair dc__law_bad_pair pm__law_bad_pair ct__law_bad_pair oc__law_row kV__law_row dc__law_row pm__law_row ct__law_row oc__law_has kV__law_has dc__law_has pm__law_has ct__law_has oc__law_spoilt kV__law_spoilt dc__law_spoilt pm__law_spoilt ct__law_spoilt oc__law_row_is kV__law_row_is dc__law_row_is pm__law_row_is ct__law_row_is oc__law_unknown kV__law_unknown dc__law_unknown pm__law_unknown ct__law_unknown oc__law_deed_pair kV__law_deed_pair dc__law_deed_pair pm__law_deed_pair ct__law_deed_pair oc_Net_both_ways kV_Net_both_ways dc_Net_both_ways pm_Net_both_ways ct_Net_both_ways oc_Net_ring kV_Net_ring dc_Net_ring pm_Net_ring ct_Net_ring oc_Net_with_link kV_Net_with_link dc_Net_with_link pm_Net_with_link ct_Net_with_link oc_Net_without_link kV_Net_without_link dc_Net_without_link pm_Net_without_link ct_Net_without_link oc__law_net_is kV__law_net_is dc__law_net_is pm__law_net_is ct__law_net_is oc_Net_line kV_Net_line dc_Net_line pm_Net_line ct_Net_line oc_Net_star kV_Net_star dc_Net_star pm_Net_star ct_Net_star oc_Net_complete kV_Net_complete dc_Net_complete pm_Net_complete ct_Net_complete oc__law_changed kV__law_changed dc__law_changed pm__law_changed ct__law_changed oc__law_call kV__law_call dc__law_call pm__law_call ct__law_call oc__law_deed kV__law_deed dc__law_deed pm__law_deed ct__law_deed oc__law_made kV__law_made dc__law_made pm__law_made ct__law_made oc__law_deeds kV__law_deeds dc__law_deeds pm__law_deeds ct__law_deeds oc__law_builds kV__law_builds dc__law_builds pm__law_builds ct__law_builds oc__law_named kV__law_named dc__law_named pm__law_named ct__law_named oc__law_counts kV__law_counts dc__law_counts pm__law_counts ct__law_counts oc_law kV_law dc_law pm_law ct_law oc_InvalidNet___init__ kV_InvalidNet___init__ dc_InvalidNet___init__ pm_InvalidNet___init__ ct_InvalidNet___init__ oc_NotLinked___init__ kV_NotLinked___init__ dc_NotLinked___init__ pm_NotLinked___init__ ct_NotLinked___init__ oc_UnknownReplica___init__ kV_UnknownReplica___init__ dc_UnknownReplica___init__ pm_UnknownReplica___init__ ct_UnknownReplica___init__ cd_Net_links cd_Net_has_link cd__is_below cd__law_box cd__law_step cd__law_draw cd__law_is_int cd__law_truth cd__law_first_bad cd__law_table cd__law_ties cd__law_named_table cd__law_great cd__law_is_pair cd__law_ints_are cd__law_count cd__law_pair cd_Net_sources cd_Net_readers cd__check_count cd__law_stranger cd__law_pairs_are cd__law_good_pairs cd__law_refused cd__law_wrong_count cd_Net___init__ cd__law_bad_pair cd__law_row cd__law_has cd__law_spoilt cd__law_row_is cd__law_unknown cd__law_deed_pair cd_Net_both_ways cd_Net_ring cd_Net_with_link cd_Net_without_link cd__law_net_is cd_Net_line cd_Net_star cd_Net_complete cd__law_changed cd__law_call cd__law_deed cd__law_made cd__law_deeds cd__law_builds cd__law_named cd__law_counts cd_law : Value}
    {tc_Net_MOST : Tok} {rs_Net_links rs_Net_both_ways rs_Net_ring rs_Net_line rs_Net_star rs_Net_complete : List Value}
    {nm_InvalidNet q_InvalidNet : Str} {N_InvalidNet : Addr} {bs_InvalidNet bm_InvalidNet : List Value} {sn_InvalidNet : List Str} {sub_InvalidNet : List Value} {ab_InvalidNet : Bool} {col_InvalidNet : Option Bool} {dd_InvalidNet : Option Addr} {k0_InvalidNet k1_InvalidNet k2_InvalidNet k3_InvalidNet k5_InvalidNet : Option Value} {zc_InvalidNet ec_InvalidNet : Value} {zd_InvalidNet ed_InvalidNet : Option Addr} {zv_InvalidNet : Array Value} {zs_InvalidNet es_InvalidNet : Array (Option Value)} {fl_InvalidNet : Str} {ft_InvalidNet : Tok}
    {nm_NotLinked q_NotLinked : Str} {N_NotLinked : Addr} {bs_NotLinked bm_NotLinked : List Value} {sn_NotLinked : List Str} {sub_NotLinked : List Value} {ab_NotLinked : Bool} {col_NotLinked : Option Bool} {dd_NotLinked : Option Addr} {k0_NotLinked k1_NotLinked k2_NotLinked k3_NotLinked k5_NotLinked : Option Value} {zc_NotLinked ec_NotLinked : Value} {zd_NotLinked ed_NotLinked : Option Addr} {zv_NotLinked : Array Value} {zs_NotLinked es_NotLinked : Array (Option Value)} {fl_NotLinked : Str} {ft_NotLinked : Tok}
    {nm_UnknownReplica q_UnknownReplica : Str} {N_UnknownReplica : Addr} {bs_UnknownReplica bm_UnknownReplica : List Value} {sn_UnknownReplica : List Str} {sub_UnknownReplica : List Value} {ab_UnknownReplica : Bool} {col_UnknownReplica : Option Bool} {dd_UnknownReplica : Option Addr} {k0_UnknownReplica k1_UnknownReplica k2_UnknownReplica k3_UnknownReplica k5_UnknownReplica : Option Value} {zc_UnknownReplica ec_UnknownReplica : Value} {zd_UnknownReplica ed_UnknownReplica : Option Addr} {zv_UnknownReplica : Array Value} {zs_UnknownReplica es_UnknownReplica : Array (Option Value)} {fl_UnknownReplica : Str} {ft_UnknownReplica : Tok}
    (aC_StoreError : PySem.W.nsIn K mainGlobals "StoreError" = some (some (.ref C_StoreError)))
    (aC_InvalidNet : PySem.W.nsIn K mainGlobals "InvalidNet" = some (some (.ref C_InvalidNet)))
    (aC_UnknownReplica : PySem.W.nsIn K mainGlobals "UnknownReplica" = some (some (.ref C_UnknownReplica)))
    (aC_NotLinked : PySem.W.nsIn K mainGlobals "NotLinked" = some (some (.ref C_NotLinked)))
    (aC_Net : PySem.W.nsIn K mainGlobals "Net" = some (some (.ref C_Net)))
    (pg_Net : PySem.W.plainGet K C_Net Str.empty = true)
    (hd_Net : PySem.W.hasDictIn K C_Net = true)
    (po_Net : PySem.W.plainOver K C_Net = true)
    (sa_Net : PySem.W.findIn K (.ref C_Net) "__setattr__" = some (some (.builtin "object.__setattr__")))
    (mk_Net : PySem.W.makesIn K C_Net = true)
    (kc_Net : PySem.W.keepIn K (.ref C_Net) = true)
    (bcG : PySem.W.specialIn K (.builtin "object.__class__") "__get__" = some (some (.builtin "getset_descriptor.__get__")))
    (bcT : PySem.W.takesIn K (.builtin "object.__class__") = some true)
    (xg_StoreError : PySem.W.findIn K (.ref C_StoreError) "__getattribute__" = some (some (.builtin "BaseException.__getattribute__")))
    (xk_StoreError : PySem.W.findIn K (.ref C_StoreError) "__getattr__" = some none)
    (xb_StoreError : PySem.W.subIn K (.ref C_StoreError) (.type "BaseException") = some true)
    (xd_StoreError : PySem.W.hasDictIn K C_StoreError = true)
    (xc_StoreError : PySem.W.findIn K (.ref C_StoreError) "__class__" = some (some (.builtin "object.__class__")))
    (xo_StoreError : PySem.W.mroIn K C_StoreError (.type "object") = some true)
    (xi_StoreError : PySem.W.isClsIn K C_StoreError = true)
    (xt_StoreError : PySem.W.typeIn K (.ref C_StoreError) = some (.type "type"))
    (xs_StoreError : PySem.W.subIn K (.ref C_StoreError) (.ref C_StoreError) = some true)
    (xg_InvalidNet : PySem.W.findIn K (.ref C_InvalidNet) "__getattribute__" = some (some (.builtin "BaseException.__getattribute__")))
    (xk_InvalidNet : PySem.W.findIn K (.ref C_InvalidNet) "__getattr__" = some none)
    (xb_InvalidNet : PySem.W.subIn K (.ref C_InvalidNet) (.type "BaseException") = some true)
    (xd_InvalidNet : PySem.W.hasDictIn K C_InvalidNet = true)
    (xc_InvalidNet : PySem.W.findIn K (.ref C_InvalidNet) "__class__" = some (some (.builtin "object.__class__")))
    (xo_InvalidNet : PySem.W.mroIn K C_InvalidNet (.type "object") = some true)
    (xi_InvalidNet : PySem.W.isClsIn K C_InvalidNet = true)
    (xt_InvalidNet : PySem.W.typeIn K (.ref C_InvalidNet) = some (.type "type"))
    (xs_InvalidNet : PySem.W.subIn K (.ref C_InvalidNet) (.ref C_InvalidNet) = some true)
    (xg_UnknownReplica : PySem.W.findIn K (.ref C_UnknownReplica) "__getattribute__" = some (some (.builtin "BaseException.__getattribute__")))
    (xk_UnknownReplica : PySem.W.findIn K (.ref C_UnknownReplica) "__getattr__" = some none)
    (xb_UnknownReplica : PySem.W.subIn K (.ref C_UnknownReplica) (.type "BaseException") = some true)
    (xd_UnknownReplica : PySem.W.hasDictIn K C_UnknownReplica = true)
    (xc_UnknownReplica : PySem.W.findIn K (.ref C_UnknownReplica) "__class__" = some (some (.builtin "object.__class__")))
    (xo_UnknownReplica : PySem.W.mroIn K C_UnknownReplica (.type "object") = some true)
    (xi_UnknownReplica : PySem.W.isClsIn K C_UnknownReplica = true)
    (xt_UnknownReplica : PySem.W.typeIn K (.ref C_UnknownReplica) = some (.type "type"))
    (xs_UnknownReplica : PySem.W.subIn K (.ref C_UnknownReplica) (.ref C_UnknownReplica) = some true)
    (xg_NotLinked : PySem.W.findIn K (.ref C_NotLinked) "__getattribute__" = some (some (.builtin "BaseException.__getattribute__")))
    (xk_NotLinked : PySem.W.findIn K (.ref C_NotLinked) "__getattr__" = some none)
    (xb_NotLinked : PySem.W.subIn K (.ref C_NotLinked) (.type "BaseException") = some true)
    (xd_NotLinked : PySem.W.hasDictIn K C_NotLinked = true)
    (xc_NotLinked : PySem.W.findIn K (.ref C_NotLinked) "__class__" = some (some (.builtin "object.__class__")))
    (xo_NotLinked : PySem.W.mroIn K C_NotLinked (.type "object") = some true)
    (xi_NotLinked : PySem.W.isClsIn K C_NotLinked = true)
    (xt_NotLinked : PySem.W.typeIn K (.ref C_NotLinked) = some (.type "type"))
    (xs_NotLinked : PySem.W.subIn K (.ref C_NotLinked) (.ref C_NotLinked) = some true)
    (xx_StoreError_InvalidNet : PySem.W.subIn K (.ref C_StoreError) (.ref C_InvalidNet) = some false)
    (xx_InvalidNet_InvalidNet : PySem.W.subIn K (.ref C_InvalidNet) (.ref C_InvalidNet) = some true)
    (xx_UnknownReplica_InvalidNet : PySem.W.subIn K (.ref C_UnknownReplica) (.ref C_InvalidNet) = some false)
    (xx_NotLinked_InvalidNet : PySem.W.subIn K (.ref C_NotLinked) (.ref C_InvalidNet) = some false)
    (xx_StoreError_NotLinked : PySem.W.subIn K (.ref C_StoreError) (.ref C_NotLinked) = some false)
    (xx_InvalidNet_NotLinked : PySem.W.subIn K (.ref C_InvalidNet) (.ref C_NotLinked) = some false)
    (xx_UnknownReplica_NotLinked : PySem.W.subIn K (.ref C_UnknownReplica) (.ref C_NotLinked) = some false)
    (xx_NotLinked_NotLinked : PySem.W.subIn K (.ref C_NotLinked) (.ref C_NotLinked) = some true)
    (xx_StoreError_StoreError : PySem.W.subIn K (.ref C_StoreError) (.ref C_StoreError) = some true)
    (xx_InvalidNet_StoreError : PySem.W.subIn K (.ref C_InvalidNet) (.ref C_StoreError) = some true)
    (xx_UnknownReplica_StoreError : PySem.W.subIn K (.ref C_UnknownReplica) (.ref C_StoreError) = some true)
    (xx_NotLinked_StoreError : PySem.W.subIn K (.ref C_NotLinked) (.ref C_StoreError) = some true)
    (xx_StoreError_UnknownReplica : PySem.W.subIn K (.ref C_StoreError) (.ref C_UnknownReplica) = some false)
    (xx_InvalidNet_UnknownReplica : PySem.W.subIn K (.ref C_InvalidNet) (.ref C_UnknownReplica) = some false)
    (xx_UnknownReplica_UnknownReplica : PySem.W.subIn K (.ref C_UnknownReplica) (.ref C_UnknownReplica) = some true)
    (xx_NotLinked_UnknownReplica : PySem.W.subIn K (.ref C_NotLinked) (.ref C_UnknownReplica) = some false)
    (xx_StoreError_ValueError : PySem.W.subIn K (.ref C_StoreError) (.type "ValueError") = some true)
    (xx_InvalidNet_ValueError : PySem.W.subIn K (.ref C_InvalidNet) (.type "ValueError") = some true)
    (xx_UnknownReplica_ValueError : PySem.W.subIn K (.ref C_UnknownReplica) (.type "ValueError") = some true)
    (xx_NotLinked_ValueError : PySem.W.subIn K (.ref C_NotLinked) (.type "ValueError") = some true)
    (xy_ValueError : PySem.W.subIn K (.type "ValueError") (.type "BaseException") = some true)
    (xm_ValueError : PySem.W.kitMeta "ValueError" = true)
    (xn_InvalidNet_link : PySem.W.findIn K (.ref C_InvalidNet) "link" = some none)
    (xn_NotLinked_reader : PySem.W.findIn K (.ref C_NotLinked) "reader" = some none)
    (xn_UnknownReplica_replica : PySem.W.findIn K (.ref C_UnknownReplica) "replica" = some none)
    (xn_NotLinked_source : PySem.W.findIn K (.ref C_NotLinked) "source" = some none)
    (nf_Net__linked : PySem.W.findIn K (.ref C_Net) "_linked" = some none)
    (nf_Net__links : PySem.W.findIn K (.ref C_Net) "_links" = some none)
    (nf_Net_count : PySem.W.findIn K (.ref C_Net) "count" = some none)
    (rd_Net : PySem.W.readsIn K C_Net (.type "type") = true)
    (ga_Net : PySem.W.specialIn K (.ref C_Net) "__getattribute__" = some (some (.builtin "type.__getattribute__")))
    (vc_Net_MOST : PySem.W.findCls K (.ref C_Net) (.type "type") "MOST" = some (.val (.int 24 tc_Net_MOST)))
    (a_Net_links : PySem.W.findIn K (.ref C_Net) "links" = some (some (.ref p_Net_links)))
    (pt_Net_links : PySem.W.specialIn K (.ref p_Net_links) "__get__" = some (some (.builtin "property.__get__")))
    (pk_Net_links : PySem.W.takesIn K (.ref p_Net_links) = some true)
    (pr_Net_links : PySem.W.recIn K p_Net_links "property" = some (.ref f_Net_links :: rs_Net_links))
    (l_Net_links : K.lookup f_Net_links = some ⟨oc_Net_links, od_Net_links, .func (PySem.W.fnOf "links" "Net.links" (defArgs s_Net_links) (defBody s_Net_links) (defScope s_Net_links) .none kV_Net_links dc_Net_links pm_Net_links an_Net_links cd_Net_links ct_Net_links), sl_Net_links⟩)
    (c_Net_links : PySem.W.codeIn K cd_Net_links "Net.links" = true)
    (k_Net_links : PySem.W.keepIn K (.ref f_Net_links) = true)
    (a_Net_has_link : PySem.W.findIn K (.ref C_Net) "has_link" = some (some (.ref f_Net_has_link)))
    (i_Net_has_link : PySem.W.isFn K (.ref f_Net_has_link) = true)
    (l_Net_has_link : K.lookup f_Net_has_link = some ⟨oc_Net_has_link, od_Net_has_link, .func (PySem.W.fnOf "has_link" "Net.has_link" (defArgs s_Net_has_link) (defBody s_Net_has_link) (defScope s_Net_has_link) .none kV_Net_has_link dc_Net_has_link pm_Net_has_link an_Net_has_link cd_Net_has_link ct_Net_has_link), sl_Net_has_link⟩)
    (c_Net_has_link : PySem.W.codeIn K cd_Net_has_link "Net.has_link" = true)
    (k_Net_has_link : PySem.W.keepIn K (.ref f_Net_has_link) = true)
    (a__is_below : PySem.W.nsIn K mainGlobals "_is_below" = some (some (.ref f__is_below)))
    (l__is_below : K.lookup f__is_below = some ⟨oc__is_below, od__is_below, .func (PySem.W.fnOf "_is_below" "_is_below" (defArgs s__is_below) (defBody s__is_below) (defScope s__is_below) .none kV__is_below dc__is_below pm__is_below an__is_below cd__is_below ct__is_below), sl__is_below⟩)
    (c__is_below : PySem.W.codeIn K cd__is_below "_is_below" = true)
    (k__is_below : PySem.W.keepIn K (.ref f__is_below) = true)
    (a__law_box : PySem.W.nsIn K mainGlobals "_law_box" = some (some (.ref f__law_box)))
    (l__law_box : K.lookup f__law_box = some ⟨oc__law_box, od__law_box, .func (PySem.W.fnOf "_law_box" "_law_box" (defArgs s__law_box) (defBody s__law_box) (defScope s__law_box) .none kV__law_box dc__law_box pm__law_box an__law_box cd__law_box ct__law_box), sl__law_box⟩)
    (c__law_box : PySem.W.codeIn K cd__law_box "_law_box" = true)
    (k__law_box : PySem.W.keepIn K (.ref f__law_box) = true)
    (a__law_step : PySem.W.nsIn K mainGlobals "_law_step" = some (some (.ref f__law_step)))
    (l__law_step : K.lookup f__law_step = some ⟨oc__law_step, od__law_step, .func (PySem.W.fnOf "_law_step" "_law_step" (defArgs s__law_step) (defBody s__law_step) (defScope s__law_step) .none kV__law_step dc__law_step pm__law_step an__law_step cd__law_step ct__law_step), sl__law_step⟩)
    (c__law_step : PySem.W.codeIn K cd__law_step "_law_step" = true)
    (k__law_step : PySem.W.keepIn K (.ref f__law_step) = true)
    (a__law_draw : PySem.W.nsIn K mainGlobals "_law_draw" = some (some (.ref f__law_draw)))
    (l__law_draw : K.lookup f__law_draw = some ⟨oc__law_draw, od__law_draw, .func (PySem.W.fnOf "_law_draw" "_law_draw" (defArgs s__law_draw) (defBody s__law_draw) (defScope s__law_draw) .none kV__law_draw dc__law_draw pm__law_draw an__law_draw cd__law_draw ct__law_draw), sl__law_draw⟩)
    (c__law_draw : PySem.W.codeIn K cd__law_draw "_law_draw" = true)
    (k__law_draw : PySem.W.keepIn K (.ref f__law_draw) = true)
    (a__law_is_int : PySem.W.nsIn K mainGlobals "_law_is_int" = some (some (.ref f__law_is_int)))
    (l__law_is_int : K.lookup f__law_is_int = some ⟨oc__law_is_int, od__law_is_int, .func (PySem.W.fnOf "_law_is_int" "_law_is_int" (defArgs s__law_is_int) (defBody s__law_is_int) (defScope s__law_is_int) .none kV__law_is_int dc__law_is_int pm__law_is_int an__law_is_int cd__law_is_int ct__law_is_int), sl__law_is_int⟩)
    (c__law_is_int : PySem.W.codeIn K cd__law_is_int "_law_is_int" = true)
    (k__law_is_int : PySem.W.keepIn K (.ref f__law_is_int) = true)
    (a__law_truth : PySem.W.nsIn K mainGlobals "_law_truth" = some (some (.ref f__law_truth)))
    (l__law_truth : K.lookup f__law_truth = some ⟨oc__law_truth, od__law_truth, .func (PySem.W.fnOf "_law_truth" "_law_truth" (defArgs s__law_truth) (defBody s__law_truth) (defScope s__law_truth) .none kV__law_truth dc__law_truth pm__law_truth an__law_truth cd__law_truth ct__law_truth), sl__law_truth⟩)
    (c__law_truth : PySem.W.codeIn K cd__law_truth "_law_truth" = true)
    (k__law_truth : PySem.W.keepIn K (.ref f__law_truth) = true)
    (a__law_first_bad : PySem.W.nsIn K mainGlobals "_law_first_bad" = some (some (.ref f__law_first_bad)))
    (l__law_first_bad : K.lookup f__law_first_bad = some ⟨oc__law_first_bad, od__law_first_bad, .func (PySem.W.fnOf "_law_first_bad" "_law_first_bad" (defArgs s__law_first_bad) (defBody s__law_first_bad) (defScope s__law_first_bad) .none kV__law_first_bad dc__law_first_bad pm__law_first_bad an__law_first_bad cd__law_first_bad ct__law_first_bad), sl__law_first_bad⟩)
    (c__law_first_bad : PySem.W.codeIn K cd__law_first_bad "_law_first_bad" = true)
    (k__law_first_bad : PySem.W.keepIn K (.ref f__law_first_bad) = true)
    (a__law_table : PySem.W.nsIn K mainGlobals "_law_table" = some (some (.ref f__law_table)))
    (l__law_table : K.lookup f__law_table = some ⟨oc__law_table, od__law_table, .func (PySem.W.fnOf "_law_table" "_law_table" (defArgs s__law_table) (defBody s__law_table) (defScope s__law_table) .none kV__law_table dc__law_table pm__law_table an__law_table cd__law_table ct__law_table), sl__law_table⟩)
    (c__law_table : PySem.W.codeIn K cd__law_table "_law_table" = true)
    (k__law_table : PySem.W.keepIn K (.ref f__law_table) = true)
    (a__law_ties : PySem.W.nsIn K mainGlobals "_law_ties" = some (some (.ref f__law_ties)))
    (l__law_ties : K.lookup f__law_ties = some ⟨oc__law_ties, od__law_ties, .func (PySem.W.fnOf "_law_ties" "_law_ties" (defArgs s__law_ties) (defBody s__law_ties) (defScope s__law_ties) .none kV__law_ties dc__law_ties pm__law_ties an__law_ties cd__law_ties ct__law_ties), sl__law_ties⟩)
    (c__law_ties : PySem.W.codeIn K cd__law_ties "_law_ties" = true)
    (k__law_ties : PySem.W.keepIn K (.ref f__law_ties) = true)
    (a__law_named_table : PySem.W.nsIn K mainGlobals "_law_named_table" = some (some (.ref f__law_named_table)))
    (l__law_named_table : K.lookup f__law_named_table = some ⟨oc__law_named_table, od__law_named_table, .func (PySem.W.fnOf "_law_named_table" "_law_named_table" (defArgs s__law_named_table) (defBody s__law_named_table) (defScope s__law_named_table) .none kV__law_named_table dc__law_named_table pm__law_named_table an__law_named_table cd__law_named_table ct__law_named_table), sl__law_named_table⟩)
    (c__law_named_table : PySem.W.codeIn K cd__law_named_table "_law_named_table" = true)
    (k__law_named_table : PySem.W.keepIn K (.ref f__law_named_table) = true)
    (a__law_great : PySem.W.nsIn K mainGlobals "_law_great" = some (some (.ref f__law_great)))
    (l__law_great : K.lookup f__law_great = some ⟨oc__law_great, od__law_great, .func (PySem.W.fnOf "_law_great" "_law_great" (defArgs s__law_great) (defBody s__law_great) (defScope s__law_great) .none kV__law_great dc__law_great pm__law_great an__law_great cd__law_great ct__law_great), sl__law_great⟩)
    (c__law_great : PySem.W.codeIn K cd__law_great "_law_great" = true)
    (k__law_great : PySem.W.keepIn K (.ref f__law_great) = true)
    (a__law_is_pair : PySem.W.nsIn K mainGlobals "_law_is_pair" = some (some (.ref f__law_is_pair)))
    (l__law_is_pair : K.lookup f__law_is_pair = some ⟨oc__law_is_pair, od__law_is_pair, .func (PySem.W.fnOf "_law_is_pair" "_law_is_pair" (defArgs s__law_is_pair) (defBody s__law_is_pair) (defScope s__law_is_pair) .none kV__law_is_pair dc__law_is_pair pm__law_is_pair an__law_is_pair cd__law_is_pair ct__law_is_pair), sl__law_is_pair⟩)
    (c__law_is_pair : PySem.W.codeIn K cd__law_is_pair "_law_is_pair" = true)
    (k__law_is_pair : PySem.W.keepIn K (.ref f__law_is_pair) = true)
    (a__law_ints_are : PySem.W.nsIn K mainGlobals "_law_ints_are" = some (some (.ref f__law_ints_are)))
    (l__law_ints_are : K.lookup f__law_ints_are = some ⟨oc__law_ints_are, od__law_ints_are, .func (PySem.W.fnOf "_law_ints_are" "_law_ints_are" (defArgs s__law_ints_are) (defBody s__law_ints_are) (defScope s__law_ints_are) .none kV__law_ints_are dc__law_ints_are pm__law_ints_are an__law_ints_are cd__law_ints_are ct__law_ints_are), sl__law_ints_are⟩)
    (c__law_ints_are : PySem.W.codeIn K cd__law_ints_are "_law_ints_are" = true)
    (k__law_ints_are : PySem.W.keepIn K (.ref f__law_ints_are) = true)
    (a__law_count : PySem.W.nsIn K mainGlobals "_law_count" = some (some (.ref f__law_count)))
    (l__law_count : K.lookup f__law_count = some ⟨oc__law_count, od__law_count, .func (PySem.W.fnOf "_law_count" "_law_count" (defArgs s__law_count) (defBody s__law_count) (defScope s__law_count) .none kV__law_count dc__law_count pm__law_count an__law_count cd__law_count ct__law_count), sl__law_count⟩)
    (c__law_count : PySem.W.codeIn K cd__law_count "_law_count" = true)
    (k__law_count : PySem.W.keepIn K (.ref f__law_count) = true)
    (a__law_pair : PySem.W.nsIn K mainGlobals "_law_pair" = some (some (.ref f__law_pair)))
    (l__law_pair : K.lookup f__law_pair = some ⟨oc__law_pair, od__law_pair, .func (PySem.W.fnOf "_law_pair" "_law_pair" (defArgs s__law_pair) (defBody s__law_pair) (defScope s__law_pair) .none kV__law_pair dc__law_pair pm__law_pair an__law_pair cd__law_pair ct__law_pair), sl__law_pair⟩)
    (c__law_pair : PySem.W.codeIn K cd__law_pair "_law_pair" = true)
    (k__law_pair : PySem.W.keepIn K (.ref f__law_pair) = true)
    (a_Net_sources : PySem.W.findIn K (.ref C_Net) "sources" = some (some (.ref f_Net_sources)))
    (i_Net_sources : PySem.W.isFn K (.ref f_Net_sources) = true)
    (l_Net_sources : K.lookup f_Net_sources = some ⟨oc_Net_sources, od_Net_sources, .func (PySem.W.fnOf "sources" "Net.sources" (defArgs s_Net_sources) (defBody s_Net_sources) (defScope s_Net_sources) .none kV_Net_sources dc_Net_sources pm_Net_sources an_Net_sources cd_Net_sources ct_Net_sources), sl_Net_sources⟩)
    (c_Net_sources : PySem.W.codeIn K cd_Net_sources "Net.sources" = true)
    (k_Net_sources : PySem.W.keepIn K (.ref f_Net_sources) = true)
    (a_Net_readers : PySem.W.findIn K (.ref C_Net) "readers" = some (some (.ref f_Net_readers)))
    (i_Net_readers : PySem.W.isFn K (.ref f_Net_readers) = true)
    (l_Net_readers : K.lookup f_Net_readers = some ⟨oc_Net_readers, od_Net_readers, .func (PySem.W.fnOf "readers" "Net.readers" (defArgs s_Net_readers) (defBody s_Net_readers) (defScope s_Net_readers) .none kV_Net_readers dc_Net_readers pm_Net_readers an_Net_readers cd_Net_readers ct_Net_readers), sl_Net_readers⟩)
    (c_Net_readers : PySem.W.codeIn K cd_Net_readers "Net.readers" = true)
    (k_Net_readers : PySem.W.keepIn K (.ref f_Net_readers) = true)
    (a__check_count : PySem.W.nsIn K mainGlobals "_check_count" = some (some (.ref f__check_count)))
    (l__check_count : K.lookup f__check_count = some ⟨oc__check_count, od__check_count, .func (PySem.W.fnOf "_check_count" "_check_count" (defArgs s__check_count) (defBody s__check_count) (defScope s__check_count) .none kV__check_count dc__check_count pm__check_count an__check_count cd__check_count ct__check_count), sl__check_count⟩)
    (c__check_count : PySem.W.codeIn K cd__check_count "_check_count" = true)
    (k__check_count : PySem.W.keepIn K (.ref f__check_count) = true)
    (a__law_stranger : PySem.W.nsIn K mainGlobals "_law_stranger" = some (some (.ref f__law_stranger)))
    (l__law_stranger : K.lookup f__law_stranger = some ⟨oc__law_stranger, od__law_stranger, .func (PySem.W.fnOf "_law_stranger" "_law_stranger" (defArgs s__law_stranger) (defBody s__law_stranger) (defScope s__law_stranger) .none kV__law_stranger dc__law_stranger pm__law_stranger an__law_stranger cd__law_stranger ct__law_stranger), sl__law_stranger⟩)
    (c__law_stranger : PySem.W.codeIn K cd__law_stranger "_law_stranger" = true)
    (k__law_stranger : PySem.W.keepIn K (.ref f__law_stranger) = true)
    (a__law_pairs_are : PySem.W.nsIn K mainGlobals "_law_pairs_are" = some (some (.ref f__law_pairs_are)))
    (l__law_pairs_are : K.lookup f__law_pairs_are = some ⟨oc__law_pairs_are, od__law_pairs_are, .func (PySem.W.fnOf "_law_pairs_are" "_law_pairs_are" (defArgs s__law_pairs_are) (defBody s__law_pairs_are) (defScope s__law_pairs_are) .none kV__law_pairs_are dc__law_pairs_are pm__law_pairs_are an__law_pairs_are cd__law_pairs_are ct__law_pairs_are), sl__law_pairs_are⟩)
    (c__law_pairs_are : PySem.W.codeIn K cd__law_pairs_are "_law_pairs_are" = true)
    (k__law_pairs_are : PySem.W.keepIn K (.ref f__law_pairs_are) = true)
    (a__law_good_pairs : PySem.W.nsIn K mainGlobals "_law_good_pairs" = some (some (.ref f__law_good_pairs)))
    (l__law_good_pairs : K.lookup f__law_good_pairs = some ⟨oc__law_good_pairs, od__law_good_pairs, .func (PySem.W.fnOf "_law_good_pairs" "_law_good_pairs" (defArgs s__law_good_pairs) (defBody s__law_good_pairs) (defScope s__law_good_pairs) .none kV__law_good_pairs dc__law_good_pairs pm__law_good_pairs an__law_good_pairs cd__law_good_pairs ct__law_good_pairs), sl__law_good_pairs⟩)
    (c__law_good_pairs : PySem.W.codeIn K cd__law_good_pairs "_law_good_pairs" = true)
    (k__law_good_pairs : PySem.W.keepIn K (.ref f__law_good_pairs) = true)
    (a__law_refused : PySem.W.nsIn K mainGlobals "_law_refused" = some (some (.ref f__law_refused)))
    (l__law_refused : K.lookup f__law_refused = some ⟨oc__law_refused, od__law_refused, .func (PySem.W.fnOf "_law_refused" "_law_refused" (defArgs s__law_refused) (defBody s__law_refused) (defScope s__law_refused) .none kV__law_refused dc__law_refused pm__law_refused an__law_refused cd__law_refused ct__law_refused), sl__law_refused⟩)
    (c__law_refused : PySem.W.codeIn K cd__law_refused "_law_refused" = true)
    (k__law_refused : PySem.W.keepIn K (.ref f__law_refused) = true)
    (a__law_wrong_count : PySem.W.nsIn K mainGlobals "_law_wrong_count" = some (some (.ref f__law_wrong_count)))
    (l__law_wrong_count : K.lookup f__law_wrong_count = some ⟨oc__law_wrong_count, od__law_wrong_count, .func (PySem.W.fnOf "_law_wrong_count" "_law_wrong_count" (defArgs s__law_wrong_count) (defBody s__law_wrong_count) (defScope s__law_wrong_count) .none kV__law_wrong_count dc__law_wrong_count pm__law_wrong_count an__law_wrong_count cd__law_wrong_count ct__law_wrong_count), sl__law_wrong_count⟩)
    (c__law_wrong_count : PySem.W.codeIn K cd__law_wrong_count "_law_wrong_count" = true)
    (k__law_wrong_count : PySem.W.keepIn K (.ref f__law_wrong_count) = true)
    (a_Net___init__ : PySem.W.findIn K (.ref C_Net) "__init__" = some (some (.ref f_Net___init__)))
    (i_Net___init__ : PySem.W.isFn K (.ref f_Net___init__) = true)
    (l_Net___init__ : K.lookup f_Net___init__ = some ⟨oc_Net___init__, od_Net___init__, .func (PySem.W.fnOf "__init__" "Net.__init__" (defArgs s_Net___init__) (defBody s_Net___init__) (defScope s_Net___init__) .none kV_Net___init__ dc_Net___init__ pm_Net___init__ an_Net___init__ cd_Net___init__ ct_Net___init__), sl_Net___init__⟩)
    (c_Net___init__ : PySem.W.codeIn K cd_Net___init__ "Net.__init__" = true)
    (k_Net___init__ : PySem.W.keepIn K (.ref f_Net___init__) = true)
    (a__law_bad_pair : PySem.W.nsIn K mainGlobals "_law_bad_pair" = some (some (.ref f__law_bad_pair)))
    (l__law_bad_pair : K.lookup f__law_bad_pair = some ⟨oc__law_bad_pair, od__law_bad_pair, .func (PySem.W.fnOf "_law_bad_pair" "_law_bad_pair" (defArgs s__law_bad_pair) (defBody s__law_bad_pair) (defScope s__law_bad_pair) .none kV__law_bad_pair dc__law_bad_pair pm__law_bad_pair an__law_bad_pair cd__law_bad_pair ct__law_bad_pair), sl__law_bad_pair⟩)
    (c__law_bad_pair : PySem.W.codeIn K cd__law_bad_pair "_law_bad_pair" = true)
    (k__law_bad_pair : PySem.W.keepIn K (.ref f__law_bad_pair) = true)
    (a__law_row : PySem.W.nsIn K mainGlobals "_law_row" = some (some (.ref f__law_row)))
    (l__law_row : K.lookup f__law_row = some ⟨oc__law_row, od__law_row, .func (PySem.W.fnOf "_law_row" "_law_row" (defArgs s__law_row) (defBody s__law_row) (defScope s__law_row) .none kV__law_row dc__law_row pm__law_row an__law_row cd__law_row ct__law_row), sl__law_row⟩)
    (c__law_row : PySem.W.codeIn K cd__law_row "_law_row" = true)
    (k__law_row : PySem.W.keepIn K (.ref f__law_row) = true)
    (a__law_has : PySem.W.nsIn K mainGlobals "_law_has" = some (some (.ref f__law_has)))
    (l__law_has : K.lookup f__law_has = some ⟨oc__law_has, od__law_has, .func (PySem.W.fnOf "_law_has" "_law_has" (defArgs s__law_has) (defBody s__law_has) (defScope s__law_has) .none kV__law_has dc__law_has pm__law_has an__law_has cd__law_has ct__law_has), sl__law_has⟩)
    (c__law_has : PySem.W.codeIn K cd__law_has "_law_has" = true)
    (k__law_has : PySem.W.keepIn K (.ref f__law_has) = true)
    (a__law_spoilt : PySem.W.nsIn K mainGlobals "_law_spoilt" = some (some (.ref f__law_spoilt)))
    (l__law_spoilt : K.lookup f__law_spoilt = some ⟨oc__law_spoilt, od__law_spoilt, .func (PySem.W.fnOf "_law_spoilt" "_law_spoilt" (defArgs s__law_spoilt) (defBody s__law_spoilt) (defScope s__law_spoilt) .none kV__law_spoilt dc__law_spoilt pm__law_spoilt an__law_spoilt cd__law_spoilt ct__law_spoilt), sl__law_spoilt⟩)
    (c__law_spoilt : PySem.W.codeIn K cd__law_spoilt "_law_spoilt" = true)
    (k__law_spoilt : PySem.W.keepIn K (.ref f__law_spoilt) = true)
    (a__law_row_is : PySem.W.nsIn K mainGlobals "_law_row_is" = some (some (.ref f__law_row_is)))
    (l__law_row_is : K.lookup f__law_row_is = some ⟨oc__law_row_is, od__law_row_is, .func (PySem.W.fnOf "_law_row_is" "_law_row_is" (defArgs s__law_row_is) (defBody s__law_row_is) (defScope s__law_row_is) .none kV__law_row_is dc__law_row_is pm__law_row_is an__law_row_is cd__law_row_is ct__law_row_is), sl__law_row_is⟩)
    (c__law_row_is : PySem.W.codeIn K cd__law_row_is "_law_row_is" = true)
    (k__law_row_is : PySem.W.keepIn K (.ref f__law_row_is) = true)
    (a__law_unknown : PySem.W.nsIn K mainGlobals "_law_unknown" = some (some (.ref f__law_unknown)))
    (l__law_unknown : K.lookup f__law_unknown = some ⟨oc__law_unknown, od__law_unknown, .func (PySem.W.fnOf "_law_unknown" "_law_unknown" (defArgs s__law_unknown) (defBody s__law_unknown) (defScope s__law_unknown) .none kV__law_unknown dc__law_unknown pm__law_unknown an__law_unknown cd__law_unknown ct__law_unknown), sl__law_unknown⟩)
    (c__law_unknown : PySem.W.codeIn K cd__law_unknown "_law_unknown" = true)
    (k__law_unknown : PySem.W.keepIn K (.ref f__law_unknown) = true)
    (a__law_deed_pair : PySem.W.nsIn K mainGlobals "_law_deed_pair" = some (some (.ref f__law_deed_pair)))
    (l__law_deed_pair : K.lookup f__law_deed_pair = some ⟨oc__law_deed_pair, od__law_deed_pair, .func (PySem.W.fnOf "_law_deed_pair" "_law_deed_pair" (defArgs s__law_deed_pair) (defBody s__law_deed_pair) (defScope s__law_deed_pair) .none kV__law_deed_pair dc__law_deed_pair pm__law_deed_pair an__law_deed_pair cd__law_deed_pair ct__law_deed_pair), sl__law_deed_pair⟩)
    (c__law_deed_pair : PySem.W.codeIn K cd__law_deed_pair "_law_deed_pair" = true)
    (k__law_deed_pair : PySem.W.keepIn K (.ref f__law_deed_pair) = true)
    (a_Net_both_ways : PySem.W.findCls K (.ref C_Net) (.type "type") "both_ways" = some (.get (.builtin "classmethod.__get__") (.ref p_Net_both_ways) .none (.ref C_Net)))
    (pr_Net_both_ways : PySem.W.recIn K p_Net_both_ways "classmethod" = some (.ref f_Net_both_ways :: rs_Net_both_ways))
    (i_Net_both_ways : PySem.W.fnIn K f_Net_both_ways = true)
    (l_Net_both_ways : K.lookup f_Net_both_ways = some ⟨oc_Net_both_ways, od_Net_both_ways, .func (PySem.W.fnOf "both_ways" "Net.both_ways" (defArgs s_Net_both_ways) (defBody s_Net_both_ways) (defScope s_Net_both_ways) .none kV_Net_both_ways dc_Net_both_ways pm_Net_both_ways an_Net_both_ways cd_Net_both_ways ct_Net_both_ways), sl_Net_both_ways⟩)
    (c_Net_both_ways : PySem.W.codeIn K cd_Net_both_ways "Net.both_ways" = true)
    (k_Net_both_ways : PySem.W.keepIn K (.ref f_Net_both_ways) = true)
    (a_Net_ring : PySem.W.findCls K (.ref C_Net) (.type "type") "ring" = some (.get (.builtin "classmethod.__get__") (.ref p_Net_ring) .none (.ref C_Net)))
    (pr_Net_ring : PySem.W.recIn K p_Net_ring "classmethod" = some (.ref f_Net_ring :: rs_Net_ring))
    (i_Net_ring : PySem.W.fnIn K f_Net_ring = true)
    (l_Net_ring : K.lookup f_Net_ring = some ⟨oc_Net_ring, od_Net_ring, .func (PySem.W.fnOf "ring" "Net.ring" (defArgs s_Net_ring) (defBody s_Net_ring) (defScope s_Net_ring) .none kV_Net_ring dc_Net_ring pm_Net_ring an_Net_ring cd_Net_ring ct_Net_ring), sl_Net_ring⟩)
    (c_Net_ring : PySem.W.codeIn K cd_Net_ring "Net.ring" = true)
    (k_Net_ring : PySem.W.keepIn K (.ref f_Net_ring) = true)
    (a_Net_with_link : PySem.W.findIn K (.ref C_Net) "with_link" = some (some (.ref f_Net_with_link)))
    (i_Net_with_link : PySem.W.isFn K (.ref f_Net_with_link) = true)
    (l_Net_with_link : K.lookup f_Net_with_link = some ⟨oc_Net_with_link, od_Net_with_link, .func (PySem.W.fnOf "with_link" "Net.with_link" (defArgs s_Net_with_link) (defBody s_Net_with_link) (defScope s_Net_with_link) .none kV_Net_with_link dc_Net_with_link pm_Net_with_link an_Net_with_link cd_Net_with_link ct_Net_with_link), sl_Net_with_link⟩)
    (c_Net_with_link : PySem.W.codeIn K cd_Net_with_link "Net.with_link" = true)
    (k_Net_with_link : PySem.W.keepIn K (.ref f_Net_with_link) = true)
    (a_Net_without_link : PySem.W.findIn K (.ref C_Net) "without_link" = some (some (.ref f_Net_without_link)))
    (i_Net_without_link : PySem.W.isFn K (.ref f_Net_without_link) = true)
    (l_Net_without_link : K.lookup f_Net_without_link = some ⟨oc_Net_without_link, od_Net_without_link, .func (PySem.W.fnOf "without_link" "Net.without_link" (defArgs s_Net_without_link) (defBody s_Net_without_link) (defScope s_Net_without_link) .none kV_Net_without_link dc_Net_without_link pm_Net_without_link an_Net_without_link cd_Net_without_link ct_Net_without_link), sl_Net_without_link⟩)
    (c_Net_without_link : PySem.W.codeIn K cd_Net_without_link "Net.without_link" = true)
    (k_Net_without_link : PySem.W.keepIn K (.ref f_Net_without_link) = true)
    (a__law_net_is : PySem.W.nsIn K mainGlobals "_law_net_is" = some (some (.ref f__law_net_is)))
    (l__law_net_is : K.lookup f__law_net_is = some ⟨oc__law_net_is, od__law_net_is, .func (PySem.W.fnOf "_law_net_is" "_law_net_is" (defArgs s__law_net_is) (defBody s__law_net_is) (defScope s__law_net_is) .none kV__law_net_is dc__law_net_is pm__law_net_is an__law_net_is cd__law_net_is ct__law_net_is), sl__law_net_is⟩)
    (c__law_net_is : PySem.W.codeIn K cd__law_net_is "_law_net_is" = true)
    (k__law_net_is : PySem.W.keepIn K (.ref f__law_net_is) = true)
    (a_Net_line : PySem.W.findCls K (.ref C_Net) (.type "type") "line" = some (.get (.builtin "classmethod.__get__") (.ref p_Net_line) .none (.ref C_Net)))
    (pr_Net_line : PySem.W.recIn K p_Net_line "classmethod" = some (.ref f_Net_line :: rs_Net_line))
    (i_Net_line : PySem.W.fnIn K f_Net_line = true)
    (l_Net_line : K.lookup f_Net_line = some ⟨oc_Net_line, od_Net_line, .func (PySem.W.fnOf "line" "Net.line" (defArgs s_Net_line) (defBody s_Net_line) (defScope s_Net_line) .none kV_Net_line dc_Net_line pm_Net_line an_Net_line cd_Net_line ct_Net_line), sl_Net_line⟩)
    (c_Net_line : PySem.W.codeIn K cd_Net_line "Net.line" = true)
    (k_Net_line : PySem.W.keepIn K (.ref f_Net_line) = true)
    (a_Net_star : PySem.W.findCls K (.ref C_Net) (.type "type") "star" = some (.get (.builtin "classmethod.__get__") (.ref p_Net_star) .none (.ref C_Net)))
    (pr_Net_star : PySem.W.recIn K p_Net_star "classmethod" = some (.ref f_Net_star :: rs_Net_star))
    (i_Net_star : PySem.W.fnIn K f_Net_star = true)
    (l_Net_star : K.lookup f_Net_star = some ⟨oc_Net_star, od_Net_star, .func (PySem.W.fnOf "star" "Net.star" (defArgs s_Net_star) (defBody s_Net_star) (defScope s_Net_star) .none kV_Net_star dc_Net_star pm_Net_star an_Net_star cd_Net_star ct_Net_star), sl_Net_star⟩)
    (c_Net_star : PySem.W.codeIn K cd_Net_star "Net.star" = true)
    (k_Net_star : PySem.W.keepIn K (.ref f_Net_star) = true)
    (a_Net_complete : PySem.W.findCls K (.ref C_Net) (.type "type") "complete" = some (.get (.builtin "classmethod.__get__") (.ref p_Net_complete) .none (.ref C_Net)))
    (pr_Net_complete : PySem.W.recIn K p_Net_complete "classmethod" = some (.ref f_Net_complete :: rs_Net_complete))
    (i_Net_complete : PySem.W.fnIn K f_Net_complete = true)
    (l_Net_complete : K.lookup f_Net_complete = some ⟨oc_Net_complete, od_Net_complete, .func (PySem.W.fnOf "complete" "Net.complete" (defArgs s_Net_complete) (defBody s_Net_complete) (defScope s_Net_complete) .none kV_Net_complete dc_Net_complete pm_Net_complete an_Net_complete cd_Net_complete ct_Net_complete), sl_Net_complete⟩)
    (c_Net_complete : PySem.W.codeIn K cd_Net_complete "Net.complete" = true)
    (k_Net_complete : PySem.W.keepIn K (.ref f_Net_complete) = true)
    (a__law_changed : PySem.W.nsIn K mainGlobals "_law_changed" = some (some (.ref f__law_changed)))
    (l__law_changed : K.lookup f__law_changed = some ⟨oc__law_changed, od__law_changed, .func (PySem.W.fnOf "_law_changed" "_law_changed" (defArgs s__law_changed) (defBody s__law_changed) (defScope s__law_changed) .none kV__law_changed dc__law_changed pm__law_changed an__law_changed cd__law_changed ct__law_changed), sl__law_changed⟩)
    (c__law_changed : PySem.W.codeIn K cd__law_changed "_law_changed" = true)
    (k__law_changed : PySem.W.keepIn K (.ref f__law_changed) = true)
    (a__law_call : PySem.W.nsIn K mainGlobals "_law_call" = some (some (.ref f__law_call)))
    (l__law_call : K.lookup f__law_call = some ⟨oc__law_call, od__law_call, .func (PySem.W.fnOf "_law_call" "_law_call" (defArgs s__law_call) (defBody s__law_call) (defScope s__law_call) .none kV__law_call dc__law_call pm__law_call an__law_call cd__law_call ct__law_call), sl__law_call⟩)
    (c__law_call : PySem.W.codeIn K cd__law_call "_law_call" = true)
    (k__law_call : PySem.W.keepIn K (.ref f__law_call) = true)
    (a__law_deed : PySem.W.nsIn K mainGlobals "_law_deed" = some (some (.ref f__law_deed)))
    (l__law_deed : K.lookup f__law_deed = some ⟨oc__law_deed, od__law_deed, .func (PySem.W.fnOf "_law_deed" "_law_deed" (defArgs s__law_deed) (defBody s__law_deed) (defScope s__law_deed) .none kV__law_deed dc__law_deed pm__law_deed an__law_deed cd__law_deed ct__law_deed), sl__law_deed⟩)
    (c__law_deed : PySem.W.codeIn K cd__law_deed "_law_deed" = true)
    (k__law_deed : PySem.W.keepIn K (.ref f__law_deed) = true)
    (a__law_made : PySem.W.nsIn K mainGlobals "_law_made" = some (some (.ref f__law_made)))
    (l__law_made : K.lookup f__law_made = some ⟨oc__law_made, od__law_made, .func (PySem.W.fnOf "_law_made" "_law_made" (defArgs s__law_made) (defBody s__law_made) (defScope s__law_made) .none kV__law_made dc__law_made pm__law_made an__law_made cd__law_made ct__law_made), sl__law_made⟩)
    (c__law_made : PySem.W.codeIn K cd__law_made "_law_made" = true)
    (k__law_made : PySem.W.keepIn K (.ref f__law_made) = true)
    (a__law_deeds : PySem.W.nsIn K mainGlobals "_law_deeds" = some (some (.ref f__law_deeds)))
    (l__law_deeds : K.lookup f__law_deeds = some ⟨oc__law_deeds, od__law_deeds, .func (PySem.W.fnOf "_law_deeds" "_law_deeds" (defArgs s__law_deeds) (defBody s__law_deeds) (defScope s__law_deeds) .none kV__law_deeds dc__law_deeds pm__law_deeds an__law_deeds cd__law_deeds ct__law_deeds), sl__law_deeds⟩)
    (c__law_deeds : PySem.W.codeIn K cd__law_deeds "_law_deeds" = true)
    (k__law_deeds : PySem.W.keepIn K (.ref f__law_deeds) = true)
    (a__law_builds : PySem.W.nsIn K mainGlobals "_law_builds" = some (some (.ref f__law_builds)))
    (l__law_builds : K.lookup f__law_builds = some ⟨oc__law_builds, od__law_builds, .func (PySem.W.fnOf "_law_builds" "_law_builds" (defArgs s__law_builds) (defBody s__law_builds) (defScope s__law_builds) .none kV__law_builds dc__law_builds pm__law_builds an__law_builds cd__law_builds ct__law_builds), sl__law_builds⟩)
    (c__law_builds : PySem.W.codeIn K cd__law_builds "_law_builds" = true)
    (k__law_builds : PySem.W.keepIn K (.ref f__law_builds) = true)
    (a__law_named : PySem.W.nsIn K mainGlobals "_law_named" = some (some (.ref f__law_named)))
    (l__law_named : K.lookup f__law_named = some ⟨oc__law_named, od__law_named, .func (PySem.W.fnOf "_law_named" "_law_named" (defArgs s__law_named) (defBody s__law_named) (defScope s__law_named) .none kV__law_named dc__law_named pm__law_named an__law_named cd__law_named ct__law_named), sl__law_named⟩)
    (c__law_named : PySem.W.codeIn K cd__law_named "_law_named" = true)
    (k__law_named : PySem.W.keepIn K (.ref f__law_named) = true)
    (a__law_counts : PySem.W.nsIn K mainGlobals "_law_counts" = some (some (.ref f__law_counts)))
    (l__law_counts : K.lookup f__law_counts = some ⟨oc__law_counts, od__law_counts, .func (PySem.W.fnOf "_law_counts" "_law_counts" (defArgs s__law_counts) (defBody s__law_counts) (defScope s__law_counts) .none kV__law_counts dc__law_counts pm__law_counts an__law_counts cd__law_counts ct__law_counts), sl__law_counts⟩)
    (c__law_counts : PySem.W.codeIn K cd__law_counts "_law_counts" = true)
    (k__law_counts : PySem.W.keepIn K (.ref f__law_counts) = true)
    (a_law : PySem.W.nsIn K mainGlobals "law" = some (some (.ref f_law)))
    (l_law : K.lookup f_law = some ⟨oc_law, od_law, .func (PySem.W.fnOf "law" "law" (defArgs s_law) (defBody s_law) (defScope s_law) .none kV_law dc_law pm_law an_law cd_law ct_law), sl_law⟩)
    (c_law : PySem.W.codeIn K cd_law "law" = true)
    (k_law : PySem.W.keepIn K (.ref f_law) = true)
    (a_InvalidNet___init__ : PySem.W.findIn K (.ref C_InvalidNet) "__init__" = some (some (.ref f_InvalidNet___init__)))
    (l_InvalidNet___init__ : K.lookup f_InvalidNet___init__ = some ⟨oc_InvalidNet___init__, od_InvalidNet___init__, .func (PySem.W.ksFn "__init__" "InvalidNet.__init__" (defArgs s_InvalidNet___init__) (defBody s_InvalidNet___init__) (defScope s_InvalidNet___init__) .none kV_InvalidNet___init__ dc_InvalidNet___init__ pm_InvalidNet___init__ an_InvalidNet___init__ (.ref da_InvalidNet) ct_InvalidNet___init__ cc_InvalidNet), sl_InvalidNet___init__⟩)
    (c_InvalidNet___init__ : PySem.W.codeIn K (.ref da_InvalidNet) "InvalidNet.__init__" = true)
    (y_InvalidNet___init__ : PySem.W.typeIn K (.ref f_InvalidNet___init__) = some (.type "function"))
    (oc_InvalidNet : K.lookup C_InvalidNet = some (excClassObj nm_InvalidNet q_InvalidNet C_InvalidNet N_InvalidNet bs_InvalidNet bm_InvalidNet true sn_InvalidNet sub_InvalidNet ab_InvalidNet col_InvalidNet dd_InvalidNet k0_InvalidNet k1_InvalidNet k2_InvalidNet k3_InvalidNet k5_InvalidNet "ValueError.__new__"))
    (ob_InvalidNet : PySem.HandSPX.refsVE bm_InvalidNet = true)
    (os_InvalidNet : PySem.W.findIn K (.ref C_InvalidNet) "__setattr__" = some (some (.builtin "object.__setattr__")))
    (ok_InvalidNet : PySem.W.keepIn K (.ref C_InvalidNet) = true)
    (cl_InvalidNet : K.lookup da_InvalidNet = some ⟨zc_InvalidNet, zd_InvalidNet, .fields zv_InvalidNet, zs_InvalidNet⟩)
    (cv_InvalidNet : zv_InvalidNet[2]? = some (.str fl_InvalidNet ft_InvalidNet))
    (cf_InvalidNet : ((l.prog.main.file : Str) == fl_InvalidNet) = true)
    (ce_InvalidNet : K.lookup cc_InvalidNet = some ⟨ec_InvalidNet, ed_InvalidNet, .cell (some (.ref C_InvalidNet)), es_InvalidNet⟩)
    (om_InvalidNet : PySem.W.mroIn K C_InvalidNet (.ref C_InvalidNet) = some true)
    (oi_InvalidNet : PySem.W.ks_superIn K C_InvalidNet C_InvalidNet "__init__" = some (some (.builtin "ValueError.__init__")))
    (ov_InvalidNet : PySem.W.subIn K (.ref C_InvalidNet) (.type "ValueError") = some true)
    (on_InvalidNet_link : PySem.W.findIn K (.ref C_InvalidNet) "link" = some none)
    (a_NotLinked___init__ : PySem.W.findIn K (.ref C_NotLinked) "__init__" = some (some (.ref f_NotLinked___init__)))
    (l_NotLinked___init__ : K.lookup f_NotLinked___init__ = some ⟨oc_NotLinked___init__, od_NotLinked___init__, .func (PySem.W.ksFn "__init__" "NotLinked.__init__" (defArgs s_NotLinked___init__) (defBody s_NotLinked___init__) (defScope s_NotLinked___init__) .none kV_NotLinked___init__ dc_NotLinked___init__ pm_NotLinked___init__ an_NotLinked___init__ (.ref da_NotLinked) ct_NotLinked___init__ cc_NotLinked), sl_NotLinked___init__⟩)
    (c_NotLinked___init__ : PySem.W.codeIn K (.ref da_NotLinked) "NotLinked.__init__" = true)
    (y_NotLinked___init__ : PySem.W.typeIn K (.ref f_NotLinked___init__) = some (.type "function"))
    (oc_NotLinked : K.lookup C_NotLinked = some (excClassObj nm_NotLinked q_NotLinked C_NotLinked N_NotLinked bs_NotLinked bm_NotLinked true sn_NotLinked sub_NotLinked ab_NotLinked col_NotLinked dd_NotLinked k0_NotLinked k1_NotLinked k2_NotLinked k3_NotLinked k5_NotLinked "ValueError.__new__"))
    (ob_NotLinked : PySem.HandSPX.refsVE bm_NotLinked = true)
    (os_NotLinked : PySem.W.findIn K (.ref C_NotLinked) "__setattr__" = some (some (.builtin "object.__setattr__")))
    (ok_NotLinked : PySem.W.keepIn K (.ref C_NotLinked) = true)
    (cl_NotLinked : K.lookup da_NotLinked = some ⟨zc_NotLinked, zd_NotLinked, .fields zv_NotLinked, zs_NotLinked⟩)
    (cv_NotLinked : zv_NotLinked[2]? = some (.str fl_NotLinked ft_NotLinked))
    (cf_NotLinked : ((l.prog.main.file : Str) == fl_NotLinked) = true)
    (ce_NotLinked : K.lookup cc_NotLinked = some ⟨ec_NotLinked, ed_NotLinked, .cell (some (.ref C_NotLinked)), es_NotLinked⟩)
    (om_NotLinked : PySem.W.mroIn K C_NotLinked (.ref C_NotLinked) = some true)
    (oi_NotLinked : PySem.W.ks_superIn K C_NotLinked C_NotLinked "__init__" = some (some (.builtin "ValueError.__init__")))
    (ov_NotLinked : PySem.W.subIn K (.ref C_NotLinked) (.type "ValueError") = some true)
    (on_NotLinked_source : PySem.W.findIn K (.ref C_NotLinked) "source" = some none)
    (on_NotLinked_reader : PySem.W.findIn K (.ref C_NotLinked) "reader" = some none)
    (a_UnknownReplica___init__ : PySem.W.findIn K (.ref C_UnknownReplica) "__init__" = some (some (.ref f_UnknownReplica___init__)))
    (l_UnknownReplica___init__ : K.lookup f_UnknownReplica___init__ = some ⟨oc_UnknownReplica___init__, od_UnknownReplica___init__, .func (PySem.W.ksFn "__init__" "UnknownReplica.__init__" (defArgs s_UnknownReplica___init__) (defBody s_UnknownReplica___init__) (defScope s_UnknownReplica___init__) .none kV_UnknownReplica___init__ dc_UnknownReplica___init__ pm_UnknownReplica___init__ an_UnknownReplica___init__ (.ref da_UnknownReplica) ct_UnknownReplica___init__ cc_UnknownReplica), sl_UnknownReplica___init__⟩)
    (c_UnknownReplica___init__ : PySem.W.codeIn K (.ref da_UnknownReplica) "UnknownReplica.__init__" = true)
    (y_UnknownReplica___init__ : PySem.W.typeIn K (.ref f_UnknownReplica___init__) = some (.type "function"))
    (oc_UnknownReplica : K.lookup C_UnknownReplica = some (excClassObj nm_UnknownReplica q_UnknownReplica C_UnknownReplica N_UnknownReplica bs_UnknownReplica bm_UnknownReplica true sn_UnknownReplica sub_UnknownReplica ab_UnknownReplica col_UnknownReplica dd_UnknownReplica k0_UnknownReplica k1_UnknownReplica k2_UnknownReplica k3_UnknownReplica k5_UnknownReplica "ValueError.__new__"))
    (ob_UnknownReplica : PySem.HandSPX.refsVE bm_UnknownReplica = true)
    (os_UnknownReplica : PySem.W.findIn K (.ref C_UnknownReplica) "__setattr__" = some (some (.builtin "object.__setattr__")))
    (ok_UnknownReplica : PySem.W.keepIn K (.ref C_UnknownReplica) = true)
    (cl_UnknownReplica : K.lookup da_UnknownReplica = some ⟨zc_UnknownReplica, zd_UnknownReplica, .fields zv_UnknownReplica, zs_UnknownReplica⟩)
    (cv_UnknownReplica : zv_UnknownReplica[2]? = some (.str fl_UnknownReplica ft_UnknownReplica))
    (cf_UnknownReplica : ((l.prog.main.file : Str) == fl_UnknownReplica) = true)
    (ce_UnknownReplica : K.lookup cc_UnknownReplica = some ⟨ec_UnknownReplica, ed_UnknownReplica, .cell (some (.ref C_UnknownReplica)), es_UnknownReplica⟩)
    (om_UnknownReplica : PySem.W.mroIn K C_UnknownReplica (.ref C_UnknownReplica) = some true)
    (oi_UnknownReplica : PySem.W.ks_superIn K C_UnknownReplica C_UnknownReplica "__init__" = some (some (.builtin "ValueError.__init__")))
    (ov_UnknownReplica : PySem.W.subIn K (.ref C_UnknownReplica) (.type "ValueError") = some true)
    (on_UnknownReplica_replica : PySem.W.findIn K (.ref C_UnknownReplica) "replica" = some none)
    (spT : (l.prog.main.scope.names.lookup ("super" : Str)).isSome = false)
    (spO : PySem.W.nsIn K cStatics "thirdparty.any" = some none)
    (spG : PySem.W.nsIn K mainGlobals "super" = some none)
    (z_ValueError : PySem.W.nsIn K mainGlobals "ValueError" = some none)
    (z_bool : PySem.W.nsIn K mainGlobals "bool" = some none)
    (z_int : PySem.W.nsIn K mainGlobals "int" = some none)
    (z_isinstance : PySem.W.nsIn K mainGlobals "isinstance" = some none)
    (z_len : PySem.W.nsIn K mainGlobals "len" = some none)
    (z_list : PySem.W.nsIn K mainGlobals "list" = some none)
    (z_max : PySem.W.nsIn K mainGlobals "max" = some none)
    (z_min : PySem.W.nsIn K mainGlobals "min" = some none)
    (z_range : PySem.W.nsIn K mainGlobals "range" = some none)
    (z_sorted : PySem.W.nsIn K mainGlobals "sorted" = some none)
    (z_sum : PySem.W.nsIn K mainGlobals "sum" = some none)
    (z_tuple : PySem.W.nsIn K mainGlobals "tuple" = some none)
    : ∃ (fd : FuncData) (sp : Sp), (∀ (s : Shared) (u : Value), BindsTo s fd ⟨[u], []⟩ [("_law_script", u)]) ∧ (∀ (H : Hp) (a : Addr) (ns : List Int), ns.length ≤ 63 → Only H → SqL K H a (ns.map V.int) → sp [.ref a] H (fun v _ => v = .bl true) fun _ _ _ => False) ∧
      ∀ base : Heap, K.In base → base.Ns mainGlobals mg → FnX l.prog w K mg base 11 fa fd ["_law_script"] sp := by
  have e := hfa.symm.trans (PySem.W.mg_of X G a_law)
  cases e
  have E_StoreError : ExcC K C_StoreError := ⟨xg_StoreError, xk_StoreError, xb_StoreError, xd_StoreError, xc_StoreError, bcG, bcT, xo_StoreError⟩
  have Y_StoreError : XfC K C_StoreError := ⟨xg_StoreError, xk_StoreError, xb_StoreError, xd_StoreError⟩
  have E_InvalidNet : ExcC K C_InvalidNet := ⟨xg_InvalidNet, xk_InvalidNet, xb_InvalidNet, xd_InvalidNet, xc_InvalidNet, bcG, bcT, xo_InvalidNet⟩
  have Y_InvalidNet : XfC K C_InvalidNet := ⟨xg_InvalidNet, xk_InvalidNet, xb_InvalidNet, xd_InvalidNet⟩
  have E_UnknownReplica : ExcC K C_UnknownReplica := ⟨xg_UnknownReplica, xk_UnknownReplica, xb_UnknownReplica, xd_UnknownReplica, xc_UnknownReplica, bcG, bcT, xo_UnknownReplica⟩
  have Y_UnknownReplica : XfC K C_UnknownReplica := ⟨xg_UnknownReplica, xk_UnknownReplica, xb_UnknownReplica, xd_UnknownReplica⟩
  have E_NotLinked : ExcC K C_NotLinked := ⟨xg_NotLinked, xk_NotLinked, xb_NotLinked, xd_NotLinked, xc_NotLinked, bcG, bcT, xo_NotLinked⟩
  have Y_NotLinked : XfC K C_NotLinked := ⟨xg_NotLinked, xk_NotLinked, xb_NotLinked, xd_NotLinked⟩
  have e_InvalidNet : ∀ c b, (c, b) ∈ tab_InvalidNet (⟨K, C_StoreError, C_InvalidNet, C_UnknownReplica, C_NotLinked, C_Net⟩ : Ad) → PySem.W.exmOne K c (.ref C_InvalidNet) = some b := fun c b hm => by
    unfold tab_InvalidNet at hm
    simp only [List.mem_cons, Prod.mk.injEq, List.not_mem_nil, or_false] at hm
    rcases hm with ⟨rfl, rfl⟩ | ⟨rfl, rfl⟩ | ⟨rfl, rfl⟩ | ⟨rfl, rfl⟩
    · exact exm_of xb_InvalidNet (kcl_ref xi_InvalidNet xt_InvalidNet xx_StoreError_InvalidNet)
    · exact exm_of xb_InvalidNet (kcl_ref xi_InvalidNet xt_InvalidNet xx_InvalidNet_InvalidNet)
    · exact exm_of xb_InvalidNet (kcl_ref xi_InvalidNet xt_InvalidNet xx_UnknownReplica_InvalidNet)
    · exact exm_of xb_InvalidNet (kcl_ref xi_InvalidNet xt_InvalidNet xx_NotLinked_InvalidNet)
  have i_InvalidNet : ∀ c b, (c, b) ∈ tab_InvalidNet (⟨K, C_StoreError, C_InvalidNet, C_UnknownReplica, C_NotLinked, C_Net⟩ : Ad) → ∃ C, c = .ref C ∧ ExcC K C ∧ PySem.W.kitOne K c (.ref C_InvalidNet) = some b := fun c b hm => by
    unfold tab_InvalidNet at hm
    simp only [List.mem_cons, Prod.mk.injEq, List.not_mem_nil, or_false] at hm
    rcases hm with ⟨rfl, rfl⟩ | ⟨rfl, rfl⟩ | ⟨rfl, rfl⟩ | ⟨rfl, rfl⟩
    · exact ⟨_, rfl, E_StoreError, kit_of xs_StoreError xx_StoreError_InvalidNet (kcl_ref xi_InvalidNet xt_InvalidNet xx_StoreError_InvalidNet)⟩
    · exact ⟨_, rfl, E_InvalidNet, kit_of xs_InvalidNet xx_InvalidNet_InvalidNet (kcl_ref xi_InvalidNet xt_InvalidNet xx_InvalidNet_InvalidNet)⟩
    · exact ⟨_, rfl, E_UnknownReplica, kit_of xs_UnknownReplica xx_UnknownReplica_InvalidNet (kcl_ref xi_InvalidNet xt_InvalidNet xx_UnknownReplica_InvalidNet)⟩
    · exact ⟨_, rfl, E_NotLinked, kit_of xs_NotLinked xx_NotLinked_InvalidNet (kcl_ref xi_InvalidNet xt_InvalidNet xx_NotLinked_InvalidNet)⟩
  have e_NotLinked : ∀ c b, (c, b) ∈ tab_NotLinked (⟨K, C_StoreError, C_InvalidNet, C_UnknownReplica, C_NotLinked, C_Net⟩ : Ad) → PySem.W.exmOne K c (.ref C_NotLinked) = some b := fun c b hm => by
    unfold tab_NotLinked at hm
    simp only [List.mem_cons, Prod.mk.injEq, List.not_mem_nil, or_false] at hm
    rcases hm with ⟨rfl, rfl⟩ | ⟨rfl, rfl⟩ | ⟨rfl, rfl⟩ | ⟨rfl, rfl⟩
    · exact exm_of xb_NotLinked (kcl_ref xi_NotLinked xt_NotLinked xx_StoreError_NotLinked)
    · exact exm_of xb_NotLinked (kcl_ref xi_NotLinked xt_NotLinked xx_InvalidNet_NotLinked)
    · exact exm_of xb_NotLinked (kcl_ref xi_NotLinked xt_NotLinked xx_UnknownReplica_NotLinked)
    · exact exm_of xb_NotLinked (kcl_ref xi_NotLinked xt_NotLinked xx_NotLinked_NotLinked)
  have i_NotLinked : ∀ c b, (c, b) ∈ tab_NotLinked (⟨K, C_StoreError, C_InvalidNet, C_UnknownReplica, C_NotLinked, C_Net⟩ : Ad) → ∃ C, c = .ref C ∧ ExcC K C ∧ PySem.W.kitOne K c (.ref C_NotLinked) = some b := fun c b hm => by
    unfold tab_NotLinked at hm
    simp only [List.mem_cons, Prod.mk.injEq, List.not_mem_nil, or_false] at hm
    rcases hm with ⟨rfl, rfl⟩ | ⟨rfl, rfl⟩ | ⟨rfl, rfl⟩ | ⟨rfl, rfl⟩
    · exact ⟨_, rfl, E_StoreError, kit_of xs_StoreError xx_StoreError_NotLinked (kcl_ref xi_NotLinked xt_NotLinked xx_StoreError_NotLinked)⟩
    · exact ⟨_, rfl, E_InvalidNet, kit_of xs_InvalidNet xx_InvalidNet_NotLinked (kcl_ref xi_NotLinked xt_NotLinked xx_InvalidNet_NotLinked)⟩
    · exact ⟨_, rfl, E_UnknownReplica, kit_of xs_UnknownReplica xx_UnknownReplica_NotLinked (kcl_ref xi_NotLinked xt_NotLinked xx_UnknownReplica_NotLinked)⟩
    · exact ⟨_, rfl, E_NotLinked, kit_of xs_NotLinked xx_NotLinked_NotLinked (kcl_ref xi_NotLinked xt_NotLinked xx_NotLinked_NotLinked)⟩
  have e_StoreError : ∀ c b, (c, b) ∈ tab_StoreError (⟨K, C_StoreError, C_InvalidNet, C_UnknownReplica, C_NotLinked, C_Net⟩ : Ad) → PySem.W.exmOne K c (.ref C_StoreError) = some b := fun c b hm => by
    unfold tab_StoreError at hm
    simp only [List.mem_cons, Prod.mk.injEq, List.not_mem_nil, or_false] at hm
    rcases hm with ⟨rfl, rfl⟩ | ⟨rfl, rfl⟩ | ⟨rfl, rfl⟩ | ⟨rfl, rfl⟩
    · exact exm_of xb_StoreError (kcl_ref xi_StoreError xt_StoreError xx_StoreError_StoreError)
    · exact exm_of xb_StoreError (kcl_ref xi_StoreError xt_StoreError xx_InvalidNet_StoreError)
    · exact exm_of xb_StoreError (kcl_ref xi_StoreError xt_StoreError xx_UnknownReplica_StoreError)
    · exact exm_of xb_StoreError (kcl_ref xi_StoreError xt_StoreError xx_NotLinked_StoreError)
  have i_StoreError : ∀ c b, (c, b) ∈ tab_StoreError (⟨K, C_StoreError, C_InvalidNet, C_UnknownReplica, C_NotLinked, C_Net⟩ : Ad) → ∃ C, c = .ref C ∧ ExcC K C ∧ PySem.W.kitOne K c (.ref C_StoreError) = some b := fun c b hm => by
    unfold tab_StoreError at hm
    simp only [List.mem_cons, Prod.mk.injEq, List.not_mem_nil, or_false] at hm
    rcases hm with ⟨rfl, rfl⟩ | ⟨rfl, rfl⟩ | ⟨rfl, rfl⟩ | ⟨rfl, rfl⟩
    · exact ⟨_, rfl, E_StoreError, kit_of xs_StoreError xx_StoreError_StoreError (kcl_ref xi_StoreError xt_StoreError xx_StoreError_StoreError)⟩
    · exact ⟨_, rfl, E_InvalidNet, kit_of xs_InvalidNet xx_InvalidNet_StoreError (kcl_ref xi_StoreError xt_StoreError xx_InvalidNet_StoreError)⟩
    · exact ⟨_, rfl, E_UnknownReplica, kit_of xs_UnknownReplica xx_UnknownReplica_StoreError (kcl_ref xi_StoreError xt_StoreError xx_UnknownReplica_StoreError)⟩
    · exact ⟨_, rfl, E_NotLinked, kit_of xs_NotLinked xx_NotLinked_StoreError (kcl_ref xi_StoreError xt_StoreError xx_NotLinked_StoreError)⟩
  have e_UnknownReplica : ∀ c b, (c, b) ∈ tab_UnknownReplica (⟨K, C_StoreError, C_InvalidNet, C_UnknownReplica, C_NotLinked, C_Net⟩ : Ad) → PySem.W.exmOne K c (.ref C_UnknownReplica) = some b := fun c b hm => by
    unfold tab_UnknownReplica at hm
    simp only [List.mem_cons, Prod.mk.injEq, List.not_mem_nil, or_false] at hm
    rcases hm with ⟨rfl, rfl⟩ | ⟨rfl, rfl⟩ | ⟨rfl, rfl⟩ | ⟨rfl, rfl⟩
    · exact exm_of xb_UnknownReplica (kcl_ref xi_UnknownReplica xt_UnknownReplica xx_StoreError_UnknownReplica)
    · exact exm_of xb_UnknownReplica (kcl_ref xi_UnknownReplica xt_UnknownReplica xx_InvalidNet_UnknownReplica)
    · exact exm_of xb_UnknownReplica (kcl_ref xi_UnknownReplica xt_UnknownReplica xx_UnknownReplica_UnknownReplica)
    · exact exm_of xb_UnknownReplica (kcl_ref xi_UnknownReplica xt_UnknownReplica xx_NotLinked_UnknownReplica)
  have i_UnknownReplica : ∀ c b, (c, b) ∈ tab_UnknownReplica (⟨K, C_StoreError, C_InvalidNet, C_UnknownReplica, C_NotLinked, C_Net⟩ : Ad) → ∃ C, c = .ref C ∧ ExcC K C ∧ PySem.W.kitOne K c (.ref C_UnknownReplica) = some b := fun c b hm => by
    unfold tab_UnknownReplica at hm
    simp only [List.mem_cons, Prod.mk.injEq, List.not_mem_nil, or_false] at hm
    rcases hm with ⟨rfl, rfl⟩ | ⟨rfl, rfl⟩ | ⟨rfl, rfl⟩ | ⟨rfl, rfl⟩
    · exact ⟨_, rfl, E_StoreError, kit_of xs_StoreError xx_StoreError_UnknownReplica (kcl_ref xi_UnknownReplica xt_UnknownReplica xx_StoreError_UnknownReplica)⟩
    · exact ⟨_, rfl, E_InvalidNet, kit_of xs_InvalidNet xx_InvalidNet_UnknownReplica (kcl_ref xi_UnknownReplica xt_UnknownReplica xx_InvalidNet_UnknownReplica)⟩
    · exact ⟨_, rfl, E_UnknownReplica, kit_of xs_UnknownReplica xx_UnknownReplica_UnknownReplica (kcl_ref xi_UnknownReplica xt_UnknownReplica xx_UnknownReplica_UnknownReplica)⟩
    · exact ⟨_, rfl, E_NotLinked, kit_of xs_NotLinked xx_NotLinked_UnknownReplica (kcl_ref xi_UnknownReplica xt_UnknownReplica xx_NotLinked_UnknownReplica)⟩
  have e_ValueError : ∀ c b, (c, b) ∈ tab_ValueError (⟨K, C_StoreError, C_InvalidNet, C_UnknownReplica, C_NotLinked, C_Net⟩ : Ad) → PySem.W.exmOne K c (.type "ValueError") = some b := fun c b hm => by
    unfold tab_ValueError at hm
    simp only [List.mem_cons, Prod.mk.injEq, List.not_mem_nil, or_false] at hm
    rcases hm with ⟨rfl, rfl⟩ | ⟨rfl, rfl⟩ | ⟨rfl, rfl⟩ | ⟨rfl, rfl⟩
    · exact exm_of xy_ValueError (kcl_ty xm_ValueError xx_StoreError_ValueError)
    · exact exm_of xy_ValueError (kcl_ty xm_ValueError xx_InvalidNet_ValueError)
    · exact exm_of xy_ValueError (kcl_ty xm_ValueError xx_UnknownReplica_ValueError)
    · exact exm_of xy_ValueError (kcl_ty xm_ValueError xx_NotLinked_ValueError)
  have i_ValueError : ∀ c b, (c, b) ∈ tab_ValueError (⟨K, C_StoreError, C_InvalidNet, C_UnknownReplica, C_NotLinked, C_Net⟩ : Ad) → ∃ C, c = .ref C ∧ ExcC K C ∧ PySem.W.kitOne K c (.type "ValueError") = some b := fun c b hm => by
    unfold tab_ValueError at hm
    simp only [List.mem_cons, Prod.mk.injEq, List.not_mem_nil, or_false] at hm
    rcases hm with ⟨rfl, rfl⟩ | ⟨rfl, rfl⟩ | ⟨rfl, rfl⟩ | ⟨rfl, rfl⟩
    · exact ⟨_, rfl, E_StoreError, kit_of xs_StoreError xx_StoreError_ValueError (kcl_ty xm_ValueError xx_StoreError_ValueError)⟩
    · exact ⟨_, rfl, E_InvalidNet, kit_of xs_InvalidNet xx_InvalidNet_ValueError (kcl_ty xm_ValueError xx_InvalidNet_ValueError)⟩
    · exact ⟨_, rfl, E_UnknownReplica, kit_of xs_UnknownReplica xx_UnknownReplica_ValueError (kcl_ty xm_ValueError xx_UnknownReplica_ValueError)⟩
    · exact ⟨_, rfl, E_NotLinked, kit_of xs_NotLinked xx_NotLinked_ValueError (kcl_ty xm_ValueError xx_NotLinked_ValueError)⟩
  have xf_link : ∀ C ∈ [C_InvalidNet], XfC K C ∧ PySem.W.findIn K (.ref C) "link" = some none := fun C hm => by
    simp only [List.mem_cons, List.not_mem_nil, or_false] at hm
    subst hm
    exact ⟨Y_InvalidNet, xn_InvalidNet_link⟩
  have xf_reader : ∀ C ∈ [C_NotLinked], XfC K C ∧ PySem.W.findIn K (.ref C) "reader" = some none := fun C hm => by
    simp only [List.mem_cons, List.not_mem_nil, or_false] at hm
    subst hm
    exact ⟨Y_NotLinked, xn_NotLinked_reader⟩
  have xf_replica : ∀ C ∈ [C_UnknownReplica], XfC K C ∧ PySem.W.findIn K (.ref C) "replica" = some none := fun C hm => by
    simp only [List.mem_cons, List.not_mem_nil, or_false] at hm
    subst hm
    exact ⟨Y_UnknownReplica, xn_UnknownReplica_replica⟩
  have xf_source : ∀ C ∈ [C_NotLinked], XfC K C ∧ PySem.W.findIn K (.ref C) "source" = some none := fun C hm => by
    simp only [List.mem_cons, List.not_mem_nil, or_false] at hm
    subst hm
    exact ⟨Y_NotLinked, xn_NotLinked_source⟩
  have GG : Glo K mg ⟨K, C_StoreError, C_InvalidNet, C_UnknownReplica, C_NotLinked, C_Net⟩ := ⟨rfl, PySem.W.mg_of X G aC_InvalidNet, PySem.W.mg_of X G aC_Net, ⟨pg_Net, hd_Net, po_Net, sa_Net⟩, PySem.W.mg_of X G aC_NotLinked, PySem.W.mg_of X G aC_StoreError, PySem.W.mg_of X G aC_UnknownReplica, e_InvalidNet, i_InvalidNet, e_NotLinked, i_NotLinked, e_StoreError, i_StoreError, e_UnknownReplica, i_UnknownReplica, e_ValueError, i_ValueError, xf_link, xf_reader, xf_replica, xf_source, nf_Net__linked, nf_Net__links, nf_Net_count, ⟨rd_Net, ga_Net⟩, ⟨_, vc_Net_MOST, ⟨_, rfl⟩⟩, PySem.W.mg_none_of X G z_ValueError, PySem.W.mg_none_of X G z_bool, PySem.W.mg_none_of X G z_int, PySem.W.mg_none_of X G z_isinstance, PySem.W.mg_none_of X G z_len, PySem.W.mg_none_of X G z_list, PySem.W.mg_none_of X G z_max, PySem.W.mg_none_of X G z_min, PySem.W.mg_none_of X G z_range, PySem.W.mg_none_of X G z_sorted, PySem.W.mg_none_of X G z_sum, PySem.W.mg_none_of X G z_tuple⟩
  refine ⟨PySem.W.fnOf "law" "law" (defArgs s_law) (defBody s_law) (defScope s_law) .none kV_law dc_law pm_law an_law cd_law ct_law, spP Γ0 (F_law ⟨K, C_StoreError, C_InvalidNet, C_UnknownReplica, C_NotLinked, C_Net⟩), fun s v => .of_eq rfl, fun H a ns hl _ hS => law_start hl trivial hS fun d hd => law_holds hd hl rfl, fun base _ _ => ?_⟩
  have O_InvalidNet : OexC K C_InvalidNet := ⟨⟨_, _, _, _, _, _, _, _, _, _, _, _, _, _, _, oc_InvalidNet, ob_InvalidNet⟩, os_InvalidNet, xb_InvalidNet, xt_InvalidNet, ok_InvalidNet⟩
  have S_InvalidNet : PX.FunS K "__init__" "InvalidNet.__init__" s_InvalidNet___init__ f_InvalidNet___init__ da_InvalidNet cc_InvalidNet _ := ⟨_, _, _, _, _, _, _, _, rfl, l_InvalidNet___init__, c_InvalidNet___init__⟩
  have U_InvalidNet : PX.SupK l.prog K C_InvalidNet f_InvalidNet___init__ da_InvalidNet cc_InvalidNet _ := ⟨O_InvalidNet, ⟨_, _, _, l_InvalidNet___init__⟩, ⟨_, _, _, _, _, _, cl_InvalidNet, cv_InvalidNet, cf_InvalidNet⟩, ⟨_, _, _, ce_InvalidNet⟩, om_InvalidNet, spT, spO, oi_InvalidNet, ov_InvalidNet⟩
  have h_xInvalidNet : HEX l.prog w K mg base C_InvalidNet ["link"] [0] 1 := ⟨⟨_, _, _, O_InvalidNet, a_InvalidNet___init__, y_InvalidNet___init__, funS_binds (ps := ["self", "link"]) S_InvalidNet (fun _ _ _ _ _ us hl => match us, hl with | [_, _], _ => rfl), okx_InvalidNet S_InvalidNet U_InvalidNet (PySem.W.mg_none_of X G spG) (fun g hm => by
    simp only [List.mem_cons, List.not_mem_nil, or_false] at hm
    subst hm
    exact on_InvalidNet_link)⟩⟩
  have O_NotLinked : OexC K C_NotLinked := ⟨⟨_, _, _, _, _, _, _, _, _, _, _, _, _, _, _, oc_NotLinked, ob_NotLinked⟩, os_NotLinked, xb_NotLinked, xt_NotLinked, ok_NotLinked⟩
  have S_NotLinked : PX.FunS K "__init__" "NotLinked.__init__" s_NotLinked___init__ f_NotLinked___init__ da_NotLinked cc_NotLinked _ := ⟨_, _, _, _, _, _, _, _, rfl, l_NotLinked___init__, c_NotLinked___init__⟩
  have U_NotLinked : PX.SupK l.prog K C_NotLinked f_NotLinked___init__ da_NotLinked cc_NotLinked _ := ⟨O_NotLinked, ⟨_, _, _, l_NotLinked___init__⟩, ⟨_, _, _, _, _, _, cl_NotLinked, cv_NotLinked, cf_NotLinked⟩, ⟨_, _, _, ce_NotLinked⟩, om_NotLinked, spT, spO, oi_NotLinked, ov_NotLinked⟩
  have h_xNotLinked : HEX l.prog w K mg base C_NotLinked ["source", "reader"] [0, 1] 1 := ⟨⟨_, _, _, O_NotLinked, a_NotLinked___init__, y_NotLinked___init__, funS_binds (ps := ["self", "source", "reader"]) S_NotLinked (fun _ _ _ _ _ us hl => match us, hl with | [_, _, _], _ => rfl), okx_NotLinked S_NotLinked U_NotLinked (PySem.W.mg_none_of X G spG) (fun g hm => by
    simp only [List.mem_cons, List.not_mem_nil, or_false] at hm
    rcases hm with rfl | rfl
    · exact on_NotLinked_source
    · exact on_NotLinked_reader)⟩⟩
  have O_UnknownReplica : OexC K C_UnknownReplica := ⟨⟨_, _, _, _, _, _, _, _, _, _, _, _, _, _, _, oc_UnknownReplica, ob_UnknownReplica⟩, os_UnknownReplica, xb_UnknownReplica, xt_UnknownReplica, ok_UnknownReplica⟩
  have S_UnknownReplica : PX.FunS K "__init__" "UnknownReplica.__init__" s_UnknownReplica___init__ f_UnknownReplica___init__ da_UnknownReplica cc_UnknownReplica _ := ⟨_, _, _, _, _, _, _, _, rfl, l_UnknownReplica___init__, c_UnknownReplica___init__⟩
  have U_UnknownReplica : PX.SupK l.prog K C_UnknownReplica f_UnknownReplica___init__ da_UnknownReplica cc_UnknownReplica _ := ⟨O_UnknownReplica, ⟨_, _, _, l_UnknownReplica___init__⟩, ⟨_, _, _, _, _, _, cl_UnknownReplica, cv_UnknownReplica, cf_UnknownReplica⟩, ⟨_, _, _, ce_UnknownReplica⟩, om_UnknownReplica, spT, spO, oi_UnknownReplica, ov_UnknownReplica⟩
  have h_xUnknownReplica : HEX l.prog w K mg base C_UnknownReplica ["replica"] [0] 1 := ⟨⟨_, _, _, O_UnknownReplica, a_UnknownReplica___init__, y_UnknownReplica___init__, funS_binds (ps := ["self", "replica"]) S_UnknownReplica (fun _ _ _ _ _ us hl => match us, hl with | [_, _], _ => rfl), okx_UnknownReplica S_UnknownReplica U_UnknownReplica (PySem.W.mg_none_of X G spG) (fun g hm => by
    simp only [List.mem_cons, List.not_mem_nil, or_false] at hm
    subst hm
    exact on_UnknownReplica_replica)⟩⟩
  have R_Net_links := fun_mk (st := s_Net_links) l_Net_links c_Net_links k_Net_links
  have h_Net_links : HPX l.prog w K mg base C_Net "links" 1 (spP Γ0 (F_Net_links ⟨K, C_StoreError, C_InvalidNet, C_UnknownReplica, C_NotLinked, C_Net⟩)) := ⟨⟨_, _, _, _, ⟨a_Net_links, pt_Net_links, pk_Net_links, ⟨_, pr_Net_links⟩⟩, R_Net_links.binds (ps := ["self"]) (fun _ _ _ _ _ _ us hl => match us, hl with | [_], _ => rfl), ok_Net_links GG R_Net_links⟩⟩
  have R_Net_has_link := fun_mk (st := s_Net_has_link) l_Net_has_link c_Net_has_link k_Net_has_link
  have h_Net_has_link : HMX l.prog w K mg base C_Net "has_link" 1 (spP Γ0 (F_Net_has_link ⟨K, C_StoreError, C_InvalidNet, C_UnknownReplica, C_NotLinked, C_Net⟩)) := ⟨⟨_, _, _, ⟨a_Net_has_link, i_Net_has_link, k_Net_has_link⟩, R_Net_has_link.binds (ps := ["self", "source", "reader"]) (fun _ _ _ _ _ _ us hl => match us, hl with | [_, _, _], _ => rfl), ok_Net_has_link GG R_Net_has_link⟩⟩
  have R__is_below := fun_mk (st := s__is_below) l__is_below c__is_below k__is_below
  have h__is_below : HX l.prog w K mg base "_is_below" 1 (spP Γ0 (F__is_below ⟨K, C_StoreError, C_InvalidNet, C_UnknownReplica, C_NotLinked, C_Net⟩)) := ⟨⟨_, _, _, PySem.W.mg_of X G a__is_below, R__is_below.kp, R__is_below.binds (ps := ["number", "count"]) (fun _ _ _ _ _ _ us hl => match us, hl with | [_, _], _ => rfl), ok__is_below GG R__is_below⟩⟩
  have R__law_box := fun_mk (st := s__law_box) l__law_box c__law_box k__law_box
  have h__law_box : HX l.prog w K mg base "_law_box" 1 (spP Γ0 (F__law_box ⟨K, C_StoreError, C_InvalidNet, C_UnknownReplica, C_NotLinked, C_Net⟩)) := ⟨⟨_, _, _, PySem.W.mg_of X G a__law_box, R__law_box.kp, R__law_box.binds (ps := ["_law_script"]) (fun _ _ _ _ _ _ us hl => match us, hl with | [_], _ => rfl), ok__law_box GG R__law_box⟩⟩
  have R__law_step := fun_mk (st := s__law_step) l__law_step c__law_step k__law_step
  have h__law_step : HX l.prog w K mg base "_law_step" 1 (spP Γ0 (F__law_step ⟨K, C_StoreError, C_InvalidNet, C_UnknownReplica, C_NotLinked, C_Net⟩)) := ⟨⟨_, _, _, PySem.W.mg_of X G a__law_step, R__law_step.kp, R__law_step.binds (ps := ["_law_box_here"]) (fun _ _ _ _ _ _ us hl => match us, hl with | [_], _ => rfl), ok__law_step GG R__law_step⟩⟩
  have R__law_draw := fun_mk (st := s__law_draw) l__law_draw c__law_draw k__law_draw
  have h__law_draw : HX l.prog w K mg base "_law_draw" 1 (spP Γ0 (F__law_draw ⟨K, C_StoreError, C_InvalidNet, C_UnknownReplica, C_NotLinked, C_Net⟩)) := ⟨⟨_, _, _, PySem.W.mg_of X G a__law_draw, R__law_draw.kp, R__law_draw.binds (ps := ["_law_box_here", "_law_many"]) (fun _ _ _ _ _ _ us hl => match us, hl with | [_, _], _ => rfl), ok__law_draw GG R__law_draw⟩⟩
  have R__law_is_int := fun_mk (st := s__law_is_int) l__law_is_int c__law_is_int k__law_is_int
  have h__law_is_int : HX l.prog w K mg base "_law_is_int" 1 (spP Γ0 (F__law_is_int ⟨K, C_StoreError, C_InvalidNet, C_UnknownReplica, C_NotLinked, C_Net⟩)) := ⟨⟨_, _, _, PySem.W.mg_of X G a__law_is_int, R__law_is_int.kp, R__law_is_int.binds (ps := ["_law_actual"]) (fun _ _ _ _ _ _ us hl => match us, hl with | [_], _ => rfl), ok__law_is_int GG R__law_is_int⟩⟩
  have H__law_is_int : HXH l.prog w K mg base "_law_is_int" 1 (spP Γ0 (F__law_is_int ⟨K, C_StoreError, C_InvalidNet, C_UnknownReplica, C_NotLinked, C_Net⟩)) := ⟨⟨_, _, _, PySem.W.mg_of X G a__law_is_int, R__law_is_int.kp, R__law_is_int.binds (ps := ["_law_actual"]) (fun _ _ _ _ _ _ us hl => match us, hl with | [_], _ => rfl), okH__law_is_int GG R__law_is_int⟩⟩
  have R__law_truth := fun_mk (st := s__law_truth) l__law_truth c__law_truth k__law_truth
  have h__law_truth : HX l.prog w K mg base "_law_truth" 1 (spP Γ0 (F__law_truth ⟨K, C_StoreError, C_InvalidNet, C_UnknownReplica, C_NotLinked, C_Net⟩)) := ⟨⟨_, _, _, PySem.W.mg_of X G a__law_truth, R__law_truth.kp, R__law_truth.binds (ps := ["_law_actual", "_law_due"]) (fun _ _ _ _ _ _ us hl => match us, hl with | [_, _], _ => rfl), ok__law_truth GG R__law_truth⟩⟩
  have R__law_first_bad := fun_mk (st := s__law_first_bad) l__law_first_bad c__law_first_bad k__law_first_bad
  have h__law_first_bad : HX l.prog w K mg base "_law_first_bad" 1 (spP Γ0 (F__law_first_bad ⟨K, C_StoreError, C_InvalidNet, C_UnknownReplica, C_NotLinked, C_Net⟩)) := ⟨⟨_, _, _, PySem.W.mg_of X G a__law_first_bad, R__law_first_bad.kp, R__law_first_bad.binds (ps := ["_law_count_here", "_law_pairs"]) (fun _ _ _ _ _ _ us hl => match us, hl with | [_, _], _ => rfl), ok__law_first_bad GG R__law_first_bad⟩⟩
  have R__law_table := fun_mk (st := s__law_table) l__law_table c__law_table k__law_table
  have h__law_table : HX l.prog w K mg base "_law_table" 1 (spP Γ0 (F__law_table ⟨K, C_StoreError, C_InvalidNet, C_UnknownReplica, C_NotLinked, C_Net⟩)) := ⟨⟨_, _, _, PySem.W.mg_of X G a__law_table, R__law_table.kp, R__law_table.binds (ps := ["_law_count_here", "_law_pairs", "_law_both"]) (fun _ _ _ _ _ _ us hl => match us, hl with | [_, _, _], _ => rfl), ok__law_table GG R__law_table⟩⟩
  have R__law_ties := fun_mk (st := s__law_ties) l__law_ties c__law_ties k__law_ties
  have h__law_ties : HX l.prog w K mg base "_law_ties" 1 (spP Γ0 (F__law_ties ⟨K, C_StoreError, C_InvalidNet, C_UnknownReplica, C_NotLinked, C_Net⟩)) := ⟨⟨_, _, _, PySem.W.mg_of X G a__law_ties, R__law_ties.kp, R__law_ties.binds (ps := ["_law_count_here", "_law_table_here"]) (fun _ _ _ _ _ _ us hl => match us, hl with | [_, _], _ => rfl), ok__law_ties GG R__law_ties⟩⟩
  have R__law_named_table := fun_mk (st := s__law_named_table) l__law_named_table c__law_named_table k__law_named_table
  have h__law_named_table : HX l.prog w K mg base "_law_named_table" 1 (spP Γ0 (F__law_named_table ⟨K, C_StoreError, C_InvalidNet, C_UnknownReplica, C_NotLinked, C_Net⟩)) := ⟨⟨_, _, _, PySem.W.mg_of X G a__law_named_table, R__law_named_table.kp, R__law_named_table.binds (ps := ["_law_way", "_law_count_here"]) (fun _ _ _ _ _ _ us hl => match us, hl with | [_, _], _ => rfl), ok__law_named_table GG R__law_named_table⟩⟩
  have R__law_great := fun_mk (st := s__law_great) l__law_great c__law_great k__law_great
  have h__law_great : HX l.prog w K mg base "_law_great" 2 (spP Γ0 (F__law_great ⟨K, C_StoreError, C_InvalidNet, C_UnknownReplica, C_NotLinked, C_Net⟩)) := ⟨⟨_, _, _, PySem.W.mg_of X G a__law_great, R__law_great.kp, R__law_great.binds (ps := ["_law_box_here"]) (fun _ _ _ _ _ _ us hl => match us, hl with | [_], _ => rfl), ok__law_great GG R__law_great h__law_draw⟩⟩
  have R__law_is_pair := fun_mk (st := s__law_is_pair) l__law_is_pair c__law_is_pair k__law_is_pair
  have h__law_is_pair : HX l.prog w K mg base "_law_is_pair" 2 (spP Γ0 (F__law_is_pair ⟨K, C_StoreError, C_InvalidNet, C_UnknownReplica, C_NotLinked, C_Net⟩)) := ⟨⟨_, _, _, PySem.W.mg_of X G a__law_is_pair, R__law_is_pair.kp, R__law_is_pair.binds (ps := ["_law_actual", "_law_due"]) (fun _ _ _ _ _ _ us hl => match us, hl with | [_, _], _ => rfl), ok__law_is_pair GG R__law_is_pair h__law_is_int⟩⟩
  have R__law_ints_are := fun_mk (st := s__law_ints_are) l__law_ints_are c__law_ints_are k__law_ints_are
  have h__law_ints_are : HX l.prog w K mg base "_law_ints_are" 2 (spP Γ0 (F__law_ints_are ⟨K, C_StoreError, C_InvalidNet, C_UnknownReplica, C_NotLinked, C_Net⟩)) := ⟨⟨_, _, _, PySem.W.mg_of X G a__law_ints_are, R__law_ints_are.kp, R__law_ints_are.binds (ps := ["_law_told", "_law_due"]) (fun _ _ _ _ _ _ us hl => match us, hl with | [_, _], _ => rfl), ok__law_ints_are GG R__law_ints_are h__law_is_int⟩⟩
  have R__law_count := fun_mk (st := s__law_count) l__law_count c__law_count k__law_count
  have h__law_count : HX l.prog w K mg base "_law_count" 2 (spP Γ0 (F__law_count ⟨K, C_StoreError, C_InvalidNet, C_UnknownReplica, C_NotLinked, C_Net⟩)) := ⟨⟨_, _, _, PySem.W.mg_of X G a__law_count, R__law_count.kp, R__law_count.binds (ps := ["_law_box_here"]) (fun _ _ _ _ _ _ us hl => match us, hl with | [_], _ => rfl), ok__law_count GG R__law_count h__law_draw⟩⟩
  have R__law_pair := fun_mk (st := s__law_pair) l__law_pair c__law_pair k__law_pair
  have h__law_pair : HX l.prog w K mg base "_law_pair" 2 (spP Γ0 (F__law_pair ⟨K, C_StoreError, C_InvalidNet, C_UnknownReplica, C_NotLinked, C_Net⟩)) := ⟨⟨_, _, _, PySem.W.mg_of X G a__law_pair, R__law_pair.kp, R__law_pair.binds (ps := ["_law_box_here", "_law_count_here"]) (fun _ _ _ _ _ _ us hl => match us, hl with | [_, _], _ => rfl), ok__law_pair GG R__law_pair h__law_draw⟩⟩
  have R_Net_sources := fun_mk (st := s_Net_sources) l_Net_sources c_Net_sources k_Net_sources
  have h_Net_sources : HMX l.prog w K mg base C_Net "sources" 3 (spP Γ0 (F_Net_sources ⟨K, C_StoreError, C_InvalidNet, C_UnknownReplica, C_NotLinked, C_Net⟩)) := ⟨⟨_, _, _, ⟨a_Net_sources, i_Net_sources, k_Net_sources⟩, R_Net_sources.binds (ps := ["self", "reader"]) (fun _ _ _ _ _ _ us hl => match us, hl with | [_, _], _ => rfl), ok_Net_sources GG R_Net_sources h__is_below h_xUnknownReplica⟩⟩
  have R_Net_readers := fun_mk (st := s_Net_readers) l_Net_readers c_Net_readers k_Net_readers
  have h_Net_readers : HMX l.prog w K mg base C_Net "readers" 3 (spP Γ0 (F_Net_readers ⟨K, C_StoreError, C_InvalidNet, C_UnknownReplica, C_NotLinked, C_Net⟩)) := ⟨⟨_, _, _, ⟨a_Net_readers, i_Net_readers, k_Net_readers⟩, R_Net_readers.binds (ps := ["self", "source"]) (fun _ _ _ _ _ _ us hl => match us, hl with | [_, _], _ => rfl), ok_Net_readers GG R_Net_readers h__is_below h_xUnknownReplica⟩⟩
  have R__check_count := fun_mk (st := s__check_count) l__check_count c__check_count k__check_count
  have h__check_count : HX l.prog w K mg base "_check_count" 3 (spP Γ0 (F__check_count ⟨K, C_StoreError, C_InvalidNet, C_UnknownReplica, C_NotLinked, C_Net⟩)) := ⟨⟨_, _, _, PySem.W.mg_of X G a__check_count, R__check_count.kp, R__check_count.binds (ps := ["count"]) (fun _ _ _ _ _ _ us hl => match us, hl with | [_], _ => rfl), ok__check_count GG R__check_count h_xInvalidNet⟩⟩
  have R__law_stranger := fun_mk (st := s__law_stranger) l__law_stranger c__law_stranger k__law_stranger
  have h__law_stranger : HX l.prog w K mg base "_law_stranger" 3 (spP Γ0 (F__law_stranger ⟨K, C_StoreError, C_InvalidNet, C_UnknownReplica, C_NotLinked, C_Net⟩)) := ⟨⟨_, _, _, PySem.W.mg_of X G a__law_stranger, R__law_stranger.kp, R__law_stranger.binds (ps := ["_law_box_here", "_law_count_here"]) (fun _ _ _ _ _ _ us hl => match us, hl with | [_, _], _ => rfl), ok__law_stranger GG R__law_stranger h__law_draw h__law_great⟩⟩
  have R__law_pairs_are := fun_mk (st := s__law_pairs_are) l__law_pairs_are c__law_pairs_are k__law_pairs_are
  have h__law_pairs_are : HX l.prog w K mg base "_law_pairs_are" 3 (spP Γ0 (F__law_pairs_are ⟨K, C_StoreError, C_InvalidNet, C_UnknownReplica, C_NotLinked, C_Net⟩)) := ⟨⟨_, _, _, PySem.W.mg_of X G a__law_pairs_are, R__law_pairs_are.kp, R__law_pairs_are.binds (ps := ["_law_told", "_law_due"]) (fun _ _ _ _ _ _ us hl => match us, hl with | [_, _], _ => rfl), ok__law_pairs_are GG R__law_pairs_are h__law_is_pair⟩⟩
  have R__law_good_pairs := fun_mk (st := s__law_good_pairs) l__law_good_pairs c__law_good_pairs k__law_good_pairs
  have h__law_good_pairs : HX l.prog w K mg base "_law_good_pairs" 3 (spP Γ0 (F__law_good_pairs ⟨K, C_StoreError, C_InvalidNet, C_UnknownReplica, C_NotLinked, C_Net⟩)) := ⟨⟨_, _, _, PySem.W.mg_of X G a__law_good_pairs, R__law_good_pairs.kp, R__law_good_pairs.binds (ps := ["_law_box_here", "_law_count_here"]) (fun _ _ _ _ _ _ us hl => match us, hl with | [_, _], _ => rfl), ok__law_good_pairs GG R__law_good_pairs h__law_draw h__law_pair⟩⟩
  have R__law_refused := fun_mk (st := s__law_refused) l__law_refused c__law_refused k__law_refused
  have h__law_refused : HX l.prog w K mg base "_law_refused" 3 (spP Γ0 (F__law_refused ⟨K, C_StoreError, C_InvalidNet, C_UnknownReplica, C_NotLinked, C_Net⟩)) := ⟨⟨_, _, _, PySem.W.mg_of X G a__law_refused, R__law_refused.kp, R__law_refused.binds (ps := ["_law_made_here", "_law_due"]) (fun _ _ _ _ _ _ us hl => match us, hl with | [_, _], _ => rfl), ok__law_refused GG R__law_refused h__law_is_pair⟩⟩
  have R__law_wrong_count := fun_mk (st := s__law_wrong_count) l__law_wrong_count c__law_wrong_count k__law_wrong_count
  have h__law_wrong_count : HX l.prog w K mg base "_law_wrong_count" 3 (spP Γ0 (F__law_wrong_count ⟨K, C_StoreError, C_InvalidNet, C_UnknownReplica, C_NotLinked, C_Net⟩)) := ⟨⟨_, _, _, PySem.W.mg_of X G a__law_wrong_count, R__law_wrong_count.kp, R__law_wrong_count.binds (ps := ["_law_box_here", "_law_way"]) (fun _ _ _ _ _ _ us hl => match us, hl with | [_, _], _ => rfl), ok__law_wrong_count GG R__law_wrong_count h__law_draw h__law_great⟩⟩
  have R_Net___init__ := fun_mk (st := s_Net___init__) l_Net___init__ c_Net___init__ k_Net___init__
  have h_Net___init__ : HIX l.prog w K mg base C_Net 4 (spM Γ0 [0] (F_Net___init__ ⟨K, C_StoreError, C_InvalidNet, C_UnknownReplica, C_NotLinked, C_Net⟩)) := ⟨⟨_, _, _, ⟨mk_Net, a_Net___init__, i_Net___init__, kc_Net⟩, R_Net___init__.binds (ps := ["self", "count", "links"]) (fun _ _ _ _ _ _ us hl => match us, hl with | [_, _, _], _ => rfl), ok_Net___init__ GG R_Net___init__ h__check_count h__is_below h_xInvalidNet⟩⟩
  have R__law_bad_pair := fun_mk (st := s__law_bad_pair) l__law_bad_pair c__law_bad_pair k__law_bad_pair
  have h__law_bad_pair : HX l.prog w K mg base "_law_bad_pair" 4 (spP Γ0 (F__law_bad_pair ⟨K, C_StoreError, C_InvalidNet, C_UnknownReplica, C_NotLinked, C_Net⟩)) := ⟨⟨_, _, _, PySem.W.mg_of X G a__law_bad_pair, R__law_bad_pair.kp, R__law_bad_pair.binds (ps := ["_law_box_here", "_law_count_here"]) (fun _ _ _ _ _ _ us hl => match us, hl with | [_, _], _ => rfl), ok__law_bad_pair GG R__law_bad_pair h__law_draw h__law_stranger⟩⟩
  have R__law_row := fun_mk (st := s__law_row) l__law_row c__law_row k__law_row
  have h__law_row : HX l.prog w K mg base "_law_row" 4 (spP Γ0 (F__law_row ⟨K, C_StoreError, C_InvalidNet, C_UnknownReplica, C_NotLinked, C_Net⟩)) := ⟨⟨_, _, _, PySem.W.mg_of X G a__law_row, R__law_row.kp, R__law_row.binds (ps := ["_law_net", "_law_way", "_law_replica"]) (fun _ _ _ _ _ _ us hl => match us, hl with | [_, _, _], _ => rfl), ok__law_row GG R__law_row h_Net_sources h_Net_readers⟩⟩
  have R__law_has := fun_mk (st := s__law_has) l__law_has c__law_has k__law_has
  have h__law_has : HX l.prog w K mg base "_law_has" 4 (spP Γ0 (F__law_has ⟨K, C_StoreError, C_InvalidNet, C_UnknownReplica, C_NotLinked, C_Net⟩)) := ⟨⟨_, _, _, PySem.W.mg_of X G a__law_has, R__law_has.kp, R__law_has.binds (ps := ["_law_box_here", "_law_net", "_law_count_here", "_law_table_here"]) (fun _ _ _ _ _ _ us hl => match us, hl with | [_, _, _, _], _ => rfl), ok__law_has GG R__law_has h__law_draw h__law_stranger h__law_truth h_Net_has_link⟩⟩
  have R__law_spoilt := fun_mk (st := s__law_spoilt) l__law_spoilt c__law_spoilt k__law_spoilt
  have h__law_spoilt : HX l.prog w K mg base "_law_spoilt" 5 (spP Γ0 (F__law_spoilt ⟨K, C_StoreError, C_InvalidNet, C_UnknownReplica, C_NotLinked, C_Net⟩)) := ⟨⟨_, _, _, PySem.W.mg_of X G a__law_spoilt, R__law_spoilt.kp, R__law_spoilt.binds (ps := ["_law_box_here", "_law_count_here", "_law_pairs"]) (fun _ _ _ _ _ _ us hl => match us, hl with | [_, _, _], _ => rfl), ok__law_spoilt GG R__law_spoilt h__law_draw h__law_bad_pair⟩⟩
  have R__law_row_is := fun_mk (st := s__law_row_is) l__law_row_is c__law_row_is k__law_row_is
  have h__law_row_is : HX l.prog w K mg base "_law_row_is" 5 (spP Γ0 (F__law_row_is ⟨K, C_StoreError, C_InvalidNet, C_UnknownReplica, C_NotLinked, C_Net⟩)) := ⟨⟨_, _, _, PySem.W.mg_of X G a__law_row_is, R__law_row_is.kp, R__law_row_is.binds (ps := ["_law_net", "_law_way", "_law_replica", "_law_due"]) (fun _ _ _ _ _ _ us hl => match us, hl with | [_, _, _, _], _ => rfl), ok__law_row_is GG R__law_row_is h__law_row h__law_ints_are⟩⟩
  have R__law_unknown := fun_mk (st := s__law_unknown) l__law_unknown c__law_unknown k__law_unknown
  have h__law_unknown : HX l.prog w K mg base "_law_unknown" 5 (spP Γ0 (F__law_unknown ⟨K, C_StoreError, C_InvalidNet, C_UnknownReplica, C_NotLinked, C_Net⟩)) := ⟨⟨_, _, _, PySem.W.mg_of X G a__law_unknown, R__law_unknown.kp, R__law_unknown.binds (ps := ["_law_net", "_law_way", "_law_replica"]) (fun _ _ _ _ _ _ us hl => match us, hl with | [_, _, _], _ => rfl), ok__law_unknown GG R__law_unknown h__law_row H__law_is_int⟩⟩
  have R__law_deed_pair := fun_mk (st := s__law_deed_pair) l__law_deed_pair c__law_deed_pair k__law_deed_pair
  have h__law_deed_pair : HX l.prog w K mg base "_law_deed_pair" 5 (spP Γ0 (F__law_deed_pair ⟨K, C_StoreError, C_InvalidNet, C_UnknownReplica, C_NotLinked, C_Net⟩)) := ⟨⟨_, _, _, PySem.W.mg_of X G a__law_deed_pair, R__law_deed_pair.kp, R__law_deed_pair.binds (ps := ["_law_box_here", "_law_count_here", "_law_table_here"]) (fun _ _ _ _ _ _ us hl => match us, hl with | [_, _, _], _ => rfl), ok__law_deed_pair GG R__law_deed_pair h__law_ties h__law_draw h__law_bad_pair h__law_pair⟩⟩
  have R_Net_both_ways := fun_mk (st := s_Net_both_ways) l_Net_both_ways c_Net_both_ways k_Net_both_ways
  have h_Net_both_ways : HCX l.prog w K mg base C_Net "both_ways" 6 (spP Γ0 (F_Net_both_ways ⟨K, C_StoreError, C_InvalidNet, C_UnknownReplica, C_NotLinked, C_Net⟩)) := ⟨⟨.type "type", _, _, _, _, ⟨rd_Net, ga_Net⟩, ⟨a_Net_both_ways, ⟨_, pr_Net_both_ways⟩, i_Net_both_ways⟩, R_Net_both_ways.binds (ps := ["cls", "count", "pairs"]) (fun _ _ _ _ _ _ us hl => match us, hl with | [_, _, _], _ => rfl), ok_Net_both_ways GG R_Net_both_ways h_Net___init__⟩⟩
  have R_Net_ring := fun_mk (st := s_Net_ring) l_Net_ring c_Net_ring k_Net_ring
  have h_Net_ring : HCX l.prog w K mg base C_Net "ring" 6 (spP Γ0 (F_Net_ring ⟨K, C_StoreError, C_InvalidNet, C_UnknownReplica, C_NotLinked, C_Net⟩)) := ⟨⟨.type "type", _, _, _, _, ⟨rd_Net, ga_Net⟩, ⟨a_Net_ring, ⟨_, pr_Net_ring⟩, i_Net_ring⟩, R_Net_ring.binds (ps := ["cls", "count"]) (fun _ _ _ _ _ _ us hl => match us, hl with | [_, _], _ => rfl), ok_Net_ring GG R_Net_ring h__check_count h_Net___init__⟩⟩
  have R_Net_with_link := fun_mk (st := s_Net_with_link) l_Net_with_link c_Net_with_link k_Net_with_link
  have h_Net_with_link : HMX l.prog w K mg base C_Net "with_link" 6 (spP Γ0 (F_Net_with_link ⟨K, C_StoreError, C_InvalidNet, C_UnknownReplica, C_NotLinked, C_Net⟩)) := ⟨⟨_, _, _, ⟨a_Net_with_link, i_Net_with_link, k_Net_with_link⟩, R_Net_with_link.binds (ps := ["self", "source", "reader"]) (fun _ _ _ _ _ _ us hl => match us, hl with | [_, _, _], _ => rfl), ok_Net_with_link GG R_Net_with_link h_Net___init__⟩⟩
  have R_Net_without_link := fun_mk (st := s_Net_without_link) l_Net_without_link c_Net_without_link k_Net_without_link
  have h_Net_without_link : HMX l.prog w K mg base C_Net "without_link" 6 (spP Γ0 (F_Net_without_link ⟨K, C_StoreError, C_InvalidNet, C_UnknownReplica, C_NotLinked, C_Net⟩)) := ⟨⟨_, _, _, ⟨a_Net_without_link, i_Net_without_link, k_Net_without_link⟩, R_Net_without_link.binds (ps := ["self", "source", "reader"]) (fun _ _ _ _ _ _ us hl => match us, hl with | [_, _, _], _ => rfl), ok_Net_without_link GG R_Net_without_link h_Net_has_link h_Net___init__ h_xNotLinked⟩⟩
  have R__law_net_is := fun_mk (st := s__law_net_is) l__law_net_is c__law_net_is k__law_net_is
  have h__law_net_is : HX l.prog w K mg base "_law_net_is" 6 (spP Γ0 (F__law_net_is ⟨K, C_StoreError, C_InvalidNet, C_UnknownReplica, C_NotLinked, C_Net⟩)) := ⟨⟨_, _, _, PySem.W.mg_of X G a__law_net_is, R__law_net_is.kp, R__law_net_is.binds (ps := ["_law_box_here", "_law_net", "_law_count_here", "_law_table_here"]) (fun _ _ _ _ _ _ us hl => match us, hl with | [_, _, _, _], _ => rfl), ok__law_net_is GG R__law_net_is h__law_ties h__law_is_int h_Net_links h__law_pairs_are h__law_row_is h__law_unknown h__law_stranger h__law_has⟩⟩
  have R_Net_line := fun_mk (st := s_Net_line) l_Net_line c_Net_line k_Net_line
  have h_Net_line : HCX l.prog w K mg base C_Net "line" 7 (spP Γ0 (F_Net_line ⟨K, C_StoreError, C_InvalidNet, C_UnknownReplica, C_NotLinked, C_Net⟩)) := ⟨⟨.type "type", _, _, _, _, ⟨rd_Net, ga_Net⟩, ⟨a_Net_line, ⟨_, pr_Net_line⟩, i_Net_line⟩, R_Net_line.binds (ps := ["cls", "count"]) (fun _ _ _ _ _ _ us hl => match us, hl with | [_, _], _ => rfl), ok_Net_line GG R_Net_line h__check_count h_Net_both_ways⟩⟩
  have R_Net_star := fun_mk (st := s_Net_star) l_Net_star c_Net_star k_Net_star
  have h_Net_star : HCX l.prog w K mg base C_Net "star" 7 (spP Γ0 (F_Net_star ⟨K, C_StoreError, C_InvalidNet, C_UnknownReplica, C_NotLinked, C_Net⟩)) := ⟨⟨.type "type", _, _, _, _, ⟨rd_Net, ga_Net⟩, ⟨a_Net_star, ⟨_, pr_Net_star⟩, i_Net_star⟩, R_Net_star.binds (ps := ["cls", "count"]) (fun _ _ _ _ _ _ us hl => match us, hl with | [_, _], _ => rfl), ok_Net_star GG R_Net_star h__check_count h_Net_both_ways⟩⟩
  have R_Net_complete := fun_mk (st := s_Net_complete) l_Net_complete c_Net_complete k_Net_complete
  have h_Net_complete : HCX l.prog w K mg base C_Net "complete" 7 (spP Γ0 (F_Net_complete ⟨K, C_StoreError, C_InvalidNet, C_UnknownReplica, C_NotLinked, C_Net⟩)) := ⟨⟨.type "type", _, _, _, _, ⟨rd_Net, ga_Net⟩, ⟨a_Net_complete, ⟨_, pr_Net_complete⟩, i_Net_complete⟩, R_Net_complete.binds (ps := ["cls", "count"]) (fun _ _ _ _ _ _ us hl => match us, hl with | [_, _], _ => rfl), ok_Net_complete GG R_Net_complete h__check_count h_Net_both_ways⟩⟩
  have R__law_changed := fun_mk (st := s__law_changed) l__law_changed c__law_changed k__law_changed
  have h__law_changed : HX l.prog w K mg base "_law_changed" 7 (spP Γ0 (F__law_changed ⟨K, C_StoreError, C_InvalidNet, C_UnknownReplica, C_NotLinked, C_Net⟩)) := ⟨⟨_, _, _, PySem.W.mg_of X G a__law_changed, R__law_changed.kp, R__law_changed.binds (ps := ["_law_adds", "_law_net", "_law_pair_here"]) (fun _ _ _ _ _ _ us hl => match us, hl with | [_, _, _], _ => rfl), ok__law_changed GG R__law_changed h_Net_with_link h_Net_without_link⟩⟩
  have R__law_call := fun_mk (st := s__law_call) l__law_call c__law_call k__law_call
  have h__law_call : HX l.prog w K mg base "_law_call" 8 (spP Γ0 (F__law_call ⟨K, C_StoreError, C_InvalidNet, C_UnknownReplica, C_NotLinked, C_Net⟩)) := ⟨⟨_, _, _, PySem.W.mg_of X G a__law_call, R__law_call.kp, R__law_call.binds (ps := ["_law_way", "_law_count_here", "_law_pairs"]) (fun _ _ _ _ _ _ us hl => match us, hl with | [_, _, _], _ => rfl), ok__law_call GG R__law_call h_Net___init__ h_Net_both_ways h_Net_line h_Net_star h_Net_complete h_Net_ring⟩⟩
  have R__law_deed := fun_mk (st := s__law_deed) l__law_deed c__law_deed k__law_deed
  have h__law_deed : HX l.prog w K mg base "_law_deed" 8 (spP Γ0 (F__law_deed ⟨K, C_StoreError, C_InvalidNet, C_UnknownReplica, C_NotLinked, C_Net⟩)) := ⟨⟨_, _, _, PySem.W.mg_of X G a__law_deed, R__law_deed.kp, R__law_deed.binds (ps := ["_law_adds", "_law_net", "_law_pair_here"]) (fun _ _ _ _ _ _ us hl => match us, hl with | [_, _, _], _ => rfl), ok__law_deed GG R__law_deed h__law_changed⟩⟩
  have R__law_made := fun_mk (st := s__law_made) l__law_made c__law_made k__law_made
  have h__law_made : HX l.prog w K mg base "_law_made" 9 (spP Γ0 (F__law_made ⟨K, C_StoreError, C_InvalidNet, C_UnknownReplica, C_NotLinked, C_Net⟩)) := ⟨⟨_, _, _, PySem.W.mg_of X G a__law_made, R__law_made.kp, R__law_made.binds (ps := ["_law_way", "_law_count_here", "_law_pairs"]) (fun _ _ _ _ _ _ us hl => match us, hl with | [_, _, _], _ => rfl), ok__law_made GG R__law_made h__law_call⟩⟩
  have R__law_deeds := fun_mk (st := s__law_deeds) l__law_deeds c__law_deeds k__law_deeds
  have h__law_deeds : HX l.prog w K mg base "_law_deeds" 9 (spP Γ0 (F__law_deeds ⟨K, C_StoreError, C_InvalidNet, C_UnknownReplica, C_NotLinked, C_Net⟩)) := ⟨⟨_, _, _, PySem.W.mg_of X G a__law_deeds, R__law_deeds.kp, R__law_deeds.binds (ps := ["_law_box_here", "_law_count_here", "_law_pairs"]) (fun _ _ _ _ _ _ us hl => match us, hl with | [_, _, _], _ => rfl), ok__law_deeds GG R__law_deeds h_Net___init__ h__law_table h__law_draw h__law_deed_pair h__law_first_bad h__law_deed h__law_refused h__law_pairs_are h__law_ties h_Net_links h__law_net_is⟩⟩
  have R__law_builds := fun_mk (st := s__law_builds) l__law_builds c__law_builds k__law_builds
  have h__law_builds : HX l.prog w K mg base "_law_builds" 10 (spP Γ0 (F__law_builds ⟨K, C_StoreError, C_InvalidNet, C_UnknownReplica, C_NotLinked, C_Net⟩)) := ⟨⟨_, _, _, PySem.W.mg_of X G a__law_builds, R__law_builds.kp, R__law_builds.binds (ps := ["_law_box_here", "_law_count_here", "_law_pairs"]) (fun _ _ _ _ _ _ us hl => match us, hl with | [_, _, _], _ => rfl), ok__law_builds GG R__law_builds h__law_made h__law_net_is h__law_table h__law_spoilt h__law_refused h__law_first_bad⟩⟩
  have R__law_named := fun_mk (st := s__law_named) l__law_named c__law_named k__law_named
  have h__law_named : HX l.prog w K mg base "_law_named" 10 (spP Γ0 (F__law_named ⟨K, C_StoreError, C_InvalidNet, C_UnknownReplica, C_NotLinked, C_Net⟩)) := ⟨⟨_, _, _, PySem.W.mg_of X G a__law_named, R__law_named.kp, R__law_named.binds (ps := ["_law_box_here", "_law_count_here"]) (fun _ _ _ _ _ _ us hl => match us, hl with | [_, _], _ => rfl), ok__law_named GG R__law_named h__law_draw h__law_named_table h__law_made h__law_pairs_are h__law_ties h_Net_links h__law_is_int h__law_net_is⟩⟩
  have R__law_counts := fun_mk (st := s__law_counts) l__law_counts c__law_counts k__law_counts
  have h__law_counts : HX l.prog w K mg base "_law_counts" 10 (spP Γ0 (F__law_counts ⟨K, C_StoreError, C_InvalidNet, C_UnknownReplica, C_NotLinked, C_Net⟩)) := ⟨⟨_, _, _, PySem.W.mg_of X G a__law_counts, R__law_counts.kp, R__law_counts.binds (ps := ["_law_box_here", "_law_count_here", "_law_pairs"]) (fun _ _ _ _ _ _ us hl => match us, hl with | [_, _, _], _ => rfl), ok__law_counts GG R__law_counts h__law_spoilt h__law_draw h__law_refused h__law_made h__law_wrong_count⟩⟩
  have R_law := fun_mk (st := s_law) l_law c_law k_law
  exact ok_law GG R_law h__law_box h__law_step h__law_count h__law_good_pairs h__law_is_int h__law_builds h__law_deeds h__law_counts h__law_named
end Pr
open PySem PySem.W PyProof.Rows
set_option maxHeartbeats 0 in
theorem PySem.Challenge.cw_pullstore_k00_nets_keep_links_holds : PySem.Challenge.rw_pullstore_k00_nets_keep_links.Holds := by
  w_on; o_law; k_head; (case hw => w_witness2)
  k_fill
  refine DL.walk_ofD (l := PySem.Challenge.rw_pullstore_k00_nets_keep_links) (n := 63) (k := 11) (x := "_law_script") rfl (by decide) rfl ⟨rfl, by decide, by decide⟩ (fun w h Y => PySem.W.kIn_of Y) ?F
  case F =>
    intro w mg fa h KX G hmg
    refine' Pr.all_mk (l := PySem.Challenge.rw_pullstore_k00_nets_keep_links) KX G hmg ?aC_StoreError ?aC_InvalidNet ?aC_UnknownReplica ?aC_NotLinked ?aC_Net ?pg_Net ?hd_Net ?po_Net ?sa_Net ?mk_Net ?kc_Net ?bcG ?bcT ?xg_StoreError ?xk_StoreError ?xb_StoreError ?xd_StoreError ?xc_StoreError ?xo_StoreError ?xi_StoreError ?xt_StoreError ?xs_StoreError ?xg_InvalidNet ?xk_InvalidNet ?xb_InvalidNet ?xd_InvalidNet ?xc_InvalidNet ?xo_InvalidNet ?xi_InvalidNet ?xt_InvalidNet ?xs_InvalidNet ?xg_UnknownReplica ?xk_UnknownReplica ?xb_UnknownReplica ?xd_UnknownReplica ?xc_UnknownReplica ?xo_UnknownReplica ?xi_UnknownReplica ?xt_UnknownReplica ?xs_UnknownReplica ?xg_NotLinked ?xk_NotLinked ?xb_NotLinked ?xd_NotLinked ?xc_NotLinked ?xo_NotLinked ?xi_NotLinked ?xt_NotLinked ?xs_NotLinked ?xx_StoreError_InvalidNet ?xx_InvalidNet_InvalidNet ?xx_UnknownReplica_InvalidNet ?xx_NotLinked_InvalidNet ?xx_StoreError_NotLinked ?xx_InvalidNet_NotLinked ?xx_UnknownReplica_NotLinked ?xx_NotLinked_NotLinked ?xx_StoreError_StoreError ?xx_InvalidNet_StoreError ?xx_UnknownReplica_StoreError ?xx_NotLinked_StoreError ?xx_StoreError_UnknownReplica ?xx_InvalidNet_UnknownReplica ?xx_UnknownReplica_UnknownReplica ?xx_NotLinked_UnknownReplica ?xx_StoreError_ValueError ?xx_InvalidNet_ValueError ?xx_UnknownReplica_ValueError ?xx_NotLinked_ValueError ?xy_ValueError ?xm_ValueError ?xn_InvalidNet_link ?xn_NotLinked_reader ?xn_UnknownReplica_replica ?xn_NotLinked_source ?nf_Net__linked ?nf_Net__links ?nf_Net_count ?rd_Net ?ga_Net ?vc_Net_MOST ?a_Net_links ?pt_Net_links ?pk_Net_links ?pr_Net_links ?l_Net_links ?c_Net_links ?k_Net_links ?a_Net_has_link ?i_Net_has_link ?l_Net_has_link ?c_Net_has_link ?k_Net_has_link ?a__is_below ?l__is_below ?c__is_below ?k__is_below ?a__law_box ?l__law_box ?c__law_box ?k__law_box ?a__law_step ?l__law_step ?c__law_step ?k__law_step ?a__law_draw ?l__law_draw ?c__law_draw ?k__law_draw ?a__law_is_int ?l__law_is_int ?c__law_is_int ?k__law_is_int ?a__law_truth ?l__law_truth ?c__law_truth ?k__law_truth ?a__law_first_bad ?l__law_first_bad ?c__law_first_bad ?k__law_first_bad ?a__law_table ?l__law_table ?c__law_table ?k__law_table ?a__law_ties ?l__law_ties ?c__law_ties ?k__law_ties ?a__law_named_table ?l__law_named_table ?c__law_named_table ?k__law_named_table ?a__law_great ?l__law_great ?c__law_great ?k__law_great ?a__law_is_pair ?l__law_is_pair ?c__law_is_pair ?k__law_is_pair ?a__law_ints_are ?l__law_ints_are ?c__law_ints_are ?k__law_ints_are ?a__law_count ?l__law_count ?c__law_count ?k__law_count ?a__law_pair ?l__law_pair ?c__law_pair ?k__law_pair ?a_Net_sources ?i_Net_sources ?l_Net_sources ?c_Net_sources ?k_Net_sources ?a_Net_readers ?i_Net_readers ?l_Net_readers ?c_Net_readers ?k_Net_readers ?a__check_count ?l__check_count ?c__check_count ?k__check_count ?a__law_stranger ?l__law_stranger ?c__law_stranger ?k__law_stranger ?a__law_pairs_are ?l__law_pairs_are ?c__law_pairs_are ?k__law_pairs_are ?a__law_good_pairs ?l__law_good_pairs ?c__law_good_pairs ?k__law_good_pairs ?a__law_refused ?l__law_refused ?c__law_refused ?k__law_refused ?a__law_wrong_count ?l__law_wrong_count ?c__law_wrong_count ?k__law_wrong_count ?a_Net___init__ ?i_Net___init__ ?l_Net___init__ ?c_Net___init__ ?k_Net___init__ ?a__law_bad_pair ?l__law_bad_pair ?c__law_bad_pair ?k__law_bad_pair ?a__law_row ?l__law_row ?c__law_row ?k__law_row ?a__law_has ?l__law_has ?c__law_has ?k__law_has ?a__law_spoilt ?l__law_spoilt ?c__law_spoilt ?k__law_spoilt ?a__law_row_is ?l__law_row_is ?c__law_row_is ?k__law_row_is ?a__law_unknown ?l__law_unknown ?c__law_unknown ?k__law_unknown ?a__law_deed_pair ?l__law_deed_pair ?c__law_deed_pair ?k__law_deed_pair ?a_Net_both_ways ?pr_Net_both_ways ?i_Net_both_ways ?l_Net_both_ways ?c_Net_both_ways ?k_Net_both_ways ?a_Net_ring ?pr_Net_ring ?i_Net_ring ?l_Net_ring ?c_Net_ring ?k_Net_ring ?a_Net_with_link ?i_Net_with_link ?l_Net_with_link ?c_Net_with_link ?k_Net_with_link ?a_Net_without_link ?i_Net_without_link ?l_Net_without_link ?c_Net_without_link ?k_Net_without_link ?a__law_net_is ?l__law_net_is ?c__law_net_is ?k__law_net_is ?a_Net_line ?pr_Net_line ?i_Net_line ?l_Net_line ?c_Net_line ?k_Net_line ?a_Net_star ?pr_Net_star ?i_Net_star ?l_Net_star ?c_Net_star ?k_Net_star ?a_Net_complete ?pr_Net_complete ?i_Net_complete ?l_Net_complete ?c_Net_complete ?k_Net_complete ?a__law_changed ?l__law_changed ?c__law_changed ?k__law_changed ?a__law_call ?l__law_call ?c__law_call ?k__law_call ?a__law_deed ?l__law_deed ?c__law_deed ?k__law_deed ?a__law_made ?l__law_made ?c__law_made ?k__law_made ?a__law_deeds ?l__law_deeds ?c__law_deeds ?k__law_deeds ?a__law_builds ?l__law_builds ?c__law_builds ?k__law_builds ?a__law_named ?l__law_named ?c__law_named ?k__law_named ?a__law_counts ?l__law_counts ?c__law_counts ?k__law_counts ?a_law ?l_law ?c_law ?k_law ?a_InvalidNet___init__ ?l_InvalidNet___init__ ?c_InvalidNet___init__ ?y_InvalidNet___init__ ?oc_InvalidNet ?ob_InvalidNet ?os_InvalidNet ?ok_InvalidNet ?cl_InvalidNet ?cv_InvalidNet ?cf_InvalidNet ?ce_InvalidNet ?om_InvalidNet ?oi_InvalidNet ?ov_InvalidNet ?on_InvalidNet_link ?a_NotLinked___init__ ?l_NotLinked___init__ ?c_NotLinked___init__ ?y_NotLinked___init__ ?oc_NotLinked ?ob_NotLinked ?os_NotLinked ?ok_NotLinked ?cl_NotLinked ?cv_NotLinked ?cf_NotLinked ?ce_NotLinked ?om_NotLinked ?oi_NotLinked ?ov_NotLinked ?on_NotLinked_source ?on_NotLinked_reader ?a_UnknownReplica___init__ ?l_UnknownReplica___init__ ?c_UnknownReplica___init__ ?y_UnknownReplica___init__ ?oc_UnknownReplica ?ob_UnknownReplica ?os_UnknownReplica ?ok_UnknownReplica ?cl_UnknownReplica ?cv_UnknownReplica ?cf_UnknownReplica ?ce_UnknownReplica ?om_UnknownReplica ?oi_UnknownReplica ?ov_UnknownReplica ?on_UnknownReplica_replica ?spT ?spO ?spG ?z_ValueError ?z_bool ?z_int ?z_isinstance ?z_len ?z_list ?z_max ?z_min ?z_range ?z_sorted ?z_sum ?z_tuple
    (case aC_StoreError => k_is)
    (case aC_InvalidNet => k_is)
    (case aC_UnknownReplica => k_is)
    (case aC_NotLinked => k_is)
    (case aC_Net => k_is)
    (case pg_Net => k_is)
    (case hd_Net => k_is)
    (case po_Net => k_is)
    (case sa_Net => k_is)
    (case mk_Net => k_is)
    (case kc_Net => k_is)
    (case bcG => k_is)
    (case bcT => k_is)
    (case xg_StoreError => k_is)
    (case xk_StoreError => k_is)
    (case xb_StoreError => k_is)
    (case xd_StoreError => k_is)
    (case xc_StoreError => k_is)
    (case xo_StoreError => k_is)
    (case xi_StoreError => k_is)
    (case xt_StoreError => k_is)
    (case xs_StoreError => k_is)
    (case xg_InvalidNet => k_is)
    (case xk_InvalidNet => k_is)
    (case xb_InvalidNet => k_is)
    (case xd_InvalidNet => k_is)
    (case xc_InvalidNet => k_is)
    (case xo_InvalidNet => k_is)
    (case xi_InvalidNet => k_is)
    (case xt_InvalidNet => k_is)
    (case xs_InvalidNet => k_is)
    (case xg_UnknownReplica => k_is)
    (case xk_UnknownReplica => k_is)
    (case xb_UnknownReplica => k_is)
    (case xd_UnknownReplica => k_is)
    (case xc_UnknownReplica => k_is)
    (case xo_UnknownReplica => k_is)
    (case xi_UnknownReplica => k_is)
    (case xt_UnknownReplica => k_is)
    (case xs_UnknownReplica => k_is)
    (case xg_NotLinked => k_is)
    (case xk_NotLinked => k_is)
    (case xb_NotLinked => k_is)
    (case xd_NotLinked => k_is)
    (case xc_NotLinked => k_is)
    (case xo_NotLinked => k_is)
    (case xi_NotLinked => k_is)
    (case xt_NotLinked => k_is)
    (case xs_NotLinked => k_is)
    (case xx_StoreError_InvalidNet => k_is)
    (case xx_InvalidNet_InvalidNet => k_is)
    (case xx_UnknownReplica_InvalidNet => k_is)
    (case xx_NotLinked_InvalidNet => k_is)
    (case xx_StoreError_NotLinked => k_is)
    (case xx_InvalidNet_NotLinked => k_is)
    (case xx_UnknownReplica_NotLinked => k_is)
    (case xx_NotLinked_NotLinked => k_is)
    (case xx_StoreError_StoreError => k_is)
    (case xx_InvalidNet_StoreError => k_is)
    (case xx_UnknownReplica_StoreError => k_is)
    (case xx_NotLinked_StoreError => k_is)
    (case xx_StoreError_UnknownReplica => k_is)
    (case xx_InvalidNet_UnknownReplica => k_is)
    (case xx_UnknownReplica_UnknownReplica => k_is)
    (case xx_NotLinked_UnknownReplica => k_is)
    (case xx_StoreError_ValueError => k_is)
    (case xx_InvalidNet_ValueError => k_is)
    (case xx_UnknownReplica_ValueError => k_is)
    (case xx_NotLinked_ValueError => k_is)
    (case xy_ValueError => k_is)
    (case xm_ValueError => kernel_rfl)
    (case xn_InvalidNet_link => k_is)
    (case xn_NotLinked_reader => k_is)
    (case xn_UnknownReplica_replica => k_is)
    (case xn_NotLinked_source => k_is)
    (case nf_Net__linked => k_is)
    (case nf_Net__links => k_is)
    (case nf_Net_count => k_is)
    (case rd_Net => k_is)
    (case ga_Net => k_is)
    (case vc_Net_MOST => k_is)
    (case a_Net_links => k_is)
    (case pt_Net_links => k_is)
    (case pk_Net_links => k_is)
    (case pr_Net_links => k_is)
    (case l_Net_links => k_is)
    (case c_Net_links => k_is)
    (case k_Net_links => k_is)
    (case a_Net_has_link => k_is)
    (case i_Net_has_link => k_is)
    (case l_Net_has_link => k_is)
    (case c_Net_has_link => k_is)
    (case k_Net_has_link => k_is)
    (case a__is_below => k_is)
    (case l__is_below => k_is)
    (case c__is_below => k_is)
    (case k__is_below => k_is)
    (case a__law_box => k_is)
    (case l__law_box => k_is)
    (case c__law_box => k_is)
    (case k__law_box => k_is)
    (case a__law_step => k_is)
    (case l__law_step => k_is)
    (case c__law_step => k_is)
    (case k__law_step => k_is)
    (case a__law_draw => k_is)
    (case l__law_draw => k_is)
    (case c__law_draw => k_is)
    (case k__law_draw => k_is)
    (case a__law_is_int => k_is)
    (case l__law_is_int => k_is)
    (case c__law_is_int => k_is)
    (case k__law_is_int => k_is)
    (case a__law_truth => k_is)
    (case l__law_truth => k_is)
    (case c__law_truth => k_is)
    (case k__law_truth => k_is)
    (case a__law_first_bad => k_is)
    (case l__law_first_bad => k_is)
    (case c__law_first_bad => k_is)
    (case k__law_first_bad => k_is)
    (case a__law_table => k_is)
    (case l__law_table => k_is)
    (case c__law_table => k_is)
    (case k__law_table => k_is)
    (case a__law_ties => k_is)
    (case l__law_ties => k_is)
    (case c__law_ties => k_is)
    (case k__law_ties => k_is)
    (case a__law_named_table => k_is)
    (case l__law_named_table => k_is)
    (case c__law_named_table => k_is)
    (case k__law_named_table => k_is)
    (case a__law_great => k_is)
    (case l__law_great => k_is)
    (case c__law_great => k_is)
    (case k__law_great => k_is)
    (case a__law_is_pair => k_is)
    (case l__law_is_pair => k_is)
    (case c__law_is_pair => k_is)
    (case k__law_is_pair => k_is)
    (case a__law_ints_are => k_is)
    (case l__law_ints_are => k_is)
    (case c__law_ints_are => k_is)
    (case k__law_ints_are => k_is)
    (case a__law_count => k_is)
    (case l__law_count => k_is)
    (case c__law_count => k_is)
    (case k__law_count => k_is)
    (case a__law_pair => k_is)
    (case l__law_pair => k_is)
    (case c__law_pair => k_is)
    (case k__law_pair => k_is)
    (case a_Net_sources => k_is)
    (case i_Net_sources => k_is)
    (case l_Net_sources => k_is)
    (case c_Net_sources => k_is)
    (case k_Net_sources => k_is)
    (case a_Net_readers => k_is)
    (case i_Net_readers => k_is)
    (case l_Net_readers => k_is)
    (case c_Net_readers => k_is)
    (case k_Net_readers => k_is)
    (case a__check_count => k_is)
    (case l__check_count => k_is)
    (case c__check_count => k_is)
    (case k__check_count => k_is)
    (case a__law_stranger => k_is)
    (case l__law_stranger => k_is)
    (case c__law_stranger => k_is)
    (case k__law_stranger => k_is)
    (case a__law_pairs_are => k_is)
    (case l__law_pairs_are => k_is)
    (case c__law_pairs_are => k_is)
    (case k__law_pairs_are => k_is)
    (case a__law_good_pairs => k_is)
    (case l__law_good_pairs => k_is)
    (case c__law_good_pairs => k_is)
    (case k__law_good_pairs => k_is)
    (case a__law_refused => k_is)
    (case l__law_refused => k_is)
    (case c__law_refused => k_is)
    (case k__law_refused => k_is)
    (case a__law_wrong_count => k_is)
    (case l__law_wrong_count => k_is)
    (case c__law_wrong_count => k_is)
    (case k__law_wrong_count => k_is)
    (case a_Net___init__ => k_is)
    (case i_Net___init__ => k_is)
    (case l_Net___init__ => k_is)
    (case c_Net___init__ => k_is)
    (case k_Net___init__ => k_is)
    (case a__law_bad_pair => k_is)
    (case l__law_bad_pair => k_is)
    (case c__law_bad_pair => k_is)
    (case k__law_bad_pair => k_is)
    (case a__law_row => k_is)
    (case l__law_row => k_is)
    (case c__law_row => k_is)
    (case k__law_row => k_is)
    (case a__law_has => k_is)
    (case l__law_has => k_is)
    (case c__law_has => k_is)
    (case k__law_has => k_is)
    (case a__law_spoilt => k_is)
    (case l__law_spoilt => k_is)
    (case c__law_spoilt => k_is)
    (case k__law_spoilt => k_is)
    (case a__law_row_is => k_is)
    (case l__law_row_is => k_is)
    (case c__law_row_is => k_is)
    (case k__law_row_is => k_is)
    (case a__law_unknown => k_is)
    (case l__law_unknown => k_is)
    (case c__law_unknown => k_is)
    (case k__law_unknown => k_is)
    (case a__law_deed_pair => k_is)
    (case l__law_deed_pair => k_is)
    (case c__law_deed_pair => k_is)
    (case k__law_deed_pair => k_is)
    (case a_Net_both_ways => k_is)
    (case pr_Net_both_ways => k_is)
    (case i_Net_both_ways => k_is)
    (case l_Net_both_ways => k_is)
    (case c_Net_both_ways => k_is)
    (case k_Net_both_ways => k_is)
    (case a_Net_ring => k_is)
    (case pr_Net_ring => k_is)
    (case i_Net_ring => k_is)
    (case l_Net_ring => k_is)
    (case c_Net_ring => k_is)
    (case k_Net_ring => k_is)
    (case a_Net_with_link => k_is)
    (case i_Net_with_link => k_is)
    (case l_Net_with_link => k_is)
    (case c_Net_with_link => k_is)
    (case k_Net_with_link => k_is)
    (case a_Net_without_link => k_is)
    (case i_Net_without_link => k_is)
    (case l_Net_without_link => k_is)
    (case c_Net_without_link => k_is)
    (case k_Net_without_link => k_is)
    (case a__law_net_is => k_is)
    (case l__law_net_is => k_is)
    (case c__law_net_is => k_is)
    (case k__law_net_is => k_is)
    (case a_Net_line => k_is)
    (case pr_Net_line => k_is)
    (case i_Net_line => k_is)
    (case l_Net_line => k_is)
    (case c_Net_line => k_is)
    (case k_Net_line => k_is)
    (case a_Net_star => k_is)
    (case pr_Net_star => k_is)
    (case i_Net_star => k_is)
    (case l_Net_star => k_is)
    (case c_Net_star => k_is)
    (case k_Net_star => k_is)
    (case a_Net_complete => k_is)
    (case pr_Net_complete => k_is)
    (case i_Net_complete => k_is)
    (case l_Net_complete => k_is)
    (case c_Net_complete => k_is)
    (case k_Net_complete => k_is)
    (case a__law_changed => k_is)
    (case l__law_changed => k_is)
    (case c__law_changed => k_is)
    (case k__law_changed => k_is)
    (case a__law_call => k_is)
    (case l__law_call => k_is)
    (case c__law_call => k_is)
    (case k__law_call => k_is)
    (case a__law_deed => k_is)
    (case l__law_deed => k_is)
    (case c__law_deed => k_is)
    (case k__law_deed => k_is)
    (case a__law_made => k_is)
    (case l__law_made => k_is)
    (case c__law_made => k_is)
    (case k__law_made => k_is)
    (case a__law_deeds => k_is)
    (case l__law_deeds => k_is)
    (case c__law_deeds => k_is)
    (case k__law_deeds => k_is)
    (case a__law_builds => k_is)
    (case l__law_builds => k_is)
    (case c__law_builds => k_is)
    (case k__law_builds => k_is)
    (case a__law_named => k_is)
    (case l__law_named => k_is)
    (case c__law_named => k_is)
    (case k__law_named => k_is)
    (case a__law_counts => k_is)
    (case l__law_counts => k_is)
    (case c__law_counts => k_is)
    (case k__law_counts => k_is)
    (case a_law => k_is)
    (case l_law => k_is)
    (case c_law => k_is)
    (case k_law => k_is)
    (case a_InvalidNet___init__ => k_is)
    (case l_InvalidNet___init__ => k_is)
    (case c_InvalidNet___init__ => k_is)
    (case y_InvalidNet___init__ => k_is)
    (case oc_InvalidNet => k_is)
    (case ob_InvalidNet => kernel_rfl)
    (case os_InvalidNet => k_is)
    (case ok_InvalidNet => k_is)
    (case cl_InvalidNet => k_is)
    (case cv_InvalidNet => exact rfl)
    (case cf_InvalidNet => kernel_rfl)
    (case ce_InvalidNet => k_is)
    (case om_InvalidNet => k_is)
    (case oi_InvalidNet => ks_is)
    (case ov_InvalidNet => k_is)
    (case on_InvalidNet_link => k_is)
    (case a_NotLinked___init__ => k_is)
    (case l_NotLinked___init__ => k_is)
    (case c_NotLinked___init__ => k_is)
    (case y_NotLinked___init__ => k_is)
    (case oc_NotLinked => k_is)
    (case ob_NotLinked => kernel_rfl)
    (case os_NotLinked => k_is)
    (case ok_NotLinked => k_is)
    (case cl_NotLinked => k_is)
    (case cv_NotLinked => exact rfl)
    (case cf_NotLinked => kernel_rfl)
    (case ce_NotLinked => k_is)
    (case om_NotLinked => k_is)
    (case oi_NotLinked => ks_is)
    (case ov_NotLinked => k_is)
    (case on_NotLinked_source => k_is)
    (case on_NotLinked_reader => k_is)
    (case a_UnknownReplica___init__ => k_is)
    (case l_UnknownReplica___init__ => k_is)
    (case c_UnknownReplica___init__ => k_is)
    (case y_UnknownReplica___init__ => k_is)
    (case oc_UnknownReplica => k_is)
    (case ob_UnknownReplica => kernel_rfl)
    (case os_UnknownReplica => k_is)
    (case ok_UnknownReplica => k_is)
    (case cl_UnknownReplica => k_is)
    (case cv_UnknownReplica => exact rfl)
    (case cf_UnknownReplica => kernel_rfl)
    (case ce_UnknownReplica => k_is)
    (case om_UnknownReplica => k_is)
    (case oi_UnknownReplica => ks_is)
    (case ov_UnknownReplica => k_is)
    (case on_UnknownReplica_replica => k_is)
    (case spT => kernel_rfl)
    (case spO => k_is)
    (case spG => k_is)
    (case z_ValueError => k_is)
    (case z_bool => k_is)
    (case z_int => k_is)
    (case z_isinstance => k_is)
    (case z_len => k_is)
    (case z_list => k_is)
    (case z_max => k_is)
    (case z_min => k_is)
    (case z_range => k_is)
    (case z_sorted => k_is)
    (case z_sum => k_is)
    (case z_tuple => k_is)

#print axioms PySem.Challenge.cw_pullstore_k00_nets_keep_links_holds
