import PyProof.Rows.All
import Wide.All
import OpenK.AllK
import Wide.FinOn
import KE.KStateDown
import Lean
import HandS.ForMost
import HandS.More
import HandS.IsInst
import HandS.Style
import HandS.Defaults
import HandS.Codes
import HandS.WordsExc
import HandS.Head0
import HandS.Head1
import HandS.Head2
import HandS.HeadEnd
import HandS.HeadHook1
import HandS.HeadHook2
import PySem.Challenge.RW_bellows_k84_requests_to_a_disk
set_option Elab.async false
set_option linter.all false
set_option maxRecDepth 100000
set_option maxHeartbeats 4000000
/-! my own words: readings' names, one lemma a reading, the heap -/
namespace Pr
open PySem L2
abbrev rPl : R2 := rI0 fun i j => .int (i + j)
abbrev rMi : R2 := rI0 fun i j => .int (i - j)
abbrev rMu : R2 := rI CMul fun i j => .int (i * j)
abbrev rPo : R2 := rI CPow fun i j => .int (i ^ j.toNat)
abbrev rShl : R2 := rI CPow fun i j => .int (i * 2 ^ j.toNat)
abbrev rShr : R2 := rI (fun _ j => 0 ≤ j) fun i j => .int (i / 2 ^ j.toNat)
abbrev rMo : R2 := rI (fun _ j => 0 < j) fun i j => .int (i % j)
abbrev rDi : R2 := rI CDiv fun i j => .int (i / j)
abbrev rBand : R2 := rI0 fun i j => .int (Builtin.bitAnd i j)
abbrev rBor : R2 := rI0 fun i j => .int (Builtin.bitOr i j)
abbrev rBxor : R2 := rI0 fun i j => .int (Builtin.bitXor i j)
abbrev rLt : R2 := rI0 fun i j => .bl (decide (i < j))
abbrev rLe : R2 := rI0 fun i j => .bl (decide (i ≤ j))
abbrev rGt : R2 := rI0 fun i j => .bl (decide (j < i))
abbrev rGe : R2 := rI0 fun i j => .bl (decide (j ≤ i))
abbrev rNeg : V → Hp → VK → Prop := rU fun i => .int (-i)
def rIsNn : R2 := fun x y H Q => y = .non ∧ Q (.bl (decide (x = .non))) H
def rNotNn : R2 := fun x y H Q => y = .non ∧ Q (.bl (!decide (x = .non))) H
def rLenSq (K : PySem.W.Frag) : List V → Hp → VK → Prop := fun xs H Q => ∃ p ys, xs = [.ref p] ∧ (SqL K H p ys ∨ SqT K H p ys) ∧ Q (.int ys.length) H
def rLenDk : List V → Hp → VK → Prop := fun xs H Q => ∃ a kvs, xs = [V.ref a] ∧ H a = some (.dK kvs) ∧ Q (.int kvs.length) H
def rInt1 : List V → Hp → VK → Prop := fun xs H Q => (∃ i, xs = [.int i] ∧ Q (.int i) H) ∨ ∃ k, xs = [.bl k] ∧ Q (.int (if k then 1 else 0)) H
def rAbs : List V → Hp → VK → Prop := fun xs H Q => ∃ i, xs = [.int i] ∧ Q (.int (if i < 0 then -i else i)) H
def rMin2 : List V → Hp → VK → Prop := fun xs H Q => ∃ i j, xs = [.int i, .int j] ∧ Q (.int (if j < i then j else i)) H
def rMax2 : List V → Hp → VK → Prop := fun xs H Q => ∃ i j, xs = [.int i, .int j] ∧ Q (.int (if j > i then j else i)) H
def rListOf (K : PySem.W.Frag) : List V → Hp → VK → Prop := fun xs H Q => ∃ p ys, xs = [.ref p] ∧ (SqL K H p ys ∨ SqT K H p ys) ∧ ∀ l, H l = none → Q (.ref l) (upd H l (.lst ys))
def rDictD : List V → Hp → VK → Prop := fun xs H Q => ∃ (a : Addr) (kvs : List (Key × V)), xs = [.ref a] ∧ Rd H a (.dK kvs) ∧ ∀ p, H p = none → Q (.ref p) (upd H p (.dK kvs))
def rSortD : List V → Hp → VK → Prop := fun xs H Q => ∃ (a : Addr) (kvs : List (Key × V)) (ks : List Str), xs = [.ref a] ∧ Rd H a (.dK kvs) ∧ kvs.map (·.1) = ks.map Sum.inr ∧ ks.length < 64 ∧ ∀ ys p, ys.Perm ks → PyProof.Rows.sortedS ys = true → H p = none → Q (.ref p) (upd H p (.lst (ys.map V.str)))
def tTr (K : PySem.W.Frag) (ta : TE) : TT := fun σ H Q => ta σ H fun x H' => ∃ k, TruV K x H' k ∧ Q k H'
section
variable {σ : St} {H : Hp} {Q : VK} {ta tb tc te : TE} {r r' : R2} {v x y : V} {nx bk ct : St → Hp → Prop} {rt : VK} {K : PySem.W.Frag} {tr : TA} {tt tu : TT} {t u : TS} {QT : Bool → Hp → Prop} {QL : List V → Hp → Prop}
theorem x_var {i : Nat} (h : ∃ v, σ[i]? = some (some v) ∧ Q v H) : tVar i σ H Q := h
theorem x_c (q : Q v H) : tC v σ H Q := q
theorem x_op (h : ta σ H fun x H1 => tb σ H1 fun y H2 => r x y H2 Q) : tOp r ta tb σ H Q := h
theorem x_un {r : V → Hp → VK → Prop} (h : ta σ H fun x H1 => r x H1 Q) : tUn r ta σ H Q := h
theorem x_I0 {g : Int → Int → V} {i j : Int} (q : Q (g i j) H) : rI0 g (.int i) (.int j) H Q := ⟨i, j, rfl, rfl, q⟩
theorem x_I {C : Int → Int → Prop} {g : Int → Int → V} {i j : Int} (c : C i j) (q : Q (g i j) H) : rI C g (.int i) (.int j) H Q := ⟨i, j, rfl, rfl, c, q⟩
theorem x_U {g : Int → V} {i : Int} (q : Q (g i) H) : rU g (.int i) H Q := ⟨i, rfl, q⟩
theorem x_test (h : te σ H fun x H1 => ∃ k, x = .bl k ∧ QT k H1) : tTest te σ H QT := h
theorem x_B (h : te σ H fun x H1 => ∃ k, x = .bl k ∧ QT k H1) : tB te σ H QT := h
theorem x_tr (h : te σ H fun x H1 => ∃ k, TruV K x H1 k ∧ QT k H1) : tTr K te σ H QT := h
theorem x_bl {k : Bool} {P : Bool → Prop} (q : P k) : ∃ k', V.bl k = .bl k' ∧ P k' := ⟨k, rfl, q⟩
theorem x_nil (q : QL [] H) : tNil σ H QL := q
theorem x_cons (h : ta σ H fun x H1 => tr σ H1 fun xs H2 => QL (x :: xs) H2) : tCons ta tr σ H QL := h
theorem x_lst (h : tr σ H fun xs H1 => xs.length ≤ sizeLine ∧ ∀ p, H1 p = none → Q (.ref p) (upd H1 p (.lst xs))) : tLst tr σ H Q := h
theorem x_tup (h : tr σ H fun xs H1 => xs.length ≤ sizeLine ∧ ∀ p, H1 p = none → Q (.ref p) (upd H1 p (.tup xs))) : tTup tr σ H Q := h
theorem x_cb {r : List V → Hp → VK → Prop} (h : tr σ H fun vs H1 => r vs H1 Q) : tCB r tr σ H Q := h
theorem x_sl {r : V → Option Int → Option Int → Hp → VK → Prop} {tl th : TO} (h : te σ H fun x H1 => tl σ H1 fun l H2 => th σ H2 fun u H3 => r x l u H3 Q) : tSl r te tl th σ H Q := h
theorem x_nopart {QO : Option Int → Hp → Prop} (q : QO none H) : tNoPart σ H QO := q
theorem x_part {QO : Option Int → Hp → Prop} (h : te σ H fun x H1 => ∃ i, x = .int i ∧ QO (some i) H1) : tPart te σ H QO := h
theorem x_int {i : Int} {P : Int → Prop} (q : P i) : ∃ j, V.int i = .int j ∧ P j := ⟨i, rfl, q⟩
theorem x_ev (v : V) (h : ∀ Q : VK, Q v H → te σ H Q) (q : Q v H) : te σ H Q := h Q q
theorem x_tev (b : Bool) (h : ∀ Q : Bool → Hp → Prop, Q b H → tt σ H Q) (q : QT b H) : tt σ H QT := h QT q
theorem x_if (h : tt σ H fun c H1 => if c = true then ta σ H1 Q else tb σ H1 Q) : tIf tt ta tb σ H Q := h
theorem x_andV (h : ta σ H fun x H1 => ∃ c, x = .bl c ∧ if c = true then tb σ H1 Q else Q (.bl false) H1) : tAndV ta tb σ H Q := h
theorem x_orV (h : ta σ H fun x H1 => ∃ c, x = .bl c ∧ if c = true then Q (.bl true) H1 else tb σ H1 Q) : tOrV ta tb σ H Q := h
theorem x_notV (h : ta σ H fun x H1 => ∃ c, x = .bl c ∧ Q (.bl (!c)) H1) : tNotV ta σ H Q := h
theorem x_and (h : tt σ H fun c H1 => if c = true then tu σ H1 QT else QT false H1) : tAnd tt tu σ H QT := h
theorem x_or (h : tt σ H fun c H1 => if c = true then QT true H1 else tu σ H1 QT) : tOr tt tu σ H QT := h
theorem x_not (h : tt σ H fun c H1 => QT (!c) H1) : tNot tt σ H QT := h
theorem x_yes (q : QT true H) : tYes σ H QT := q
theorem x_ixL {p : Addr} {i : Int} (h : ∃ xs, SqL K H p xs ∧ ∃ v, atI xs i = some v ∧ Q v H) : rIxL K (.ref p) (.int i) H Q := by
  obtain ⟨xs, h, v, a, q⟩ := h
  exact ⟨p, xs, i, v, rfl, rfl, h, a, q⟩
theorem x_ixT {p : Addr} {i : Int} (h : ∃ xs, SqT K H p xs ∧ ∃ v, atI xs i = some v ∧ Q v H) : rIxT K (.ref p) (.int i) H Q := by
  obtain ⟨xs, h, v, a, q⟩ := h
  exact ⟨p, xs, i, v, rfl, rfl, h, a, q⟩
theorem x_fld {f : Str} (h : te σ H fun x H1 => ∃ a C dx fs v, x = .ref a ∧ H1 a = some (.ins C dx fs) ∧ Cls K C ∧ NoAttr K C f ∧ fs.lookup f = some v ∧ Q v H1) : tFld K te f σ H Q := h
theorem x_tyL {p : Addr} {A : Prop} (h : ∃ xs, SqL K H p xs ∧ A) : tyV K "list" (.ref p) H ∧ A := by
  obtain ⟨xs, h, q⟩ := h
  exact ⟨.inl ⟨rfl, xs, h⟩, q⟩
theorem x_eq (s : scal x y = true) (q : Q (.bl (decide (x = y))) H) : rEq x y H Q := ⟨s, q⟩
theorem x_ne (s : scal x y = true) (q : Q (.bl (!decide (x = y))) H) : rNe x y H Q := ⟨s, q⟩
theorem x_isN (q : Q (.bl (decide (x = .non))) H) : rIsNn x .non H Q := ⟨rfl, q⟩
theorem x_notN (q : Q (.bl (!decide (x = .non))) H) : rNotNn x .non H Q := ⟨rfl, q⟩
theorem x_lenL {p : Addr} (h : ∃ xs, SqL K H p xs ∧ Q (.int xs.length) H) : rLenSq K [.ref p] H Q := by
  obtain ⟨xs, h, q⟩ := h
  exact ⟨p, xs, rfl, .inl h, q⟩
theorem x_int1 {i : Int} (q : Q (.int i) H) : rInt1 [.int i] H Q := .inl ⟨i, rfl, q⟩
theorem x_intB {k : Bool} (q : Q (.int (if k then 1 else 0)) H) : rInt1 [.bl k] H Q := .inr ⟨k, rfl, q⟩
theorem x_abs {i : Int} (q : Q (.int (if i < 0 then -i else i)) H) : rAbs [.int i] H Q := ⟨i, rfl, q⟩
theorem x_min2 {i j : Int} (q : Q (.int (if j < i then j else i)) H) : rMin2 [.int i, .int j] H Q := ⟨i, j, rfl, q⟩
theorem x_max2 {i j : Int} (q : Q (.int (if j > i then j else i)) H) : rMax2 [.int i, .int j] H Q := ⟨i, j, rfl, q⟩
theorem x_listL {p : Addr} (h : ∃ xs, SqL K H p xs ∧ ∀ l, H l = none → Q (.ref l) (upd H l (.lst xs))) : rListOf K [.ref p] H Q := by
  obtain ⟨xs, h, q⟩ := h
  exact ⟨p, xs, rfl, .inl h, q⟩
theorem x_cat {a b : Addr} (h : ∃ xs, H a = some (.lst xs) ∧ ∃ ys, H b = some (.lst ys) ∧ xs.length + ys.length ≤ sizeLine ∧ ∀ p, H p = none → Q (.ref p) (upd H p (.lst (xs ++ ys)))) : rCat (.ref a) (.ref b) H Q := by
  obtain ⟨xs, h1, ys, h2, l, q⟩ := h
  exact ⟨a, b, xs, ys, rfl, rfl, h1, h2, l, q⟩
theorem x_slL {a : Addr} {lo hi : Option Int} (h : ∃ xs, SqL K H a xs ∧ ∀ p, H p = none → Q (.ref p) (upd H p (.lst (cutV xs lo hi)))) : rSlL K (.ref a) lo hi H Q := by
  obtain ⟨xs, h, q⟩ := h
  exact ⟨a, xs, rfl, h, q⟩
theorem x_bm {T : String} {r : V → List V → Hp → VK → Prop} (h : te σ H fun x H1 => tyV K T x H1 ∧ tr σ H1 fun xs H2 => r x xs H2 Q) : tBM K T r te tr σ H Q := h
theorem x_app {l : Addr} (h : ∃ xs, H l = some (.lst xs) ∧ xs.length < sizeLine ∧ Q .non (upd H l (.lst (xs ++ [y])))) : rAppend (.ref l) [y] H Q := by
  obtain ⟨xs, h, z, q⟩ := h
  exact ⟨l, xs, y, rfl, rfl, h, z, q⟩
theorem x_seq (h : t ⟨u ⟨nx, rt, bk, ct⟩, rt, bk, ct⟩ σ H) : tSeq t u ⟨nx, rt, bk, ct⟩ σ H := h
theorem x_cut (Mid : L2.St → Hp → Prop) (h : t ⟨Mid, rt, bk, ct⟩ σ H) (k : ∀ σ' H', Mid σ' H' → u ⟨nx, rt, bk, ct⟩ σ' H') : C8.tCut t u ⟨nx, rt, bk, ct⟩ σ H := ⟨Mid, h, k⟩
theorem x_nc (h : t ⟨u ⟨nx, rt, bk, ct⟩, rt, bk, ct⟩ σ H) : C8.tCut t u ⟨nx, rt, bk, ct⟩ σ H := ⟨_, h, fun _ _ q => q⟩
theorem x_asg {i : Nat} (h : te σ H fun x H1 => nx (σ.set i (some x)) H1) : tAsg te (gName i) ⟨nx, rt, bk, ct⟩ σ H := h
theorem x_drop (h : te σ H fun _ H1 => nx σ H1) : tDrop te ⟨nx, rt, bk, ct⟩ σ H := h
theorem x_ret (h : te σ H rt) : tRet te ⟨nx, rt, bk, ct⟩ σ H := h
theorem x_retN (h : rt .non H) : tRetN ⟨nx, rt, bk, ct⟩ σ H := h
theorem x_ifS (h : tt σ H fun b H1 => if b = true then t ⟨nx, rt, bk, ct⟩ σ H1 else u ⟨nx, rt, bk, ct⟩ σ H1) : tIfS tt t u ⟨nx, rt, bk, ct⟩ σ H := h
theorem x_next (h : nx σ H) : tNext ⟨nx, rt, bk, ct⟩ σ H := h
theorem x_brk (h : bk σ H) : tBreak ⟨nx, rt, bk, ct⟩ σ H := h
theorem x_cont (h : ct σ H) : tCont ⟨nx, rt, bk, ct⟩ σ H := h
theorem x_call {sp : Sp} {dvs : List V} {E : XK} (h : tr σ H fun vs H1 => sp (vs ++ dvs) H1 Q E) : tCall sp dvs E tr σ H Q := h
theorem ifT {b : Bool} {A B : Prop} (e : b = true) (h : A) : if b = true then A else B := by
  rw [if_pos e]; exact h
theorem ifF {b : Bool} {A B : Prop} (e : b = false) (h : B) : if b = true then A else B := by
  subst e; exact iteF h
theorem ifd {c : Prop} [Decidable c] {A B : Prop} (h1 : c → A) (h2 : ¬ c → B) : if decide c = true then A else B := by
  by_cases h : c
  · rw [decide_eq_true h]; exact iteT (h1 h)
  · rw [decide_eq_false h]; exact iteF (h2 h)
theorem ifn {c : Prop} [Decidable c] {A B : Prop} (h1 : ¬ c → A) (h2 : c → B) : if (!decide c) = true then A else B := by
  by_cases h : c
  · rw [decide_eq_true h]; exact iteF (h2 h)
  · rw [decide_eq_false h]; exact iteT (h1 h)
end
/-! ### loops, targets -/
def tForJ (J : It) (g : TG) (tb : TS) : TS := fun D σ H => ∃ W : Nat → Nat → L2.St → Hp → Prop, (∃ m, W 0 m σ H) ∧ ∀ i m σ H, W i m σ H →
  (J.stop i H ∧ D.nx σ H) ∨ (J.go i H ∧ ∃ N : L2.St → Hp → Prop, (∀ σ' H', N σ' H' → ∃ m', m' < m ∧ W (i + 1) m' σ' H') ∧ ∀ x H', J.yld i H x H' → g x σ H' fun σ2 H2 => tb { D with nx := N, ct := N, bk := D.nx } σ2 H2)
section
variable {σ : L2.St} {H : Hp} {g : TG} {tb : TS} {ta : TA} {te : TE} {K : PySem.W.Frag} {nx bk ct : L2.St → Hp → Prop} {rt : VK} {QG : L2.St → Hp → Prop}
theorem x_forR1 (h : ta σ H fun vs H1 => ∃ j : Int, vs = [.int j] ∧ -(2 ^ 62) ≤ j ∧ j < 2 ^ 62 ∧ tForJ (Itr 0 j.toNat) g tb ⟨nx, rt, bk, ct⟩ σ H1) : tFor (iRng1 ta) g tb ⟨nx, rt, bk, ct⟩ σ H := h
theorem x_forR2 (h : ta σ H fun vs H1 => ∃ i j : Int, vs = [.int i, .int j] ∧ (-(2 ^ 62) ≤ i ∧ i < 2 ^ 62 ∧ -(2 ^ 62) ≤ j ∧ j < 2 ^ 62) ∧ tForJ (Itr i (j - i).toNat) g tb ⟨nx, rt, bk, ct⟩ σ H1) : tFor (iRng2 ta) g tb ⟨nx, rt, bk, ct⟩ σ H := h
theorem x_forL (h : te σ H fun x H1 => ∃ a, x = .ref a ∧ (∃ xs, SqL K H1 a xs) ∧ tForJ (Itl K a) g tb ⟨nx, rt, bk, ct⟩ σ H1) : tFor (iList K te) g tb ⟨nx, rt, bk, ct⟩ σ H := h
theorem x_forT (h : te σ H fun x H1 => ∃ a, x = .ref a ∧ (∃ xs, SqT K H1 a xs) ∧ tForJ (Itt K a) g tb ⟨nx, rt, bk, ct⟩ σ H1) : tFor (iTup K te) g tb ⟨nx, rt, bk, ct⟩ σ H := h
theorem w_rng {lo : Int} {n : Nat} (Pv : Nat → L2.St → Hp → Prop) (h0 : Pv 0 σ H)
    (hs : ∀ i σ H, i < n → Pv i σ H → g (.int (lo + i)) σ H fun σ2 H2 => tb ⟨Pv (i + 1), rt, nx, Pv (i + 1)⟩ σ2 H2) (hd : ∀ σ H, Pv n σ H → nx σ H) : tForJ (Itr lo n) g tb ⟨nx, rt, bk, ct⟩ σ H := for_range (D := ⟨nx, rt, bk, ct⟩) Pv h0 hs hd
theorem w_lst {a : Addr} {xs : List V} (Pv : Nat → L2.St → Hp → Prop) (h0 : Pv 0 σ H) (hl : ∀ i σ H, i ≤ xs.length → Pv i σ H → SqL K H a xs)
    (hs : ∀ i x σ H, xs[i]? = some x → Pv i σ H → g x σ H fun σ2 H2 => tb ⟨Pv (i + 1), rt, nx, Pv (i + 1)⟩ σ2 H2) (hd : ∀ σ H, Pv xs.length σ H → nx σ H) : tForJ (Itl K a) g tb ⟨nx, rt, bk, ct⟩ σ H := for_list (D := ⟨nx, rt, bk, ct⟩) Pv h0 hl hs hd
theorem w_tup {a : Addr} {xs : List V} (Pv : Nat → L2.St → Hp → Prop) (h0 : Pv 0 σ H) (hl : ∀ i σ H, i ≤ xs.length → Pv i σ H → SqT K H a xs)
    (hs : ∀ i x σ H, xs[i]? = some x → Pv i σ H → g x σ H fun σ2 H2 => tb ⟨Pv (i + 1), rt, nx, Pv (i + 1)⟩ σ2 H2) (hd : ∀ σ H, Pv xs.length σ H → nx σ H) : tForJ (Itt K a) g tb ⟨nx, rt, bk, ct⟩ σ H := for_tup (D := ⟨nx, rt, bk, ct⟩) Pv h0 hl hs hd
theorem w_while {c : TT} (m : Nat) (Pv : Nat → L2.St → Hp → Prop) (h0 : Pv m σ H)
    (hs : ∀ m σ H, Pv m σ H → c σ H fun b H1 => if b = true then ∃ N : L2.St → Hp → Prop, (∀ σ' H', N σ' H' → ∃ m', m' < m ∧ Pv m' σ' H') ∧ tb ⟨N, rt, nx, N⟩ σ H1 else nx σ H1) : tWhile c tb ⟨nx, rt, bk, ct⟩ σ H := ⟨Pv, ⟨m, h0⟩, hs⟩
theorem x_gn {i : Nat} {v : V} (h : QG (σ.set i (some v)) H) : gName i v σ H QG := h
theorem x_gnil (h : QG σ H) : gNil [] σ H QG := ⟨rfl, h⟩
theorem x_gtup {n : Nat} {t : TGs} {a : Addr} (h : ∃ xs, SqT K H a xs ∧ xs.length = n ∧ t xs σ H QG) : gTup K n t (.ref a) σ H QG := by
  obtain ⟨xs, h, l, q⟩ := h
  exact ⟨a, xs, rfl, h, l, q⟩
theorem x_gcons {t : TG} {u : TGs} {v : V} {r : List V} (h : t v σ H fun σ' H' => u r σ' H' QG) : gCons t u (v :: r) σ H QG := ⟨v, r, rfl, h⟩
end
/-! ### the heap -/
def Ex (H H' : Hp) : Prop := ∀ a o, H a = some o → H' a = some o
theorem Ex.refl (H : Hp) : Ex H H := fun _ _ h => h
theorem Ex.trans {H H1 H2 : Hp} (a : Ex H H1) (b : Ex H1 H2) : Ex H H2 := fun x o h => b x o (a x o h)
theorem Ex.at {H H' : Hp} {a : Addr} {o : HO} (e : Ex H H') (h : H a = some o) : H' a = some o := e a o h
theorem Ex.new {H : Hp} {p : Addr} {o : HO} (h : H p = none) : Ex H (upd H p o) := fun a u e => by
  rw [upd_ne (ne_of_none e h)]
  exact e
theorem Ex.mut {H H' : Hp} {p : Addr} {o : HO} (e : Ex H H') (h : H p = none) : Ex H (upd H' p o) := fun a u ha => by
  rw [upd_ne (ne_of_none ha h)]
  exact e a u ha
theorem Ex.none {H H' : Hp} {p : Addr} (e : Ex H H') (h : H' p = none) : H p = none := by
  cases h1 : H p with
  | none => rfl
  | some o =>
    rw [e p o h1] at h
    cases h
theorem Ex.rd {H H' : Hp} {a : Addr} {u : HO} (e : Ex H H') (h : Rd H a u) : Rd H' a u := by
  rcases h with h | ⟨o, h⟩
  · exact Or.inl (e a _ h)
  · exact Or.inr ⟨o, e a _ h⟩
theorem Ex.l {K : PySem.W.Frag} {H H' : Hp} {a : Addr} {xs : List V} (e : Ex H H') (h : SqL K H a xs) : SqL K H' a xs := by
  rcases h with h | h
  · exact Or.inl (e.rd h)
  · exact Or.inr h
theorem Ex.t {K : PySem.W.Frag} {H H' : Hp} {a : Addr} {xs : List V} (e : Ex H H') (h : SqT K H a xs) : SqT K H' a xs := by
  rcases h with h | h
  · exact Or.inl (e.rd h)
  · exact Or.inr h
theorem lq {K : PySem.W.Frag} {H : Hp} {a : Addr} {xs : List V} (h : H a = some (.lst xs)) : SqL K H a xs := .inl (.inl h)
theorem tq {K : PySem.W.Frag} {H : Hp} {a : Addr} {xs : List V} (h : H a = some (.tup xs)) : SqT K H a xs := .inl (.inl h)
theorem sz_of {n : Nat} (h : n ≤ 1000000) : n ≤ sizeLine := Nat.le_trans h (by decide)
theorem sz_lt {n : Nat} (h : n < 1000000) : n < sizeLine := Nat.lt_of_lt_of_le h (by decide)
theorem upd_eq_none {H : Hp} {a b : Addr} {o : HO} : upd H a o b = none ↔ b ≠ a ∧ H b = none := by
  unfold upd
  by_cases h : b = a
  · simp [h]
  · simp [h]
theorem hp_ne {H : Hp} {a b : Addr} {o u : HO} (h : H b = some o) (n : b ≠ a) : upd H a u b = some o := (upd_ne n).trans h
theorem hp_new {H : Hp} {a b : Addr} {o u : HO} (n : H a = none) (h : H b = some o) : upd H a u b = some o := Ex.new n b o h
theorem sq_new {K : PySem.W.Frag} {H : Hp} {a b : Addr} {xs : List V} {u : HO} (n : H a = none) (h : SqL K H b xs) : SqL K (upd H a u) b xs := Ex.l (Ex.new n) h
theorem st_new {K : PySem.W.Frag} {H : Hp} {a b : Addr} {xs : List V} {u : HO} (n : H a = none) (h : SqT K H b xs) : SqT K (upd H a u) b xs := Ex.t (Ex.new n) h
local macro_rules | `(tactic| walk_at "ne") => `(tactic| first | assumption | (apply Ne.symm; assumption) | grind [upd])
local macro_rules | `(tactic| walk_at "hp") => `(tactic| first | assumption | exact upd_same | (apply hp_new; assumption; walk_at "hp") | (apply hp_ne; (walk_at "hp"); (walk_at "ne")) | (apply Ex.at; assumption; walk_at "hp"))
local macro_rules | `(tactic| walk_at "sq") => `(tactic| first | assumption | (apply lq; walk_at "hp") | (apply sq_new; assumption; walk_at "sq") | (apply Ex.l; assumption; walk_at "sq"))
local macro_rules | `(tactic| walk_at "st") => `(tactic| first | assumption | (apply tq; walk_at "hp") | (apply st_new; assumption; walk_at "st") | (apply Ex.t; assumption; walk_at "st"))
/-! ### objects -/
def GetF (K : PySem.W.Frag) (f : Str) (x : V) (H : Hp) (Q : VK) : Prop := ∃ a C dx fs v, x = .ref a ∧ H a = some (.ins C dx fs) ∧ Cls K C ∧ NoAttr K C f ∧ fs.lookup f = some v ∧ Q v H
def PutF (K : PySem.W.Frag) (f : Str) (x y : V) (H : Hp) (Q : Hp → Prop) : Prop := ∃ a C dx fs, x = .ref a ∧ H a = some (.ins C dx fs) ∧ Cls K C ∧ NoAttr K C f ∧ fs.length < 1000 ∧ Q (upd H a (.ins C dx (putF f y fs)))
def AugF (K : PySem.W.Frag) (f : Str) (x : V) (H : Hp) (tv : (V → Hp → Prop) → Hp → Prop) (rd : V → V → Hp → VK → Prop) (Q : Hp → Prop) : Prop := ∃ a C dx fs v, x = .ref a ∧ H a = some (.ins C dx fs) ∧ Cls K C ∧ NoAttr K C f ∧ fs.lookup f = some v ∧
  tv (fun y H2 => rd v y H2 fun z H3 => ∃ dx' fs', H3 a = some (.ins C dx' fs') ∧ fs'.length < 1000 ∧ Q (upd H3 a (.ins C dx' (putF f z fs')))) H
def MethP (C : Addr) (m : Str) (x : V) (H : Hp) (A : Hp → Prop) : Prop := ∃ (a dx : Addr) (fs : List (Str × V)), x = .ref a ∧ H a = some (.ins C dx fs) ∧ fs.lookup m = none ∧ A H
section
variable {σ : L2.St} {H : Hp} {Q : VK} {te tv ta : TE} {K : PySem.W.Frag} {f : Str} {nx bk ct : L2.St → Hp → Prop} {rt : VK} {y : V} {C p : Addr} {t : TA}
theorem x_getf (h : te σ H fun x H1 => GetF K f x H1 Q) : tFld K te f σ H Q := h
theorem x_get (c : Cls K C) (n : NoAttr K C f) (h : ∃ dx fs, H p = some (.ins C dx fs) ∧ ∃ v, fs.lookup f = some v ∧ Q v H) : GetF K f (.ref p) H Q := by
  obtain ⟨dx, fs, h, v, l, q⟩ := h
  exact ⟨p, C, dx, fs, v, rfl, h, c, n, l, q⟩
theorem x_putf (h : tv σ H fun y H1 => ta σ H1 fun x H2 => PutF K f x y H2 (nx σ)) : sFld K ta tv f ⟨nx, rt, bk, ct⟩ σ H := h
theorem x_put {QH : Hp → Prop} (c : Cls K C) (n : NoAttr K C f) (h : ∃ dx fs, H p = some (.ins C dx fs) ∧ fs.length < 1000 ∧ ∃ fs', putF f y fs = fs' ∧ QH (upd H p (.ins C dx fs'))) : PutF K f (.ref p) y H QH := by
  obtain ⟨dx, fs, h, z, _, rfl, q⟩ := h
  exact ⟨p, C, dx, fs, rfl, h, c, n, z, q⟩
theorem x_meth {m : Str} {sp : Sp} {dvs : List V} {E : XK} (h : ta σ H fun x H1 => MethP C m x H1 fun H1 => t σ H1 fun vs H2 => sp (x :: (vs ++ dvs)) H2 Q E) : tMeth C m sp dvs E ta t σ H Q := h
theorem x_methp {m : Str} {A : Hp → Prop} (h : ∃ dx fs, H p = some (.ins C dx fs) ∧ fs.lookup m = none ∧ A H) : MethP C m (.ref p) H A := by
  obtain ⟨dx, fs, h, l, q⟩ := h
  exact ⟨p, dx, fs, rfl, h, l, q⟩
theorem x_make {sp : Sp} {dvs : List V} {E : XK} (h : t σ H fun vs H1 => ∀ x dx, H1 x = none → H1 dx = none → dx ≠ x → sp (.ref x :: (vs ++ dvs)) (upd (upd H1 dx (.own x)) x (.ins C dx [])) (fun v H2 => v = .non ∧ Q (.ref x) H2) E) : tMake C sp dvs E t σ H Q := h
/-! ### dicts -/
def GetD (x y : V) (H : Hp) (Q : VK) : Prop := ∃ a v, x = .ref a ∧ DGet H a y (some v) ∧ Q v H
def InD (x y : V) (H : Hp) (Q : VK) : Prop := ∃ a o, x = .ref a ∧ DGet H a y o ∧ Q (.bl o.isSome) H
def NInD (x y : V) (H : Hp) (Q : VK) : Prop := ∃ a o, x = .ref a ∧ DGet H a y o ∧ Q (.bl (!o.isSome)) H
def PutD (x y v : V) (H : Hp) (Q : Hp → Prop) : Prop := ∃ a H4, x = .ref a ∧ DPut H a y v H4 ∧ Q H4
def DelD (x y : V) (H : Hp) (Q : Hp → Prop) : Prop := ∃ a kvs k, x = .ref a ∧ H a = some (.dK kvs) ∧ y = kV k ∧ (valV kvs k).isSome = true ∧ Q (upd H a (.dK (dropK kvs k)))
def IsDP (x : V) (H : Hp) (A : Addr → Prop) : Prop := ∃ a, x = .ref a ∧ IsD H a ∧ A a
def GetDx (a : Addr) (y z : V) (H : Hp) (Q : VK) : Prop := ∃ o, DGet H a y o ∧ Q (o.getD z) H
def PopD (a : Addr) (y : V) (H : Hp) (Q : VK) : Prop := ∃ kvs k v, H a = some (.dK kvs) ∧ y = kV k ∧ valV kvs k = some v ∧ Q v (upd H a (.dK (dropK kvs k)))
theorem x_dget {td ty : TE} (h : td σ H fun x H1 => ty σ H1 fun y H2 => GetD x y H2 Q) : tDGet td ty σ H Q := h
theorem x_din {td ty : TE} (h : ty σ H fun y H1 => td σ H1 fun x H2 => InD x y H2 Q) : tDIn ty td σ H Q := h
theorem x_dnin {td ty : TE} (h : ty σ H fun y H1 => td σ H1 fun x H2 => NInD x y H2 Q) : tDNotIn ty td σ H Q := h
theorem x_dput {td ty : TE} (h : tv σ H fun v H1 => td σ H1 fun x H2 => ty σ H2 fun y H3 => PutD x y v H3 (nx σ)) : sDPut td ty tv ⟨nx, rt, bk, ct⟩ σ H := h
theorem x_ddel {td ty : TE} (h : td σ H fun x H1 => ty σ H1 fun y H2 => DelD x y H2 (nx σ)) : sDDel td ty ⟨nx, rt, bk, ct⟩ σ H := h
theorem x_dget2 {td ty tx : TE} (h : td σ H fun x H1 => IsDP x H1 fun a => ty σ H1 fun y H2 => tx σ H2 fun z H3 => GetDx a y z H3 Q) : tDGet2 td ty tx σ H Q := h
theorem x_dpop {td ty : TE} (h : td σ H fun x H1 => IsDP x H1 fun a => ty σ H1 fun y H2 => PopD a y H2 Q) : tDPop1 td ty σ H Q := h
theorem x_dnew (h : ∀ p, H p = none → Q (.ref p) (upd H p (.dK []))) : tDNewK σ H Q := h
theorem x_isd {A : Addr → Prop} (h : ∃ kvs, H p = some (.dK kvs) ∧ A p) : IsDP (.ref p) H A := by
  obtain ⟨kvs, h, q⟩ := h
  exact ⟨p, rfl, .inl ⟨kvs, .inl h⟩, q⟩
theorem x_getS {s : Str} (h : ∃ kvs, H p = some (.dK kvs) ∧ ∃ v, valV kvs (Sum.inr s : Key) = some v ∧ Q v H) : GetD (.ref p) (.str s) H Q := by
  obtain ⟨kvs, h, v, e, q⟩ := h
  exact ⟨p, v, rfl, e ▸ DGet.k (k := Sum.inr s) h, q⟩
theorem x_inS {s : Str} (h : ∃ kvs, H p = some (.dK kvs) ∧ Q (.bl (valV kvs (Sum.inr s : Key)).isSome) H) : InD (.ref p) (.str s) H Q := by
  obtain ⟨kvs, h, q⟩ := h
  exact ⟨p, _, rfl, DGet.k (k := Sum.inr s) h, q⟩
theorem x_ninS {s : Str} (h : ∃ kvs, H p = some (.dK kvs) ∧ Q (.bl (!(valV kvs (Sum.inr s : Key)).isSome)) H) : NInD (.ref p) (.str s) H Q := by
  obtain ⟨kvs, h, q⟩ := h
  exact ⟨p, _, rfl, DGet.k (k := Sum.inr s) h, q⟩
theorem x_putS {s : Str} {v : V} {QH : Hp → Prop} (h : ∃ kvs, H p = some (.dK kvs) ∧ kvs.length < sizeLine ∧ QH (upd H p (.dK (putK kvs (Sum.inr s : Key) v)))) : PutD (.ref p) (.str s) v H QH := by
  obtain ⟨kvs, h, z, q⟩ := h
  exact ⟨p, _, rfl, DPut.k (k := Sum.inr s) h z, q⟩
theorem x_delS {s : Str} {QH : Hp → Prop} (h : ∃ kvs, H p = some (.dK kvs) ∧ (valV kvs (Sum.inr s : Key)).isSome = true ∧ QH (upd H p (.dK (dropK kvs (Sum.inr s : Key))))) : DelD (.ref p) (.str s) H QH := by
  obtain ⟨kvs, h, z, q⟩ := h
  exact ⟨p, kvs, Sum.inr s, rfl, h, rfl, z, q⟩
theorem x_getdxS {s : Str} {z : V} (h : ∃ kvs, H p = some (.dK kvs) ∧ Q ((valV kvs (Sum.inr s : Key)).getD z) H) : GetDx p (.str s) z H Q := by
  obtain ⟨kvs, h, q⟩ := h
  exact ⟨_, DGet.k (k := Sum.inr s) h, q⟩
theorem x_popS {s : Str} (h : ∃ kvs, H p = some (.dK kvs) ∧ ∃ v, valV kvs (Sum.inr s : Key) = some v ∧ Q v (upd H p (.dK (dropK kvs (Sum.inr s : Key))))) : PopD p (.str s) H Q := by
  obtain ⟨kvs, h, v, e, q⟩ := h
  exact ⟨kvs, Sum.inr s, v, h, rfl, e, q⟩
theorem x_lenD (h : ∃ kvs, H p = some (.dK kvs) ∧ Q (.int kvs.length) H) : rLenDk [.ref p] H Q := by
  obtain ⟨kvs, h, q⟩ := h
  exact ⟨p, kvs, rfl, h, q⟩
theorem x_dictD (h : ∃ kvs, H p = some (.dK kvs) ∧ ∀ l, H l = none → Q (.ref l) (upd H l (.dK kvs))) : rDictD [.ref p] H Q := by
  obtain ⟨kvs, h, q⟩ := h
  exact ⟨p, kvs, rfl, .inl h, q⟩
theorem x_sortD (h : ∃ kvs ks, H p = some (.dK kvs) ∧ kvs.map (·.1) = ks.map Sum.inr ∧ ks.length < 64 ∧ ∀ ys l, ys.Perm ks → PyProof.Rows.sortedS ys = true → H l = none → Q (.ref l) (upd H l (.lst (ys.map V.str)))) : rSortD [.ref p] H Q := by
  obtain ⟨kvs, ks, h, e, z, q⟩ := h
  exact ⟨p, kvs, ks, rfl, .inl h, e, z, q⟩
theorem x_sub {to ti : TE} {v : V} {t : TSet} {QG : L2.St → Hp → Prop} (h : to σ H fun o H1 => ti σ H1 fun i H2 => t o i v H2 (QG σ)) : gSub to ti t v σ H QG := h
theorem x_asgG {g : TG} (h : te σ H fun x H1 => g x σ H1 nx) : tAsg te g ⟨nx, rt, bk, ct⟩ σ H := h
theorem x_setL {a : Addr} {i : Int} {v : V} {QH : Hp → Prop} (h : ∃ xs, H a = some (.lst xs) ∧ ∃ j, ixN xs.length i = some j ∧ QH (upd H a (.lst (xs.set j v)))) : rSetL (.ref a) (.int i) v H QH := by
  obtain ⟨xs, h, j, e, q⟩ := h
  exact ⟨a, xs, i, j, rfl, rfl, h, e, q⟩
end
/-! ### the tactics -/
/-! ### list comprehensions -/
def tLcJ (J : It) (g : TG) (tt : TT) (te : TE) (vs : List Nat) : TE := fun σ H1 Q => ∀ D, H1 D = none → ∃ W : Nat → Nat → Hp → Prop, (∃ m, W 0 m (upd H1 D (.lst []))) ∧ ∀ i m H, W i m H →
  (J.stop i H ∧ Q (.ref D) H) ∨ (J.go i H ∧ ∃ Nx : Hp → Prop, (∀ H', Nx H' → ∃ m', m' < m ∧ W (i + 1) m' H') ∧ ∀ x H', J.yld i H x H' → g x (wipe σ vs) H' fun σ2 H2 => wipe σ2 vs = wipe σ vs ∧ tt σ2 H2 fun b H3 =>
    if b = true then te σ2 H3 fun y H4 => ∃ acc, H4 D = some (.lst acc) ∧ acc.length < sizeLine ∧ Nx (upd H4 D (.lst (acc ++ [y]))) else Nx H3)
section
variable {σ : L2.St} {H : Hp} {g : TG} {tt : TT} {te tl : TE} {ta : TA} {K : PySem.W.Frag} {Q : VK} {vs : List Nat}
theorem x_lcL (h : tl σ H fun x H1 => ∃ a, x = .ref a ∧ (∃ xs, SqL K H1 a xs) ∧ tLcJ (Itl K a) g tt te vs σ H1 Q) : tLc (iList K tl) g tt te vs σ H Q := h
theorem x_lcR1 (h : ta σ H fun vs0 H1 => ∃ j : Int, vs0 = [.int j] ∧ -(2 ^ 62) ≤ j ∧ j < 2 ^ 62 ∧ tLcJ (Itr 0 j.toNat) g tt te vs σ H1 Q) : tLc (iRng1 ta) g tt te vs σ H Q := h
theorem wipe1 (σ : L2.St) (j : Nat) (v : Option V) : wipe ((wipe σ [j]).set j v) [j] = wipe σ [j] := by
  show ((σ.set j none).set j v).set j none = σ.set j none
  rw [List.set_set, List.set_set]
/-- over a list, with no if: D the new list, acc what it holds -/
theorem w_lcL {a : Addr} {xs : List V} {j : Nat} (Pv : Addr → Nat → List V → Hp → Prop) (h0 : ∀ D, H D = none → Pv D 0 [] (upd H D (.lst [])))
    (hl : ∀ D i acc H', H D = none → Pv D i acc H' → SqL K H' a xs)
    (hs : ∀ D i acc x H', H D = none → xs[i]? = some x → Pv D i acc H' → te (σ.set j (some x)) H' fun y H4 => ∃ acc2, H4 D = some (.lst acc2) ∧ acc2.length < sizeLine ∧ ∃ acc3, Pv D (i + 1) acc3 (upd H4 D (.lst (acc2 ++ [y]))))
    (hd : ∀ D acc H', H D = none → Pv D xs.length acc H' → Q (.ref D) H') : tLcJ (Itl K a) (gName j) tYes te [j] σ H Q := fun D hn =>
  lc_list (K := K) (a := a) (xs := xs) (fun i H' => ∃ acc, Pv D i acc H') ⟨[], h0 D hn⟩ (fun i H' _ ⟨acc, p⟩ => hl D i acc H' hn p) (fun i x H' hx ⟨acc, p⟩ => by
    refine ⟨wipe1 σ j (some x), ?_⟩
    have e : (wipe σ [j]).set j (some x) = σ.set j (some x) := List.set_set ..
    rw [e]
    refine x_yes ?_
    exact iteT (hs D i acc x H' hn hx p)) fun H' ⟨acc, p⟩ => hd D acc H' hn p
/-- over range(n), with no if -/
theorem w_lcR {n : Nat} {lo : Int} {j : Nat} (Pv : Addr → Nat → List V → Hp → Prop) (h0 : ∀ D, H D = none → Pv D 0 [] (upd H D (.lst [])))
    (hs : ∀ D i acc H', H D = none → i < n → Pv D i acc H' → te (σ.set j (some (.int (lo + i)))) H' fun y H4 => ∃ acc2, H4 D = some (.lst acc2) ∧ acc2.length < sizeLine ∧ ∃ acc3, Pv D (i + 1) acc3 (upd H4 D (.lst (acc2 ++ [y]))))
    (hd : ∀ D acc H', H D = none → Pv D n acc H' → Q (.ref D) H') : tLcJ (Itr lo n) (gName j) tYes te [j] σ H Q := fun D hn =>
  lc_range (lo := lo) (n := n) (fun i H' => ∃ acc, Pv D i acc H') ⟨[], h0 D hn⟩ (fun i H' hi ⟨acc, p⟩ => by
    refine ⟨wipe1 σ j (some (.int (lo + i))), ?_⟩
    have e : (wipe σ [j]).set j (some (.int (lo + i))) = σ.set j (some (.int (lo + i))) := List.set_set ..
    rw [e]
    refine x_yes ?_
    exact iteT (hs D i acc H' hn hi p)) fun H' ⟨acc, p⟩ => hd D acc H' hn p
end
/-! ### data, compared -/
def dInts (xs : List Int) : PyData := .list (xs.map PyData.int)
def dStrs (xs : List Str) : PyData := .list (xs.map PyData.str)
section
variable {K : PySem.W.Frag} {H : Hp} {Q : VK}
theorem all_ints (xs : List Int) : DpAll K H (xs.map V.int) (xs.map PyData.int) := by
  induction xs with
  | nil => exact .nil
  | cons x r ih => exact .cons (.int x) ih
theorem all_strs (xs : List Str) : DpAll K H (xs.map V.str) (xs.map PyData.str) := by
  induction xs with
  | nil => exact .nil
  | cons x r ih => exact .cons (.str x) ih
theorem dp_ints {a : Addr} {xs : List Int} (h : SqL K H a (xs.map V.int)) : Dp K H (.ref a) (dInts xs) := .lst h (all_ints xs)
theorem dp_strs {a : Addr} {xs : List Str} (h : SqL K H a (xs.map V.str)) : Dp K H (.ref a) (dStrs xs) := .lst h (all_strs xs)
theorem lay_all : ∀ {ds : List PyData}, (∀ d ∈ ds, d.canLay0 = true) → PyData.canLayAll0 ds = true
  | [], _ => rfl
  | d :: r, h => by
    show (d.canLay0 && PyData.canLayAll0 r) = true
    rw [h d (List.mem_cons_self ..), lay_all (fun x hx => h x (List.mem_cons_of_mem _ hx))]
    rfl
theorem depth_all {n : Nat} : ∀ {ds : List PyData}, (∀ d ∈ ds, d.depth ≤ n) → PyData.depthAll ds ≤ n
  | [], _ => Nat.zero_le _
  | d :: r, h => by
    show max d.depth (PyData.depthAll r) ≤ n
    have h1 := h d (List.mem_cons_self ..)
    have h2 := depth_all (fun x hx => h x (List.mem_cons_of_mem _ hx))
    omega
/-- may be compared, n levels deep -/
abbrev okStr (x : Str) : Bool := PyData.canLay0 (.str x)
theorem ok_getD (l : List Str) (h : ∀ x ∈ l, okStr x = true) (i : Nat) : okStr (l.getD i Str.empty) = true := by
  rw [List.getD_eq_getElem?_getD]
  cases e : l[i]? with
  | none => show okStr Str.empty = true; decide +kernel
  | some x => exact h x (List.mem_of_getElem? e)
def Sh (n : Nat) (d : PyData) : Prop := d.canLay0 = true ∧ d.depth ≤ n
theorem Sh.list {n : Nat} {ds : List PyData} (h : ∀ d ∈ ds, Sh n d) : Sh (n + 1) (.list ds) := ⟨lay_all fun d hd => (h d hd).1, Nat.succ_le_succ (depth_all fun d hd => (h d hd).2)⟩
theorem Sh.tuple {n : Nat} {ds : List PyData} (h : ∀ d ∈ ds, Sh n d) : Sh (n + 1) (.tuple ds) := ⟨lay_all fun d hd => (h d hd).1, Nat.succ_le_succ (depth_all fun d hd => (h d hd).2)⟩
theorem Sh.int (i : Int) (n : Nat) : Sh n (.int i) := ⟨rfl, Nat.zero_le _⟩
theorem Sh.bool (i : Bool) (n : Nat) : Sh n (.bool i) := ⟨rfl, Nat.zero_le _⟩
theorem Sh.none (n : Nat) : Sh n .none := ⟨rfl, Nat.zero_le _⟩
theorem Sh.str {x : Str} (h : okStr x = true) (n : Nat) : Sh n (.str x) := ⟨h, Nat.zero_le _⟩
theorem Sh.mono {n m : Nat} {d : PyData} (h : Sh n d) (l : n ≤ m) : Sh m d := ⟨h.1, Nat.le_trans h.2 l⟩
theorem Sh.ok {n : Nat} {d : PyData} (h : Sh n d) (l : n ≤ 64) : SeqAt.shaped d = true := by
  unfold SeqAt.shaped
  rw [h.1, decide_eq_true (Nat.le_trans h.2 l)]
  rfl
theorem Sh.eq {n : Nat} {d : PyData} (h : Sh n d) : PyData.eqv d d = true := SeqAt.eqv_refl d h.1
theorem Sh.ints (xs : List Int) (n : Nat) : Sh (n + 1) (dInts xs) := .list fun d hd => by
  obtain ⟨x, _, rfl⟩ := List.mem_map.mp hd
  exact .int x n
theorem Sh.strs {xs : List Str} (h : ∀ x ∈ xs, okStr x = true) (n : Nat) : Sh (n + 1) (dStrs xs) := .list fun d hd => by
  obtain ⟨x, hx, rfl⟩ := List.mem_map.mp hd
  exact .str (h x hx) n
/-- equal data: == -/
theorem x_eqD {x y : V} {d : PyData} {n : Nat} (h1 : Dp K H x d) (h2 : Dp K H y d) (s : Sh n d) (l : n ≤ 64) (q : Q (.bl true) H) : rEqD K x y H Q := ⟨d, d, h1, h2, s.ok l, s.ok l, by rw [s.eq]; exact q⟩
theorem x_neD {x y : V} {d : PyData} {n : Nat} (h1 : Dp K H x d) (h2 : Dp K H y d) (s : Sh n d) (l : n ≤ 64) (q : Q (.bl false) H) : rNeD K x y H Q := ⟨d, d, h1, h2, s.ok l, s.ok l, by rw [s.eq]; exact q⟩
/-- isinstance(x, T), T a built-in class -/
theorem x_isi {x : V} {t T : String} {b : Bool} (ty : TyX K H x (.type t)) (h : PySem.W.kitOne K (.type t) (.type T) = some b) (q : Q (.bl b) H) : rIsi K [x, .ty T] H Q := ⟨x, .ty T, _, _, b, rfl, .ty T, ty, h, q⟩
end
/-! ### sorted texts -/
theorem rising_pair : ∀ (l : List Str) (p : Str), PyProof.Rows.risingS p l = true → (p :: l).Pairwise (fun a b => a.cps.toList ≤ b.cps.toList)
  | [], p, _ => by simp
  | x :: r, p, h => by
    have h1 : (!Spec.ltCps x.cps.toList p.cps.toList && PyProof.Rows.risingS x r) = true := h
    rw [Bool.and_eq_true, Bool.not_eq_true', PyProof.Rows.ltCps_eq, decide_eq_false_iff_not] at h1
    have h2 := rising_pair r x h1.2
    have h3 : p.cps.toList ≤ x.cps.toList := List.not_lt.mp h1.1
    refine List.pairwise_cons.mpr ⟨fun a ha => ?_, h2⟩
    rcases List.mem_cons.mp ha with rfl | ha
    · exact h3
    · exact List.le_trans h3 ((List.pairwise_cons.mp h2).1 a ha)
theorem sorted_pair {l : List Str} (h : PyProof.Rows.sortedS l = true) : l.Pairwise (fun a b => a.cps.toList ≤ b.cps.toList) := by
  cases l with
  | nil => exact .nil
  | cons p r => exact rising_pair r p h
theorem sortedS_uniq {a b : List Str} (p : a.Perm b) (ha : PyProof.Rows.sortedS a = true) (hb : PyProof.Rows.sortedS b = true) : a = b :=
  List.Perm.eq_of_pairwise (fun x y _ _ h1 h2 => by
    have e := List.le_antisymm h1 h2
    have e2 : x.cps = y.cps := Array.toList_inj.mp e
    cases x; cases y; cases e2; rfl) (sorted_pair ha) (sorted_pair hb) p
theorem atI_map (ns : List Int) {k : Int} (h0 : 0 ≤ k) (h1 : k < ns.length) : atI (ns.map V.int) k = some (.int (ns.getD k.toNat 0)) := by
  obtain ⟨n, rfl⟩ := Int.eq_ofNat_of_zero_le h0
  have hn : n < ns.length := by omega
  refine atI_nat ?_
  simp [List.getElem?_eq_getElem hn]
theorem ixN_nat {n j : Nat} (h : j < n) : ixN n (j : Int) = some j := by
  unfold ixN
  rw [if_pos (by omega), if_pos (by omega)]
  rfl
theorem atI_strs (l : List Str) {k : Int} (h0 : 0 ≤ k) (h1 : k < l.length) : atI (l.map V.str) k = some (.str (l.getD k.toNat Str.empty)) := by
  obtain ⟨n, rfl⟩ := Int.eq_ofNat_of_zero_le h0
  have hn : n < l.length := by omega
  refine atI_nat ?_
  simp [List.getElem?_eq_getElem hn]
local macro_rules | `(tactic| walk_at "ix") => `(tactic| first | assumption | exact atI_last _ _ | (apply atI_nat; assumption) | (refine' atI_map _ ?_ ?_ <;> (first | assumption | omega | (simp only [List.length_map] at *; omega))) | exact atI_strs [_, _, _, _] (by omega) (by show _ < (4 : Int); omega) | exact atI_strs [_, _, _] (by omega) (by show _ < (3 : Int); omega) | exact atI_map [_, _] (by omega) (by show _ < (2 : Int); omega) | exact atI_map [_, _, _] (by omega) (by show _ < (3 : Int); omega))
local macro_rules | `(tactic| walk_at "ixs") => `(tactic| first | assumption | (refine ixN_nat ?_; first | assumption | omega | (simp only [List.length_append, List.length_cons, List.length_nil, List.length_set]; omega)))
/-- a display's length, then the new address -/
local macro_rules | `(tactic| walk_at "al") => `(tactic| refine ⟨by first | (show _ ≤ sizeLine; simp only [List.length_cons, List.length_nil, sizeLine_eq]; omega) | exact Nat.zero_le _, ?_⟩)
local macro_rules | `(tactic| walk_at "ln") => `(tactic| first | assumption | (refine sz_lt ?_; omega) | (refine sz_of ?_; omega) | (refine sz_lt ?_; simp only [List.length_map, List.length_append, List.length_cons, List.length_nil]; omega) | (refine sz_of ?_; simp only [List.length_map, List.length_append, List.length_cons, List.length_nil]; omega))
theorem x_r1 {j : Int} {P : Int → Prop} (b : -(2 ^ 62) ≤ j ∧ j < 2 ^ 62) (q : P j) : ∃ j', [V.int j] = [V.int j'] ∧ -(2 ^ 62) ≤ j' ∧ j' < 2 ^ 62 ∧ P j' := ⟨j, rfl, b.1, b.2, q⟩
theorem x_r2 {i j : Int} {P : Int → Int → Prop} (b : -(2 ^ 62) ≤ i ∧ i < 2 ^ 62 ∧ -(2 ^ 62) ≤ j ∧ j < 2 ^ 62) (q : P i j) : ∃ i' j', [V.int i, V.int j] = [V.int i', V.int j'] ∧ (-(2 ^ 62) ≤ i' ∧ i' < 2 ^ 62 ∧ -(2 ^ 62) ≤ j' ∧ j' < 2 ^ 62) ∧ P i' j' := ⟨i, j, rfl, b, q⟩
theorem x_fl {a : Addr} {K : PySem.W.Frag} {H : Hp} {P : Addr → Prop} (h : ∃ xs, SqL K H a xs) (q : P a) : ∃ a', V.ref a = .ref a' ∧ (∃ xs, SqL K H a' xs) ∧ P a' := ⟨a, rfl, h, q⟩
local macro_rules | `(tactic| walk_at "cc") => `(tactic| first | assumption | (show (0 : Int) < _; omega) | (show (0 : Int) ≤ _; omega) | (unfold CDiv; omega) | (unfold CPow; decide) | (unfold CMul; left; omega) | (unfold CMul; right; omega) | (unfold CPow; omega))
local macro_rules | `(tactic| walk_at "rd1") => `(tactic| first
  | with_reducible refine x_seq ?_ | with_reducible refine x_asg ?_ | with_reducible refine x_asgG ?_ | with_reducible refine x_drop ?_ | with_reducible refine x_ret ?_ | with_reducible refine x_retN ?_ | with_reducible refine x_ifS ?_ | with_reducible refine x_next ?_ | with_reducible refine x_brk ?_ | with_reducible refine x_cont ?_
  | with_reducible refine x_op ?_ | with_reducible refine x_un ?_ | with_reducible refine x_c ?_ | with_reducible refine x_I0 ?_ | with_reducible refine x_test ?_ | with_reducible refine x_B ?_ | with_reducible refine x_tr ?_ | with_reducible refine x_bl ?_
  | with_reducible refine x_nil ?_ | with_reducible refine x_cons ?_ | with_reducible refine x_lst ?_ | with_reducible refine x_tup ?_ | with_reducible refine x_cb ?_ | with_reducible refine x_sl ?_ | with_reducible refine x_nopart ?_ | with_reducible refine x_part ?_ | with_reducible refine x_int ?_
  | with_reducible refine x_notV ?_ | with_reducible refine x_not ?_ | with_reducible refine x_yes ?_
  | with_reducible refine x_getf ?_ | with_reducible refine x_putf ?_ | with_reducible refine x_meth ?_ | with_reducible refine x_make ?_ | with_reducible refine x_dget ?_ | with_reducible refine x_din ?_ | with_reducible refine x_dnin ?_ | with_reducible refine x_dput ?_ | with_reducible refine x_ddel ?_ | with_reducible refine x_dget2 ?_ | with_reducible refine x_dpop ?_ | with_reducible refine x_dnew ?_ | with_reducible refine x_sub ?_ | with_reducible refine x_isN ?_ | with_reducible refine x_notN ?_ | with_reducible refine x_int1 ?_ | with_reducible refine x_intB ?_ | with_reducible refine x_abs ?_ | with_reducible refine x_min2 ?_ | with_reducible refine x_max2 ?_ | with_reducible refine x_bm ?_ | with_reducible refine x_call ?_ | with_reducible refine x_U ?_
  | (with_reducible refine x_var ?_; refine ⟨_, rfl, ?_⟩)
  | ((with_reducible refine x_eq ?h ?q); (case h => exact rfl)) | ((with_reducible refine x_ne ?h ?q); (case h => exact rfl))
  | (with_reducible refine x_lenL ?_; refine' ⟨_, ?sq, ?_⟩; (case sq => walk_at "sq")) | ((with_reducible refine x_ixL ?_); refine' ⟨_, ?sq, _, ?ix, ?_⟩; (case sq => with_reducible walk_at "sq"); (case ix => walk_at "ix"))
  | (with_reducible refine x_tyL ?_; refine' ⟨_, ?sq, ?_⟩; (case sq => walk_at "sq")) | (with_reducible refine x_app ?_; refine' ⟨_, ?sq, ?ln, ?_⟩; (case sq => walk_at "hp"); (case ln => walk_at "ln")) | (with_reducible refine x_listL ?_; refine' ⟨_, ?sq, ?_⟩; (case sq => walk_at "sq"))
  | (with_reducible refine x_slL ?_; refine' ⟨_, ?sq, ?_⟩; (case sq => walk_at "sq")) | (with_reducible refine x_cat ?_; refine' ⟨_, ?sq, _, ?sr, ?ln, ?_⟩; (case sq => walk_at "hp"); (case sr => walk_at "hp"); (case ln => walk_at "ln"))
  | with_reducible refine x_lcL ?_ | with_reducible refine x_lcR1 ?_
  | with_reducible refine x_forR1 ?_ | with_reducible refine x_forR2 ?_ | with_reducible refine x_forL ?_ | with_reducible refine x_forT ?_ | with_reducible refine x_gn ?_ | with_reducible refine x_gnil ?_ | with_reducible refine x_gcons ?_ | ((with_reducible refine x_gtup ?_); refine' ⟨_, ?sq, ?ln, ?_⟩; (case sq => with_reducible walk_at "st"); (case ln => rfl))
  | (with_reducible refine x_I ?c ?_; (case c => walk_at "cc"))
  | ((with_reducible refine x_ixT ?_); refine' ⟨_, ?sq, _, ?ix, ?_⟩; (case sq => with_reducible walk_at "st"); (case ix => first | exact rfl | assumption))
  | ((with_reducible refine x_sortD ?_); refine' ⟨_, _, ?hd, ?kk, ?ln, ?_⟩; (case hd => with_reducible walk_at "hp"); (case kk => assumption); (case ln => omega))
  | (with_reducible refine x_isd ?_; refine' ⟨_, ?hd, ?_⟩; (case hd => walk_at "hp")) | (with_reducible refine x_inS ?_; refine' ⟨_, ?hd, ?_⟩; (case hd => walk_at "hp")) | (with_reducible refine x_ninS ?_; refine' ⟨_, ?hd, ?_⟩; (case hd => walk_at "hp"))
  | (with_reducible refine x_getdxS ?_; refine' ⟨_, ?hd, ?_⟩; (case hd => walk_at "hp")) | (with_reducible refine x_lenD ?_; refine' ⟨_, ?hd, ?_⟩; (case hd => walk_at "hp")) | (with_reducible refine x_dictD ?_; refine' ⟨_, ?hd, ?_⟩; (case hd => walk_at "hp"))
  | (with_reducible refine x_getS ?_; refine' ⟨_, ?hd, _, ?vk, ?_⟩; (case hd => walk_at "hp"); (case vk => assumption)) | (with_reducible refine x_putS ?_; refine' ⟨_, ?hd, ?ln, ?_⟩; (case hd => walk_at "hp"); (case ln => walk_at "ln"))
  | (with_reducible refine x_delS ?_; refine' ⟨_, ?hd, ?vk, ?_⟩; (case hd => walk_at "hp"); (case vk => assumption)) | (with_reducible refine x_popS ?_; refine' ⟨_, ?hd, _, ?vk, ?_⟩; (case hd => walk_at "hp"); (case vk => assumption))
  | (with_reducible refine x_setL ?_; refine' ⟨_, ?hd, _, ?ix, ?_⟩; (case hd => walk_at "hp"); (case ix => walk_at "ixs"))
  | (with_reducible refine' x_get ?c ?n ⟨_, _, ?hd, _, ?lk, ?q⟩; (case hd => walk_at "hp"); (case lk => walk_at "lk"); (case c => assumption); (case n => assumption))
  | (with_reducible refine' x_put ?c ?n ⟨_, _, ?hd, ?lf, _, ?pf, ?q⟩; (case hd => walk_at "hp"); (case lf => walk_at "lf"); (case pf => walk_at "pf"); (case c => assumption); (case n => assumption))
  | (with_reducible refine' x_methp ⟨_, _, ?hd, ?no, ?q⟩; (case hd => walk_at "hp"); (case no => walk_at "no"))
  | with_reducible refine iteT ?_ | with_reducible refine iteF ?_ | ((with_reducible refine ifT ?e ?_); (case e => first | rfl | decide +kernel)) | ((with_reducible refine ifF ?e ?_); (case e => first | rfl | decide +kernel)))
local macro_rules | `(tactic| walk_at "rd") => `(tactic| repeat (walk_at "rd1"))
local macro_rules | `(tactic| walk_at "rdv") => `(tactic| repeat (first | walk_at "rd1" | with_reducible refine x_and ?_ | with_reducible refine x_or ?_ | with_reducible refine x_if ?_ | with_reducible refine x_andV ?_ | with_reducible refine x_orV ?_))
/-- the fields of a Disk -/
def fl_Disk (v0 v1 v2 v3 v4 : V) : List (Str × V) := [("_files", v0), ("_names", v1), ("_safe_names", v2), ("_pending", v3), ("_room", v4)]
section
variable {v0 v1 v2 v3 v4 w : V}
theorem fl_Disk__files : (fl_Disk v0 v1 v2 v3 v4).lookup ("_files" : Str) = some v0 := by kernel_rfl
theorem pf_Disk__files : putF "_files" w (fl_Disk v0 v1 v2 v3 v4) = fl_Disk w v1 v2 v3 v4 := by kernel_rfl
theorem fl_Disk__names : (fl_Disk v0 v1 v2 v3 v4).lookup ("_names" : Str) = some v1 := by kernel_rfl
theorem pf_Disk__names : putF "_names" w (fl_Disk v0 v1 v2 v3 v4) = fl_Disk v0 w v2 v3 v4 := by kernel_rfl
theorem fl_Disk__safe_names : (fl_Disk v0 v1 v2 v3 v4).lookup ("_safe_names" : Str) = some v2 := by kernel_rfl
theorem pf_Disk__safe_names : putF "_safe_names" w (fl_Disk v0 v1 v2 v3 v4) = fl_Disk v0 v1 w v3 v4 := by kernel_rfl
theorem fl_Disk__pending : (fl_Disk v0 v1 v2 v3 v4).lookup ("_pending" : Str) = some v3 := by kernel_rfl
theorem pf_Disk__pending : putF "_pending" w (fl_Disk v0 v1 v2 v3 v4) = fl_Disk v0 v1 v2 w v4 := by kernel_rfl
theorem fl_Disk__room : (fl_Disk v0 v1 v2 v3 v4).lookup ("_room" : Str) = some v4 := by kernel_rfl
theorem pf_Disk__room : putF "_room" w (fl_Disk v0 v1 v2 v3 v4) = fl_Disk v0 v1 v2 v3 w := by kernel_rfl
theorem fi_Disk__files : putF "_files" w ([] : List (Str × V)) = ([("_files", w)] : List (Str × V)) := by kernel_rfl
theorem fi_Disk__names : putF "_names" w ([("_files", v0)] : List (Str × V)) = ([("_files", v0), ("_names", w)] : List (Str × V)) := by kernel_rfl
theorem fi_Disk__safe_names : putF "_safe_names" w ([("_files", v0), ("_names", v1)] : List (Str × V)) = ([("_files", v0), ("_names", v1), ("_safe_names", w)] : List (Str × V)) := by kernel_rfl
theorem fi_Disk__pending : putF "_pending" w ([("_files", v0), ("_names", v1), ("_safe_names", v2)] : List (Str × V)) = ([("_files", v0), ("_names", v1), ("_safe_names", v2), ("_pending", w)] : List (Str × V)) := by kernel_rfl
theorem fi_Disk__room : putF "_room" w ([("_files", v0), ("_names", v1), ("_safe_names", v2), ("_pending", v3)] : List (Str × V)) = fl_Disk v0 v1 v2 v3 w := by kernel_rfl
theorem no_Disk___init__ : (fl_Disk v0 v1 v2 v3 v4).lookup ("__init__" : Str) = none := by kernel_rfl
theorem no_Disk_set_room : (fl_Disk v0 v1 v2 v3 v4).lookup ("set_room" : Str) = none := by kernel_rfl
theorem no_Disk_files : (fl_Disk v0 v1 v2 v3 v4).lookup ("files" : Str) = none := by kernel_rfl
theorem no_Disk__put : (fl_Disk v0 v1 v2 v3 v4).lookup ("_put" : Str) = none := by kernel_rfl
theorem no_Disk__write : (fl_Disk v0 v1 v2 v3 v4).lookup ("_write" : Str) = none := by kernel_rfl
theorem no_Disk_perform : (fl_Disk v0 v1 v2 v3 v4).lookup ("perform" : Str) = none := by kernel_rfl
theorem ln_Disk : (fl_Disk v0 v1 v2 v3 v4).length < 1000 := by show 5 < 1000; decide
end
structure CD_Disk (K : PySem.W.Frag) (C : Addr) : Prop where
  cl : Cls K C
  n__files : NoAttr K C "_files"
  n__names : NoAttr K C "_names"
  n__safe_names : NoAttr K C "_safe_names"
  n__pending : NoAttr K C "_pending"
  n__room : NoAttr K C "_room"
local macro_rules | `(tactic| walk_at "lk") => `(tactic| first | exact fl_Disk__files | exact fl_Disk__names | exact fl_Disk__safe_names | exact fl_Disk__pending | exact fl_Disk__room)
local macro_rules | `(tactic| walk_at "pf") => `(tactic| first | exact pf_Disk__files | exact pf_Disk__names | exact pf_Disk__safe_names | exact pf_Disk__pending | exact pf_Disk__room | exact fi_Disk__files | exact fi_Disk__names | exact fi_Disk__safe_names | exact fi_Disk__pending | exact fi_Disk__room)
local macro_rules | `(tactic| walk_at "lf") => `(tactic| first | exact ln_Disk | (simp only [List.length_cons, List.length_nil]; omega))
local macro_rules | `(tactic| walk_at "no") => `(tactic| first | exact no_Disk___init__ | exact no_Disk_set_room | exact no_Disk_files | exact no_Disk__put | exact no_Disk__write | exact no_Disk_perform)
/-! ### the draws -/
def sp__law_draws (K : PySem.W.Frag) (Disk : Addr) : Sp := fun vs H Q _ => ∃ (a : Addr) (ns : List Int), vs = [.ref a] ∧ SqL K H a (ns.map V.int) ∧ ns.length ≤ 63 ∧ ∀ (ds : List Int) (p : Addr), ds.length ≤ 3780 → H p = none → Q (.ref p) (upd H p (.lst (ds.map V.int)))
def atD (ns : List Int) (k m : Int) : Int := if k < ns.length then ns.getD k.toNat 0 % m else 0
theorem atD_nn (ns : List Int) {k m : Int} (h : 0 < m) : 0 ≤ atD ns k m := by
  unfold atD
  split
  · exact Int.emod_nonneg _ (by omega)
  · omega
theorem atD_lt (ns : List Int) {k m : Int} (h : 0 < m) : atD ns k m < m := by
  unfold atD
  split
  · exact Int.emod_lt_of_pos _ h
  · omega
def sp__law_at (K : PySem.W.Frag) (Disk : Addr) : Sp := fun vs H Q _ => ∃ (a : Addr) (ns : List Int) (k m : Int), vs = [.ref a, .int k, .int m] ∧ SqL K H a (ns.map V.int) ∧ 0 ≤ k ∧ 0 < m ∧ Q (.int (atD ns k m)) H
theorem x_at {K : PySem.W.Frag} {Disk : Addr} {a : Addr} {k m : Int} {H : Hp} {Q : VK} {E : XK} (h : ∃ ds : List Int, SqL K H a (ds.map V.int) ∧ 0 ≤ k ∧ 0 < m ∧ ∀ r : Int, 0 ≤ r → r < m → Q (.int r) H) : sp__law_at K Disk ([.ref a, .int k, .int m] ++ []) H Q E := by
  obtain ⟨ds, h, h0, h1, q⟩ := h
  exact ⟨a, ds, k, m, rfl, h, h0, h1, q _ (atD_nn ds h1) (atD_lt ds h1)⟩
local macro_rules | `(tactic| walk_at "at") => `(tactic| ((with_reducible refine x_at ?_); refine' ⟨_, ?sq, ?k0, ?m0, ?_⟩; (case sq => with_reducible walk_at "sq"); (case k0 => omega); (case m0 => omega); intro r hr0 hr1))
local macro_rules | `(tactic| walk_at "ra") => `(tactic| repeat (first | walk_at "rd1" | walk_at "at"))
section
variable {K : PySem.W.Frag} {Disk : Addr}
theorem len__law_draws {vs H Q E} (h : sp__law_draws K Disk vs H Q E) : vs.length = 1 := by
  obtain ⟨_, _, rfl, _⟩ := h; rfl
theorem len__law_at {vs H Q E} (h : sp__law_at K Disk vs H Q E) : vs.length = 3 := by
  obtain ⟨_, _, _, _, rfl, _⟩ := h; rfl
def t__law_at (K : PySem.W.Frag) (Disk : Addr) : TS := (tSeq (tIfS (tTest (tOp rLt (tVar 1) (tCB (rLenSq K) (tCons (tVar 0) tNil)))) (tRet (tOp rMo (tCB rInt1 (tCons (tOp (rIxL K) (tVar 0) (tVar 1)) tNil)) (tVar 2)))
  tNext)
  (tRet (tC (.int 0))))

theorem pure__law_at (_cd : CD_Disk K Disk) (vs : List V) (H : Hp) (Q : VK) (E : XK) (h : sp__law_at K Disk vs H Q E) : t__law_at K Disk { nx := fun _ H' => Q .non H', rt := Q } (start ["_law_draws_here", "_law_k", "_law_many"] vs) H := by
  obtain ⟨a, ns, k, m, rfl, hS, h0, hm, q⟩ := h
  unfold t__law_at
  walk_at "rd"
  refine ifd (fun hc => ?_) (fun hc => ?_)
  · rw [List.length_map] at hc
    walk_at "rd"
    rw [atD, if_pos hc] at q
    exact q
  · rw [List.length_map] at hc
    walk_at "rd"
    rw [atD, if_neg hc] at q
    exact q
def t__law_draws (K : PySem.W.Frag) (Disk : Addr) : TS := (tSeq (tAsg (tLst tNil) (gName 1))
  (tSeq (tFor (iRng1 (tCons (tCB rMin2 (tCons (tC (.int 63)) (tCons (tCB (rLenSq K) (tCons (tVar 0) tNil)) tNil))) tNil)) (gName 2)
  (tSeq (tAsg (tCB rAbs (tCons (tOp (rIxL K) (tVar 0) (tVar 2)) tNil)) (gName 3))
  (tIfS (tTest (tOp rGe (tVar 3) (tOp rPo (tC (.int 10)) (tC (.int 18))))) (tFor (iRng1 (tCons (tC (.int 60)) tNil)) (gName 4)
  (tIfS (tTest (tOp rGt (tVar 3) (tC (.int 0)))) (tSeq (tDrop (tBM K "list" rAppend (tVar 1) (tCons (tOp rMo (tCB rInt1 (tCons (tVar 3) tNil)) (tC (.int 65536))) tNil)))
  (tAsg (tOp rDi (tVar 3) (tC (.int 65536))) (gName 3)))
  tNext))
  (tSeq (tAsg (tOp rMo (tCB rInt1 (tCons (tOp rPl (tOp rMu (tVar 3) (tC (.int 48271))) (tOp rMu (tOp rPl (tVar 2) (tC (.int 1))) (tC (.int 69621)))) tNil)) (tC (.int 2147483647))) (gName 5))
  (tSeq (tAsg (tOp rMo (tCB rInt1 (tCons (tOp rPl (tOp rPl (tOp rMu (tVar 5) (tC (.int 16807))) (tOp rMu (tC (.int 11)) (tVar 2))) (tC (.int 5))) tNil)) (tC (.int 2147483629))) (gName 5))
  (tSeq (tDrop (tBM K "list" rAppend (tVar 1) (tCons (tOp rMo (tCB rInt1 (tCons (tVar 5) tNil)) (tC (.int 65536))) tNil)))
  (tDrop (tBM K "list" rAppend (tVar 1) (tCons (tOp rMo (tCB rInt1 (tCons (tOp rDi (tVar 5) (tC (.int 65536))) tNil)) (tC (.int 32768))) tNil)))))))))
  (tRet (tVar 1))))

theorem pure__law_draws (_cd : CD_Disk K Disk) (vs : List V) (H : Hp) (Q : VK) (E : XK) (h : sp__law_draws K Disk vs H Q E) : t__law_draws K Disk { nx := fun _ H' => Q .non H', rt := Q } (start ["_law_script", "_law_draws_here", "_law_k", "_law_rest", "_law_turn", "_law_mixed"] vs) H := by
  obtain ⟨a, ns, rfl, hS, hl, q⟩ := h
  unfold t__law_draws
  walk_at "rd"
  refine ⟨Nat.zero_le _, fun p hp => ?_⟩
  walk_at "rd"
  rw [List.length_map]
  refine x_r1 (by constructor <;> split <;> omega) ?_
  refine w_rng (fun i σ H' => ∃ (ds : List Int) (v2 v3 v4 v5 : Option V), σ = [some (.ref a), some (.ref p), v2, v3, v4, v5] ∧ H' = upd H p (.lst (ds.map V.int)) ∧ ds.length ≤ 60 * i) ?_ ?_ ?_
  · exact ⟨[], _, _, _, _, rfl, rfl, Nat.le_refl _⟩
  · rintro i σ H' hi ⟨ds, v2, v3, v4, v5, rfl, rfl, hd⟩
    have hi' : i < ns.length := by
      split at hi <;> omega
    walk_at "rd"
    have e18 : (10 : Int) ^ Int.toNat 18 = 1000000000000000000 := by decide
    rw [e18]
    generalize hz : (if ns.getD (0 + (i : Int)).toNat 0 < 0 then -ns.getD (0 + (i : Int)).toNat 0 else ns.getD (0 + (i : Int)).toNat 0) = z
    have hz0 : 0 ≤ z := by
      rw [← hz]
      split <;> omega
    refine ifd (fun hc => ?_) (fun hc => ?_)
    · walk_at "rd"
      refine x_r1 (by omega) ?_
      refine w_rng (fun j σ H' => ∃ (es : List Int) (z v4 : Int) (v4 v5 : Option V), σ = [some (.ref a), some (.ref p), some (.int (0 + i)), some (.int z), v4, v5] ∧ H' = upd H p (.lst (es.map V.int)) ∧ es.length ≤ ds.length + j ∧ 0 ≤ z) ?_ ?_ ?_
      · exact ⟨ds, z, 0, _, _, rfl, rfl, Nat.le_refl _, hz0⟩
      · rintro j σ H' hj ⟨es, z, _, v4, v5, rfl, rfl, he, hz⟩
        have hj' : j < 60 := by simpa using hj
        walk_at "rd"
        refine ifd (fun hc => ?_) (fun hc => ?_)
        · walk_at "rd"
          rw [upd_upd]
          refine ⟨es ++ [z % 65536], z / 65536, 0, _, _, rfl, by rw [List.map_append]; rfl, by rw [List.length_append]; show es.length + 1 ≤ _; omega, by omega⟩
        · walk_at "rd"
          exact ⟨es, z, 0, _, _, rfl, rfl, by omega, hz⟩
      · rintro σ H' ⟨es, z, _, v4, v5, rfl, rfl, he, hz⟩
        exact ⟨es, _, _, _, _, rfl, rfl, by simp at he; omega⟩
    · walk_at "rd"
      rw [upd_upd, upd_upd, List.append_assoc]
      exact ⟨ds ++ [_, _], _, _, _, _, rfl, by rw [List.map_append]; rfl, by rw [List.length_append]; show ds.length + 2 ≤ _; omega⟩
  · rintro σ H' ⟨ds, v2, v3, v4, v5, rfl, rfl, hd⟩
    walk_at "rd"
    refine q ds p ?_ hp
    split at hd <;> omega
end
--SPLIT
/-! ### slices of ints -/
def cutI (xs : List Int) (lo hi : Option Int) : List Int := (xs.drop (HT.sIx xs.length 0 lo)).take (HT.sIx xs.length xs.length hi - HT.sIx xs.length 0 lo)
theorem cutV_map (xs : List Int) (lo hi : Option Int) : cutV (xs.map V.int) lo hi = (cutI xs lo hi).map V.int := by
  unfold cutV cutI
  rw [List.length_map, List.map_take, List.map_drop]
theorem cutI_len (xs : List Int) (lo hi : Option Int) : (cutI xs lo hi).length ≤ xs.length := by
  unfold cutI
  rw [List.length_take, List.length_drop]
  omega
def newc (old : List Int) (start : Int) (data : List Int) : List Int := cutI old none (some start) ++ data ++ cutI old (some (start + data.length)) none
theorem newc_len {old data : List Int} {start : Int} (h0 : 0 ≤ start) (h1 : start ≤ old.length) : (newc old start data).length ≤ old.length + data.length := by
  obtain ⟨n, rfl⟩ := Int.eq_ofNat_of_zero_le h0
  unfold newc cutI
  have e : ((n : Int) + (data.length : Int)) = ((n + data.length : Nat) : Int) := by omega
  rw [e, HT.sIx_nat, HT.sIx_nat, HT.sIx_none, HT.sIx_none]
  simp only [List.length_append, List.length_take, List.length_drop]
  omega
/-! ### a write, as a function -/
def grow (old : List Int) (start : Int) (data : List Int) : Int := if start + data.length - old.length > 0 then start + data.length - old.length else 0
def fits (room : Option Int) (g : Int) : Bool := match room with
  | none => true
  | some r => decide (g ≤ r)
def wdata (room : Option Int) (g : Int) (data : List Int) : List Int := match room with
  | none => data
  | some r => if g ≤ r then data else cutI data none (some (data.length - g + r))
def wroom (room : Option Int) (g : Int) : Option Int := match room with
  | none => none
  | some r => if g ≤ r then some (r - g) else some (r - r)
theorem wdata_len (room : Option Int) (g : Int) (data : List Int) : (wdata room g data).length ≤ data.length := by
  unfold wdata
  split
  · exact Nat.le_refl _
  · split
    · exact Nat.le_refl _
    · exact cutI_len _ _ _
def rv : Option Int → V
  | none => .non
  | some r => .int r
/-- the files behind a write -/
def setF (F : Str → Option (List Int)) (n : Str) (d : Option (List Int)) : Str → Option (List Int) := fun m => if m = n then d else F m
def addK (ks : List Str) (n : Str) : List Str := if n ∈ ks then ks else ks ++ [n]
def delK (ks : List Str) (n : Str) : List Str := ks.filter fun m => decide (m ≠ n)
/-! ### dicts keyed by texts -/
theorem keys_put (kvs : List (Key × V)) (ks : List Str) (n : Str) (v : V) (h : kvs.map (·.1) = ks.map Sum.inr) : (putK kvs (Sum.inr n : Key) v).map (·.1) = (addK ks n).map Sum.inr := by
  have e : (kvs.any fun kv => decide (kv.1 = (Sum.inr n : Key))) = decide (n ∈ ks) := by
    have e2 : (kvs.any fun kv => decide (kv.1 = (Sum.inr n : Key))) = ((kvs.map (·.1)).any fun k => decide (k = (Sum.inr n : Key))) := by
      rw [List.any_map]; rfl
    rw [e2, h, List.any_map]
    rw [Bool.eq_iff_iff]
    simp [List.any_eq_true]
  unfold putK addK
  rw [e]
  by_cases c : n ∈ ks
  · simp only [c, decide_true, if_true, List.map_map]
    rw [← h]
    congr 1
    funext kv
    simp only [Function.comp]
    split <;> rfl
  · simp only [c, decide_false, Bool.false_eq_true, if_false, List.map_append, h]
    rfl
theorem keys_drop (kvs : List (Key × V)) (ks : List Str) (n : Str) (h : kvs.map (·.1) = ks.map Sum.inr) : (dropK kvs (Sum.inr n : Key)).map (·.1) = (delK ks n).map Sum.inr := by
  unfold dropK delK
  induction kvs generalizing ks with
  | nil =>
    cases ks with
    | nil => rfl
    | cons k r => cases h
  | cons p r ih =>
    cases ks with
    | nil => cases h
    | cons k ks =>
      have h1 : p.1 = Sum.inr k := (List.cons.inj h).1
      have h2 : r.map (·.1) = ks.map Sum.inr := (List.cons.inj h).2
      by_cases c : k = n
      · subst c
        rw [List.filter_cons_of_neg (by simp [h1]), List.filter_cons_of_neg (by simp)]
        exact ih ks h2
      · rw [List.filter_cons_of_pos (by simp [h1, c]), List.filter_cons_of_pos (by simp [c]), List.map_cons, List.map_cons, h1, ih ks h2]
theorem valV_drop (kvs : List (Key × V)) (k j : Key) : valV (dropK kvs k) j = if j = k then none else valV kvs j := by
  induction kvs with
  | nil => simp [dropK, valV]
  | cons p r ih =>
    by_cases c : p.1 = k
    · rw [dropK_pos c, ih]
      by_cases e : j = k
      · rw [if_pos e, if_pos e]
      · rw [if_neg e, if_neg e, valV_neg]
        intro z
        exact e (z.symm.trans c)
    · rw [dropK_neg c]
      by_cases e : p.1 = j
      · rw [valV_pos e, valV_pos e, if_neg]
        intro z
        exact c (e.trans z)
      · rw [valV_neg e, valV_neg e, ih]
theorem addK_len (ks : List Str) (n : Str) : (addK ks n).length ≤ ks.length + 1 := by
  unfold addK
  split
  · omega
  · simp
theorem delK_len (ks : List Str) (n : Str) : (delK ks n).length ≤ ks.length := List.length_filter_le _ _
/-! ### a Disk -/
def RepN (H : Hp) (av : Addr → Prop) (fa pa : Addr) (nm : List (Key × V)) (fs : List V) (B : Nat) (n : Str) : Option (List Int) → Prop
  | none => valV nm (Sum.inr n : Key) = none
  | some data => ∃ (j : Nat) (c : Addr) (vs : List V) (d : Addr), valV nm (Sum.inr n : Key) = some (.int j) ∧ fs[j]? = some (.ref c) ∧ H c = some (.lst (vs ++ [.ref d])) ∧ vs.length ≤ B ∧
      H d = some (.lst (data.map V.int)) ∧ data.length ≤ 80 * B ∧ c ≠ fa ∧ c ≠ pa ∧ d ≠ fa ∧ d ≠ pa ∧ ¬ av c ∧ ¬ av d
structure DAt (C : Addr) (H : Hp) (p fa na sa pa : Addr) (ks : List Str) (F : Str → Option (List Int)) (room : Option Int) (B : Nat) (av : Addr → Prop) : Prop where
  ob : ∃ dx, H p = some (.ins C dx (fl_Disk (.ref fa) (.ref na) (.ref sa) (.ref pa) (rv room)))
  body : ∃ (nm : List (Key × V)) (fs : List V), H na = some (.dK nm) ∧ H fa = some (.lst fs) ∧ nm.map (·.1) = ks.map Sum.inr ∧ fs.length ≤ B ∧ (∀ n, RepN H av fa pa nm fs B n (F n)) ∧
    ∀ n m j, valV nm (Sum.inr n : Key) = some j → valV nm (Sum.inr m : Key) = some j → n = m
  sa' : ∃ s, H sa = some (.dK s)
  pa' : ∃ ps, H pa = some (.lst ps) ∧ ps.length ≤ B
  ne : fa ≠ pa
  nsa : na ≠ sa
  kn : ks.length ≤ B
  kf : ∀ n, n ∈ ks ↔ (F n).isSome = true
theorem RepN.mono {H H' : Hp} {av : Addr → Prop} {fa pa : Addr} {nm nm' : List (Key × V)} {fs fs' : List V} {B B' : Nat} {n : Str} {o : Option (List Int)} (r : RepN H av fa pa nm fs B n o) (hb : B ≤ B') (e : valV nm' (Sum.inr n : Key) = valV nm (Sum.inr n : Key))
    (ef : ∀ j : Nat, valV nm (Sum.inr n : Key) = some (.int j) → ∀ c, fs[j]? = some c → fs'[j]? = some c) (kp : ∀ c xs, H c = some (.lst xs) → c ≠ fa → c ≠ pa → H' c = some (.lst xs)) : RepN H' av fa pa nm' fs' B' n o := by
  cases o with
  | none => exact e.trans r
  | some data =>
    obtain ⟨j, c, vs, d, a1, a2, a3, a4, a5, a6, b1, b2, b3, b4, b5, b6⟩ := r
    exact ⟨j, c, vs, d, e.trans a1, ef j a1 _ a2, kp _ _ a3 b1 b2, by omega, kp _ _ a5 b3 b4, by omega, b1, b2, b3, b4, b5, b6⟩
theorem DAt.put {av : Addr → Prop} {C p fa na sa pa : Addr} {ks : List Str} {F : Str → Option (List Int)} {r : Option Int} {B : Nat} {H H' : Hp} {n : Str} {data : List Int} {nm nm' : List (Key × V)} {fs fs' : List V} {j : Nat} {u a : Addr} {vs : List V}
    (ob : ∃ dx, H' p = some (.ins C dx (fl_Disk (.ref fa) (.ref na) (.ref sa) (.ref pa) (rv r)))) (hk : nm.map (·.1) = ks.map Sum.inr) (hr : ∀ n, RepN H av fa pa nm fs B n (F n))
    (hi : ∀ n m j, valV nm (Sum.inr n : Key) = some j → valV nm (Sum.inr m : Key) = some j → n = m) (kn : ks.length ≤ B) (kf : ∀ n, n ∈ ks ↔ (F n).isSome = true) (ne : fa ≠ pa) (nsa : na ≠ sa)
    (hn' : H' na = some (.dK nm')) (hf' : H' fa = some (.lst fs')) (hs' : ∃ s, H' sa = some (.dK s)) (hp' : ∃ ps, H' pa = some (.lst ps) ∧ ps.length ≤ B + 1) (lf : fs'.length ≤ B + 1)
    (kp : ∀ c xs, H c = some (.lst xs) → c ≠ fa → c ≠ pa → H' c = some (.lst xs)) (en : nm' = nm ∧ valV nm (Sum.inr n : Key) = some (.int j) ∨ nm' = putK nm (Sum.inr n) (.int j) ∧ fs[j]? = none)
    (ef : ∀ i : Nat, i ≠ j → ∀ c, fs[i]? = some c → fs'[i]? = some c) (b1 : fs'[j]? = some (.ref u)) (b2 : H' u = some (.lst (vs ++ [.ref a]))) (b3 : vs.length ≤ B + 1) (b4 : H' a = some (.lst (data.map V.int))) (b5 : data.length ≤ 80 * (B + 1))
    (c1 : u ≠ fa) (c2 : u ≠ pa) (c3 : a ≠ fa) (c4 : a ≠ pa) (c5 : ¬ av u) (c6 : ¬ av a) : DAt C H' p fa na sa pa (addK ks n) (setF F n (some data)) r (B + 1) av := by
  have hv : valV nm' (Sum.inr n : Key) = some (.int j) := by
    rcases en with ⟨rfl, e⟩ | ⟨rfl, _⟩
    · exact e
    · rw [valV_put, if_pos rfl]
  have hw : ∀ m, m ≠ n → valV nm' (Sum.inr m : Key) = valV nm (Sum.inr m : Key) := fun m hm => by
    rcases en with ⟨rfl, e⟩ | ⟨rfl, _⟩
    · rfl
    · rw [valV_put, if_neg (fun z => hm (Sum.inr.inj z))]
  have nj : ∀ m, m ≠ n → ∀ i : Nat, valV nm (Sum.inr m : Key) = some (.int i) → i ≠ j := fun m hm i hi2 z => by
    subst z
    rcases en with ⟨_, e⟩ | ⟨_, e⟩
    · exact hm (hi m n _ hi2 e)
    · have h1 := hr m
      cases e2 : F m with
      | none =>
        rw [e2] at h1
        have h2 : valV nm (Sum.inr m : Key) = none := h1
        rw [h2] at hi2
        cases hi2
      | some d2 =>
        rw [e2] at h1
        obtain ⟨i2, c, _, _, a1, a2, _⟩ := h1
        rw [a1] at hi2
        have e3 : (i2 : Int) = (i : Int) := by
          injection hi2 with z
          injection z
        have e4 : i2 = i := by omega
        subst e4
        rw [e] at a2
        cases a2
  refine ⟨ob, ⟨nm', fs', hn', hf', ?_, lf, fun m => ?_, fun m k i h1 h2 => ?_⟩, hs', hp', ne, nsa, ?_, fun m => ?_⟩
  · rcases en with ⟨rfl, e⟩ | ⟨rfl, _⟩
    · rw [hk]
      have h1 : n ∈ ks := by
        rw [kf]
        have h2 := hr n
        cases e2 : F n with
        | none =>
          rw [e2] at h2
          have h3 : valV nm' (Sum.inr n : Key) = none := h2
          rw [h3] at e
          cases e
        | some _ => rfl
      rw [addK, if_pos h1]
    · exact keys_put nm ks n _ hk
  · by_cases hm : m = n
    · subst hm
      show RepN H' av fa pa nm' fs' (B + 1) m (setF F m (some data) m)
      rw [setF, if_pos rfl]
      exact ⟨j, u, vs, a, hv, b1, b2, b3, b4, b5, c1, c2, c3, c4, c5, c6⟩
    · rw [setF, if_neg hm]
      exact (hr m).mono (Nat.le_succ _) (hw m hm) (fun i h c => ef i (nj m hm i h) c) kp
  · have key : ∀ m, m ≠ n → ∀ i, valV nm' (Sum.inr m : Key) = some i → i ≠ .int j := fun m hm i h z => by
      rw [hw m hm] at h
      have h3 := hr m
      cases e2 : F m with
      | none =>
        rw [e2] at h3
        have h4 : valV nm (Sum.inr m : Key) = none := h3
        rw [h4] at h
        cases h
      | some d2 =>
        subst z
        exact nj m hm j h rfl
    by_cases hm : m = n
    · by_cases hk2 : k = n
      · rw [hm, hk2]
      · subst hm
        rw [hv] at h1
        exact absurd (Option.some.inj h1).symm (key k hk2 i h2)
    · by_cases hk2 : k = n
      · subst hk2
        rw [hv] at h2
        exact absurd (Option.some.inj h2).symm (key m hm i h1)
      · rw [hw m hm] at h1
        rw [hw k hk2] at h2
        exact hi m k i h1 h2
  · have := addK_len ks n
    omega
  · unfold addK setF
    by_cases hm : m = n
    · subst hm
      rw [if_pos rfl]
      split <;> simp_all
    · rw [if_neg hm, ← kf m]
      split
      · rfl
      · simp [hm]
/-- what a method may change -/
def Kept (H H' : Hp) (p fa na pa : Addr) : Prop := ∀ b o, H b = some o → b ≠ p → b ≠ fa → b ≠ na → b ≠ pa → H' b = some o
theorem DAt.ex {av av' : Addr → Prop} {C p fa na sa pa : Addr} {ks : List Str} {F : Str → Option (List Int)} {r : Option Int} {B B' : Nat} {H H' : Hp} (D : DAt C H p fa na sa pa ks F r B av) (e : Ex H H') (hb : B ≤ B') (hv : ∀ b, av' b → av b ∨ H b = none := by exact fun _ h => .inl h) : DAt C H' p fa na sa pa ks F r B' av' := by
  obtain ⟨⟨dx, ob⟩, ⟨nm, fs, hn, hf, hk, hl, hr, hi⟩, ⟨s, hs⟩, ⟨ps, hp, hpl⟩, ne, nsa, kn, kf⟩ := D
  refine ⟨⟨dx, e _ _ ob⟩, ⟨nm, fs, e _ _ hn, e _ _ hf, hk, by omega, fun m => ?_, hi⟩, ⟨s, e _ _ hs⟩, ⟨ps, e _ _ hp, by omega⟩, ne, nsa, by omega, kf⟩
  have h1 := hr m
  cases e2 : F m with
  | none =>
    rw [e2] at h1
    exact h1
  | some data =>
    rw [e2] at h1
    obtain ⟨j, c, vs, d, a1, a2, a3, a4, a5, a6, b1, b2, b3, b4, b5, b6⟩ := h1
    refine ⟨j, c, vs, d, a1, a2, e _ _ a3, by omega, e _ _ a5, by omega, b1, b2, b3, b4, fun h => ?_, fun h => ?_⟩
    · rcases hv _ h with h | h
      · exact b5 h
      · rw [a3] at h; cases h
    · rcases hv _ h with h | h
      · exact b6 h
      · rw [a5] at h; cases h
theorem DAt.some_ {av : Addr → Prop} {C p fa na sa pa : Addr} {ks : List Str} {F : Str → Option (List Int)} {r : Option Int} {B : Nat} {H : Hp} (D : DAt C H p fa na sa pa ks F r B av) : H p ≠ none ∧ H fa ≠ none ∧ H na ≠ none ∧ H pa ≠ none ∧ H sa ≠ none := by
  obtain ⟨⟨dx, ob⟩, ⟨nm, fs, hn, hf, _⟩, ⟨s, hs⟩, ⟨ps, hp, hpl⟩, _⟩ := D
  refine ⟨?_, ?_, ?_, ?_, ?_⟩ <;> simp_all
theorem Kept.some_ {av : Addr → Prop} {C p fa na pa sa' : Addr} {ks : List Str} {F : Str → Option (List Int)} {r : Option Int} {B : Nat} {H H' : Hp} (kp : Kept H H' p fa na pa) (D : DAt C H' p fa na sa' pa ks F r B av) {b : Addr} (h : H b ≠ none) : H' b ≠ none := by
  obtain ⟨h1, h2, h3, h4, _⟩ := D.some_
  by_cases e1 : b = p
  · rw [e1]; exact h1
  · by_cases e2 : b = fa
    · rw [e2]; exact h2
    · by_cases e3 : b = na
      · rw [e3]; exact h3
      · by_cases e4 : b = pa
        · rw [e4]; exact h4
        · cases e : H b with
          | none => exact absurd e h
          | some o =>
            rw [kp b o e e1 e2 e3 e4]
            intro z
            cases z
theorem Ex.some_ {H H' : Hp} (e : Ex H H') {b : Addr} (h : H b ≠ Option.none) : H' b ≠ Option.none := by
  cases q : H b with
  | none => exact absurd q h
  | some o =>
    rw [e b o q]
    intro z
    cases z
theorem Kept.trans {H H1 H2 : Hp} {p fa na pa : Addr} (a : Kept H H1 p fa na pa) (b : Kept H1 H2 p fa na pa) : Kept H H2 p fa na pa := fun c o h h1 h2 h3 h4 => b c o (a c o h h1 h2 h3 h4) h1 h2 h3 h4
theorem Kept.ex {H H' : Hp} {p fa na pa : Addr} (e : Ex H H') : Kept H H' p fa na pa := fun c o h _ _ _ _ => e c o h
def sp_Disk___init__ (K : PySem.W.Frag) (C : Addr) : Sp := fun vs H Q _ => ∃ (p dx : Addr), vs = [.ref p] ∧ H p = some (.ins C dx []) ∧ ∀ (fa na sa pa : Addr) (H' : Hp), (∀ b o, H b = some o → b ≠ p → H' b = some o) → H fa = none → H na = none → H sa = none → H pa = none → DAt C H' p fa na sa pa [] (fun _ => none) none 0 (fun _ => False) → Q .non H'
def sp_Disk_set_room (K : PySem.W.Frag) (C : Addr) : Sp := fun vs H Q _ => ∃ (p fa na sa pa : Addr) (ks : List Str) (F : Str → Option (List Int)) (r : Option Int) (B : Nat) (r' : Option Int) (av : Addr → Prop), vs = [.ref p, rv r'] ∧ DAt C H p fa na sa pa ks F r B av ∧
  ∀ H', DAt C H' p fa na sa pa ks F r' B av → Kept H H' p fa na pa → Q .non H'
def sp_Disk__put (K : PySem.W.Frag) (C : Addr) : Sp := fun vs H Q _ => ∃ (p fa na sa pa : Addr) (ks : List Str) (F : Str → Option (List Int)) (r : Option Int) (B : Nat) (n : Str) (a : Addr) (data : List Int) (av : Addr → Prop), vs = [.ref p, .str n, .ref a] ∧ DAt C H p fa na sa pa ks F r B av ∧ (∀ b, av b → H b ≠ none) ∧ ¬ av a ∧ B ≤ 1000 ∧
  H a = some (.lst (data.map V.int)) ∧ a ≠ fa ∧ a ≠ pa ∧ data.length ≤ 80 * (B + 1) ∧
  ∀ H', DAt C H' p fa na sa pa (addK ks n) (setF F n (some data)) r (B + 1) av → Kept H H' p fa na pa → Q .non H'
def oldF (F : Str → Option (List Int)) (n : Str) : List Int := (F n).getD []
def wF (F : Str → Option (List Int)) (r : Option Int) (n : Str) (start : Int) (data : List Int) : Str → Option (List Int) :=
  if (wdata r (grow (oldF F n) start data) data).length > 0 then setF F n (some (newc (oldF F n) start (wdata r (grow (oldF F n) start data) data))) else F
def wK (ks : List Str) (F : Str → Option (List Int)) (r : Option Int) (n : Str) (start : Int) (data : List Int) : List Str :=
  if (wdata r (grow (oldF F n) start data) data).length > 0 then addK ks n else ks
def sp_Disk__write (K : PySem.W.Frag) (C : Addr) : Sp := fun vs H Q _ => ∃ (p fa na sa pa : Addr) (ks : List Str) (F : Str → Option (List Int)) (r : Option Int) (B : Nat) (n : Str) (start : Int) (a : Addr) (data : List Int) (av : Addr → Prop), vs = [.ref p, .str n, .int start, .ref a] ∧ DAt C H p fa na sa pa ks F r B av ∧ (∀ b, av b → H b ≠ none) ∧ B ≤ 1000 ∧
  H a = some (.lst (data.map V.int)) ∧ data.length ≤ 80 ∧ 0 ≤ start ∧ start ≤ (oldF F n).length ∧
  ∀ H', DAt C H' p fa na sa pa (wK ks F r n start data) (wF F r n start data) (wroom r (grow (oldF F n) start data)) (B + 1) av → Kept H H' p fa na pa → Q (.bl (fits r (grow (oldF F n) start data))) H'
--SPLIT
section
variable {K : PySem.W.Frag} {Disk : Addr}
theorem len_Disk__write {vs H Q E} (h : sp_Disk__write K Disk vs H Q E) : vs.length = 4 := by
  obtain ⟨_, _, _, _, _, _, _, _, _, _, _, _, _, _, rfl, _⟩ := h; rfl
theorem len_Disk___init__ {vs H Q E} (h : sp_Disk___init__ K Disk vs H Q E) : vs.length = 1 := by
  obtain ⟨_, _, rfl, _⟩ := h; rfl
theorem len_Disk_set_room {vs H Q E} (h : sp_Disk_set_room K Disk vs H Q E) : vs.length = 2 := by
  obtain ⟨_, _, _, _, _, _, _, _, _, _, _, rfl, _⟩ := h; rfl
theorem len_Disk__put {vs H Q E} (h : sp_Disk__put K Disk vs H Q E) : vs.length = 3 := by
  obtain ⟨_, _, _, _, _, _, _, _, _, _, _, _, _, rfl, _⟩ := h; rfl
def t_Disk___init__ (K : PySem.W.Frag) (Disk : Addr) : TS := (tSeq (sFld K (tVar 0) (tLst tNil) "_files")
  (tSeq (sFld K (tVar 0) tDNewK "_names")
  (tSeq (sFld K (tVar 0) tDNewK "_safe_names")
  (tSeq (sFld K (tVar 0) (tLst tNil) "_pending")
  (sFld K (tVar 0) (tC .non) "_room")))))

theorem pure_Disk___init__ (cd : CD_Disk K Disk) (vs : List V) (H : Hp) (Q : VK) (E : XK) (h : sp_Disk___init__ K Disk vs H Q E) : t_Disk___init__ K Disk { nx := fun _ H' => Q .non H', rt := Q } (start ["self"] vs) H := by
  obtain ⟨cl, n1, n2, n3, n4, n5⟩ := cd
  obtain ⟨p, dx, rfl, hp, q⟩ := h
  unfold t_Disk___init__
  walk_at "rd"
  refine ⟨Nat.zero_le _, fun fa h1 => ?_⟩
  walk_at "rd"
  intro na h2
  walk_at "rd"
  intro sa h3
  walk_at "rd"
  refine ⟨Nat.zero_le _, fun pa h4 => ?_⟩
  walk_at "rd"
  refine q fa na sa pa _ (fun b o e hb => ?_) ?_ ?_ ?_ ?_ ?_
  · walk_at "hp"
  · assumption
  · exact (by grind [upd])
  · exact (by grind [upd])
  · exact (by grind [upd])
  · refine ⟨⟨_, by walk_at "hp"⟩, ⟨[], [], by walk_at "hp", by walk_at "hp", rfl, Nat.le_refl _, fun n => rfl, fun n m j h => by cases h⟩, ⟨_, by walk_at "hp"⟩, ⟨_, by walk_at "hp", Nat.le_refl _⟩, by grind [upd], by grind [upd], Nat.le_refl _, fun n => by simp⟩
def t_Disk_set_room (K : PySem.W.Frag) (Disk : Addr) : TS := (sFld K (tVar 0) (tVar 1) "_room")

theorem pure_Disk_set_room (cd : CD_Disk K Disk) (vs : List V) (H : Hp) (Q : VK) (E : XK) (h : sp_Disk_set_room K Disk vs H Q E) : t_Disk_set_room K Disk { nx := fun _ H' => Q .non H', rt := Q } (start ["self", "count"] vs) H := by
  obtain ⟨cl, n1, n2, n3, n4, n5⟩ := cd
  obtain ⟨p, fa, na, sa, pa, ks, F, r, B, r', av, rfl, D, q⟩ := h
  obtain ⟨⟨dx, ob⟩, ⟨nm, fs, hn, hf, hk, hl, hr, hi⟩, ⟨s, hs⟩, ⟨ps, hp, hpl⟩, ne, nsa, kn, kf⟩ := D
  unfold t_Disk_set_room
  walk_at "rd"
  have nc : ∀ c xs, H c = some (.lst xs) → upd H p (.ins Disk dx (fl_Disk (.ref fa) (.ref na) (.ref sa) (.ref pa) (rv r'))) c = some (.lst xs) := fun c xs h => by grind [upd]
  refine q _ ⟨⟨_, upd_same⟩, ⟨nm, fs, by grind [upd], nc _ _ hf, hk, hl, fun n => ?_, hi⟩, ⟨s, by grind [upd]⟩, ⟨ps, nc _ _ hp, hpl⟩, ne, nsa, kn, kf⟩ fun b o h h1 _ _ _ => by rw [upd_ne h1]; exact h
  have h1 := hr n
  cases e : F n with
  | none =>
    rw [e] at h1
    exact h1
  | some data =>
    rw [e] at h1
    obtain ⟨j, c, vs, d, a1, a2, a3, a4, a5, a6⟩ := h1
    exact ⟨j, c, vs, d, a1, a2, nc _ _ a3, a4, nc _ _ a5, a6⟩
def t_Disk__put (K : PySem.W.Frag) (Disk : Addr) : TS := (C8.tCut (tIfS (tB (tDNotIn (tVar 1) (tFld K (tVar 0) "_names"))) (tSeq (sDPut (tFld K (tVar 0) "_names") (tVar 1) (tCB (rLenSq K) (tCons (tFld K (tVar 0) "_files") tNil)))
  (tSeq (tDrop (tBM K "list" rAppend (tFld K (tVar 0) "_pending") (tCons (tTup (tCons (tVar 1) (tCons (tCB (rLenSq K) (tCons (tFld K (tVar 0) "_files") tNil)) tNil))) tNil)))
  (tDrop (tBM K "list" rAppend (tFld K (tVar 0) "_files") (tCons (tLst (tCons (tLst tNil) tNil)) tNil)))))
  tNext)
  (tSeq (tAsg (tDGet (tFld K (tVar 0) "_names") (tVar 1)) (gName 3))
  (tAsg (tOp rCat (tOp (rIxL K) (tFld K (tVar 0) "_files") (tVar 3)) (tLst (tCons (tVar 2) tNil))) (gSub (tFld K (tVar 0) "_files") (tVar 3) rSetL))))

theorem pure_Disk__put (cd : CD_Disk K Disk) (vs : List V) (H : Hp) (Q : VK) (E : XK) (h : sp_Disk__put K Disk vs H Q E) : t_Disk__put K Disk { nx := fun _ H' => Q .non H', rt := Q } (start ["self", "name", "content", "number"] vs) H := by
  obtain ⟨cl, n1, n2, n3, n4, n5⟩ := cd
  obtain ⟨p, fa, na, sa, pa, ks, F, r, B, n, a, data, av, rfl, D, hav, naa, hB, ha, af, ap, hd, q⟩ := h
  obtain ⟨⟨dx, ob⟩, ⟨nm, fs, hn, hf, hk, hl, hr, hi⟩, ⟨s, hs⟩, ⟨ps, hp, hpl⟩, ne, nsa, kn, kf⟩ := D
  have lnm : nm.length ≤ 1000 := by
    have e := congrArg List.length hk
    rw [List.length_map, List.length_map] at e
    omega
  unfold t_Disk__put
  walk_at "rd"
  refine x_nc ?_
  walk_at "rd"
  have h1 := hr n
  cases e : F n with
  | none =>
    rw [e] at h1
    have e1 : valV nm (Sum.inr n : Key) = none := h1
    rw [e1]
    walk_at "rd"
    walk_at "al"
    intro t ht
    walk_at "rd"
    refine ⟨by walk_at "ln", ?_⟩
    intro q1 hq1
    walk_at "rd"
    walk_at "al"
    intro q2 hq2
    have gn : valV (putK nm (Sum.inr n : Key) (.int fs.length)) (Sum.inr n : Key) = some (.int fs.length) := by rw [valV_put, if_pos rfl]
    have g2 : (fs ++ [V.ref q2])[fs.length]? = some (.ref q2) := by simp
    walk_at "rd"
    walk_at "al"
    intro q3 hq3
    walk_at "rd"
    intro q4 hq4
    walk_at "rd"
    have gl : ((fs ++ [V.ref q2]).set fs.length (V.ref q4)).length = fs.length + 1 := by simp
    refine q _ (DAt.put (fs := fs) (j := fs.length) (u := q4) (vs := [.ref q1]) (a := a) ⟨dx, by walk_at "hp"⟩ hk hr hi kn kf ne nsa (by walk_at "hp") upd_same ⟨s, by walk_at "hp"⟩ ⟨ps ++ [.ref t], by walk_at "hp", by rw [List.length_append]; show ps.length + 1 ≤ _; omega⟩ (by rw [gl]; omega) ?_ (.inr ⟨rfl, by simp⟩) ?_ ?_ ?_ ?_ ?_ hd ?_ ?_ af ap ?_ naa) ?_
    · intro c xs h h1 h2
      walk_at "hp"
    · intro i hi2 c h
      rw [List.getElem?_set_ne (Ne.symm hi2), List.getElem?_append_left (List.getElem?_eq_some_iff.mp h).1]
      exact h
    · simp
    · walk_at "hp"
    · show 1 ≤ _; omega
    · walk_at "hp"
    · grind [upd]
    · grind [upd]
    · exact fun h => hav _ h (by have hh := hq4; simp only [upd_eq_none] at hh; simp only [hh])
    · intro b o h h1 h2 h3 h4
      walk_at "hp"
  | some old =>
    rw [e] at h1
    obtain ⟨j, c, vs, d, a1, a2, a3, a4, a5, a6, b1, b2, b3, b4, b5, b6⟩ := h1
    rw [a1]
    walk_at "rd"
    walk_at "al"
    intro t ht
    walk_at "rd"
    intro u hu
    have hj : j < fs.length := (List.getElem?_eq_some_iff.mp a2).1
    walk_at "rd"
    refine q _ (DAt.put (fs := fs) (j := j) (u := u) (vs := vs ++ [.ref d]) (a := a) ⟨dx, by walk_at "hp"⟩ hk hr hi kn kf ne nsa (by walk_at "hp") upd_same ⟨s, by walk_at "hp"⟩ ⟨ps, by walk_at "hp", by omega⟩ (by rw [List.length_set]; omega) ?_ (.inl ⟨rfl, a1⟩) ?_ ?_ ?_ ?_ ?_ hd ?_ ?_ af ap ?_ naa) ?_
    · intro c xs h h1 h2
      walk_at "hp"
    · intro i hi2 c h
      rw [List.getElem?_set_ne (Ne.symm hi2)]
      exact h
    · rw [List.getElem?_set_self hj]
    · walk_at "hp"
    · rw [List.length_append]; show vs.length + 1 ≤ _; omega
    · walk_at "hp"
    · grind [upd]
    · grind [upd]
    · exact fun h => hav _ h (by have hh := hu; simp only [upd_eq_none] at hh; simp only [hh])
    · intro b o h h1 h2 h3 h4
      walk_at "hp"
end
--SPLIT
section
variable {K : PySem.W.Frag} {Disk : Addr}
def t_Disk__write (K : PySem.W.Frag) (Disk : Addr) : TS := (tSeq (tAsg (tLst tNil) (gName 4))
  (C8.tCut (tIfS (tB (tDIn (tVar 1) (tFld K (tVar 0) "_names"))) (tAsg (tOp (rIxL K) (tOp (rIxL K) (tFld K (tVar 0) "_files") (tDGet (tFld K (tVar 0) "_names") (tVar 1))) (tUn rNeg (tC (.int 1)))) (gName 4))
  tNext)
  (tSeq (tAsg (tCB rMax2 (tCons (tC (.int 0)) (tCons (tOp rMi (tOp rPl (tVar 2) (tCB (rLenSq K) (tCons (tVar 3) tNil))) (tCB (rLenSq K) (tCons (tVar 4) tNil))) tNil))) (gName 5))
  (tSeq (tAsg (tOrV (tOp rIsNn (tFld K (tVar 0) "_room") (tC .non)) (tOp rLe (tVar 5) (tFld K (tVar 0) "_room"))) (gName 6))
  (C8.tCut (tIfS (tNot (tB (tVar 6))) (tSeq (tAsg (tSl (rSlL K) (tVar 3) tNoPart (tPart (tOp rPl (tOp rMi (tCB (rLenSq K) (tCons (tVar 3) tNil)) (tVar 5)) (tFld K (tVar 0) "_room")))) (gName 3))
  (tAsg (tFld K (tVar 0) "_room") (gName 5)))
  tNext)
  (C8.tCut (tIfS (tTest (tOp rNotNn (tFld K (tVar 0) "_room") (tC .non))) (sFldAug K (tVar 0) (tVar 5) rSub "_room")
  tNext)
  (C8.tCut (tIfS (tTest (tOp rGt (tCB (rLenSq K) (tCons (tVar 3) tNil)) (tC (.int 0)))) (tDrop (tMeth Disk "_put" (sp_Disk__put K Disk) [] E0 (tVar 0) (tCons (tVar 1) (tCons (tOp rCat (tOp rCat (tSl (rSlL K) (tVar 4) tNoPart (tPart (tVar 2))) (tVar 3)) (tSl (rSlL K) (tVar 4) (tPart (tOp rPl (tVar 2) (tCB (rLenSq K) (tCons (tVar 3) tNil)))) tNoPart)) tNil))))
  tNext)
  (tRet (tVar 6)))))))))

theorem pure_Disk__write (cd : CD_Disk K Disk) (vs : List V) (H : Hp) (Q : VK) (E : XK) (h : sp_Disk__write K Disk vs H Q E) : t_Disk__write K Disk { nx := fun _ H' => Q .non H', rt := Q } (start ["self", "name", "start", "data", "content", "growth", "good"] vs) H := by
  obtain ⟨cl, n1, n2, n3, n4, n5⟩ := cd
  obtain ⟨p, fa, na, sa, pa, ks, F, r, B, n, start, a, data, av, rfl, D, hav, hB, ha, hd, s0, s1, q⟩ := h
  obtain ⟨⟨dx, ob⟩, ⟨nm, fs, hn, hf, hk, hl, hr, hi⟩, ⟨s, hs⟩, ⟨ps, hp, hpl⟩, ne, nsa, kn, kf⟩ := id D
  have hol : (oldF F n).length ≤ 80 * B := by
    have h1 := hr n
    unfold oldF
    cases e : F n with
    | none => exact Nat.zero_le _
    | some old =>
      rw [e] at h1
      obtain ⟨j, c, vs, d, a1, a2, a3, a4, a5, a6, _⟩ := h1
      exact a6
  unfold t_Disk__write
  walk_at "rd"
  walk_at "al"
  intro c0 hc0
  walk_at "rd"
  refine x_cut (fun σ H' => ∃ cc, σ = [some (.ref p), some (.str n), some (.int start), some (.ref a), some (.ref cc), none, none] ∧ H' = upd H c0 (.lst []) ∧ H' cc = some (.lst ((oldF F n).map V.int)) ∧ cc ≠ fa ∧ cc ≠ pa) ?_ ?_
  · walk_at "rd"
    have h1 := hr n
    cases e : F n with
    | none =>
      rw [e] at h1
      have e1 : valV nm (Sum.inr n : Key) = none := h1
      rw [e1]
      walk_at "rd"
      have eo : oldF F n = [] := by unfold oldF; rw [e]; rfl
      rw [eo]
      refine ⟨c0, rfl, rfl, upd_same, ?_, ?_⟩ <;> grind [upd]
    | some old =>
      rw [e] at h1
      obtain ⟨j, c, vs, d, a1, a2, a3, a4, a5, a6, b1, b2, b3, b4, b5, b6⟩ := h1
      rw [a1]
      walk_at "rd"
      have eo : oldF F n = old := by unfold oldF; rw [e]; rfl
      rw [eo]
      exact ⟨d, rfl, rfl, by walk_at "hp", b3, b4⟩
  · rintro σ H1 ⟨cc, rfl, rfl, hcc, ccf, ccp⟩
    walk_at "rd"
    rw [List.length_map, List.length_map]
    have eg : (if start + (data.length : Int) - ((oldF F n).length : Int) > 0 then start + (data.length : Int) - ((oldF F n).length : Int) else 0) = grow (oldF F n) start data := rfl
    rw [eg]
    refine x_ev (.bl (fits r (grow (oldF F n) start data))) (fun Q q => ?_) ?_
    · cases r with
      | none =>
        have ob2 : H p = some (.ins Disk dx (fl_Disk (.ref fa) (.ref na) (.ref sa) (.ref pa) .non)) := ob
        walk_at "rdv"
        exact q
      | some r0 =>
        have ob2 : H p = some (.ins Disk dx (fl_Disk (.ref fa) (.ref na) (.ref sa) (.ref pa) (.int r0))) := ob
        walk_at "rdv"
        exact q
    generalize hg : grow (oldF F n) start data = g at *
    have hwl := wdata_len r g data
    refine x_cut (fun σ H' => ∃ (a' : Addr) (g' : Int), σ = [some (.ref p), some (.str n), some (.int start), some (.ref a'), some (.ref cc), some (.int g'), some (.bl (fits r g))] ∧ H' a' = some (.lst ((wdata r g data).map V.int)) ∧
      (∀ b o, (upd H c0 (.lst [])) b = some o → H' b = some o) ∧ (∀ r0, r = some r0 → wroom r g = some (r0 - g'))) ?_ ?_
    · cases r with
      | none =>
        walk_at "rd"
        exact ⟨a, g, rfl, by walk_at "hp", fun _ _ h => h, fun r0 h => by cases h⟩
      | some r0 =>
        have ob2 : H p = some (.ins Disk dx (fl_Disk (.ref fa) (.ref na) (.ref sa) (.ref pa) (.int r0))) := ob
        by_cases hc : g ≤ r0
        · have e1 : fits (some r0) g = true := by unfold fits; exact decide_eq_true hc
          have e2 : wdata (some r0) g data = data := by unfold wdata; exact if_pos hc
          rw [e1, e2]
          walk_at "rd"
          refine ⟨a, g, rfl, by walk_at "hp", fun _ _ h => h, fun r1 h => ?_⟩
          cases h
          unfold wroom
          exact if_pos hc
        · have e1 : fits (some r0) g = false := by unfold fits; exact decide_eq_false hc
          have e2 : wdata (some r0) g data = cutI data none (some (data.length - g + r0)) := by unfold wdata; exact if_neg hc
          rw [e1, e2]
          walk_at "rd"
          rw [List.length_map]
          walk_at "rd"
          intro a' ha'
          rw [cutV_map]
          walk_at "rd"
          refine ⟨a', r0, rfl, upd_same, fun b o h => by walk_at "hp", fun r1 h => ?_⟩
          cases h
          unfold wroom
          exact if_neg hc
    · rintro σ H1 ⟨a', g', rfl, ha', hk1, hw⟩
      have ex1 : Ex (upd H c0 (.lst [])) H1 := hk1
      have ex2 : Ex H H1 := Ex.trans (Ex.new hc0) ex1
      walk_at "rd"
      refine x_cut (fun σ H' => ∃ g' : Option V, σ = [some (.ref p), some (.str n), some (.int start), some (.ref a'), some (.ref cc), g', some (.bl (fits r g))] ∧ DAt Disk H' p fa na sa pa ks F (wroom r g) B av ∧ Kept H1 H' p fa na pa ∧
        (∀ b xs, H1 b = some (.lst xs) → H' b = some (.lst xs))) ?_ ?_
      · walk_at "rd"
        have D1 : DAt Disk H1 p fa na sa pa ks F r B av := ⟨⟨dx, by walk_at "hp"⟩, ⟨nm, fs, by walk_at "hp", by walk_at "hp", hk, hl, fun m => (hr m).mono (Nat.le_refl _) rfl (fun _ _ _ h => h) (fun c xs h _ _ => ex2 _ _ h), hi⟩, ⟨s, by walk_at "hp"⟩, ⟨ps, by walk_at "hp", hpl⟩, ne, nsa, kn, kf⟩
        cases r with
        | none =>
          have ob2 : H p = some (.ins Disk dx (fl_Disk (.ref fa) (.ref na) (.ref sa) (.ref pa) .non)) := ob
          walk_at "rd"
          exact ⟨_, rfl, D1, fun _ _ h _ _ _ _ => h, fun _ _ h => h⟩
        | some r0 =>
          have ob2 : H p = some (.ins Disk dx (fl_Disk (.ref fa) (.ref na) (.ref sa) (.ref pa) (.int r0))) := ob
          walk_at "rd"
          refine ⟨_, rfl, p, Disk, dx, _, _, rfl, by walk_at "hp", cl, n5, by walk_at "lk", _, rfl, _, _, rfl, rfl, dx, _, by walk_at "hp", by walk_at "lf", ?_⟩
          rw [pf_Disk__room, hw r0 rfl]
          have nc : ∀ c xs, H1 c = some (.lst xs) → upd H1 p (.ins Disk dx (fl_Disk (.ref fa) (.ref na) (.ref sa) (.ref pa) (.int (r0 - g')))) c = some (.lst xs) := fun c xs h => by
            have := ex2 p _ ob
            grind [upd]
          refine ⟨_, rfl, ⟨⟨dx, upd_same⟩, ⟨nm, fs, ?_, nc _ _ (ex2 _ _ hf), hk, hl, fun m => (hr m).mono (Nat.le_refl _) rfl (fun _ _ _ h => h) (fun c xs h _ _ => nc _ _ (ex2 _ _ h)), hi⟩, ⟨s, ?_⟩, ⟨ps, nc _ _ (ex2 _ _ hp), hpl⟩, ne, nsa, kn, kf⟩, fun b o h h1 _ _ _ => by rw [upd_ne h1]; exact h, nc⟩
          · have := ex2 p _ ob
            have := ex2 na _ hn
            grind [upd]
          · have := ex2 p _ ob
            have := ex2 sa _ hs
            grind [upd]
      · rintro σ H2 ⟨g2, rfl, D2, kp2, nc2⟩
        have ha2 := nc2 _ _ ha'
        have hcc2 := nc2 _ _ (ex1 _ _ hcc)
        refine x_nc ?_
        simp only [wK, wF, hg] at q
        obtain ⟨⟨dx2, ob2⟩, _⟩ := id D2
        walk_at "rd"
        rw [List.length_map]
        refine ifd (fun hc => ?_) (fun hc => ?_)
        · walk_at "rd"
          intro t1 ht1
          rw [cutV_map]
          have l1 := cutI_len (oldF F n) none (some start)
          have l2 := cutI_len (oldF F n) (some (start + (wdata r g data).length)) none
          walk_at "rd"
          intro t2 ht2
          walk_at "rd"
          rw [List.length_map, cutV_map]
          intro t3 ht3
          rw [← List.map_append] at ht3 ⊢
          walk_at "rd"
          intro t4 ht4
          rw [← List.map_append]
          walk_at "rd"
          have hnl : (newc (oldF F n) start (wdata r g data)).length ≤ 80 * (B + 1) := by
            have := newc_len (data := wdata r g data) s0 s1
            omega
          have exA := Ex.trans (Ex.trans (Ex.new (o := .lst ((cutI (oldF F n) none (some start)).map V.int)) ht1) (Ex.new (o := .lst ((cutI (oldF F n) none (some start) ++ wdata r g data).map V.int)) ht2)) (Ex.new (o := .lst ((cutI (oldF F n) (some (start + (wdata r g data).length)) none).map V.int)) ht3)
          have h4n : H2 t4 = none := exA.none ht4
          have hav2 : ∀ b, av b → H2 b ≠ none := fun b h => kp2.some_ D2 (ex2.some_ (hav b h))
          have ex3 := Ex.trans exA (Ex.new (o := .lst ((newc (oldF F n) start (wdata r g data)).map V.int)) ht4)
          obtain ⟨_, ⟨_, _, _, hfa2, _⟩, _, ⟨_, hpa2, _⟩, _⟩ := id D2
          refine ⟨p, fa, na, sa, pa, ks, F, _, B, n, t4, newc (oldF F n) start (wdata r g data), av, rfl, D2.ex ex3 (Nat.le_refl _), fun b h => ex3.some_ (hav2 b h), fun h => hav2 _ h h4n, hB, upd_same, (ne_of_none hfa2 h4n).symm, (ne_of_none hpa2 h4n).symm, hnl, fun H' D' kp' => ?_⟩
          · walk_at "rd"
            refine q H' ?_ (Kept.trans (Kept.trans (Kept.trans (Kept.ex ex2) kp2) (Kept.ex ex3)) kp')
            rw [if_pos (by omega), if_pos (by omega)]
            exact D'
        · walk_at "rd"
          refine q H2 ?_ (Kept.trans (Kept.ex ex2) kp2)
          rw [if_neg (by omega), if_neg (by omega)]
          exact D2.ex (Ex.refl _) (Nat.le_succ _)
end
--SPLIT
/-! ### requests, answers -/
inductive Rq where
  | write (n : Str) (s : Int) (a : Addr) (data : List Int)
  | read (n : Str) (i k : Int)
  | cut (n : Str) (i : Int)
  | size (n : Str)
  | remove (n : Str)
  | sync (n : Str)
def RqAt (H : Hp) (t : Addr) : Rq → Prop
  | .write n s a data => H t = some (.tup [.str "write", .str n, .int s, .ref a]) ∧ H a = some (.lst (data.map V.int))
  | .read n i k => H t = some (.tup [.str "read", .str n, .int i, .int k])
  | .cut n i => H t = some (.tup [.str "cut", .str n, .int i])
  | .size n => H t = some (.tup [.str "size", .str n])
  | .remove n => H t = some (.tup [.str "remove", .str n])
  | .sync n => H t = some (.tup [.str "sync", .str n])
def Rq.name : Rq → Str
  | .write n _ _ _ => n
  | .read n _ _ => n
  | .cut n _ => n
  | .size n => n
  | .remove n => n
  | .sync n => n
def RqOk (F : Str → Option (List Int)) : Rq → Prop
  | .write n s _ data => data.length ≤ 80 ∧ 0 ≤ s ∧ s ≤ (oldF F n).length ∧ 0 < data.length
  | .read n _ _ => (F n).isSome = true
  | .cut n _ => (F n).isSome = true
  | .size n => (F n).isSome = true
  | .remove n => (F n).isSome = true
  | .sync n => (F n).isSome = true
inductive An where
  | lst (xs : List Int)
  | int (i : Int)
  | bl (b : Bool)
def AnAt (H : Hp) (v : V) : An → Prop
  | .lst xs => ∃ a, v = .ref a ∧ H a = some (.lst (xs.map V.int))
  | .int i => v = .int i
  | .bl b => v = .bl b
def anF (F : Str → Option (List Int)) (r : Option Int) : Rq → An
  | .write n s _ data => .bl (fits r (grow (oldF F n) s data))
  | .read n i k => .lst (cutI (oldF F n) (some i) (some (i + k)))
  | .cut _ _ => .bl true
  | .size n => .int (oldF F n).length
  | .remove _ => .bl true
  | .sync _ => .bl true
def ksF (ks : List Str) (F : Str → Option (List Int)) (r : Option Int) : Rq → List Str
  | .write n s _ data => wK ks F r n s data
  | .remove n => delK ks n
  | _ => ks
def ffF (F : Str → Option (List Int)) (r : Option Int) : Rq → Str → Option (List Int)
  | .write n s _ data => wF F r n s data
  | .cut n i => setF F n (some (cutI (oldF F n) none (some i)))
  | .remove n => setF F n none
  | _ => F
def rmF (F : Str → Option (List Int)) (r : Option Int) : Rq → Option Int
  | .write n s _ data => wroom r (grow (oldF F n) s data)
  | _ => r
def sp_Disk_perform (K : PySem.W.Frag) (C : Addr) : Sp := fun vs H Q _ => ∃ (p fa na sa pa : Addr) (ks : List Str) (F : Str → Option (List Int)) (r : Option Int) (B : Nat) (t : Addr) (av : Addr → Prop), vs = [.ref p, .ref t] ∧ DAt C H p fa na sa pa ks F r B av ∧ (∀ b, av b → H b ≠ none) ∧ B ≤ 60 ∧
  ((H t = some (.tup [.str "names"]) ∧ ∀ ys l, ys.Perm ks → PyProof.Rows.sortedS ys = true → H l = none → Q (.ref l) (upd H l (.lst (ys.map V.str)))) ∨
   (H t = some (.tup [.str "sync_names"]) ∧ ∀ sa' pa' H', H sa' = none → H pa' = none → DAt C H' p fa na sa' pa' ks F r B av → Kept H H' p fa na pa → Q (.bl true) H') ∨
   ∃ q, RqAt H t q ∧ RqOk F q ∧ ∀ v H', DAt C H' p fa na sa pa (ksF ks F r q) (ffF F r q) (rmF F r q) (B + 1) (fun b => av b ∨ v = .ref b) → Kept H H' p fa na pa → AnAt H' v (anF F r q) → (∀ a, v = .ref a → H a = none) → Q v H')
inductive FilesAt (H H' : Hp) (F : Str → Option (List Int)) (D : Addr) : List Str → List Addr → Prop
  | nil : FilesAt H H' F D [] []
  | snoc {y : Str} {t a : Addr} {ys : List Str} {ts : List Addr} : H' t = some (.tup [.str y, .ref a]) → H' a = some (.lst ((oldF F y).map V.int)) → H a = none → H t = none → a ≠ D → FilesAt H H' F D ys ts → FilesAt H H' F D (ys ++ [y]) (ts ++ [t])
theorem FilesAt.mono {H H' H2 : Hp} {F : Str → Option (List Int)} {D : Addr} (k : ∀ b o, H' b = some o → b ≠ D → H2 b = some o) (hD : ∃ xs, H' D = some (.lst xs)) : ∀ {ys : List Str} {ts : List Addr}, FilesAt H H' F D ys ts → FilesAt H H2 F D ys ts
  | _, _, .nil => .nil
  | _, _, .snoc h1 h2 h3 h4 h5 r => .snoc (k _ _ h1 (by
      obtain ⟨xs, hD⟩ := hD
      intro e
      rw [e, hD] at h1
      cases h1)) (k _ _ h2 h5) h3 h4 h5 (r.mono k hD)
def sp_Disk_files (K : PySem.W.Frag) (C : Addr) : Sp := fun vs H Q _ => ∃ (p fa na sa pa : Addr) (ks : List Str) (F : Str → Option (List Int)) (r : Option Int) (B : Nat) (av : Addr → Prop), vs = [.ref p] ∧ DAt C H p fa na sa pa ks F r B av ∧ B ≤ 60 ∧
  ∀ ys l ts H', ys.Perm ks → PyProof.Rows.sortedS ys = true → Ex H H' → H l = none → H' l = some (.lst (ts.map V.ref)) → FilesAt H H' F l ys ts → Q (.ref l) H'
/-- the law's own dict -/
structure LAt (H : Hp) (L : Addr) (ks : List Str) (F : Str → Option (List Int)) (av : Addr → Prop) (B : Nat) : Prop where
  ex : ∃ lm : List (Key × V), H L = some (.dK lm) ∧ lm.map (·.1) = ks.map Sum.inr ∧ ∀ n, match F n with
    | none => valV lm (Sum.inr n : Key) = none
    | some data => ∃ e, valV lm (Sum.inr n : Key) = some (.ref e) ∧ H e = some (.lst (data.map V.int)) ∧ ¬ av e
  kn : ks.length ≤ B
  kf : ∀ n, n ∈ ks ↔ (F n).isSome = true
  fl : ∀ n data, F n = some data → data.length ≤ 80 * B
def sp__law_request (K : PySem.W.Frag) (C : Addr) : Sp := fun vs H Q _ => ∃ (a : Addr) (ds : List Int) (k : Int) (L : Addr) (ks : List Str) (F : Str → Option (List Int)) (av : Addr → Prop) (B : Nat), vs = [.ref a, .int k, .ref L] ∧ SqL K H a (ds.map V.int) ∧ 0 ≤ k ∧ LAt H L ks F av B ∧ B ≤ 60 ∧
  ∀ q t H', Ex H H' → RqAt H' t q → RqOk F q → H t = none → (∀ n s b data, q = .write n s b data → H b = none) → okStr q.name = true → Q (.ref t) H'
def sp__law_perform (K : PySem.W.Frag) (C : Addr) : Sp := fun vs H Q _ => ∃ (L : Addr) (r : Option Int) (t : Addr) (ks : List Str) (F : Str → Option (List Int)) (av : Addr → Prop) (B : Nat) (q : Rq), vs = [.ref L, rv r, .ref t] ∧ LAt H L ks F av B ∧ B ≤ 60 ∧ RqAt H t q ∧ RqOk F q ∧ (∀ b, av b → H b ≠ none) ∧
  ∀ T v H', LAt H' L (ksF ks F r q) (ffF F r q) av (B + 1) → (∀ b o, H b = some o → b ≠ L → H' b = some o) → H T = none → H' T = some (.tup [v, rv (rmF F r q)]) → AnAt H' v (anF F r q) → (∀ a, v = .ref a → H a = none) → Q (.ref T) H'
def sp__law_same (K : PySem.W.Frag) (C : Addr) : Sp := fun vs H Q _ => ∃ (u v : V) (x : An), vs = [u, v] ∧ AnAt H u x ∧ AnAt H v x ∧ Q (.bl true) H
def sp_law (K : PySem.W.Frag) : Sp := fun vs H Q _ => ∃ (a : Addr) (ns : List Int), vs = [.ref a] ∧ SqL K H a (ns.map V.int) ∧ ns.length ≤ 63 ∧ ∀ H', Q (.bl true) H'
theorem law_start {K : PySem.W.Frag} {n : Nat} {H : Hp} {a : Addr} {ns : List Int} (hl : ns.length ≤ 63) (hS : SqL K H a (ns.map V.int)) : sp_law K [.ref a] H (fun v _ => v = .bl true) fun _ _ _ => False := ⟨a, ns, rfl, hS, hl, fun _ => rfl⟩
section
variable {K : PySem.W.Frag} {Disk : Addr}
theorem len_Disk_perform {vs H Q E} (h : sp_Disk_perform K Disk vs H Q E) : vs.length = 2 := by
  obtain ⟨_, _, _, _, _, _, _, _, _, _, _, rfl, _⟩ := h; rfl
theorem len_Disk_files {vs H Q E} (h : sp_Disk_files K Disk vs H Q E) : vs.length = 1 := by
  obtain ⟨_, _, _, _, _, _, _, _, _, _, rfl, _⟩ := h; rfl
theorem len__law_request {vs H Q E} (h : sp__law_request K Disk vs H Q E) : vs.length = 3 := by
  obtain ⟨_, _, _, _, _, _, _, _, rfl, _⟩ := h; rfl
theorem len__law_perform {vs H Q E} (h : sp__law_perform K Disk vs H Q E) : vs.length = 3 := by
  obtain ⟨_, _, _, _, _, _, _, _, rfl, _⟩ := h; rfl
theorem len__law_same {vs H Q E} (h : sp__law_same K Disk vs H Q E) : vs.length = 2 := by
  obtain ⟨_, _, _, rfl, _⟩ := h; rfl
theorem len_law {vs H Q E} (h : sp_law K vs H Q E) : vs.length = 1 := by
  obtain ⟨_, _, rfl, _⟩ := h; rfl
def t_Disk_perform (K : PySem.W.Frag) (Disk : Addr) : TS := (tSeq (tAsg (tOp (rIxT K) (tVar 1) (tC (.int 0))) (gName 2))
  (tSeq (tIfS (tTest (tOp rEq (tVar 2) (tC (.str "names")))) (tRet (tCB rSortD (tCons (tFld K (tVar 0) "_names") tNil)))
  tNext)
  (tSeq (tIfS (tTest (tOp rEq (tVar 2) (tC (.str "sync_names")))) (tSeq (sFld K (tVar 0) (tCB rDictD (tCons (tFld K (tVar 0) "_names") tNil)) "_safe_names")
  (tSeq (sFld K (tVar 0) (tLst tNil) "_pending")
  (tRet (tC (.bl true)))))
  tNext)
  (tSeq (tAsg (tOp (rIxT K) (tVar 1) (tC (.int 1))) (gName 3))
  (tSeq (tIfS (tTest (tOp rEq (tVar 2) (tC (.str "write")))) (tRet (tMeth Disk "_write" (sp_Disk__write K Disk) [] E0 (tVar 0) (tCons (tVar 3) (tCons (tOp (rIxT K) (tVar 1) (tC (.int 2))) (tCons (tOp (rIxT K) (tVar 1) (tC (.int 3))) tNil)))))
  tNext)
  (tSeq (tAsg (tDGet (tFld K (tVar 0) "_names") (tVar 3)) (gName 4))
  (tSeq (tAsg (tOp (rIxL K) (tOp (rIxL K) (tFld K (tVar 0) "_files") (tVar 4)) (tUn rNeg (tC (.int 1)))) (gName 5))
  (tSeq (tIfS (tTest (tOp rEq (tVar 2) (tC (.str "size")))) (tRet (tCB (rLenSq K) (tCons (tVar 5) tNil)))
  tNext)
  (tSeq (tIfS (tTest (tOp rEq (tVar 2) (tC (.str "read")))) (tRet (tSl (rSlL K) (tVar 5) (tPart (tOp (rIxT K) (tVar 1) (tC (.int 2)))) (tPart (tOp rPl (tOp (rIxT K) (tVar 1) (tC (.int 2))) (tOp (rIxT K) (tVar 1) (tC (.int 3)))))))
  tNext)
  (C8.tCut (tIfS (tTest (tOp rEq (tVar 2) (tC (.str "cut")))) (tAsg (tOp rCat (tOp (rIxL K) (tFld K (tVar 0) "_files") (tVar 4)) (tLst (tCons (tSl (rSlL K) (tVar 5) tNoPart (tPart (tOp (rIxT K) (tVar 1) (tC (.int 2))))) tNil))) (gSub (tFld K (tVar 0) "_files") (tVar 4) rSetL))
  (tIfS (tTest (tOp rEq (tVar 2) (tC (.str "remove")))) (tSeq (sDDel (tFld K (tVar 0) "_names") (tVar 3))
  (tDrop (tBM K "list" rAppend (tFld K (tVar 0) "_pending") (tCons (tTup (tCons (tVar 3) (tCons (tC .non) tNil))) tNil))))
  (tAsg (tLst (tCons (tVar 5) tNil)) (gSub (tFld K (tVar 0) "_files") (tVar 4) rSetL))))
  (tRet (tC (.bl true)))))))))))))

theorem pure_Disk_perform (cd : CD_Disk K Disk) (vs : List V) (H : Hp) (Q : VK) (E : XK) (h : sp_Disk_perform K Disk vs H Q E) : t_Disk_perform K Disk { nx := fun _ H' => Q .non H', rt := Q } (start ["self", "request", "word", "name", "number", "content"] vs) H := by
  obtain ⟨cl, n1, n2, n3, n4, n5⟩ := cd
  obtain ⟨p, fa, na, sa, pa, ks, F, r, B, t, av, rfl, D, hav, hB, h⟩ := h
  obtain ⟨⟨dx, ob⟩, ⟨nm, fs, hn, hf, hk, hl, hr, hi⟩, ⟨s, hs⟩, ⟨ps, hp, hpl⟩, ne, nsa, kn, kf⟩ := id D
  unfold t_Disk_perform
  rcases h with ⟨ht, q⟩ | ⟨ht, q⟩ | ⟨q, ht, ok, k⟩
  · walk_at "rd"
    intro ys l hp1 hs1 hl1
    exact q ys l hp1 hs1 hl1
  · walk_at "rd"
    intro sa' hsa'
    walk_at "rd"
    walk_at "al"
    intro pa' hpa'
    walk_at "rd"
    have kp : ∀ b o, H b = some o → b ≠ p → (upd (upd (upd (upd H sa' (.dK nm)) p (.ins Disk dx (fl_Disk (.ref fa) (.ref na) (.ref sa') (.ref pa) (rv r)))) pa' (.lst [])) p (.ins Disk dx (fl_Disk (.ref fa) (.ref na) (.ref sa') (.ref pa') (rv r)))) b = some o := fun b o h h1 => by walk_at "hp"
    have npa : H pa' = none := by grind [upd]
    refine q sa' pa' _ hsa' npa ⟨⟨dx, upd_same⟩, ⟨nm, fs, kp _ _ hn (by grind [upd]), kp _ _ hf (by grind [upd]), hk, hl, fun m => ?_, hi⟩, ⟨nm, by walk_at "hp"⟩, ⟨[], by walk_at "hp", Nat.zero_le _⟩, ne_of_none hf npa, ne_of_none hn hsa', kn, kf⟩ fun b o h h1 _ _ _ => kp b o h h1
    have h1 := hr m
    cases e : F m with
    | none =>
      rw [e] at h1
      exact h1
    | some data =>
      rw [e] at h1
      obtain ⟨j, c, vs, d, a1, a2, a3, a4, a5, a6, b1, b2, b3, b4, b5, b6⟩ := h1
      exact ⟨j, c, vs, d, a1, a2, kp _ _ a3 (by grind [upd]), a4, kp _ _ a5 (by grind [upd]), a6, b1, ne_of_none a3 npa, b3, ne_of_none a5 npa, b5, b6⟩
  · have hF : ∀ n, (F n).isSome = true → ∃ (j : Nat) (c : Addr) (vs : List V) (d : Addr), valV nm (Sum.inr n : Key) = some (.int j) ∧ fs[j]? = some (.ref c) ∧ H c = some (.lst (vs ++ [.ref d])) ∧ vs.length ≤ B ∧
        H d = some (.lst ((oldF F n).map V.int)) ∧ (oldF F n).length ≤ 80 * B ∧ c ≠ fa ∧ c ≠ pa ∧ d ≠ fa ∧ d ≠ pa ∧ ¬ av c ∧ ¬ av d := fun n hn => by
      have h1 := hr n
      cases e : F n with
      | none =>
        rw [e] at hn
        cases hn
      | some data =>
        rw [e] at h1
        have eo : oldF F n = data := by unfold oldF; rw [e]; rfl
        rw [eo]
        exact h1
    have ak : ∀ n, (F n).isSome = true → addK ks n = ks := fun n h => by
      unfold addK
      rw [if_pos ((kf n).mpr h)]
    cases q with
    | write n st a data =>
      obtain ⟨ht, ha⟩ := ht
      walk_at "rd"
      obtain ⟨o1, o2, o3, o4⟩ := ok
      exact ⟨p, fa, na, sa, pa, ks, F, r, B, n, st, a, data, av, rfl, D, hav, by omega, ha, o1, o2, o3, fun H' D' kp => k _ H' (D'.ex (Ex.refl _) (Nat.le_refl _) fun b h => h.elim .inl fun z => nomatch z) kp rfl fun a h => by cases h⟩
    | read n i m =>
      obtain ⟨j, c, vs, d, a1, a2, a3, a4, a5, a6, b1, b2, b3, b4, b5, b6⟩ := hF n ok
      have ht2 : H t = some (.tup [.str "read", .str n, .int i, .int m]) := ht
      walk_at "rd"
      rw [cutV_map]
      intro u hu
      refine k _ _ (D.ex (Ex.new hu) (Nat.le_succ _) fun b h => h.elim .inl fun z => .inr (by cases z; exact hu)) (Kept.ex (Ex.new hu)) ⟨u, rfl, upd_same⟩ fun a h => by cases h; exact hu
    | cut n i =>
      obtain ⟨j, c, vs, d, a1, a2, a3, a4, a5, a6, b1, b2, b3, b4, b5, b6⟩ := hF n ok
      have ht2 : H t = some (.tup [.str "cut", .str n, .int i]) := ht
      walk_at "rd"
      refine x_nc ?_
      walk_at "rd"
      rw [cutV_map]
      intro u1 hu1
      have lc := cutI_len (oldF F n) none (some i)
      walk_at "rd"
      walk_at "al"
      intro u2 hu2
      walk_at "rd"
      intro u3 hu3
      have hj : j < fs.length := (List.getElem?_eq_some_iff.mp a2).1
      walk_at "rd"
      refine k _ _ ?_ ?_ rfl (fun a h => by cases h)
      · show DAt Disk _ p fa na sa pa ks (setF F n (some (cutI (oldF F n) none (some i)))) r (B + 1) _
        refine DAt.ex (av := av) ?_ (Ex.refl _) (Nat.le_refl _) fun b h => h.elim .inl fun z => nomatch z
        have q0 := DAt.put (C := Disk) (p := p) (r := r) (B := B) (na := na) (sa := sa) (ks := ks) (fs := fs) (nm := nm) (nm' := nm) (n := n) (data := cutI (oldF F n) none (some i)) (j := j) (u := u3) (vs := vs ++ [.ref d]) (a := u1) (H' := upd (upd (upd (upd H u1 (.lst ((cutI (oldF F n) none (some i)).map V.int))) u2 (.lst [.ref u1])) u3 (.lst (vs ++ [.ref d] ++ [.ref u1]))) fa (.lst (fs.set j (.ref u3)))) ⟨dx, by walk_at "hp"⟩ hk hr hi kn kf ne nsa (by walk_at "hp") upd_same ⟨s, by walk_at "hp"⟩ ⟨ps, by walk_at "hp", by omega⟩ (by rw [List.length_set]; omega)
          (fun c xs h h1 h2 => by walk_at "hp") (.inl ⟨rfl, a1⟩) (fun i hi2 c h => by rw [List.getElem?_set_ne (Ne.symm hi2)]; exact h) (by rw [List.getElem?_set_self hj]) (by walk_at "hp") (by rw [List.length_append]; show vs.length + 1 ≤ _; omega) (by walk_at "hp") (by omega) (by grind [upd]) (by grind [upd]) (by grind [upd]) (by grind [upd]) (fun h => hav _ h (by have hh := hu3; simp only [upd_eq_none] at hh; simp only [hh])) (fun h => hav _ h hu1)
        rw [ak n ok] at q0
        exact q0
      · intro b o h h1 h2 h3 h4
        walk_at "hp"
    | size n =>
      obtain ⟨j, c, vs, d, a1, a2, a3, a4, a5, a6, b1, b2, b3, b4, b5, b6⟩ := hF n ok
      have ht2 : H t = some (.tup [.str "size", .str n]) := ht
      walk_at "rd"
      refine k _ _ (D.ex (Ex.refl _) (Nat.le_succ _) fun b h => h.elim .inl fun z => nomatch z) (Kept.ex (Ex.refl _)) ?_ fun a h => by cases h
      rw [List.length_map]
      exact rfl
    | remove n =>
      obtain ⟨j, c, vs, d, a1, a2, a3, a4, a5, a6, b1, b2, b3, b4, b5, b6⟩ := hF n ok
      have ht2 : H t = some (.tup [.str "remove", .str n]) := ht
      have vs1 : (valV nm (Sum.inr n : Key)).isSome = true := by rw [a1]; rfl
      walk_at "rd"
      refine x_nc ?_
      walk_at "rd"
      walk_at "al"
      intro u hu
      walk_at "rd"
      have kp : ∀ b o, H b = some o → b ≠ na → b ≠ pa → (upd (upd (upd H na (.dK (dropK nm (Sum.inr n : Key)))) u (.tup [.str n, .non])) pa (.lst (ps ++ [.ref u]))) b = some o := fun b o h h1 h2 => by walk_at "hp"
      refine k _ _ ?_ (fun b o h _ _ h3 h4 => kp b o h h3 h4) rfl fun a h => by cases h
      refine DAt.ex (av := av) ?_ (Ex.refl _) (Nat.le_refl _) fun b h => h.elim .inl fun z => nomatch z
      refine ⟨⟨dx, kp _ _ ob (by grind [upd]) (by grind [upd])⟩, ⟨_, fs, by walk_at "hp", kp _ _ hf (by grind [upd]) ne, keys_drop nm ks n hk, by omega, fun m => ?_, fun m1 m2 i h1 h2 => ?_⟩, ⟨s, kp _ _ hs (Ne.symm nsa) (by grind [upd])⟩, ⟨_, upd_same, ?_⟩, ne, nsa, ?_, fun m => ?_⟩
      · show RepN _ av fa pa _ fs (B + 1) m (setF F n none m)
        unfold setF
        by_cases hm : m = n
        · rw [if_pos hm]
          show valV _ _ = none
          rw [valV_drop, if_pos (by rw [hm])]
        · rw [if_neg hm]
          refine (hr m).mono (Nat.le_succ _) ?_ (fun _ _ _ h => h) fun c xs h h1 h2 => kp _ _ h (by grind [upd]) h2
          rw [valV_drop, if_neg (fun z => hm (Sum.inr.inj z))]
      · rw [valV_drop] at h1 h2
        split at h1
        · cases h1
        · split at h2
          · cases h2
          · exact hi m1 m2 i h1 h2
      · rw [List.length_append]; show ps.length + 1 ≤ _; omega
      · have := delK_len ks n
        show (delK ks n).length ≤ _
        omega
      · show m ∈ delK ks n ↔ (setF F n none m).isSome = true
        unfold delK setF
        rw [List.mem_filter]
        by_cases hm : m = n
        · rw [if_pos hm]
          simp [hm]
        · rw [if_neg hm, ← kf m]
          simp [hm]
    | sync n =>
      obtain ⟨j, c, vs, d, a1, a2, a3, a4, a5, a6, b1, b2, b3, b4, b5, b6⟩ := hF n ok
      have ht2 : H t = some (.tup [.str "sync", .str n]) := ht
      walk_at "rd"
      refine x_nc ?_
      walk_at "rd"
      walk_at "al"
      intro u hu
      have hj : j < fs.length := (List.getElem?_eq_some_iff.mp a2).1
      walk_at "rd"
      refine k _ _ ?_ ?_ rfl (fun a h => by cases h)
      · show DAt Disk _ p fa na sa pa ks F r (B + 1) _
        refine DAt.ex (av := av) ?_ (Ex.refl _) (Nat.le_refl _) fun b h => h.elim .inl fun z => nomatch z
        have ef : setF F n (some (oldF F n)) = F := by
          funext m
          unfold setF
          by_cases hm : m = n
          · rw [if_pos hm, hm]
            unfold oldF
            cases e : F n with
            | none =>
              have ok2 : (F n).isSome = true := ok
              rw [e] at ok2
              cases ok2
            | some d => rfl
          · rw [if_neg hm]
        have q0 := DAt.put (C := Disk) (p := p) (r := r) (B := B) (na := na) (sa := sa) (ks := ks) (fs := fs) (nm := nm) (nm' := nm) (n := n) (data := oldF F n) (j := j) (u := u) (vs := []) (a := d) (H' := upd (upd H u (.lst [.ref d])) fa (.lst (fs.set j (.ref u)))) ⟨dx, by walk_at "hp"⟩ hk hr hi kn kf ne nsa (by walk_at "hp") upd_same ⟨s, by walk_at "hp"⟩ ⟨ps, by walk_at "hp", by omega⟩ (by rw [List.length_set]; omega)
          (fun c xs h h1 h2 => by walk_at "hp") (.inl ⟨rfl, a1⟩) (fun i hi2 c h => by rw [List.getElem?_set_ne (Ne.symm hi2)]; exact h) (by rw [List.getElem?_set_self hj]) (by walk_at "hp") (Nat.zero_le _) (by walk_at "hp") (by omega) (by grind [upd]) (by grind [upd]) b3 b4 (fun h => hav _ h hu) b6
        rw [ak n ok, ef] at q0
        exact q0
      · intro b o h h1 h2 h3 h4
        walk_at "hp"
end
--SPLIT
section
variable {K : PySem.W.Frag} {Disk : Addr}
def t_Disk_files (K : PySem.W.Frag) (Disk : Addr) : TS := (tRet (tLc (iList K (tCB rSortD (tCons (tFld K (tVar 0) "_names") tNil))) (gName 1) tYes (tTup (tCons (tVar 1) (tCons (tCB (rListOf K) (tCons (tOp (rIxL K) (tOp (rIxL K) (tFld K (tVar 0) "_files") (tDGet (tFld K (tVar 0) "_names") (tVar 1))) (tUn rNeg (tC (.int 1)))) tNil)) tNil))) [1]))

theorem pure_Disk_files (cd : CD_Disk K Disk) (vs : List V) (H : Hp) (Q : VK) (E : XK) (h : sp_Disk_files K Disk vs H Q E) : t_Disk_files K Disk { nx := fun _ H' => Q .non H', rt := Q } (start ["self", "name"] vs) H := by
  obtain ⟨cl, n1, n2, n3, n4, n5⟩ := cd
  obtain ⟨p, fa, na, sa, pa, ks, F, r, B, av, rfl, D, hB, k⟩ := h
  obtain ⟨⟨dx, ob⟩, ⟨nm, fs, hn, hf, hk, hl, hr, hi⟩, ⟨s, hs⟩, ⟨ps, hp, hpl⟩, ne, nsa, kn, kf⟩ := id D
  unfold t_Disk_files
  walk_at "rd"
  intro ys l pm so hl0
  have ly : ys.length = ks.length := pm.length_eq
  have exl : Ex H (upd H l (.lst (ys.map V.str))) := Ex.new hl0
  refine x_fl ⟨_, lq upd_same⟩ ?_
  refine w_lcL (xs := ys.map V.str) (fun D i acc H' => ∃ ts : List Addr, acc = ts.map V.ref ∧ ts.length = i ∧ H' D = some (.lst acc) ∧ Ex (upd H l (.lst (ys.map V.str))) H' ∧ FilesAt H H' F D (ys.take i) ts) ?_ ?_ ?_ ?_
  · intro D hD
    exact ⟨[], rfl, rfl, upd_same, Ex.new hD, .nil⟩
  · rintro D i acc H' hD ⟨ts, rfl, rfl, h1, h2, h3⟩
    walk_at "sq"
  · rintro D i acc x H' hD hx ⟨ts, rfl, rfl, h1, h2, h3⟩
    rw [List.getElem?_map] at hx
    obtain ⟨y, hy, rfl⟩ := Option.map_eq_some_iff.mp hx
    have ex2 : Ex H H' := exl.trans h2
    have hyk : y ∈ ks := pm.mem_iff.mp (List.mem_of_getElem? hy)
    have hFy := (kf y).mp hyk
    have hr1 := hr y
    cases e : F y with
    | none =>
      rw [e] at hFy
      cases hFy
    | some data =>
      rw [e] at hr1
      have eo : oldF F y = data := by unfold oldF; rw [e]; rfl
      obtain ⟨j, c, vs, d, a1, a2, a3, a4, a5, a6, b1, b2, b3, b4, b5, b6⟩ := hr1
      have ob' := ex2 _ _ ob
      have hn' := ex2 _ _ hn
      have hf' := ex2 _ _ hf
      have a3' := ex2 _ _ a3
      have a5' := ex2 _ _ a5
      walk_at "rd"
      intro u hu
      walk_at "rd"
      walk_at "al"
      intro t ht
      have hil : ts.length < ys.length := (List.getElem?_eq_some_iff.mp hy).1
      refine ⟨ts.map V.ref, by walk_at "hp", by walk_at "ln", _, ts ++ [t], (by rw [List.map_append]; rfl), by rw [List.length_append]; rfl, upd_same, ?_, ?_⟩
      · exact Ex.mut (Ex.trans (Ex.trans h2 (Ex.new hu)) (Ex.new ht)) hD
      · have hHu : H u = none := ex2.none hu
        have hHt : H t = none := by
          have e3 : Ex H' (upd H' u (.lst (data.map V.int))) := Ex.new hu
          exact ex2.none (e3.none ht)
        rw [List.take_succ, hy]
        show FilesAt H _ F D (ys.take ts.length ++ [y]) (ts ++ [t])
        have uD : u ≠ D := (ne_of_none h1 hu).symm
        have tD : t ≠ D := by grind [upd]
        refine .snoc ?_ ?_ hHu hHt uD (h3.mono (fun b o h1 h2 => ?_) ⟨_, h1⟩)
        · rw [upd_ne tD]
          exact upd_same
        · rw [upd_ne uD, eo]
          walk_at "hp"
        · rw [upd_ne h2]
          walk_at "hp"
  · rintro D acc H' hD ⟨ts, rfl, h0, h1, h2, h3⟩
    rw [List.length_map] at h3
    rw [List.take_length] at h3
    exact k ys D ts H' pm so (exl.trans h2) (exl.none hD) h1 h3
end
--SPLIT
section
variable {K : PySem.W.Frag} {Disk : Addr}
def t__law_request (K : PySem.W.Frag) (Disk : Addr) : TS := (tSeq (tAsg (tCall (sp__law_at K Disk) [] E0 (tCons (tVar 0) (tCons (tVar 1) (tCons (tC (.int 10)) tNil)))) (gName 3))
  (tSeq (tAsg (tOp (rIxL K) (tLst (tCons (tC (.str "mark")) (tCons (tC (.str "log-00000001")) (tCons (tC (.str "a")) (tCons (tC (.str "b")) tNil))))) (tCall (sp__law_at K Disk) [] E0 (tCons (tVar 0) (tCons (tOp rPl (tVar 1) (tC (.int 1))) (tCons (tC (.int 4)) tNil))))) (gName 4))
  (tSeq (tAsg (tCB (rLenSq K) (tCons (tDGet2 (tVar 2) (tVar 4) (tLst tNil)) tNil)) (gName 5))
  (tSeq (tIfS (tOr (tTest (tOp rLt (tVar 3) (tC (.int 4)))) (tB (tDNotIn (tVar 4) (tVar 2)))) (tSeq (tAsg (tOp rPl (tC (.int 1)) (tCall (sp__law_at K Disk) [] E0 (tCons (tVar 0) (tCons (tOp rPl (tVar 1) (tC (.int 2))) (tCons (tOp (rIxL K) (tLst (tCons (tC (.int 6)) (tCons (tC (.int 80)) tNil))) (tCall (sp__law_at K Disk) [] E0 (tCons (tVar 0) (tCons (tOp rPl (tVar 1) (tC (.int 2))) (tCons (tC (.int 2)) tNil))))) tNil))))) (gName 6))
  (tSeq (tAsg (tLc (iRng1 (tCons (tVar 6) tNil)) (gName 8) tYes (tOp rMo (tCB rInt1 (tCons (tOp rPl (tCall (sp__law_at K Disk) [] E0 (tCons (tVar 0) (tCons (tOp rPl (tVar 1) (tC (.int 1))) (tCons (tC (.int 65536)) tNil)))) (tOp rMu (tC (.int 7)) (tVar 8))) tNil)) (tC (.int 256))) [8]) (gName 7))
  (tRet (tTup (tCons (tC (.str "write")) (tCons (tVar 4) (tCons (tCall (sp__law_at K Disk) [] E0 (tCons (tVar 0) (tCons (tOp rPl (tVar 1) (tC (.int 2))) (tCons (tOp rPl (tVar 5) (tC (.int 1))) tNil)))) (tCons (tVar 7) tNil))))))))
  tNext)
  (tSeq (tIfS (tTest (tOp rEq (tVar 3) (tC (.int 4)))) (tRet (tTup (tCons (tC (.str "read")) (tCons (tVar 4) (tCons (tCall (sp__law_at K Disk) [] E0 (tCons (tVar 0) (tCons (tOp rPl (tVar 1) (tC (.int 2))) (tCons (tOp rPl (tVar 5) (tC (.int 9))) tNil)))) (tCons (tCall (sp__law_at K Disk) [] E0 (tCons (tVar 0) (tCons (tOp rPl (tVar 1) (tC (.int 1))) (tCons (tC (.int 90)) tNil)))) tNil))))))
  tNext)
  (tSeq (tIfS (tTest (tOp rEq (tVar 3) (tC (.int 5)))) (tRet (tTup (tCons (tC (.str "cut")) (tCons (tVar 4) (tCons (tCall (sp__law_at K Disk) [] E0 (tCons (tVar 0) (tCons (tOp rPl (tVar 1) (tC (.int 2))) (tCons (tOp rPl (tVar 5) (tC (.int 1))) tNil)))) tNil)))))
  tNext)
  (tRet (tTup (tCons (tOp (rIxL K) (tLst (tCons (tC (.str "size")) (tCons (tC (.str "remove")) (tCons (tC (.str "sync")) (tCons (tC (.str "size")) tNil))))) (tOp rMi (tVar 3) (tC (.int 6)))) (tCons (tVar 4) tNil))))))))))

theorem pure__law_request (cd : CD_Disk K Disk) (vs : List V) (H : Hp) (Q : VK) (E : XK) (h : sp__law_request K Disk vs H Q E) : t__law_request K Disk { nx := fun _ H' => Q .non H', rt := Q } (start ["_law_draws_here", "_law_k", "_law_files", "_law_word", "_law_name", "_law_size", "_law_many", "_law_data", "_law_i"] vs) H := by
  obtain ⟨a, ds, k, L, ks, F, av, B, rfl, hS, h0, ⟨⟨lm, hL, hk, hv⟩, kn, kf, fl⟩, hB, q⟩ := h
  unfold t__law_request
  walk_at "ra"
  walk_at "al"
  intro d1 hd1
  walk_at "ra"
  generalize hn : ([Str.ofString "mark", Str.ofString "log-00000001", Str.ofString "a", Str.ofString "b"] : List Str).getD _ Str.empty = n
  have hok : okStr n = true := by
    rw [← hn]
    exact ok_getD _ (fun x hx => by
      rcases List.mem_cons.mp hx with rfl | hx
      · decide +kernel
      rcases List.mem_cons.mp hx with rfl | hx
      · decide +kernel
      rcases List.mem_cons.mp hx with rfl | hx
      · decide +kernel
      rcases List.mem_cons.mp hx with rfl | hx
      · decide +kernel
      cases hx) _
  clear hn
  walk_at "ra"
  walk_at "al"
  intro d2 hd2
  walk_at "ra"
  have ex1 : Ex H _ := Ex.new (o := .lst [V.str (Str.ofString "mark"), V.str (Str.ofString "log-00000001"), V.str (Str.ofString "a"), V.str (Str.ofString "b")]) hd1
  have ex2 := ex1.trans (Ex.new (o := .lst []) hd2)
  have hv1 := hv n
  have hold : ∃ c : Addr, (valV lm (Sum.inr n : Key)).getD (.ref d2) = .ref c ∧ upd (upd H d1 (.lst [V.str (Str.ofString "mark"), V.str (Str.ofString "log-00000001"), V.str (Str.ofString "a"), V.str (Str.ofString "b")])) d2 (.lst []) c = some (.lst ((oldF F n).map V.int)) ∧ (valV lm (Sum.inr n : Key)).isSome = (F n).isSome := by
    unfold oldF
    cases e : F n with
    | none =>
      rw [e] at hv1
      have hv2 : valV lm (Sum.inr n : Key) = none := hv1
      rw [hv2]
      exact ⟨d2, rfl, upd_same, rfl⟩
    | some data =>
      rw [e] at hv1
      obtain ⟨c, h1, h2, h3⟩ := hv1
      rw [h1]
      exact ⟨c, rfl, ex2 _ _ h2, rfl⟩
  obtain ⟨c, ec, hc, es⟩ := hold
  rw [ec]
  walk_at "ra"
  rw [List.length_map]
  rename_i r0 hr0 hr1 r1 hr2 hr3
  refine x_tev (decide (r0 < 4) || !(F n).isSome) (fun Q q => ?_) ?_
  · walk_at "rdv"
    refine ifd (fun hc => ?_) (fun hc => ?_)
    · rw [decide_eq_true hc] at q
      exact q
    · rw [decide_eq_false hc] at q
      walk_at "rd"
      rw [es]
      walk_at "rd"
      exact q
  by_cases hw : (decide (r0 < 4) || !(F n).isSome) = true
  · rw [hw]
    walk_at "ra"
    walk_at "al"
    intro d3 hd3
    have ex3 := ex2.trans (Ex.new (o := .lst [.int 6, .int 80]) hd3)
    generalize hH3 : upd (upd (upd H d1 (.lst [V.str (Str.ofString "mark"), V.str (Str.ofString "log-00000001"), V.str (Str.ofString "a"), V.str (Str.ofString "b")])) d2 (.lst [])) d3 (.lst [.int 6, .int 80]) = H3 at *
    have hd3' : H3 d3 = some (.lst [.int 6, .int 80]) := by rw [← hH3]; exact upd_same
    have hS3 : SqL K H3 a (ds.map V.int) := ex3.l hS
    clear hH3
    walk_at "ra"
    rename_i r2 hr4 hr5
    have hm : 0 < ([6, 80] : List Int).getD r2.toNat 0 ∧ ([6, 80] : List Int).getD r2.toNat 0 ≤ 80 := by
      have : r2 = 0 ∨ r2 = 1 := by omega
      rcases this with rfl | rfl <;> exact ⟨by decide, by decide⟩
    generalize ([6, 80] : List Int).getD r2.toNat 0 = m2 at *
    walk_at "ra"
    rename_i r3 hr6 hr7
    refine x_r1 (by omega) ?_
    refine w_lcR (fun D i acc H' => ∃ es : List Int, acc = es.map V.int ∧ es.length = i ∧ H' D = some (.lst acc) ∧ Ex H3 H') ?_ ?_ ?_
    · intro D hD
      exact ⟨[], rfl, rfl, upd_same, Ex.new hD⟩
    · rintro D i acc H' hD hi ⟨es, rfl, rfl, h1, h2⟩
      have hS4 : SqL K H' a (ds.map V.int) := h2.l hS3
      have hi2 : es.length < 80 := by omega
      walk_at "ra"
      refine ⟨es.map V.int, h1, by walk_at "ln", _, es ++ [_], (by rw [List.map_append]; rfl), by rw [List.length_append]; rfl, upd_same, Ex.mut h2 hD⟩
    · rintro D acc H' hD ⟨es, rfl, hl, h1, h2⟩
      have hS4 : SqL K H' a (ds.map V.int) := h2.l hS3
      walk_at "ra"
      walk_at "al"
      intro t ht
      walk_at "rd"
      have ex4 := ex3.trans h2
      rename_i r4 hr8 hr9
      refine q (.write n r4 D es) t _ (ex4.trans (Ex.new ht)) ⟨upd_same, by walk_at "hp"⟩ ⟨by omega, hr8, by omega, by omega⟩ (ex4.none ht) (fun n' s' b data e => ?_) hok
      cases e
      exact ex3.none hD
  · have hw' : (decide (r0 < 4) || !(F n).isSome) = false := Bool.eq_false_iff.mpr hw
    rw [hw']
    have hFn : (F n).isSome = true := by
      cases e : (F n).isSome
      · rw [e] at hw
        exact absurd (by simp) hw
      · rfl
    generalize hH3 : upd (upd H d1 (.lst [V.str (Str.ofString "mark"), V.str (Str.ofString "log-00000001"), V.str (Str.ofString "a"), V.str (Str.ofString "b")])) d2 (.lst []) = H3 at *
    have hS3 : SqL K H3 a (ds.map V.int) := ex2.l hS
    clear hH3
    walk_at "ra"
    refine ifd (fun hc => ?_) (fun hc4 => ?_)
    · walk_at "ra"
      walk_at "al"
      intro t ht
      walk_at "rd"
      exact q (.read n _ _) t _ (ex2.trans (Ex.new ht)) upd_same hFn (ex2.none ht) (fun n' s' b data e => by cases e) hok
    walk_at "ra"
    refine ifd (fun hc => ?_) (fun hc5 => ?_)
    · walk_at "ra"
      walk_at "al"
      intro t ht
      walk_at "rd"
      exact q (.cut n _) t _ (ex2.trans (Ex.new ht)) upd_same hFn (ex2.none ht) (fun n' s' b data e => by cases e) hok
    walk_at "ra"
    walk_at "al"
    intro d3 hd3
    have r6 : r0 = 6 ∨ r0 = 7 ∨ r0 = 8 ∨ r0 = 9 := by
      rw [Bool.or_eq_false_iff] at hw'
      have := of_decide_eq_false hw'.1
      have n4 : r0 ≠ 4 := fun e => hc4 (by rw [e])
      have n5 : r0 ≠ 5 := fun e => hc5 (by rw [e])
      omega
    rcases r6 with rfl | rfl | rfl | rfl
    all_goals
      walk_at "rd"
      refine x_ixL ⟨_, lq upd_same, _, rfl, ?_⟩
      walk_at "rd"
      walk_at "al"
      intro t ht
      have ex4 := ex2.trans (Ex.new (o := .lst [V.str (Str.ofString "size"), V.str (Str.ofString "remove"), V.str (Str.ofString "sync"), V.str (Str.ofString "size")]) hd3)
    · exact q (.size n) t _ (ex4.trans (Ex.new ht)) upd_same hFn (ex4.none ht) (fun n' s' b data e => by cases e) hok
    · exact q (.remove n) t _ (ex4.trans (Ex.new ht)) upd_same hFn (ex4.none ht) (fun n' s' b data e => by cases e) hok
    · exact q (.sync n) t _ (ex4.trans (Ex.new ht)) upd_same hFn (ex4.none ht) (fun n' s' b data e => by cases e) hok
    · exact q (.size n) t _ (ex4.trans (Ex.new ht)) upd_same hFn (ex4.none ht) (fun n' s' b data e => by cases e) hok
end
--SPLIT
section
variable {K : PySem.W.Frag} {Disk : Addr}
theorem LAt.put {H H' : Hp} {L : Addr} {ks : List Str} {F : Str → Option (List Int)} {av : Addr → Prop} {B : Nat} {lm : List (Key × V)} {n : Str} {e : Addr} {data : List Int} (A : LAt H L ks F av B) (hL : H L = some (.dK lm)) (hL' : H' L = some (.dK (putK lm (Sum.inr n) (.ref e))))
    (kp : ∀ c xs, H c = some (.lst xs) → H' c = some (.lst xs)) (he : H' e = some (.lst (data.map V.int))) (ne : ¬ av e) (hl : data.length ≤ 80 * (B + 1)) : LAt H' L (addK ks n) (setF F n (some data)) av (B + 1) := by
  obtain ⟨⟨lm2, h1, h2, h3⟩, kn, kf, fl⟩ := A
  rw [hL] at h1
  cases h1
  refine ⟨⟨_, hL', keys_put lm ks n _ h2, fun m => ?_⟩, ?_, fun m => ?_, fun m d hm => ?_⟩
  · have h4 := h3 m
    unfold setF
    by_cases hm : m = n
    · subst hm
      rw [if_pos rfl]
      exact ⟨e, by rw [valV_put, if_pos rfl], he, ne⟩
    · rw [if_neg hm]
      have e2 : valV (putK lm (Sum.inr n : Key) (V.ref e)) (Sum.inr m : Key) = valV lm (Sum.inr m : Key) := by rw [valV_put, if_neg (fun z => hm (Sum.inr.inj z))]
      rw [e2]
      cases e : F m with
      | none =>
        rw [e] at h4
        exact h4
      | some d =>
        rw [e] at h4
        obtain ⟨c, a1, a2, a3⟩ := h4
        exact ⟨c, a1, kp _ _ a2, a3⟩
  · have := addK_len ks n
    omega
  · unfold addK setF
    by_cases hm : m = n
    · subst hm
      rw [if_pos rfl]
      split <;> simp_all
    · rw [if_neg hm, ← kf m]
      split
      · rfl
      · simp [hm]
  · unfold setF at hm
    split at hm
    · cases hm
      exact hl
    · have := fl m d hm
      omega
theorem LAt.drop {H H' : Hp} {L : Addr} {ks : List Str} {F : Str → Option (List Int)} {av : Addr → Prop} {B : Nat} {lm : List (Key × V)} {n : Str} (A : LAt H L ks F av B) (hL : H L = some (.dK lm)) (hL' : H' L = some (.dK (dropK lm (Sum.inr n))))
    (kp : ∀ c xs, H c = some (.lst xs) → H' c = some (.lst xs)) : LAt H' L (delK ks n) (setF F n none) av (B + 1) := by
  obtain ⟨⟨lm2, h1, h2, h3⟩, kn, kf, fl⟩ := A
  rw [hL] at h1
  cases h1
  refine ⟨⟨_, hL', keys_drop lm ks n h2, fun m => ?_⟩, ?_, fun m => ?_, fun m d hm => ?_⟩
  · have h4 := h3 m
    unfold setF
    by_cases hm : m = n
    · rw [if_pos hm]
      show valV _ _ = none
      rw [valV_drop, if_pos (by rw [hm])]
    · rw [if_neg hm]
      have e2 : valV (dropK lm (Sum.inr n : Key)) (Sum.inr m : Key) = valV lm (Sum.inr m : Key) := by rw [valV_drop, if_neg (fun z => hm (Sum.inr.inj z))]
      rw [e2]
      cases e : F m with
      | none =>
        rw [e] at h4
        exact h4
      | some d =>
        rw [e] at h4
        obtain ⟨c, a1, a2, a3⟩ := h4
        exact ⟨c, a1, kp _ _ a2, a3⟩
  · have := delK_len ks n
    omega
  · unfold delK setF
    rw [List.mem_filter]
    by_cases hm : m = n
    · rw [if_pos hm]
      simp [hm]
    · rw [if_neg hm, ← kf m]
      simp [hm]
  · unfold setF at hm
    split at hm
    · cases hm
    · have := fl m d hm
      omega
theorem LAt.mono {H H' : Hp} {L : Addr} {ks : List Str} {F : Str → Option (List Int)} {av : Addr → Prop} {B B' : Nat} (A : LAt H L ks F av B) (hL : ∀ o, H L = some o → H' L = some o) (kp : ∀ c xs, H c = some (.lst xs) → ¬ av c → H' c = some (.lst xs)) (hb : B ≤ B') : LAt H' L ks F av B' := by
  obtain ⟨⟨lm, h1, h2, h3⟩, kn, kf, fl⟩ := A
  refine ⟨⟨lm, hL _ h1, h2, fun m => ?_⟩, by omega, kf, fun m d hm => ?_⟩
  · have h4 := h3 m
    cases e : F m with
    | none =>
      rw [e] at h4
      exact h4
    | some d =>
      rw [e] at h4
      obtain ⟨c, a1, a2, a3⟩ := h4
      exact ⟨c, a1, kp _ _ a2 a3, a3⟩
  · have := fl m d hm
    omega
theorem oldF_len {H : Hp} {L : Addr} {ks : List Str} {F : Str → Option (List Int)} {av : Addr → Prop} {B : Nat} (A : LAt H L ks F av B) (n : Str) : (oldF F n).length ≤ 80 * B := by
  unfold oldF
  cases e : F n with
  | none => exact Nat.zero_le _
  | some d => exact A.fl n d e
def t__law_perform (K : PySem.W.Frag) (Disk : Addr) : TS := (tSeq (tAsg (tOp (rIxT K) (tVar 2) (tC (.int 0))) (gName 3))
  (tSeq (tAsg (tOp (rIxT K) (tVar 2) (tC (.int 1))) (gName 4))
  (tSeq (tAsg (tDGet2 (tVar 0) (tVar 4) (tLst tNil)) (gName 5))
  (tSeq (tIfS (tTest (tOp rEq (tVar 3) (tC (.str "write")))) (tSeq (tAsg (tCB (rListOf K) (tCons (tOp (rIxT K) (tVar 2) (tC (.int 3))) tNil)) (gName 6))
  (tSeq (tAsg (tCB rMax2 (tCons (tC (.int 0)) (tCons (tOp rMi (tOp rPl (tOp (rIxT K) (tVar 2) (tC (.int 2))) (tCB (rLenSq K) (tCons (tVar 6) tNil))) (tCB (rLenSq K) (tCons (tVar 5) tNil))) tNil))) (gName 7))
  (tSeq (tAsg (tOrV (tOp rIsNn (tVar 1) (tC .non)) (tOp rLe (tVar 7) (tVar 1))) (gName 8))
  (C8.tCut (tIfS (tNot (tB (tVar 8))) (tSeq (tAsg (tSl (rSlL K) (tVar 6) tNoPart (tPart (tOp rPl (tOp rMi (tCB (rLenSq K) (tCons (tVar 6) tNil)) (tVar 7)) (tVar 1)))) (gName 6))
  (tAsg (tVar 1) (gName 7)))
  tNext)
  (C8.tCut (tIfS (tTest (tOp rGt (tCB (rLenSq K) (tCons (tVar 6) tNil)) (tC (.int 0)))) (sDPut (tVar 0) (tVar 4) (tOp rCat (tOp rCat (tSl (rSlL K) (tVar 5) tNoPart (tPart (tOp (rIxT K) (tVar 2) (tC (.int 2))))) (tVar 6)) (tSl (rSlL K) (tVar 5) (tPart (tOp rPl (tOp (rIxT K) (tVar 2) (tC (.int 2))) (tCB (rLenSq K) (tCons (tVar 6) tNil)))) tNoPart)))
  tNext)
  (C8.tCut (tIfS (tTest (tOp rNotNn (tVar 1) (tC .non))) (tAsg (tOp rMi (tVar 1) (tVar 7)) (gName 1))
  tNext)
  (tRet (tTup (tCons (tVar 8) (tCons (tVar 1) tNil))))))))))
  tNext)
  (tSeq (tIfS (tTest (tOp rEq (tVar 3) (tC (.str "read")))) (tRet (tTup (tCons (tSl (rSlL K) (tVar 5) (tPart (tOp (rIxT K) (tVar 2) (tC (.int 2)))) (tPart (tOp rPl (tOp (rIxT K) (tVar 2) (tC (.int 2))) (tOp (rIxT K) (tVar 2) (tC (.int 3)))))) (tCons (tVar 1) tNil))))
  tNext)
  (tSeq (tIfS (tTest (tOp rEq (tVar 3) (tC (.str "size")))) (tRet (tTup (tCons (tCB (rLenSq K) (tCons (tVar 5) tNil)) (tCons (tVar 1) tNil))))
  tNext)
  (C8.tCut (tIfS (tTest (tOp rEq (tVar 3) (tC (.str "cut")))) (sDPut (tVar 0) (tVar 4) (tSl (rSlL K) (tVar 5) tNoPart (tPart (tOp (rIxT K) (tVar 2) (tC (.int 2))))))
  (tIfS (tTest (tOp rEq (tVar 3) (tC (.str "remove")))) (tDrop (tDPop1 (tVar 0) (tVar 4)))
  tNext))
  (tRet (tTup (tCons (tC (.bl true)) (tCons (tVar 1) tNil)))))))))))

theorem pure__law_perform (cd : CD_Disk K Disk) (vs : List V) (H : Hp) (Q : VK) (E : XK) (h : sp__law_perform K Disk vs H Q E) : t__law_perform K Disk { nx := fun _ H' => Q .non H', rt := Q } (start ["_law_files", "_law_room", "_law_request_here", "_law_word", "_law_name", "_law_old", "_law_data", "_law_growth", "_law_fits"] vs) H := by
  obtain ⟨L, r, t, ks, F, av, B, q, rfl, A, hB, ht, ok, hav, k⟩ := h
  obtain ⟨lm, hL, hk, hv⟩ := A.ex
  have hlm : lm.length ≤ 60 := by
    have e := congrArg List.length hk
    rw [List.length_map, List.length_map] at e
    have := A.kn
    omega
  unfold t__law_perform
  obtain ⟨w, n, rest, hT, hw⟩ : ∃ (w n : Str) (rest : List V), H t = some (.tup (.str w :: .str n :: rest)) ∧ (match q with | .write m _ _ _ => n = m | .read m _ _ => n = m | .cut m _ => n = m | .size m => n = m | .remove m => n = m | .sync m => n = m) := by
    cases q with
    | write m s a data => exact ⟨_, _, _, ht.1, rfl⟩
    | read m i j => exact ⟨_, _, _, ht, rfl⟩
    | cut m i => exact ⟨_, _, _, ht, rfl⟩
    | size m => exact ⟨_, _, _, ht, rfl⟩
    | remove m => exact ⟨_, _, _, ht, rfl⟩
    | sync m => exact ⟨_, _, _, ht, rfl⟩
  have i0 : atI (V.str w :: V.str n :: rest) 0 = some (.str w) := atI_nat (j := 0) rfl
  have i1 : atI (V.str w :: V.str n :: rest) 1 = some (.str n) := atI_nat (j := 1) rfl
  walk_at "rd"
  walk_at "al"
  intro d2 hd2
  walk_at "rd"
  have ex2 : Ex H _ := Ex.new (o := .lst []) hd2
  have hv1 := hv n
  have hold : ∃ c : Addr, (valV lm (Sum.inr n : Key)).getD (.ref d2) = .ref c ∧ upd H d2 (.lst []) c = some (.lst ((oldF F n).map V.int)) ∧ (valV lm (Sum.inr n : Key)).isSome = (F n).isSome := by
    unfold oldF
    cases e : F n with
    | none =>
      rw [e] at hv1
      have hv2 : valV lm (Sum.inr n : Key) = none := hv1
      rw [hv2]
      exact ⟨d2, rfl, upd_same, rfl⟩
    | some data =>
      rw [e] at hv1
      obtain ⟨c, h1, h2, h3⟩ := hv1
      rw [h1]
      exact ⟨c, rfl, ex2 _ _ h2, rfl⟩
  obtain ⟨c, ec, hc, es⟩ := hold
  rw [ec]
  have hol := oldF_len A n
  generalize hH2 : upd H d2 (.lst []) = H2 at *
  have hT2 := ex2 _ _ hT
  have hL2 := ex2 _ _ hL
  cases q with
  | write m s a data =>
    have hw2 : n = m := hw
    clear hw
    subst hw2
    obtain ⟨ht, ha⟩ := ht
    rw [ht] at hT
    cases hT
    have ha2 := ex2 _ _ ha
    obtain ⟨o1, o2, o3, o4⟩ := ok
    have fresh : ∀ b, H2 b = none → H b = none := fun b h => ex2.none h
    walk_at "rd"
    intro d3 hd3
    walk_at "rd"
    rw [List.length_map, List.length_map]
    have eg : (if s + (data.length : Int) - ((oldF F n).length : Int) > 0 then s + (data.length : Int) - ((oldF F n).length : Int) else 0) = grow (oldF F n) s data := rfl
    rw [eg]
    refine x_ev (.bl (fits r (grow (oldF F n) s data))) (fun Q q => ?_) ?_
    · cases r with
      | none =>
        show tOrV _ _ [some (V.ref L), some V.non, some (V.ref t), some (V.str (Str.ofString "write")), some (V.str n), some (V.ref c), some (V.ref d3), some (V.int (grow (oldF F n) s data)), none] _ _
        walk_at "rdv"
        exact q
      | some r0 =>
        show tOrV _ _ [some (V.ref L), some (V.int r0), some (V.ref t), some (V.str (Str.ofString "write")), some (V.str n), some (V.ref c), some (V.ref d3), some (V.int (grow (oldF F n) s data)), none] _ _
        walk_at "rdv"
        exact q
    simp only [ksF, ffF, rmF, anF, wK, wF] at k
    clear eg
    generalize hg : grow (oldF F n) s data = g at *
    have hwl := wdata_len r g data
    have ex3 : Ex H2 _ := Ex.new (o := .lst (data.map V.int)) hd3
    refine x_cut (fun σ H' => ∃ (a' : Addr) (g' : Int), σ = [some (.ref L), some (rv r), some (.ref t), some (.str "write"), some (.str n), some (.ref c), some (.ref a'), some (.int g'), some (.bl (fits r g))] ∧ H' a' = some (.lst ((wdata r g data).map V.int)) ∧
      Ex H2 H' ∧ (∀ r0, r = some r0 → wroom r g = some (r0 - g'))) ?_ ?_
    · cases r with
      | none =>
        walk_at "rd"
        exact ⟨d3, g, rfl, upd_same, ex3, fun r0 h => by cases h⟩
      | some r0 =>
        by_cases hc2 : g ≤ r0
        · have e1 : fits (some r0) g = true := by unfold fits; exact decide_eq_true hc2
          have e2 : wdata (some r0) g data = data := by unfold wdata; exact if_pos hc2
          rw [e1, e2]
          walk_at "rd"
          refine ⟨d3, g, rfl, upd_same, ex3, fun r1 h => ?_⟩
          cases h
          unfold wroom
          exact if_pos hc2
        · have e1 : fits (some r0) g = false := by unfold fits; exact decide_eq_false hc2
          have e2 : wdata (some r0) g data = cutI data none (some (data.length - g + r0)) := by unfold wdata; exact if_neg hc2
          rw [e1, e2]
          walk_at "rd"
          refine x_I0 ?_
          walk_at "rd"
          rw [List.length_map, cutV_map]
          intro a' ha'
          walk_at "rd"
          refine ⟨a', r0, rfl, upd_same, ex3.trans (Ex.new ha'), fun r1 h => ?_⟩
          cases h
          unfold wroom
          exact if_neg hc2
    · rintro σ H3 ⟨a', g', rfl, ha', ex4, hw⟩
      have ht3 := ex4 _ _ (ex2 _ _ ht)
      have hc3 := ex4 _ _ hc
      have hL3 := ex4 _ _ hL2
      have ex5 : Ex H H3 := ex2.trans ex4
      refine x_cut (fun σ H' => σ = [some (.ref L), some (rv r), some (.ref t), some (.str "write"), some (.str n), some (.ref c), some (.ref a'), some (.int g'), some (.bl (fits r g))] ∧
        LAt H' L (if (wdata r g data).length > 0 then addK ks n else ks) (if (wdata r g data).length > 0 then setF F n (some (newc (oldF F n) s (wdata r g data))) else F) av (B + 1) ∧ (∀ b o, H b = some o → b ≠ L → H' b = some o)) ?_ ?_
      · walk_at "rd"
        rw [List.length_map]
        refine ifd (fun hc4 => ?_) (fun hc4 => ?_)
        · have l1 := cutI_len (oldF F n) none (some s)
          have l2 := cutI_len (oldF F n) (some (s + (wdata r g data).length)) none
          walk_at "rd"
          intro t1 ht1
          rw [cutV_map]
          walk_at "rd"
          intro t2 ht2
          walk_at "rd"
          rw [List.length_map, cutV_map]
          intro t3 ht3
          walk_at "rd"
          intro t4 ht4
          walk_at "rd"
          have hnl : (newc (oldF F n) s (wdata r g data)).length ≤ 80 * (B + 1) := by
            have := newc_len (data := wdata r g data) o2 o3
            omega
          rw [if_pos (by omega), if_pos (by omega)]
          have t4n : H t4 = none := by
            have e1 := Ex.none (Ex.new ht3) ht4
            have e2 := Ex.none (Ex.new ht2) e1
            have e3 := Ex.none (Ex.new ht1) e2
            exact ex5.none e3
          refine ⟨rfl, ?_, ?_⟩
          · refine LAt.put (e := t4) A hL upd_same ?_ ?_ ?_ hnl
            · intro c xs h
              have := ex5 _ _ h
              walk_at "hp"
            · have e6 : (newc (oldF F n) s (wdata r g data)).map V.int = (cutI (oldF F n) none (some s)).map V.int ++ (wdata r g data).map V.int ++ (cutI (oldF F n) (some (s + (wdata r g data).length)) none).map V.int := by
                unfold newc
                rw [List.map_append, List.map_append]
              rw [e6]
              have : t4 ≠ L := (ne_of_none hL t4n).symm
              walk_at "hp"
            · intro h
              exact hav _ h t4n
          · intro b o h hb
            have := ex5 _ _ h
            walk_at "hp"
        · walk_at "rd"
          rw [if_neg (by omega), if_neg (by omega)]
          exact ⟨rfl, A.mono (fun o h => ex5 _ _ h) (fun c xs h _ => ex5 _ _ h) (Nat.le_succ _), fun b o h _ => ex5 _ _ h⟩
      · rintro σ H4 ⟨rfl, A4, kp4⟩
        refine x_cut (fun σ H' => H' = H4 ∧ σ = [some (.ref L), some (rv (wroom r g)), some (.ref t), some (.str "write"), some (.str n), some (.ref c), some (.ref a'), some (.int g'), some (.bl (fits r g))]) ?_ ?_
        · cases r with
          | none =>
            show tIfS _ _ _ _ [some (V.ref L), some V.non, some (V.ref t), some (V.str (Str.ofString "write")), some (V.str n), some (V.ref c), some (V.ref a'), some (V.int g'), some (V.bl (fits none g))] _
            walk_at "rd"
            exact ⟨rfl, rfl⟩
          | some r0 =>
            show tIfS _ _ _ _ [some (V.ref L), some (.int r0), some (V.ref t), some (V.str (Str.ofString "write")), some (V.str n), some (V.ref c), some (V.ref a'), some (V.int g'), some (V.bl (fits (some r0) g))] _
            walk_at "rd"
            rw [hw r0 rfl]
            exact ⟨rfl, rfl⟩
        · rintro σ H5 ⟨rfl, rfl⟩
          walk_at "rd"
          walk_at "al"
          intro T hT
          have hLn : T ≠ L := by
            obtain ⟨_, h, _⟩ := A4.ex
            exact (ne_of_none h hT).symm
          have hTn : H T = none := by
            cases e : H T with
            | none => rfl
            | some o =>
              have := kp4 T o e hLn
              rw [hT] at this
              cases this
          refine k T _ _ (A4.mono (fun o h => by walk_at "hp") (fun c xs h _ => by walk_at "hp") (Nat.le_refl _)) (fun b o h hb => ?_) hTn upd_same rfl fun a h => by cases h
          have := kp4 b o h hb
          walk_at "hp"
  | read m i j =>
    have hw2 : n = m := hw
    clear hw
    subst hw2
    have ht2 : H t = some (.tup [.str "read", .str n, .int i, .int j]) := ht
    rw [ht2] at hT
    cases hT
    have ok2 : (F n).isSome = true := ok
    walk_at "rd"
    rw [cutV_map]
    intro u hu
    walk_at "rd"
    walk_at "al"
    intro T hT
    have hTn : H T = none := by
      have e1 := Ex.none (Ex.new hu) hT
      exact ex2.none e1
    refine k T (.ref u) _ (A.mono (fun o h => by have := ex2 _ _ h; walk_at "hp") (fun c xs h _ => by have := ex2 _ _ h; walk_at "hp") (Nat.le_succ _)) (fun b o h _ => by have := ex2 _ _ h; walk_at "hp") hTn upd_same ⟨u, rfl, by walk_at "hp"⟩ fun a h => by cases h; exact ex2.none hu
  | cut m i =>
    have hw2 : n = m := hw
    clear hw
    subst hw2
    have ht2 : H t = some (.tup [.str "cut", .str n, .int i]) := ht
    rw [ht2] at hT
    cases hT
    have ok2 : (F n).isSome = true := ok
    walk_at "rd"
    refine x_nc ?_
    walk_at "rd"
    rw [cutV_map]
    intro u hu
    walk_at "rd"
    walk_at "al"
    intro T hT
    have hl2 := cutI_len (oldF F n) none (some i)
    have hun := ex2.none hu
    have hTn : H T = none := by
      have e1 : H2 T = none := by grind [upd]
      exact ex2.none e1
    have uL : u ≠ L := (ne_of_none hL hun).symm
    have q0 := LAt.put (e := u) (n := n) (data := cutI (oldF F n) none (some i)) (H' := upd (upd (upd H2 u (.lst ((cutI (oldF F n) none (some i)).map V.int))) L (.dK (putK lm (Sum.inr n) (.ref u)))) T (.tup [.bl true, rv r])) A hL (by walk_at "hp") (fun c xs h => by have := ex2 _ _ h; walk_at "hp") (by walk_at "hp") (fun h => hav _ h hun) (by omega)
    have ak : addK ks n = ks := by
      unfold addK
      rw [if_pos ((A.kf n).mpr ok2)]
    rw [ak] at q0
    refine k T _ _ q0 (fun b o h hb => by have := ex2 _ _ h; walk_at "hp") hTn upd_same rfl fun a h => by cases h
  | size m =>
    have hw2 : n = m := hw
    clear hw
    subst hw2
    have ht2 : H t = some (.tup [.str "size", .str n]) := ht
    rw [ht2] at hT
    cases hT
    have ok2 : (F n).isSome = true := ok
    walk_at "rd"
    rw [List.length_map]
    walk_at "al"
    intro T hT
    refine k T _ _ (A.mono (fun o h => by have := ex2 _ _ h; walk_at "hp") (fun c xs h _ => by have := ex2 _ _ h; walk_at "hp") (Nat.le_succ _)) (fun b o h _ => by have := ex2 _ _ h; walk_at "hp") (ex2.none hT) upd_same rfl fun a h => by cases h
  | remove m =>
    have hw2 : n = m := hw
    clear hw
    subst hw2
    have ht2 : H t = some (.tup [.str "remove", .str n]) := ht
    rw [ht2] at hT
    cases hT
    have ok2 : (F n).isSome = true := ok
    walk_at "rd"
    refine x_nc ?_
    obtain ⟨vv, hvv⟩ : ∃ vv, valV lm (Sum.inr n : Key) = some vv := by
      cases e : valV lm (Sum.inr n : Key) with
      | none =>
        rw [e, ok2] at es
        cases es
      | some vv => exact ⟨vv, rfl⟩
    walk_at "rd"
    walk_at "al"
    intro T hT
    have hTn : H T = none := by
      have e1 : H2 T = none := by grind [upd]
      exact ex2.none e1
    have q0 := LAt.drop (n := n) (H' := upd (upd H2 L (.dK (dropK lm (Sum.inr n)))) T (.tup [.bl true, rv r])) A hL (by walk_at "hp") (fun c xs h => by have := ex2 _ _ h; walk_at "hp")
    refine k T _ _ q0 (fun b o h hb => by have := ex2 _ _ h; walk_at "hp") hTn upd_same rfl fun a h => by cases h
  | sync m =>
    have hw2 : n = m := hw
    clear hw
    subst hw2
    have ht2 : H t = some (.tup [.str "sync", .str n]) := ht
    rw [ht2] at hT
    cases hT
    have ok2 : (F n).isSome = true := ok
    walk_at "rd"
    refine x_nc ?_
    walk_at "rd"
    walk_at "al"
    intro T hT
    refine k T _ _ (A.mono (fun o h => by have := ex2 _ _ h; walk_at "hp") (fun c xs h _ => by have := ex2 _ _ h; walk_at "hp") (Nat.le_succ _)) (fun b o h _ => by have := ex2 _ _ h; walk_at "hp") (ex2.none hT) upd_same rfl fun a h => by cases h
end
--SPLIT
section
variable {K : PySem.W.Frag} {Disk : Addr}
def t__law_same (K : PySem.W.Frag) (Disk : Addr) : TS := (tSeq (tIfS (tB (tCB (rIsi K) (tCons (tVar 1) (tCons (tC (.ty "list")) tNil)))) (tRet (tAndV (tCB (rIsi K) (tCons (tVar 0) (tCons (tC (.ty "list")) tNil))) (tOp (rEqD K) (tVar 0) (tVar 1))))
  tNext)
  (tRet (tAndV (tOp rEq (tCB (rIsi K) (tCons (tVar 0) (tCons (tC (.ty "bool")) tNil))) (tCB (rIsi K) (tCons (tVar 1) (tCons (tC (.ty "bool")) tNil)))) (tOp (rEqD K) (tVar 0) (tVar 1)))))

theorem pure__law_same (cd : CD_Disk K Disk) (vs : List V) (H : Hp) (Q : VK) (E : XK) (h : sp__law_same K Disk vs H Q E) : t__law_same K Disk { nx := fun _ H' => Q .non H', rt := Q } (start ["_law_told", "_law_due"] vs) H := by
  obtain ⟨u, v, x, rfl, hu, hv, q⟩ := h
  unfold t__law_same
  cases x with
  | lst xs =>
    obtain ⟨a, rfl, ha⟩ := hu
    obtain ⟨b, rfl, hb⟩ := hv
    walk_at "rd"
    refine x_isi (b := true) (.base (.lst hb)) (kit_ty (by decide +kernel)) ?_
    walk_at "rdv"
    refine x_isi (b := true) (.base (.lst ha)) (kit_ty (by decide +kernel)) ?_
    walk_at "rdv"
    exact x_eqD (dp_ints (lq ha)) (dp_ints (lq hb)) (Sh.ints xs 0) (by decide) q
  | int i =>
    cases hu
    cases hv
    walk_at "rd"
    refine x_isi (b := false) (.base (.int i)) (kit_ty (by decide +kernel)) ?_
    walk_at "rdv"
    refine x_isi (b := false) (.base (.int i)) (kit_ty (by decide +kernel)) ?_
    walk_at "rdv"
    refine x_isi (b := false) (.base (.int i)) (kit_ty (by decide +kernel)) ?_
    walk_at "rdv"
    exact x_eqD (.int i) (.int i) (Sh.int i 0) (by decide) q
  | bl b =>
    cases hu
    cases hv
    walk_at "rd"
    refine x_isi (b := false) (.base (.bl b)) (kit_ty (by decide +kernel)) ?_
    walk_at "rdv"
    refine x_isi (b := true) (.base (.bl b)) (kit_ty (by decide +kernel)) ?_
    walk_at "rdv"
    refine x_isi (b := true) (.base (.bl b)) (kit_ty (by decide +kernel)) ?_
    walk_at "rdv"
    exact x_eqD (.bl b) (.bl b) (Sh.bool b 0) (by decide) q
end
--SPLIT
section
variable {K : PySem.W.Frag} {Disk : Addr}
theorem LAt.av {av av' : Addr → Prop} {H : Hp} {L : Addr} {ks : List Str} {F : Str → Option (List Int)} {B : Nat} (A : LAt H L ks F av B) (hv : ∀ b, av' b → av b ∨ H b = none) : LAt H L ks F av' B := by
  obtain ⟨⟨lm, h1, h2, h3⟩, kn, kf, fl⟩ := A
  refine ⟨⟨lm, h1, h2, fun m => ?_⟩, kn, kf, fl⟩
  have h4 := h3 m
  cases e : F m with
  | none =>
    rw [e] at h4
    exact h4
  | some d =>
    rw [e] at h4
    obtain ⟨c, a1, a2, a3⟩ := h4
    refine ⟨c, a1, a2, fun h => ?_⟩
    rcases hv _ h with h | h
    · exact a3 h
    · rw [a2] at h; cases h
theorem DAt.mut {av : Addr → Prop} {C p fa na sa pa : Addr} {ks : List Str} {F : Str → Option (List Int)} {r : Option Int} {B : Nat} {H : Hp} {a : Addr} {xs ys : List V} (D : DAt C H p fa na sa pa ks F r B av) (h : H a = some (.lst xs)) (ha : av a) (h1 : a ≠ fa) (h2 : a ≠ pa) :
    DAt C (upd H a (.lst ys)) p fa na sa pa ks F r B av := by
  obtain ⟨⟨dx, ob⟩, ⟨nm, fs, hn, hf, hk, hl, hr, hi⟩, ⟨s, hs⟩, ⟨ps, hp, hpl⟩, ne, nsa, kn, kf⟩ := D
  refine ⟨⟨dx, by grind [upd]⟩, ⟨nm, fs, by grind [upd], by grind [upd], hk, hl, fun m => ?_, hi⟩, ⟨s, by grind [upd]⟩, ⟨ps, by grind [upd], hpl⟩, ne, nsa, kn, kf⟩
  have h1 := hr m
  cases e2 : F m with
  | none =>
    rw [e2] at h1
    exact h1
  | some data =>
    rw [e2] at h1
    obtain ⟨j, c, vs, d, a1, a2, a3, a4, a5, a6, b1, b2, b3, b4, b5, b6⟩ := h1
    have c1 : c ≠ a := fun e => b5 (e ▸ ha)
    have c2 : d ≠ a := fun e => b6 (e ▸ ha)
    exact ⟨j, c, vs, d, a1, a2, by rw [upd_ne c1]; exact a3, a4, by rw [upd_ne c2]; exact a5, a6, b1, b2, b3, b4, b5, b6⟩
theorem DAt.notL {av : Addr → Prop} {C p fa na sa pa : Addr} {ks : List Str} {F : Str → Option (List Int)} {r : Option Int} {B : Nat} {H H' : Hp} {L : Addr} (D : DAt C H p fa na sa pa ks F r B av) (hL : ∃ lm, H L = some (.dK lm)) (l1 : L ≠ na) (l2 : L ≠ sa)
    (kp : ∀ b o, H b = some o → b ≠ L → H' b = some o) : DAt C H' p fa na sa pa ks F r B av := by
  obtain ⟨⟨dx, ob⟩, ⟨nm, fs, hn, hf, hk, hl, hr, hi⟩, ⟨s, hs⟩, ⟨ps, hp, hpl⟩, ne, nsa, kn, kf⟩ := D
  obtain ⟨lm, hL⟩ := hL
  have kl : ∀ c xs, H c = some (.lst xs) → H' c = some (.lst xs) := fun c xs h => kp _ _ h (ne_of h hL (by intro z; cases z))
  refine ⟨⟨dx, kp _ _ ob (ne_of ob hL (by intro z; cases z))⟩, ⟨nm, fs, kp _ _ hn (Ne.symm l1), kl _ _ hf, hk, hl, fun m => (hr m).mono (Nat.le_refl _) rfl (fun _ _ _ h => h) (fun c xs h _ _ => kl _ _ h), hi⟩, ⟨s, kp _ _ hs (Ne.symm l2)⟩, ⟨ps, kl _ _ hp, hpl⟩, ne, nsa, kn, kf⟩
theorem LAt.mut {av : Addr → Prop} {H : Hp} {L : Addr} {ks : List Str} {F : Str → Option (List Int)} {B : Nat} {a : Addr} {xs ys : List V} (A : LAt H L ks F av B) (h : H a = some (.lst xs)) (ha : av a) : LAt (upd H a (.lst ys)) L ks F av B := by
  obtain ⟨lm, hL, _⟩ := A.ex
  refine A.mono (fun o h2 => ?_) (fun c zs h2 h3 => ?_) (Nat.le_refl _)
  · have : L ≠ a := ne_of hL h (by intro z; cases z)
    rw [upd_ne this]; exact h2
  · have : c ≠ a := fun e => h3 (e ▸ ha)
    rw [upd_ne this]; exact h2
theorem LAt.kept {avd av : Addr → Prop} {C p fa na sa pa : Addr} {ks ks2 : List Str} {F F2 : Str → Option (List Int)} {r : Option Int} {B B2 : Nat} {H H' : Hp} {L : Addr} (A : LAt H L ks F av B) (D : DAt C H p fa na sa pa ks2 F2 r B2 avd) (kp : Kept H H' p fa na pa) (l1 : L ≠ na) (af : av fa) (ap : av pa) : LAt H' L ks F av B := by
  obtain ⟨⟨dx, ob⟩, ⟨nm, fs, hn, hf, hk, hl, hr, hi⟩, ⟨s, hs⟩, ⟨ps, hp, hpl⟩, ne, nsa, kn, kf⟩ := D
  obtain ⟨lm, hL, _⟩ := A.ex
  refine A.mono (fun o h2 => kp _ _ h2 (ne_of hL ob (by intro z; cases z)) (ne_of hL hf (by intro z; cases z)) l1 (ne_of hL hp (by intro z; cases z))) (fun c zs h2 h3 => kp _ _ h2 (ne_of h2 ob (by intro z; cases z)) (fun e => h3 (e ▸ af)) (ne_of h2 hn (by intro z; cases z)) (fun e => h3 (e ▸ ap))) (Nat.le_refl _)
/-- between two turns -/
structure Iw (C p L : Addr) (sf : Addr → Prop) (H0 H : Hp) (fa na sa pa : Addr) (ks : List Str) (F : Str → Option (List Int)) (r : Option Int) (B : Nat) (avd avl : Addr → Prop) : Prop where
  D : DAt C H p fa na sa pa ks F r B avd
  A : LAt H L ks F avl B
  af : avl fa
  ap : avl pa
  l1 : L ≠ na
  l2 : L ≠ sa
  ok : ∀ n ∈ ks, okStr n = true
  sv : ∀ b, sf b → b ≠ p ∧ b ≠ fa ∧ b ≠ na ∧ b ≠ pa ∧ b ≠ L ∧ ∃ o, H0 b = some o ∧ H b = some o
section
variable {C p L fa na sa pa : Addr} {sf avd avl avd' avl' : Addr → Prop} {H0 H H' : Hp} {ks : List Str} {F : Str → Option (List Int)} {r : Option Int} {B : Nat}
theorem Iw.ex (I : Iw C p L sf H0 H fa na sa pa ks F r B avd avl) (e : Ex H H') (h1 : ∀ b, avd' b → avd b ∨ H b = none) (h2 : ∀ b, avl' b → avl b ∨ H b = none) (f : avl' fa) (g : avl' pa) : Iw C p L sf H0 H' fa na sa pa ks F r B avd' avl' :=
  ⟨I.D.ex e (Nat.le_refl _) h1, (I.A.av h2).mono (fun o h => e _ _ h) (fun c xs h _ => e _ _ h) (Nat.le_refl _), f, g, I.l1, I.l2, I.ok, fun b hb => by
    obtain ⟨a1, a2, a3, a4, a5, o, a6, a7⟩ := I.sv b hb
    exact ⟨a1, a2, a3, a4, a5, o, a6, e _ _ a7⟩⟩
theorem Iw.mut {a : Addr} {xs ys : List V} (I : Iw C p L sf H0 H fa na sa pa ks F r B avd avl) (h : H a = some (.lst xs)) (h1 : avd a) (h2 : avl a) (h3 : a ≠ fa) (h4 : a ≠ pa) (h5 : ¬ sf a) : Iw C p L sf H0 (upd H a (.lst ys)) fa na sa pa ks F r B avd avl :=
  ⟨I.D.mut h h1 h3 h4, I.A.mut h h2, I.af, I.ap, I.l1, I.l2, I.ok, fun b hb => by
    obtain ⟨a1, a2, a3, a4, a5, o, a6, a7⟩ := I.sv b hb
    exact ⟨a1, a2, a3, a4, a5, o, a6, by
      have : b ≠ a := fun e => h5 (by rw [← e]; exact hb)
      rw [upd_ne this]; exact a7⟩⟩
theorem Iw.kept {r' : Option Int} (I : Iw C p L sf H0 H fa na sa pa ks F r B avd avl) (kp : Kept H H' p fa na pa) (D' : DAt C H' p fa na sa pa ks F r' B avd') : Iw C p L sf H0 H' fa na sa pa ks F r' B avd' avl :=
  ⟨D', I.A.kept I.D kp I.l1 I.af I.ap, I.af, I.ap, I.l1, I.l2, I.ok, fun b hb => by
    obtain ⟨a1, a2, a3, a4, a5, o, a6, a7⟩ := I.sv b hb
    exact ⟨a1, a2, a3, a4, a5, o, a6, kp _ _ a7 a1 a2 a3 a4⟩⟩
end
theorem DAt.same {av : Addr → Prop} {C p fa na sa pa : Addr} {r : Option Int} {B : Nat} {H H' : Hp} (D : DAt C H p fa na sa pa [] (fun _ => none) r B av) (h : ∀ b, b = p ∨ b = fa ∨ b = na ∨ b = sa ∨ b = pa → ∃ o, H b = some o ∧ H' b = some o) : DAt C H' p fa na sa pa [] (fun _ => none) r B av := by
  obtain ⟨⟨dx, ob⟩, ⟨nm, fs, hn, hf, hk, hl, hr, hi⟩, ⟨s, hs⟩, ⟨ps, hp, hpl⟩, ne, nsa, kn, kf⟩ := D
  have g : ∀ b o, (b = p ∨ b = fa ∨ b = na ∨ b = sa ∨ b = pa) → H b = some o → H' b = some o := fun b o hb e => by
    obtain ⟨o2, h1, h2⟩ := h b hb
    rw [e] at h1
    cases h1
    exact h2
  exact ⟨⟨dx, g _ _ (.inl rfl) ob⟩, ⟨nm, fs, g _ _ (.inr (.inr (.inl rfl))) hn, g _ _ (.inr (.inl rfl)) hf, hk, hl, hr, hi⟩, ⟨s, g _ _ (.inr (.inr (.inr (.inl rfl)))) hs⟩, ⟨ps, g _ _ (.inr (.inr (.inr (.inr rfl)))) hp, hpl⟩, ne, nsa, kn, kf⟩
theorem ks_sub (ks : List Str) (F : Str → Option (List Int)) (r : Option Int) (q : Rq) (n : Str) (h : n ∈ ksF ks F r q) : n ∈ ks ∨ n = q.name := by
  cases q with
  | write m s a data =>
    have h2 : n ∈ wK ks F r m s data := h
    unfold wK addK at h2
    split at h2
    · split at h2
      · exact .inl h2
      · rcases List.mem_append.mp h2 with h3 | h3
        · exact .inl h3
        · exact .inr (List.mem_singleton.mp h3)
    · exact .inl h2
  | remove m => exact .inl (List.mem_filter.mp h).1
  | read m i j => exact .inl h
  | cut m i => exact .inl h
  | size m => exact .inl h
  | sync m => exact .inl h
theorem Kept.tup {av : Addr → Prop} {C p fa na sa pa : Addr} {ks : List Str} {F : Str → Option (List Int)} {r : Option Int} {B : Nat} {H H' : Hp} {b : Addr} {xs : List V} (kp : Kept H H' p fa na pa) (D : DAt C H p fa na sa pa ks F r B av) (h : H b = some (.tup xs)) : H' b = some (.tup xs) := by
  obtain ⟨⟨dx, ob⟩, ⟨nm, fs, hn, hf, hk, hl, hr, hi⟩, ⟨s, hs⟩, ⟨ps, hp, hpl⟩, ne, nsa, kn, kf⟩ := D
  exact kp _ _ h (ne_of h ob (by intro z; cases z)) (ne_of h hf (by intro z; cases z)) (ne_of h hn (by intro z; cases z)) (ne_of h hp (by intro z; cases z))
theorem AnAt.kept {H H' : Hp} {v : V} {x : An} (h : AnAt H v x) (k : ∀ b o, v = .ref b → H b = some o → H' b = some o) : AnAt H' v x := by
  cases x with
  | lst xs =>
    obtain ⟨a, rfl, h⟩ := h
    exact ⟨a, rfl, k _ _ rfl h⟩
  | int i => exact h
  | bl b => exact h
/-- (name, list) tuples -/
inductive TupsAt (H' : Hp) (F : Str → Option (List Int)) (D : Addr) : List Str → List Addr → Prop
  | nil : TupsAt H' F D [] []
  | snoc {y : Str} {t a : Addr} {ys : List Str} {ts : List Addr} : H' t = some (.tup [.str y, .ref a]) → H' a = some (.lst ((oldF F y).map V.int)) → a ≠ D → TupsAt H' F D ys ts → TupsAt H' F D (ys ++ [y]) (ts ++ [t])
theorem TupsAt.mono {H' H2 : Hp} {F : Str → Option (List Int)} {D : Addr} (k : ∀ b o, H' b = some o → b ≠ D → H2 b = some o) (hD : ∃ xs, H' D = some (.lst xs)) : ∀ {ys : List Str} {ts : List Addr}, TupsAt H' F D ys ts → TupsAt H2 F D ys ts
  | _, _, .nil => .nil
  | _, _, .snoc h1 h2 h5 r => .snoc (k _ _ h1 (by
      obtain ⟨xs, hD⟩ := hD
      intro e
      rw [e, hD] at h1
      cases h1)) (k _ _ h2 h5) h5 (r.mono k hD)
theorem FilesAt.tups {H H' H2 : Hp} {F : Str → Option (List Int)} {D : Addr} (k : Ex H' H2) : ∀ {ys : List Str} {ts : List Addr}, FilesAt H H' F D ys ts → TupsAt H2 F D ys ts
  | _, _, .nil => .nil
  | _, _, .snoc h1 h2 _ _ h5 r => .snoc (k _ _ h1) (k _ _ h2) h5 (r.tups k)
def dFile (F : Str → Option (List Int)) (y : Str) : PyData := .tuple [.str y, dInts (oldF F y)]
theorem dpAll_snoc {K : PySem.W.Frag} {H : Hp} {v : V} {d : PyData} : ∀ {vs : List V} {ds : List PyData}, DpAll K H vs ds → Dp K H v d → DpAll K H (vs ++ [v]) (ds ++ [d])
  | _, _, .nil, h => .cons h .nil
  | _, _, .cons h1 h2, h => .cons h1 (dpAll_snoc h2 h)
theorem TupsAt.dp {K : PySem.W.Frag} {H' : Hp} {F : Str → Option (List Int)} {D : Addr} : ∀ {ys : List Str} {ts : List Addr}, TupsAt H' F D ys ts → DpAll K H' (ts.map V.ref) (ys.map (dFile F))
  | _, _, .nil => .nil
  | _, _, .snoc (y := y) h1 h2 _ r => by
    rw [List.map_append, List.map_append]
    exact dpAll_snoc r.dp (.tup (tq h1) (.cons (.str y) (.cons (dp_ints (lq h2)) .nil)))
theorem TupsAt.len {H' : Hp} {F : Str → Option (List Int)} {D : Addr} : ∀ {ys : List Str} {ts : List Addr}, TupsAt H' F D ys ts → ys.length = ts.length
  | _, _, .nil => rfl
  | _, _, .snoc h1 h2 _ r => by rw [List.length_append, List.length_append, r.len]; rfl
theorem FilesAt.mem {H H' : Hp} {F : Str → Option (List Int)} {D : Addr} : ∀ {ys : List Str} {ts : List Addr}, FilesAt H H' F D ys ts → ∀ t ∈ ts, ∃ y a, H' t = some (.tup [.str y, .ref a]) ∧ H' a = some (.lst ((oldF F y).map V.int)) ∧ H a = none ∧ a ≠ D
  | _, _, .nil, t, h => by cases h
  | _, _, .snoc h1 h2 h3 h4 h5 r, t, h => by
    rcases List.mem_append.mp h with h | h
    · exact r.mem t h
    · cases List.mem_singleton.mp h
      exact ⟨_, _, h1, h2, h3, h5⟩
theorem dFile_sh {F : Str → Option (List Int)} {ys : List Str} (h : ∀ y ∈ ys, okStr y = true) : Sh 3 (.list (ys.map (dFile F))) := .list fun d hd => by
  obtain ⟨y, hy, rfl⟩ := List.mem_map.mp hd
  exact .tuple fun d hd => by
    rcases List.mem_cons.mp hd with rfl | hd
    · exact .str (h y hy) 1
    · cases List.mem_singleton.mp hd
      exact .ints _ 0
theorem LAt.old {H : Hp} {L : Addr} {ks : List Str} {F : Str → Option (List Int)} {av : Addr → Prop} {B : Nat} (A : LAt H L ks F av B) (n : Str) : (oldF F n).length ≤ 80 * B := by
  unfold oldF
  cases e : F n with
  | none => exact Nat.zero_le _
  | some d => exact A.fl n d e
def t_law (K : PySem.W.Frag) (Disk : Addr) : TS := (tSeq (tAsg (tCall (sp__law_draws K Disk) [] E0 (tCons (tVar 0) tNil)) (gName 1))
  (tSeq (tAsg (tMake Disk (sp_Disk___init__ K Disk) [] E0 tNil) (gName 2))
  (tSeq (tAsg (tMake Disk (sp_Disk___init__ K Disk) [] E0 tNil) (gName 3))
  (tSeq (tAsg tDNewK (gName 4))
  (tSeq (tAsg (tC .non) (gName 5))
  (tSeq (tFor (iRng1 (tCons (tCall (sp__law_at K Disk) [] E0 (tCons (tVar 1) (tCons (tC (.int 0)) (tCons (tC (.int 21)) tNil)))) tNil)) (gName 6)
  (tSeq (tAsg (tOp rPl (tC (.int 1)) (tOp rMu (tC (.int 4)) (tVar 6))) (gName 7))
  (C8.tCut (tIfS (tTest (tOp rEq (tCall (sp__law_at K Disk) [] E0 (tCons (tVar 1) (tCons (tOp rPl (tVar 7) (tC (.int 3))) (tCons (tC (.int 5)) tNil)))) (tC (.int 4)))) (tSeq (tAsg (tOp (rIxL K) (tLst (tCons (tC .non) (tCons (tCall (sp__law_at K Disk) [] E0 (tCons (tVar 1) (tCons (tOp rPl (tVar 7) (tC (.int 2))) (tCons (tC (.int 60)) tNil)))) (tCons (tC (.int 0)) (tCons (tCall (sp__law_at K Disk) [] E0 (tCons (tVar 1) (tCons (tOp rPl (tVar 7) (tC (.int 2))) (tCons (tC (.int 300)) tNil)))) tNil))))) (tCall (sp__law_at K Disk) [] E0 (tCons (tVar 1) (tCons (tOp rPl (tVar 7) (tC (.int 1))) (tCons (tC (.int 4)) tNil))))) (gName 5))
  (tDrop (tMeth Disk "set_room" (sp_Disk_set_room K Disk) [] E0 (tVar 2) (tCons (tVar 5) tNil))))
  tNext)
  (tSeq (tAsg (tCall (sp__law_request K Disk) [] E0 (tCons (tVar 1) (tCons (tVar 7) (tCons (tVar 4) tNil)))) (gName 8))
  (tSeq (tAsg (tCall (sp__law_perform K Disk) [] E0 (tCons (tVar 4) (tCons (tVar 5) (tCons (tVar 8) tNil)))) (gTup K 2 (gCons (gName 9) (gCons (gName 5) gNil))))
  (tSeq (tAsg (tMeth Disk "perform" (sp_Disk_perform K Disk) [] E0 (tVar 2) (tCons (tVar 8) tNil)) (gName 10))
  (tSeq (tIfS (tNot (tB (tCall (sp__law_same K Disk) [] E0 (tCons (tVar 10) (tCons (tVar 9) tNil))))) (tRet (tC (.bl false)))
  tNext)
  (C8.tCut (tIfS (tTest (tOp rEq (tOp (rIxT K) (tVar 8) (tC (.int 0))) (tC (.str "write")))) (tSeq (tDrop (tBM K "list" rAppend (tOp (rIxT K) (tVar 8) (tC (.int 3))) (tCons (tC (.int 1)) tNil)))
  (tAsg (tC (.int 300)) (gSub (tOp (rIxT K) (tVar 8) (tC (.int 3))) (tC (.int 0)) rSetL)))
  tNext)
  (C8.tCut (tIfS (tTest (tOp rEq (tOp (rIxT K) (tVar 8) (tC (.int 0))) (tC (.str "read")))) (tDrop (tBM K "list" rAppend (tVar 10) (tCons (tC (.int 5)) tNil)))
  tNext)
  (tSeq (tAsg (tMeth Disk "files" (sp_Disk_files K Disk) [] E0 (tVar 2) tNil) (gName 11))
  (tSeq (tIfS (tTest (tOp (rNeD K) (tVar 11) (tLc (iList K (tCB rSortD (tCons (tVar 4) tNil))) (gName 12) tYes (tTup (tCons (tVar 12) (tCons (tDGet (tVar 4) (tVar 12)) tNil))) [12]))) (tRet (tC (.bl false)))
  tNext)
  (tSeq (tFor (iList K (tVar 11)) (gTup K 2 (gCons (gName 12) (gCons (gName 13) gNil)))
  (tDrop (tBM K "list" rAppend (tVar 13) (tCons (tC (.int 9)) tNil))))
  (tIfS (tOr (tTest (tOp (rNeD K) (tMeth Disk "perform" (sp_Disk_perform K Disk) [] E0 (tVar 2) (tCons (tTup (tCons (tC (.str "names")) tNil)) tNil)) (tCB rSortD (tCons (tVar 4) tNil)))) (tTest (tOp rNotB (tMeth Disk "perform" (sp_Disk_perform K Disk) [] E0 (tVar 2) (tCons (tTup (tCons (tC (.str "sync_names")) tNil)) tNil)) (tC (.bl true))))) (tRet (tC (.bl false)))
  tNext)))))))))))))
  (tRet (tAndV (tOp (rEqD K) (tMeth Disk "files" (sp_Disk_files K Disk) [] E0 (tVar 3) tNil) (tLst tNil)) (tOp (rEqD K) (tMeth Disk "perform" (sp_Disk_perform K Disk) [] E0 (tVar 3) (tCons (tTup (tCons (tC (.str "names")) tNil)) tNil)) (tLst tNil))))))))))

theorem pure_law (cd : CD_Disk K Disk) (vs : List V) (H : Hp) (Q : VK) (E : XK) (h : sp_law K vs H Q E) : t_law K Disk { nx := fun _ H' => Q .non H', rt := Q } (start ["_law_script", "_law_draws_here", "_law_disk", "_law_other", "_law_files", "_law_room", "_law_turn", "_law_k", "_law_request_here", "_law_due", "_law_told", "_law_listed", "_law_name", "_law_data"] vs) H := by
  obtain ⟨cl, n1, n2, n3, n4, n5⟩ := cd
  obtain ⟨a, ns, rfl, hS, hl, q⟩ := h
  unfold t_law
  walk_at "rd"
  refine ⟨a, ns, rfl, hS, hl, fun ds da hds hda => ?_⟩
  walk_at "rd"
  intro p dx hp hdx hne
  refine ⟨p, dx, rfl, upd_same, fun fa na sa pa H1 kp1 f1 f2 f3 f4 D1 => ⟨rfl, ?_⟩⟩
  walk_at "rd"
  intro p2 dx2 hp2 hdx2 hne2
  refine ⟨p2, dx2, rfl, upd_same, fun fa2 na2 sa2 pa2 H2 kp2 g1 g2 g3 g4 D2 => ⟨rfl, ?_⟩⟩
  walk_at "rd"
  intro L hL0
  walk_at "rd"
  have ex12 : Ex H1 H2 := fun b o h => kp2 b o (by walk_at "hp") (ne_of_none h hp2)
  have ex23 : Ex H2 (upd H2 L (.dK [])) := Ex.new hL0
  have hda1 : H1 da = some (.lst (ds.map V.int)) := kp1 da _ (by walk_at "hp") (by grind [upd])
  obtain ⟨s1, s2, s3, s4, s5⟩ := D1.some_
  obtain ⟨u1, u2, u3, u4, u5⟩ := D2.some_
  have nn2 : H1 fa2 = none ∧ H1 na2 = none ∧ H1 sa2 = none ∧ H1 pa2 = none := by
    refine ⟨?_, ?_, ?_, ?_⟩
    · have hh := g1; simp only [upd_eq_none] at hh; simp only [hh]
    · have hh := g2; simp only [upd_eq_none] at hh; simp only [hh]
    · have hh := g3; simp only [upd_eq_none] at hh; simp only [hh]
    · have hh := g4; simp only [upd_eq_none] at hh; simp only [hh]
  obtain ⟨v1, v2, v3, v4⟩ := nn2
  have dne : da ≠ p ∧ da ≠ fa ∧ da ≠ na ∧ da ≠ pa := by
    simp only [upd_eq_none] at f1 f2 f3 f4 hp
    refine ⟨Ne.symm hp.1, ?_, ?_, ?_⟩
    · exact fun e => f1.2.2.1 e.symm
    · exact fun e => f2.2.2.1 e.symm
    · exact fun e => f4.2.2.1 e.symm
  have nq : ∀ {G : Hp} {b c : Addr}, G b = none → G c ≠ none → b ≠ c := fun h1 h2 e => h2 (e ▸ h1)
  generalize hH3 : upd H2 L (.dK []) = H3 at *
  have hL3 : H3 L = some (.dK []) := by rw [← hH3]; exact upd_same
  let sf : Addr → Prop := fun b => b = da ∨ b = p2 ∨ b = fa2 ∨ b = na2 ∨ b = sa2 ∨ b = pa2
  have ex13 : Ex H1 H3 := ex12.trans ex23
  have hda3 : H3 da = some (.lst (ds.map V.int)) := ex13 _ _ hda1
  have I0 : Iw Disk p L sf H3 H3 fa na sa pa [] (fun _ => none) none 0 (fun _ => False) (fun b => b = fa ∨ b = pa) := by
    refine ⟨D1.ex ex13 (Nat.le_refl _), ⟨⟨[], hL3, rfl, fun n => rfl⟩, Nat.le_refl _, fun n => by simp, fun n d h => (by cases h)⟩, .inl rfl, .inr rfl, ?_, ?_, (fun n h => by cases h), ?_⟩
    · exact nq hL0 (ex12.some_ s3)
    · exact nq hL0 (ex12.some_ s5)
    · have fin : ∀ b, H1 b = none → H2 b ≠ none → b ≠ p ∧ b ≠ fa ∧ b ≠ na ∧ b ≠ pa ∧ b ≠ L ∧ ∃ o, H3 b = some o ∧ H3 b = some o := fun b h1 h2 => by
        refine ⟨nq h1 s1, nq h1 s2, nq h1 s3, nq h1 s4, Ne.symm (nq hL0 h2), ?_⟩
        have h3 := ex23.some_ h2
        cases e : H3 b with
        | none => exact absurd e h3
        | some o => exact ⟨o, rfl, rfl⟩
      rintro b (rfl | rfl | rfl | rfl | rfl | rfl)
      · exact ⟨dne.1, dne.2.1, dne.2.2.1, dne.2.2.2, Ne.symm (nq hL0 (ex12.some_ (by rw [hda1]; intro z; cases z))), _, hda3, hda3⟩
      · exact fin _ hp2 u1
      · exact fin _ v1 u2
      · exact fin _ v2 u3
      · exact fin _ v3 u5
      · exact fin _ v4 u4
  have sda : sf da := .inl rfl
  refine x_at ⟨ds, lq hda3, by omega, by omega, fun n0 hn0 hn1 => ?_⟩
  walk_at "rd"
  refine x_r1 (by omega) ?_
  refine w_rng (fun i σ H => ∃ (fa na sa pa : Addr) (ks : List Str) (F : Str → Option (List Int)) (r : Option Int) (w6 w7 w8 w9 w10 w11 w12 w13 : Option V),
    σ = [some (.ref a), some (.ref da), some (.ref p), some (.ref p2), some (.ref L), some (rv r), w6, w7, w8, w9, w10, w11, w12, w13] ∧ Iw Disk p L sf H3 H fa na sa pa ks F r i (fun _ => False) (fun b => b = fa ∨ b = pa)) ?_ ?_ ?_
  · exact ⟨fa, na, sa, pa, [], _, none, _, _, _, _, _, _, _, _, rfl, I0⟩
  · clear I0 s1 s2 s3 s4 s5 u1 u2 u3 u4 u5 v1 v2 v3 v4 dne hda1 ex12 ex23 ex13 D1 D2 kp1 kp2 f1 f2 f3 f4 g1 g2 g3 g4 hp hdx hne hp2 hdx2 hne2 hH3 hL0
    rintro i σ H hi ⟨fa, na, sa, pa, ks, F, r, w6, w7, w8, w9, w10, w11, w12, w13, rfl, I⟩
    have hi2 : i ≤ 20 := by omega
    have hdaH : ∀ {fa na sa pa : Addr} {ks : List Str} {F : Str → Option (List Int)} {r : Option Int} {B : Nat} {avd avl : Addr → Prop} {H : Hp}, Iw Disk p L sf H3 H fa na sa pa ks F r B avd avl → H da = some (.lst (ds.map V.int)) := fun I => by
      obtain ⟨_, _, _, _, _, o, h1, h2⟩ := I.sv da sda
      rw [hda3] at h1
      cases h1
      exact h2
    have hd1 := hdaH I
    walk_at "ra"
    refine x_cut (fun σ H' => ∃ r', σ = [some (.ref a), some (.ref da), some (.ref p), some (.ref p2), some (.ref L), some (rv r'), some (.int (0 + (i : Int))), some (.int (1 + 4 * (0 + (i : Int)))), w8, w9, w10, w11, w12, w13] ∧ Iw Disk p L sf H3 H' fa na sa pa ks F r' i (fun _ => False) (fun b => b = fa ∨ b = pa)) ?_ ?_
    · walk_at "ra"
      refine ifd (fun hc => ?_) (fun hc => ?_)
      · walk_at "ra"
        rename_i x1 hx1 hx1' x2 hx2 hx2'
        walk_at "al"
        intro lr hlr
        obtain ⟨⟨dx0, ob0⟩, _⟩ := id I.D
        walk_at "ra"
        rename_i x3 h30 h31
        obtain ⟨r', hr'⟩ : ∃ r', atI [V.non, V.int x1, V.int 0, V.int x2] x3 = some (rv r') := by
          have : x3 = 0 ∨ x3 = 1 ∨ x3 = 2 ∨ x3 = 3 := by omega
          rcases this with rfl | rfl | rfl | rfl
          · exact ⟨none, rfl⟩
          · exact ⟨some _, rfl⟩
          · exact ⟨some _, rfl⟩
          · exact ⟨some _, rfl⟩
        refine x_ixL ⟨_, lq upd_same, _, hr', ?_⟩
        walk_at "rd"
        have I1 := I.ex (avd' := fun _ => False) (avl' := fun b => b = fa ∨ b = pa) (Ex.new (o := .lst [V.non, V.int x1, V.int 0, V.int x2]) hlr) (fun _ h => .inl h) (fun _ h => .inl h) (.inl rfl) (.inr rfl)
        refine ⟨p, fa, na, sa, pa, ks, F, r, i, r', _, rfl, I1.D, fun H' D' kp => ?_⟩
        walk_at "rd"
        exact ⟨r', rfl, I1.kept kp D'⟩
      · walk_at "ra"
        exact ⟨r, rfl, I⟩
    · clear I
      rintro σ H ⟨r, rfl, I⟩
      have hd1 := hdaH I
      walk_at "ra"
      refine ⟨da, ds, _, L, ks, F, _, i, rfl, lq hd1, by omega, I.A, by omega, fun q t H1 ex1 hq okq ht hfr okn => ?_⟩
      walk_at "ra"
      have I1 := I.ex (avd' := fun b => ∃ n s data, q = .write n s b data) (avl' := fun b => (b = fa ∨ b = pa) ∨ ∃ n s data, q = .write n s b data) ex1 (fun b h => by
        obtain ⟨n, s, data, e⟩ := h
        exact .inr (hfr _ _ _ _ e)) (fun b h => by
        rcases h with h | ⟨n, s, data, e⟩
        · exact .inl h
        · exact .inr (hfr _ _ _ _ e)) (.inl (.inl rfl)) (.inl (.inr rfl))
      obtain ⟨s1, s2, s3, s4, s5⟩ := I1.D.some_
      have hw1 : ∀ b, (∃ n s data, q = .write n s b data) → ∃ xs, H1 b = some (.lst xs) := fun b h => by
        obtain ⟨n, s, data, rfl⟩ := h
        exact ⟨_, hq.2⟩
      refine ⟨L, r, t, ks, F, _, i, q, rfl, I1.A, by omega, hq, okq, fun b h => ?_, fun T v H2 A2 kp2 hT hT2 hv hfv => ?_⟩
      · rcases h with (rfl | rfl) | h
        · exact s2
        · exact s4
        · obtain ⟨xs, h⟩ := hw1 b h
          rw [h]
          intro z
          cases z
      walk_at "ra"
      obtain ⟨lm, hLm, _⟩ := I1.A.ex
      have D2 := I1.D.notL ⟨lm, hLm⟩ I1.l1 I1.l2 kp2
      have notL : ∀ {b : Addr} {o : HO}, H1 b = some o → (∀ z, o ≠ .dK z) → H2 b = some o := fun h1 h2 => kp2 _ _ h1 (ne_of h1 hLm (h2 _))
      have hq2 : RqAt H2 t q := by
        cases q with
        | write n s a data => exact ⟨notL hq.1 (by intro z h; cases h), notL hq.2 (by intro z h; cases h)⟩
        | read n i k => exact notL hq (by intro z h; cases h)
        | cut n i => exact notL hq (by intro z h; cases h)
        | size n => exact notL hq (by intro z h; cases h)
        | remove n => exact notL hq (by intro z h; cases h)
        | sync n => exact notL hq (by intro z h; cases h)
      obtain ⟨⟨dx2, ob2⟩, _⟩ := id D2
      walk_at "ra"
      have hsf : ∀ b, H b = none → ¬ sf b := fun b h hs => by
        obtain ⟨_, _, _, _, _, o, _, h2⟩ := I.sv b hs
        rw [h] at h2
        cases h2
      refine ⟨p, fa, na, sa, pa, ks, F, r, i, t, _, rfl, D2, fun b h => ?_, by omega, .inr (.inr ⟨q, hq2, okq, fun v2 H4 D4 kp4 hv2 hfv2 => ?_⟩)⟩
      · obtain ⟨xs, h⟩ := hw1 b h
        rw [notL h (by intro z e; cases e)]
        intro z
        cases z
      walk_at "ra"
      obtain ⟨S1, S2, S3, S4, S5⟩ := D2.some_
      have hv4 : AnAt H4 v (anF F r q) := hv.kept fun b o e h => by
        have hb := hfv b e
        exact kp4 _ _ h (fun e => s1 (e ▸ hb)) (fun e => s2 (e ▸ hb)) (fun e => s3 (e ▸ hb)) (fun e => s4 (e ▸ hb))
      refine ⟨v2, v, _, rfl, hv2, hv4, ?_⟩
      walk_at "ra"
      have I4 : Iw Disk p L sf H3 H4 fa na sa pa (ksF ks F r q) (ffF F r q) (rmF F r q) (i + 1) (fun b => (∃ n s data, q = .write n s b data) ∨ v2 = .ref b) (fun b => ((b = fa ∨ b = pa) ∨ ∃ n s data, q = .write n s b data) ∨ v2 = .ref b) := by
        refine ⟨D4, (A2.av (fun b h => h.elim .inl fun z => .inr (hfv2 b z))).kept D2 kp4 I1.l1 (.inl (.inl (.inl rfl))) (.inl (.inl (.inr rfl))), .inl (.inl (.inl rfl)), .inl (.inl (.inr rfl)), I1.l1, I1.l2, fun n hn => ?_, fun b hb => ?_⟩
        · rcases ks_sub ks F r q n hn with h | h
          · exact I1.ok n h
          · rw [h]; exact okn
        · obtain ⟨a1, a2, a3, a4, a5, o, a6, a7⟩ := I1.sv b hb
          exact ⟨a1, a2, a3, a4, a5, o, a6, kp4 _ _ (kp2 _ _ a7 a5) a1 a2 a3 a4⟩
      have ht4 : ∀ {xs : List V}, H2 t = some (.tup xs) → H4 t = some (.tup xs) := fun h => kp4.tup D2 h
      have hwr : ∀ b n s data, q = .write n s b data → H b = none := fun b n s data e => hfr _ _ _ _ e
      have hwa : ∀ b n s data, q = .write n s b data → b ≠ fa ∧ b ≠ pa ∧ ¬ sf b ∧ b ≠ p ∧ b ≠ na := fun b n s data e => by
        have h := hwr b n s data e
        obtain ⟨x1, x2, x3, x4, x5⟩ := I.D.some_
        exact ⟨fun e => x2 (e ▸ h), fun e => x4 (e ▸ h), hsf b h, fun e => x1 (e ▸ h), fun e => x3 (e ▸ h)⟩
      refine x_cut (fun σ' H5 => σ' = [some (.ref a), some (.ref da), some (.ref p), some (.ref p2), some (.ref L), some (rv (rmF F r q)), some (.int (0 + (i : Int))), some (.int (1 + 4 * (0 + (i : Int)))), some (.ref t), some v, some v2, w11, w12, w13] ∧ (∀ {xs : List V}, H2 t = some (.tup xs) → H5 t = some (.tup xs)) ∧ (∀ b, v2 = .ref b → H4 b ≠ none → H5 b = H4 b) ∧
        Iw Disk p L sf H3 H5 fa na sa pa (ksF ks F r q) (ffF F r q) (rmF F r q) (i + 1) (fun b => (∃ n s data, q = .write n s b data) ∨ v2 = .ref b) (fun b => ((b = fa ∨ b = pa) ∨ ∃ n s data, q = .write n s b data) ∨ v2 = .ref b)) ?_ ?_
      · cases q with
        | write n s a data =>
          have ht := ht4 hq2.1
          obtain ⟨w1, w2, w3, w4, w5⟩ := hwa _ _ _ _ rfl
          have ha4 : H4 a = some (.lst (data.map V.int)) := kp4 _ _ hq2.2 w4 w1 w5 w2
          obtain ⟨o1, o2, o3, o4⟩ := okq
          walk_at "ra"
          refine x_setL ⟨_, upd_same, 0, ixN_nat (by rw [List.length_append]; show 0 < _ + 1; omega), ?_⟩
          have I5 := (I4.mut ha4 (ys := data.map V.int ++ [.int 1]) (.inl ⟨_, _, _, rfl⟩) (.inl (.inr ⟨_, _, _, rfl⟩)) w1 w2 w3).mut (ys := (data.map V.int ++ [V.int 1]).set 0 (.int 300)) upd_same (.inl ⟨_, _, _, rfl⟩) (.inl (.inr ⟨_, _, _, rfl⟩)) w1 w2 w3
          have hv2' : v2 = .bl _ := hv2
          refine ⟨rfl, fun h => ?_, fun b e => (by rw [hv2'] at e; cases e), I5⟩
          have h := ht4 h
          walk_at "hp"
        | read n i k => 
          have ht := ht4 hq2
          walk_at "ra"
          exact ⟨rfl, ht4, fun _ _ _ => rfl, I4⟩
        | cut n i => 
          have ht := ht4 hq2
          walk_at "ra"
          exact ⟨rfl, ht4, fun _ _ _ => rfl, I4⟩
        | size n => 
          have ht := ht4 hq2
          walk_at "ra"
          exact ⟨rfl, ht4, fun _ _ _ => rfl, I4⟩
        | remove n => 
          have ht := ht4 hq2
          walk_at "ra"
          exact ⟨rfl, ht4, fun _ _ _ => rfl, I4⟩
        | sync n => 
          have ht := ht4 hq2
          walk_at "ra"
          exact ⟨rfl, ht4, fun _ _ _ => rfl, I4⟩
      · clear I4
        rintro σ H5 ⟨rfl, ht5, hv5, I5⟩
        refine x_cut (fun σ' H6 => σ' = [some (.ref a), some (.ref da), some (.ref p), some (.ref p2), some (.ref L), some (rv (rmF F r q)), some (.int (0 + (i : Int))), some (.int (1 + 4 * (0 + (i : Int)))), some (.ref t), some v, some v2, w11, w12, w13] ∧
          Iw Disk p L sf H3 H6 fa na sa pa (ksF ks F r q) (ffF F r q) (rmF F r q) (i + 1) (fun b => (∃ n s data, q = .write n s b data) ∨ v2 = .ref b) (fun b => ((b = fa ∨ b = pa) ∨ ∃ n s data, q = .write n s b data) ∨ v2 = .ref b)) ?_ ?_
        · cases q with
          | read n j k =>
            have ht := ht5 hq2
            obtain ⟨u, rfl, hu⟩ := hv2
            have hu2 := hfv2 u rfl
            have hu5 := (hv5 u rfl (by rw [hu]; intro z; cases z)).trans hu
            have lc := cutI_len (oldF F n) (some j) (some (j + k))
            have lo := I1.A.old n
            walk_at "ra"
            refine ⟨rfl, I5.mut hu5 (.inr rfl) (.inr rfl) (fun e => S2 (e ▸ hu2)) (fun e => S4 (e ▸ hu2)) fun h => ?_⟩
            obtain ⟨_, _, _, _, _, o, _, h2⟩ := I1.sv _ h
            obtain ⟨xl, _, h3, _⟩ := I1.sv _ h
            have h4 : u ≠ L := (I1.sv _ h).2.2.2.2.1
            rw [kp2 _ _ h2 h4] at hu2
            cases hu2
          | write n s a data =>
            have ht := ht5 hq2.1
            walk_at "ra"
            exact ⟨rfl, I5⟩
          | cut n i =>
            have ht := ht5 hq2
            walk_at "ra"
            exact ⟨rfl, I5⟩
          | size n =>
            have ht := ht5 hq2
            walk_at "ra"
            exact ⟨rfl, I5⟩
          | remove n =>
            have ht := ht5 hq2
            walk_at "ra"
            exact ⟨rfl, I5⟩
          | sync n =>
            have ht := ht5 hq2
            walk_at "ra"
            exact ⟨rfl, I5⟩
        · clear I5
          rintro σ H6 ⟨rfl, I6⟩
          generalize ksF ks F r q = ks' at *
          generalize ffF F r q = F' at *
          generalize rmF F r q = r' at *
          obtain ⟨⟨dx6, ob6⟩, _⟩ := id I6.D
          walk_at "ra"
          refine ⟨p, fa, na, sa, pa, ks', F', r', i + 1, _, rfl, I6.D, by omega, fun ys l ts H7 pm so ex7 hl7 hl8 hf => ?_⟩
          have I7 := I6.ex (avd' := fun b => H6 b = none) (avl' := fun b => (b = fa ∨ b = pa) ∨ H6 b = none) ex7 (fun _ h => .inr h) (fun b h => h.elim (fun h => .inl (.inl (.inl h))) .inr) (.inl (.inl rfl)) (.inl (.inr rfl))
          obtain ⟨s61, s62, s63, s64, s65⟩ := I6.D.some_
          obtain ⟨lm7, hL7, hk7, hm7⟩ := I7.A.ex
          have kn7 := I7.A.kn
          walk_at "ra"
          intro ys2 l2 pm2 so2 hl2
          refine x_fl ⟨_, lq upd_same⟩ ?_
          have ey : ys2 = ys := sortedS_uniq (pm2.trans pm.symm) so2 so
          subst ey
          refine w_lcL (fun D i acc H' => Ex (upd H7 l2 (.lst (ys2.map V.str))) H' ∧ ∃ ts2, acc = ts2.map V.ref ∧ H' D = some (.lst acc) ∧ TupsAt H' F' D (ys2.take i) ts2) (fun D hD => ⟨Ex.new hD, [], rfl, upd_same, by rw [List.take_zero]; exact .nil⟩) (fun D i acc H' hD h => (h.1.at upd_same |> lq)) (fun D i acc x H' hD hx ⟨exx, ts2, e1, e2, e3⟩ => ?_) (fun D acc H8 hD ⟨exx, ts2, e1, e2, e3⟩ => ?_)
          · obtain ⟨y, hy, rfl⟩ : ∃ y, ys2[i]? = some y ∧ V.str y = x := by
              rw [List.getElem?_map] at hx
              cases h : ys2[i]? with
              | none => rw [h] at hx; cases hx
              | some y => rw [h] at hx; exact ⟨y, rfl, Option.some.inj hx⟩
            have hil : i < ys2.length := (List.getElem?_eq_some_iff.mp hy).1
            have hmem : y ∈ ks' := pm2.mem_iff.mp (List.mem_of_getElem? hy)
            have h1 := hm7 y
            have h2 := (I7.A.kf y).mp hmem
            cases e : F' y with
            | none => rw [e] at h2; cases h2
            | some data =>
              rw [e] at h1
              obtain ⟨ea, ev, eh, _⟩ := h1
              have hL8 : H' L = some (.dK lm7) := exx _ _ (by walk_at "hp")
              have eh8 : H' ea = some (.lst (data.map V.int)) := exx _ _ (by walk_at "hp")
              have hneD : ea ≠ D := fun z => by
                rw [z] at eh
                have : upd H7 l2 (.lst (ys2.map V.str)) D = some (.lst (data.map V.int)) := by walk_at "hp"
                rw [hD] at this
                cases this
              have lt : acc.length = i := by
                rw [e1, List.length_map, ← e3.len, List.length_take]
                omega
              have lys := pm2.length_eq
              walk_at "rd"
              walk_at "al"
              intro tt htt
              have htD : D ≠ tt := fun z => by rw [← z, e2] at htt; cases htt
              refine ⟨acc, by rw [upd_ne htD]; exact e2, by refine sz_lt ?_; omega, acc ++ [.ref tt], ?_, ts2 ++ [tt], by rw [e1, List.map_append]; rfl, upd_same, ?_⟩
              · refine Ex.mut (exx.trans (Ex.new htt)) hD
              · have e4 := (e3.mono (H2 := upd (upd H' tt (.tup [.str y, .ref ea])) D (.lst (acc ++ [.ref tt]))) (fun b o h h2 => by rw [upd_ne h2]; exact hp_new htt h) ⟨_, e2⟩)
                have e5 : ys2.take (i + 1) = ys2.take i ++ [y] := by
                  rw [List.take_succ, hy]; rfl
                rw [e5]
                refine .snoc (a := ea) (by rw [upd_ne (Ne.symm htD)]; exact upd_same) ?_ hneD e4
                rw [upd_ne hneD]
                refine hp_new htt ?_
                rw [eh8]
                unfold oldF
                rw [e]
                rfl
          · have e4 : TupsAt H8 F' D ys2 ts2 := by
              rw [List.length_map, List.take_length] at e3
              exact e3
            have ex78 : Ex H7 H8 := (Ex.new hl2).trans exx
            have hok : ∀ y ∈ ys2, okStr y = true := fun y hy => I6.ok y (pm2.mem_iff.mp hy)
            refine x_neD (n := 3) (d := .list (ys2.map (dFile F'))) (.lst (lq (ex78 _ _ hl8)) (hf.tups ex78).dp) (.lst (lq (e1 ▸ e2)) e4.dp) (dFile_sh hok) (by decide) ?_
            walk_at "ra"
            have I8 := I7.ex (avd' := fun b => H6 b = none) (avl' := fun b => (b = fa ∨ b = pa) ∨ H6 b = none) ex78 (fun _ h => .inl h) (fun b h => .inl h) (.inl (.inl rfl)) (.inl (.inr rfl))
            have hl88 := ex78 _ _ hl8
            have hts : ∀ t ∈ ts, ∃ y a, H8 t = some (.tup [y, .ref a]) ∧ H6 a = none ∧ a ≠ l ∧ ∃ xs, H8 a = some (.lst xs) ∧ xs.length ≤ 1000000 - 100 := fun t ht => by
              obtain ⟨y, a, h1, h2, h3, h4⟩ := hf.mem t ht
              refine ⟨_, a, ex78 _ _ h1, h3, h4, _, ex78 _ _ h2, ?_⟩
              have := I6.A.old y
              rw [List.length_map]
              omega
            have ltl : ts.length ≤ 21 := by
              have h1 := (hf.tups (Ex.refl _)).len
              have := pm2.length_eq
              omega
            clear exx e1 e2 e3 e4 hf
            walk_at "ra"
            refine x_fl ⟨_, lq hl88⟩ ?_
            refine w_lst (xs := ts.map V.ref) (fun j σ H9 => ∃ w12 w13, σ = [some (.ref a), some (.ref da), some (.ref p), some (.ref p2), some (.ref L), some (rv r'), some (.int (0 + (i : Int))), some (.int (1 + 4 * (0 + (i : Int)))), some (.ref t), some v, some v2, some (.ref l), w12, w13] ∧
              Iw Disk p L sf H3 H9 fa na sa pa ks' F' r' (i + 1) (fun b => H6 b = none) (fun b => (b = fa ∨ b = pa) ∨ H6 b = none) ∧ H9 l = some (.lst (ts.map V.ref)) ∧ ∀ t ∈ ts, ∃ y a, H9 t = some (.tup [y, .ref a]) ∧ H6 a = none ∧ a ≠ l ∧ ∃ xs, H9 a = some (.lst xs) ∧ xs.length ≤ 1000000 - 100 + j) ?_ ?_ ?_ ?_
            · exact ⟨w12, w13, rfl, I8, hl88, hts⟩
            · rintro j σ H9 _ ⟨_, _, _, _, h, _⟩
              exact lq h
            · rintro j x σ H9 hx ⟨u12, u13, rfl, I9, hl9, ht9⟩
              rw [List.getElem?_map] at hx
              cases ej : ts[j]? with
              | none => rw [ej] at hx; cases hx
              | some tj =>
                rw [ej] at hx
                cases hx
                have hjl : j < ts.length := (List.getElem?_eq_some_iff.mp ej).1
                obtain ⟨y, ya, ht1, ha1, ha2, xs, ha3, ha4⟩ := ht9 tj (List.mem_of_getElem? ej)
                walk_at "ra"
                refine ⟨_, _, rfl, I9.mut ha3 ha1 (.inr ha1) (fun e => s62 (e ▸ ha1)) (fun e => s64 (e ▸ ha1)) (fun h => ?_), by rw [upd_ne (Ne.symm ha2)]; exact hl9, fun t2 ht2 => ?_⟩
                · obtain ⟨_, _, _, _, _, o, _, h2⟩ := I6.sv _ h
                  rw [ha1] at h2
                  cases h2
                · obtain ⟨y2, a2, hb1, hb2, hb3, xs2, hb4, hb5⟩ := ht9 t2 ht2
                  refine ⟨y2, a2, by walk_at "hp", hb2, hb3, ?_⟩
                  by_cases e : a2 = ya
                  · refine ⟨xs ++ [.int 9], by rw [e]; exact upd_same, ?_⟩
                    rw [List.length_append]
                    show xs.length + 1 ≤ _
                    omega
                  · exact ⟨xs2, by rw [upd_ne e]; exact hb4, by omega⟩
            · rintro σ H9 ⟨u12, u13, rfl, I9, hl9, ht9⟩
              have I10 := I9.ex (avd' := fun b => False) (avl' := fun b => b = fa ∨ b = pa) (Ex.refl _) (fun _ h => False.elim h) (fun b h => .inl (.inl h)) (.inl rfl) (.inr rfl)
              clear I9 ht9 I8 hts I7 hm7
              obtain ⟨⟨dx10, ob10⟩, _⟩ := id I10.D
              walk_at "rdv"
              walk_at "al"
              intro tn htn
              walk_at "rdv"
              have I11 := I10.ex (avd' := fun b => False) (avl' := fun b => b = fa ∨ b = pa) (Ex.new (o := .tup [.str "names"]) htn) (fun _ h => False.elim h) (fun b h => .inl h) (.inl rfl) (.inr rfl)
              refine ⟨p, fa, na, sa, pa, ks', F', r', i + 1, tn, _, rfl, I11.D, fun b h => False.elim h, by omega, .inl ⟨upd_same, fun ys3 l3 pm3 so3 hl3 => ?_⟩⟩
              have I12 := I11.ex (avd' := fun b => False) (avl' := fun b => b = fa ∨ b = pa) (Ex.new (o := .lst (ys3.map V.str)) hl3) (fun _ h => False.elim h) (fun b h => .inl h) (.inl rfl) (.inr rfl)
              obtain ⟨lm12, hL12, hk12, hm12⟩ := I12.A.ex
              have kn12 := I12.A.kn
              obtain ⟨⟨dx12, ob12⟩, _⟩ := id I12.D
              walk_at "rdv"
              intro ys4 l4 pm4 so4 hl4
              have ey : ys4 = ys3 := sortedS_uniq (pm4.trans pm3.symm) so4 so3
              subst ey
              refine x_neD (n := 1) (d := dStrs ys4) (dp_strs (lq ?_)) (dp_strs (lq upd_same)) (.strs (fun y hy => I10.ok y (pm4.mem_iff.mp hy)) 0) (by decide) ?_
              · exact hp_new hl4 upd_same
              walk_at "rdv"
              walk_at "al"
              intro ts2 hts2
              walk_at "rdv"
              have I13 := (I12.ex (avd' := fun b => False) (avl' := fun b => b = fa ∨ b = pa) (Ex.new (o := .lst (ys4.map V.str)) hl4) (fun _ h => False.elim h) (fun b h => .inl h) (.inl rfl) (.inr rfl)).ex (avd' := fun b => False) (avl' := fun b => b = fa ∨ b = pa) (Ex.new (o := .tup [.str "sync_names"]) hts2) (fun _ h => False.elim h) (fun b h => .inl h) (.inl rfl) (.inr rfl)
              refine ⟨p, fa, na, sa, pa, ks', F', r', i + 1, ts2, _, rfl, I13.D, fun b h => False.elim h, by omega, .inr (.inl ⟨upd_same, fun sa' pa' H14 hsa' hpa' D14 kp14 => ?_⟩)⟩
              walk_at "rdv"
              refine ⟨true, true, rfl, rfl, ?_⟩
              walk_at "rdv"
              obtain ⟨lm13, hL13, _⟩ := I13.A.ex
              refine ⟨fa, na, sa', pa', ks', F', r', _, _, _, _, _, _, _, _, rfl, ⟨D14, ((I13.A.av (av' := fun b => (b = fa ∨ b = pa) ∨ b = pa') (fun b h => h.elim .inl fun e => .inr (e ▸ hpa'))).kept I13.D kp14 I13.l1 (.inl (.inl rfl)) (.inl (.inr rfl))).av (fun b h => .inl (h.elim (fun e => .inl (.inl e)) .inr)), .inl rfl, .inr rfl, I13.l1, fun e => ?_, I13.ok, fun b hb => ?_⟩⟩
              · rw [← e, hL13] at hsa'
                cases hsa'
              · obtain ⟨a1, a2, a3, a4, a5, o, a6, a7⟩ := I13.sv b hb
                exact ⟨a1, a2, a3, fun e => (by rw [← e, a7] at hpa'; cases hpa'), a5, o, a6, kp14 _ _ a7 a1 a2 a3 a4⟩
  · rintro σ H ⟨fa', na', sa', pa', ks, F, r, w6, w7, w8, w9, w10, w11, w12, w13, rfl, I⟩
    have D3 : DAt Disk H p2 fa2 na2 sa2 pa2 [] (fun _ => none) none 0 (fun _ => False) := (D2.ex ex23 (Nat.le_refl _)).same fun b hb => by
      obtain ⟨_, _, _, _, _, h⟩ := I.sv b (.inr (by rcases hb with h | h | h | h | h <;> simp_all))
      exact h
    obtain ⟨⟨dx3, ob3⟩, _⟩ := id D3
    walk_at "rdv"
    refine ⟨p2, fa2, na2, sa2, pa2, [], _, none, 0, _, rfl, D3, by omega, fun ys l ts H' pm so ex hl1 hl2 hf => ?_⟩
    walk_at "rdv"
    walk_at "al"
    intro e1 he1
    walk_at "rdv"
    have ey : ys = [] := List.perm_nil.mp pm
    subst ey
    generalize hys : ([] : List Str) = ys at hf
    cases hf with
    | snoc h1 h2 h3 h4 h5 r => simp at hys
    | nil =>
      refine x_eqD (d := .list []) (.lst (xs := []) (lq ?_) .nil) (.lst (xs := []) (lq upd_same) .nil) ⟨rfl, Nat.le_refl 1⟩ (by decide) ?_
      · walk_at "hp"
      have ob4 := ex _ _ ob3
      walk_at "rdv"
      walk_at "al"
      intro e2 he2
      walk_at "rdv"
      have exx := ex.trans ((Ex.new (o := .lst []) he1).trans (Ex.new (o := .tup [.str "names"]) he2))
      refine ⟨p2, fa2, na2, sa2, pa2, [], _, none, 0, e2, _, rfl, D3.ex exx (Nat.le_refl _), fun b h => False.elim h, by omega, .inl ⟨upd_same, fun ys l2 pm2 so2 hl3 => ?_⟩⟩
      have ey : ys = [] := List.perm_nil.mp pm2
      subst ey
      walk_at "rdv"
      walk_at "al"
      intro e3 he3
      walk_at "rdv"
      refine x_eqD (d := .list []) (.lst (xs := []) (lq ?_) .nil) (.lst (xs := []) (lq upd_same) .nil) ⟨rfl, Nat.le_refl 1⟩ (by decide) ?_
      · walk_at "hp"
      exact q _
end
end Pr
namespace Rw
open PySem PySem.Spec PyProof.Rows L2 Pr
def top (i : Nat) : Stmt := PySem.Challenge.pw_bellows_k84_requests_to_a_disk.main.body.getD i (.Pass ⟨0, 0, 0, 0⟩)
abbrev FnP (K : PySem.W.Frag) (x q : Str) (st : Stmt) (f : Addr) (fd : FuncData) : Prop := FunD K x q (defArgs st) (defBody st) (defScope st) [] [] f fd
abbrev s_Disk___init__ : Stmt := inClass (top 2) 0
abbrev sN_Disk___init__ : List Str := ["self"]
abbrev sP_Disk___init__ : List Str := ["self"]
theorem sc_Disk___init__ : FnScope sN_Disk___init__ sP_Disk___init__ (defScope s_Disk___init__) := ⟨rfl, rfl, rfl, by decide +kernel, rfl, by decide +kernel, by decide +kernel⟩
abbrev s_Disk_set_room : Stmt := inClass (top 2) 1
abbrev sN_Disk_set_room : List Str := ["self", "count"]
abbrev sP_Disk_set_room : List Str := ["self", "count"]
theorem sc_Disk_set_room : FnScope sN_Disk_set_room sP_Disk_set_room (defScope s_Disk_set_room) := ⟨rfl, rfl, rfl, by decide +kernel, rfl, by decide +kernel, by decide +kernel⟩
abbrev s_Disk_files : Stmt := inClass (top 2) 2
abbrev sN_Disk_files : List Str := ["self", "name"]
abbrev sP_Disk_files : List Str := ["self"]
theorem sc_Disk_files : FnScope sN_Disk_files sP_Disk_files (defScope s_Disk_files) := ⟨rfl, rfl, rfl, by decide +kernel, rfl, by decide +kernel, by decide +kernel⟩
abbrev s_Disk__put : Stmt := inClass (top 2) 5
abbrev sN_Disk__put : List Str := ["self", "name", "content", "number"]
abbrev sP_Disk__put : List Str := ["self", "name", "content"]
theorem sc_Disk__put : FnScope sN_Disk__put sP_Disk__put (defScope s_Disk__put) := ⟨rfl, rfl, rfl, by decide +kernel, rfl, by decide +kernel, by decide +kernel⟩
abbrev s_Disk__write : Stmt := inClass (top 2) 4
abbrev sN_Disk__write : List Str := ["self", "name", "start", "data", "content", "growth", "good"]
abbrev sP_Disk__write : List Str := ["self", "name", "start", "data"]
theorem sc_Disk__write : FnScope sN_Disk__write sP_Disk__write (defScope s_Disk__write) := ⟨rfl, rfl, rfl, by decide +kernel, rfl, by decide +kernel, by decide +kernel⟩
abbrev s_Disk_perform : Stmt := inClass (top 2) 3
abbrev sN_Disk_perform : List Str := ["self", "request", "word", "name", "number", "content"]
abbrev sP_Disk_perform : List Str := ["self", "request"]
theorem sc_Disk_perform : FnScope sN_Disk_perform sP_Disk_perform (defScope s_Disk_perform) := ⟨rfl, rfl, rfl, by decide +kernel, rfl, by decide +kernel, by decide +kernel⟩
abbrev s__law_draws : Stmt := top 4
abbrev sN__law_draws : List Str := ["_law_script", "_law_draws_here", "_law_k", "_law_rest", "_law_turn", "_law_mixed"]
abbrev sP__law_draws : List Str := ["_law_script"]
theorem sc__law_draws : FnScope sN__law_draws sP__law_draws (defScope s__law_draws) := ⟨rfl, rfl, rfl, by decide +kernel, rfl, by decide +kernel, by decide +kernel⟩
abbrev s__law_at : Stmt := top 5
abbrev sN__law_at : List Str := ["_law_draws_here", "_law_k", "_law_many"]
abbrev sP__law_at : List Str := ["_law_draws_here", "_law_k", "_law_many"]
theorem sc__law_at : FnScope sN__law_at sP__law_at (defScope s__law_at) := ⟨rfl, rfl, rfl, by decide +kernel, rfl, by decide +kernel, by decide +kernel⟩
abbrev s__law_request : Stmt := top 7
abbrev sN__law_request : List Str := ["_law_draws_here", "_law_k", "_law_files", "_law_word", "_law_name", "_law_size", "_law_many", "_law_data", "_law_i"]
abbrev sP__law_request : List Str := ["_law_draws_here", "_law_k", "_law_files"]
theorem sc__law_request : FnScope sN__law_request sP__law_request (defScope s__law_request) := ⟨rfl, rfl, rfl, by decide +kernel, rfl, by decide +kernel, by decide +kernel⟩
abbrev s__law_perform : Stmt := top 8
abbrev sN__law_perform : List Str := ["_law_files", "_law_room", "_law_request_here", "_law_word", "_law_name", "_law_old", "_law_data", "_law_growth", "_law_fits"]
abbrev sP__law_perform : List Str := ["_law_files", "_law_room", "_law_request_here"]
theorem sc__law_perform : FnScope sN__law_perform sP__law_perform (defScope s__law_perform) := ⟨rfl, rfl, rfl, by decide +kernel, rfl, by decide +kernel, by decide +kernel⟩
abbrev s__law_same : Stmt := top 9
abbrev sN__law_same : List Str := ["_law_told", "_law_due"]
abbrev sP__law_same : List Str := ["_law_told", "_law_due"]
theorem sc__law_same : FnScope sN__law_same sP__law_same (defScope s__law_same) := ⟨rfl, rfl, rfl, by decide +kernel, rfl, by decide +kernel, by decide +kernel⟩
abbrev s_law : Stmt := top 10
abbrev sN_law : List Str := ["_law_script", "_law_draws_here", "_law_disk", "_law_other", "_law_files", "_law_room", "_law_turn", "_law_k", "_law_request_here", "_law_due", "_law_told", "_law_listed", "_law_name", "_law_data"]
abbrev sP_law : List Str := ["_law_script"]
theorem sc_law : FnScope sN_law sP_law (defScope s_law) := ⟨rfl, rfl, rfl, by decide +kernel, rfl, by decide +kernel, by decide +kernel⟩
structure Tx (K : PySem.W.Frag) (mg : Str → Option Value) where
  f_Disk___init__ : Addr
  fd_Disk___init__ : FuncData
  F_Disk___init__ : FnP K "__init__" "Disk.__init__" s_Disk___init__ f_Disk___init__ fd_Disk___init__
  b_Disk___init__ : Binds K fd_Disk___init__ sP_Disk___init__ []
  f_Disk_set_room : Addr
  fd_Disk_set_room : FuncData
  F_Disk_set_room : FnP K "set_room" "Disk.set_room" s_Disk_set_room f_Disk_set_room fd_Disk_set_room
  b_Disk_set_room : Binds K fd_Disk_set_room sP_Disk_set_room []
  f_Disk_files : Addr
  fd_Disk_files : FuncData
  F_Disk_files : FnP K "files" "Disk.files" s_Disk_files f_Disk_files fd_Disk_files
  b_Disk_files : Binds K fd_Disk_files sP_Disk_files []
  f_Disk__put : Addr
  fd_Disk__put : FuncData
  F_Disk__put : FnP K "_put" "Disk._put" s_Disk__put f_Disk__put fd_Disk__put
  b_Disk__put : Binds K fd_Disk__put sP_Disk__put []
  f_Disk__write : Addr
  fd_Disk__write : FuncData
  F_Disk__write : FnP K "_write" "Disk._write" s_Disk__write f_Disk__write fd_Disk__write
  b_Disk__write : Binds K fd_Disk__write sP_Disk__write []
  f_Disk_perform : Addr
  fd_Disk_perform : FuncData
  F_Disk_perform : FnP K "perform" "Disk.perform" s_Disk_perform f_Disk_perform fd_Disk_perform
  b_Disk_perform : Binds K fd_Disk_perform sP_Disk_perform []
  f__law_draws : Addr
  fd__law_draws : FuncData
  F__law_draws : FnP K "_law_draws" "_law_draws" s__law_draws f__law_draws fd__law_draws
  b__law_draws : Binds K fd__law_draws sP__law_draws []
  m__law_draws : mg "_law_draws" = some (.ref f__law_draws)
  f__law_at : Addr
  fd__law_at : FuncData
  F__law_at : FnP K "_law_at" "_law_at" s__law_at f__law_at fd__law_at
  b__law_at : Binds K fd__law_at sP__law_at []
  m__law_at : mg "_law_at" = some (.ref f__law_at)
  f__law_request : Addr
  fd__law_request : FuncData
  F__law_request : FnP K "_law_request" "_law_request" s__law_request f__law_request fd__law_request
  b__law_request : Binds K fd__law_request sP__law_request []
  m__law_request : mg "_law_request" = some (.ref f__law_request)
  f__law_perform : Addr
  fd__law_perform : FuncData
  F__law_perform : FnP K "_law_perform" "_law_perform" s__law_perform f__law_perform fd__law_perform
  b__law_perform : Binds K fd__law_perform sP__law_perform []
  m__law_perform : mg "_law_perform" = some (.ref f__law_perform)
  f__law_same : Addr
  fd__law_same : FuncData
  F__law_same : FnP K "_law_same" "_law_same" s__law_same f__law_same fd__law_same
  b__law_same : Binds K fd__law_same sP__law_same []
  m__law_same : mg "_law_same" = some (.ref f__law_same)
  f_law : Addr
  fd_law : FuncData
  F_law : FnP K "law" "law" s_law f_law fd_law
  b_law : Binds K fd_law sP_law []
  m_law : mg "law" = some (.ref f_law)
  Disk : Addr
  m_Disk : mg "Disk" = some (.ref Disk)
  cl_Disk : Cls K Disk
  mk_Disk : Mk K Disk f_Disk___init__
  me_Disk_set_room : Meth K Disk "set_room" f_Disk_set_room
  me_Disk_files : Meth K Disk "files" f_Disk_files
  me_Disk__put : Meth K Disk "_put" f_Disk__put
  me_Disk__write : Meth K Disk "_write" f_Disk__write
  me_Disk_perform : Meth K Disk "perform" f_Disk_perform
  na_Disk__files : NoAttr K Disk "_files"
  na_Disk__names : NoAttr K Disk "_names"
  na_Disk__safe_names : NoAttr K Disk "_safe_names"
  na_Disk__pending : NoAttr K Disk "_pending"
  na_Disk__room : NoAttr K Disk "_room"
  n_abs : mg "abs" = none
  n_bool : mg "bool" = none
  n_dict : mg "dict" = none
  n_int : mg "int" = none
  n_isinstance : mg "isinstance" = none
  n_len : mg "len" = none
  n_list : mg "list" = none
  n_max : mg "max" = none
  n_min : mg "min" = none
  n_range : mg "range" = none
  n_sorted : mg "sorted" = none
  cd : CD_Disk K Disk
section
variable {P : Program} {w : World} {K : PySem.W.Frag} {mg : Str → Option Value} {base : Heap}
theorem ok_Disk___init__ (T : Tx K mg) : FnOk P w K mg base CX0 1 T.f_Disk___init__ T.fd_Disk___init__ sP_Disk___init__ (sp_Disk___init__ K T.Disk) := by
  refine T.F_Disk___init__.ok sc_Disk___init__ (fun vs H Q E h => len_Disk___init__ h) (fun cdv A outer s H vs Q E hr h => ⟨t_Disk___init__ K T.Disk, PSs.nox ?_, pure_Disk___init__ T.cd vs H Q E h⟩)
  have hu := hu_of hr
  exact (pss_cons (ps_fld (pv 0) (pe_lst pa_nil) rfl)
  (pss_cons (ps_fld (pv 0) pe_dnewK rfl)
  (pss_cons (ps_fld (pv 0) pe_dnewK rfl)
  (pss_cons (ps_fld (pv 0) (pe_lst pa_nil) rfl)
  (pss_one (ps_fld (pv 0) pe_non rfl))))))
theorem ok_Disk_set_room (T : Tx K mg) : FnOk P w K mg base CX0 1 T.f_Disk_set_room T.fd_Disk_set_room sP_Disk_set_room (sp_Disk_set_room K T.Disk) := by
  refine T.F_Disk_set_room.ok sc_Disk_set_room (fun vs H Q E h => len_Disk_set_room h) (fun cdv A outer s H vs Q E hr h => ⟨t_Disk_set_room K T.Disk, PSs.nox ?_, pure_Disk_set_room T.cd vs H Q E h⟩)
  have hu := hu_of hr
  exact (pss_one (ps_fld (pv 0) (pv 1) rfl))
theorem ok_Disk_files (T : Tx K mg) : FnOk P w K mg base CX0 1 T.f_Disk_files T.fd_Disk_files sP_Disk_files (sp_Disk_files K T.Disk) := by
  refine T.F_Disk_files.ok sc_Disk_files (fun vs H Q E h => len_Disk_files h) (fun cdv A outer s H vs Q E hr h => ⟨t_Disk_files K T.Disk, PSs.nox ?_, pure_Disk_files T.cd vs H Q E h⟩)
  have hu := hu_of hr
  exact (pss_one (ps_ret (pe_lc (own := [("name", 1)]) (g := gName 1) (tt := tYes) rfl sc_Disk_files.nd (pi_list (pe_callB (call_sortedD rfl) (by rfl) T.n_sorted (by decide +kernel) (pa_cons (pe_fld (pv 0) rfl) pa_nil))) (blkOk_by (own := [("name", 1)]) (N := sN_Disk_files) (sc := defScope s_Disk_files) (by decide +kernel)) (fun _ _ _ _ _ => pg_name (i := 1) sc_Disk_files.nd rfl (Or.inl rfl)) (fun _ _ _ _ _ => pts_nil)
    (fun _ _ _ _ _ => (pe_tup (pa_cons (pv 1) (pa_cons (pe_callTy call_list_of (by rfl) T.n_list (by decide +kernel) (pa_cons (pe_ix ix_list (pe_ix ix_list (pe_fld (pv 0) rfl) (pe_dget hu (pe_fld (pv 0) rfl) (pv 1) (fun _ _ => rfl)) (fun _ _ => rfl)) (pe_un un_neg pe_int) (fun _ _ => rfl)) pa_nil)) pa_nil)))))))
theorem ok_Disk__put (T : Tx K mg) : FnOk P w K mg base CX0 1 T.f_Disk__put T.fd_Disk__put sP_Disk__put (sp_Disk__put K T.Disk) := by
  refine T.F_Disk__put.ok sc_Disk__put (fun vs H Q E h => len_Disk__put h) (fun cdv A outer s H vs Q E hr h => ⟨t_Disk__put K T.Disk, PSs.nox ?_, pure_Disk__put T.cd vs H Q E h⟩)
  have hu := hu_of hr
  exact (C8.pss_cut (ps_if (pt_cmp (pc_dnotin hu (pv 1) (pe_fld (pv 0) rfl))) (pss_cons (ps_dput hu (pe_fld (pv 0) rfl) (pv 1) (pe_callB call_len_seq (by rfl) T.n_len (by decide +kernel) (pa_cons (pe_fld (pv 0) rfl) pa_nil)) rfl)
  (pss_cons (ps_expr (pe_bm PySem.F.plainAttrs_list PySem.F.slot_list_append PySem.F.type_list_append mt_append (pe_fld (pv 0) rfl) (pa_cons (pe_tup (pa_cons (pv 1) (pa_cons (pe_callB call_len_seq (by rfl) T.n_len (by decide +kernel) (pa_cons (pe_fld (pv 0) rfl) pa_nil)) pa_nil))) pa_nil)))
  (pss_one (ps_expr (pe_bm PySem.F.plainAttrs_list PySem.F.slot_list_append PySem.F.type_list_append mt_append (pe_fld (pv 0) rfl) (pa_cons (pe_lst (pa_cons (pe_lst pa_nil) pa_nil)) pa_nil)))))) pss_nil)
  (pss_cons (ps_set (i := 3) sc_Disk__put.nd rfl (Or.inl rfl) (pe_dget hu (pe_fld (pv 0) rfl) (pv 1) (fun _ _ => rfl)))
  (pss_one (ps_asg (pe_op op_cat (pe_ix ix_list (pe_fld (pv 0) rfl) (pv 3) (fun _ _ => rfl)) (pe_lst (pa_cons (pv 2) pa_nil))) (pg_sub (pe_fld (pv 0) rfl) (pv 3) set_list)))))
theorem ok_Disk__write (T : Tx K mg) : FnOk P w K mg base CX0 2 T.f_Disk__write T.fd_Disk__write sP_Disk__write (sp_Disk__write K T.Disk) := by
  refine T.F_Disk__write.ok sc_Disk__write (fun vs H Q E h => len_Disk__write h) (fun cdv A outer s H vs Q E hr h => ⟨t_Disk__write K T.Disk, PSs.nox ?_, pure_Disk__write T.cd vs H Q E h⟩)
  have hu := hu_of hr
  exact (pss_cons (ps_set (i := 4) sc_Disk__write.nd rfl (Or.inl rfl) (pe_lst pa_nil))
  (C8.pss_cut (ps_if (pt_cmp (pc_din hu (pv 1) (pe_fld (pv 0) rfl))) (pss_one (ps_set (i := 4) sc_Disk__write.nd rfl (Or.inl rfl) (pe_ix ix_list (pe_ix ix_list (pe_fld (pv 0) rfl) (pe_dget hu (pe_fld (pv 0) rfl) (pv 1) (fun _ _ => rfl)) (fun _ _ => rfl)) (pe_un un_neg pe_int) (fun _ _ => rfl)))) pss_nil)
  (pss_cons (ps_set (i := 5) sc_Disk__write.nd rfl (Or.inl rfl) (pe_callB (call_max2 rfl) (by rfl) T.n_max (by decide +kernel) (pa_cons pe_int (pa_cons (pe_op op_sub (pe_op op_add (pv 2) (pe_callB call_len_seq (by rfl) T.n_len (by decide +kernel) (pa_cons (pv 3) pa_nil))) (pe_callB call_len_seq (by rfl) T.n_len (by decide +kernel) (pa_cons (pv 4) pa_nil))) pa_nil))))
  (pss_cons (ps_set (i := 6) sc_Disk__write.nd rfl (Or.inl rfl) (pe_or (pe_cmpR op_isN (pe_fld (pv 0) rfl) pe_non (nomark _)) (pe_one (pe_cmpR op_le (pv 5) (pe_fld (pv 0) rfl) (nomark _)))))
  (C8.pss_cut (ps_if (pt_not (pt_val (pv 6))) (pss_cons (ps_set (i := 3) sc_Disk__write.nd rfl (Or.inl rfl) (pe_slice sl_list (pv 3) po_none (po_some (pe_op op_add (pe_op op_sub (pe_callB call_len_seq (by rfl) T.n_len (by decide +kernel) (pa_cons (pv 3) pa_nil)) (pv 5)) (pe_fld (pv 0) rfl)))))
  (pss_one (ps_set (i := 5) sc_Disk__write.nd rfl (Or.inl rfl) (pe_fld (pv 0) rfl)))) pss_nil)
  (C8.pss_cut (ps_if (pt_cmpR op_notN (pe_fld (pv 0) rfl) pe_non (nomark _)) (pss_one (ps_fldaug (pv 0) (pv 5) in_sub)) pss_nil)
  (C8.pss_cut (ps_if (pt_cmpR op_gt (pe_callB call_len_seq (by rfl) T.n_len (by decide +kernel) (pa_cons (pv 3) pa_nil)) pe_int (nomark _)) (pss_one (ps_expr (pe_meth (pv 0) T.cl_Disk T.me_Disk__put (ok_Disk__put T) (hr.mono (by decide)) T.b_Disk__put .nil pass0 (pa_cons (pv 1) (pa_cons (pe_op op_cat (pe_op op_cat (pe_slice sl_list (pv 4) po_none (po_some (pv 2))) (pv 3)) (pe_slice sl_list (pv 4) (po_some (pe_op op_add (pv 2) (pe_callB call_len_seq (by rfl) T.n_len (by decide +kernel) (pa_cons (pv 3) pa_nil)))) po_none)) pa_nil))))) pss_nil)
  (pss_one (ps_ret (pv 6))))))))))
theorem ok_Disk_perform (T : Tx K mg) : FnOk P w K mg base CX0 3 T.f_Disk_perform T.fd_Disk_perform sP_Disk_perform (sp_Disk_perform K T.Disk) := by
  refine T.F_Disk_perform.ok sc_Disk_perform (fun vs H Q E h => len_Disk_perform h) (fun cdv A outer s H vs Q E hr h => ⟨t_Disk_perform K T.Disk, PSs.nox ?_, pure_Disk_perform T.cd vs H Q E h⟩)
  have hu := hu_of hr
  exact (pss_cons (ps_set (i := 2) sc_Disk_perform.nd rfl (Or.inl rfl) (pe_ix ix_tup (pv 1) pe_int (fun _ _ => rfl)))
  (pss_cons (ps_if (pt_cmpR op_eq (pv 2) pe_str (nomark _)) (pss_one (ps_ret (pe_callB (call_sortedD rfl) (by rfl) T.n_sorted (by decide +kernel) (pa_cons (pe_fld (pv 0) rfl) pa_nil)))) pss_nil)
  (pss_cons (ps_if (pt_cmpR op_eq (pv 2) pe_str (nomark _)) (pss_cons (ps_fld (pv 0) (pe_callTy call_dictD (by rfl) T.n_dict (by decide +kernel) (pa_cons (pe_fld (pv 0) rfl) pa_nil)) rfl)
  (pss_cons (ps_fld (pv 0) (pe_lst pa_nil) rfl)
  (pss_one (ps_ret pe_bl)))) pss_nil)
  (pss_cons (ps_set (i := 3) sc_Disk_perform.nd rfl (Or.inl rfl) (pe_ix ix_tup (pv 1) pe_int (fun _ _ => rfl)))
  (pss_cons (ps_if (pt_cmpR op_eq (pv 2) pe_str (nomark _)) (pss_one (ps_ret (pe_meth (pv 0) T.cl_Disk T.me_Disk__write (ok_Disk__write T) (hr.mono (by decide)) T.b_Disk__write .nil pass0 (pa_cons (pv 3) (pa_cons (pe_ix ix_tup (pv 1) pe_int (fun _ _ => rfl)) (pa_cons (pe_ix ix_tup (pv 1) pe_int (fun _ _ => rfl)) pa_nil)))))) pss_nil)
  (pss_cons (ps_set (i := 4) sc_Disk_perform.nd rfl (Or.inl rfl) (pe_dget hu (pe_fld (pv 0) rfl) (pv 3) (fun _ _ => rfl)))
  (pss_cons (ps_set (i := 5) sc_Disk_perform.nd rfl (Or.inl rfl) (pe_ix ix_list (pe_ix ix_list (pe_fld (pv 0) rfl) (pv 4) (fun _ _ => rfl)) (pe_un un_neg pe_int) (fun _ _ => rfl)))
  (pss_cons (ps_if (pt_cmpR op_eq (pv 2) pe_str (nomark _)) (pss_one (ps_ret (pe_callB call_len_seq (by rfl) T.n_len (by decide +kernel) (pa_cons (pv 5) pa_nil)))) pss_nil)
  (pss_cons (ps_if (pt_cmpR op_eq (pv 2) pe_str (nomark _)) (pss_one (ps_ret (pe_slice sl_list (pv 5) (po_some (pe_ix ix_tup (pv 1) pe_int (fun _ _ => rfl))) (po_some (pe_op op_add (pe_ix ix_tup (pv 1) pe_int (fun _ _ => rfl)) (pe_ix ix_tup (pv 1) pe_int (fun _ _ => rfl))))))) pss_nil)
  (C8.pss_cut (ps_if (pt_cmpR op_eq (pv 2) pe_str (nomark _)) (pss_one (ps_asg (pe_op op_cat (pe_ix ix_list (pe_fld (pv 0) rfl) (pv 4) (fun _ _ => rfl)) (pe_lst (pa_cons (pe_slice sl_list (pv 5) po_none (po_some (pe_ix ix_tup (pv 1) pe_int (fun _ _ => rfl)))) pa_nil))) (pg_sub (pe_fld (pv 0) rfl) (pv 4) set_list))) (pss_one (ps_if (pt_cmpR op_eq (pv 2) pe_str (nomark _)) (pss_cons (ps_ddel (pe_fld (pv 0) rfl) (pv 3))
  (pss_one (ps_expr (pe_bm PySem.F.plainAttrs_list PySem.F.slot_list_append PySem.F.type_list_append mt_append (pe_fld (pv 0) rfl) (pa_cons (pe_tup (pa_cons (pv 3) (pa_cons pe_non pa_nil))) pa_nil))))) (pss_one (ps_asg (pe_lst (pa_cons (pv 5) pa_nil)) (pg_sub (pe_fld (pv 0) rfl) (pv 4) set_list))))))
  (pss_one (ps_ret pe_bl))))))))))))
theorem ok__law_draws (T : Tx K mg) : FnOk P w K mg base CX0 1 T.f__law_draws T.fd__law_draws sP__law_draws (sp__law_draws K T.Disk) := by
  refine T.F__law_draws.ok sc__law_draws (fun vs H Q E h => len__law_draws h) (fun cdv A outer s H vs Q E hr h => ⟨t__law_draws K T.Disk, PSs.nox ?_, pure__law_draws T.cd vs H Q E h⟩)
  have hu := hu_of hr
  exact (pss_cons (ps_set (i := 1) sc__law_draws.nd rfl (Or.inl rfl) (pe_lst pa_nil))
  (pss_cons (ps_for PassesOwn.never rfl (pi_range1 rfl T.n_range (pa_cons (pe_callB (call_min2 rfl) (by rfl) T.n_min (by decide +kernel) (pa_cons pe_int (pa_cons (pe_callB call_len_seq (by rfl) T.n_len (by decide +kernel) (pa_cons (pv 0) pa_nil)) pa_nil))) pa_nil)) (pg_name (i := 2) sc__law_draws.nd rfl (Or.inl rfl))
  (pss_cons (ps_set (i := 3) sc__law_draws.nd rfl (Or.inl rfl) (pe_callB call_abs (by rfl) T.n_abs (by decide +kernel) (pa_cons (pe_ix ix_list (pv 0) (pv 2) (fun _ _ => rfl)) pa_nil)))
  (pss_one (ps_if (pt_cmpR op_ge (pv 3) (pe_op op_pow pe_int pe_int) (nomark _)) (pss_one (ps_for PassesOwn.never rfl (pi_range1 rfl T.n_range (pa_cons pe_int pa_nil)) (pg_name (i := 4) sc__law_draws.nd rfl (Or.inl rfl))
  (pss_one (ps_if (pt_cmpR op_gt (pv 3) pe_int (nomark _)) (pss_cons (ps_expr (pe_bm PySem.F.plainAttrs_list PySem.F.slot_list_append PySem.F.type_list_append mt_append (pv 1) (pa_cons (pe_op op_mod (pe_callTy call_int1 (by rfl) T.n_int (by decide +kernel) (pa_cons (pv 3) pa_nil)) pe_int) pa_nil)))
  (pss_one (ps_set (i := 3) sc__law_draws.nd rfl (Or.inl rfl) (pe_op op_fdiv (pv 3) pe_int)))) pss_nil)))) (pss_cons (ps_set (i := 5) sc__law_draws.nd rfl (Or.inl rfl) (pe_op op_mod (pe_callTy call_int1 (by rfl) T.n_int (by decide +kernel) (pa_cons (pe_op op_add (pe_op op_mul (pv 3) pe_int) (pe_op op_mul (pe_op op_add (pv 2) pe_int) pe_int)) pa_nil)) pe_int))
  (pss_cons (ps_set (i := 5) sc__law_draws.nd rfl (Or.inl rfl) (pe_op op_mod (pe_callTy call_int1 (by rfl) T.n_int (by decide +kernel) (pa_cons (pe_op op_add (pe_op op_add (pe_op op_mul (pv 5) pe_int) (pe_op op_mul pe_int (pv 2))) pe_int) pa_nil)) pe_int))
  (pss_cons (ps_expr (pe_bm PySem.F.plainAttrs_list PySem.F.slot_list_append PySem.F.type_list_append mt_append (pv 1) (pa_cons (pe_op op_mod (pe_callTy call_int1 (by rfl) T.n_int (by decide +kernel) (pa_cons (pv 5) pa_nil)) pe_int) pa_nil)))
  (pss_one (ps_expr (pe_bm PySem.F.plainAttrs_list PySem.F.slot_list_append PySem.F.type_list_append mt_append (pv 1) (pa_cons (pe_op op_mod (pe_callTy call_int1 (by rfl) T.n_int (by decide +kernel) (pa_cons (pe_op op_fdiv (pv 5) pe_int) pa_nil)) pe_int) pa_nil)))))))))))
  (pss_one (ps_ret (pv 1)))))
theorem ok__law_at (T : Tx K mg) : FnOk P w K mg base CX0 1 T.f__law_at T.fd__law_at sP__law_at (sp__law_at K T.Disk) := by
  refine T.F__law_at.ok sc__law_at (fun vs H Q E h => len__law_at h) (fun cdv A outer s H vs Q E hr h => ⟨t__law_at K T.Disk, PSs.nox ?_, pure__law_at T.cd vs H Q E h⟩)
  have hu := hu_of hr
  exact (pss_cons (ps_if (pt_cmpR op_lt (pv 1) (pe_callB call_len_seq (by rfl) T.n_len (by decide +kernel) (pa_cons (pv 0) pa_nil)) (nomark _)) (pss_one (ps_ret (pe_op op_mod (pe_callTy call_int1 (by rfl) T.n_int (by decide +kernel) (pa_cons (pe_ix ix_list (pv 0) (pv 1) (fun _ _ => rfl)) pa_nil)) (pv 2)))) pss_nil)
  (pss_one (ps_ret pe_int)))
theorem ok__law_request (T : Tx K mg) : FnOk P w K mg base CX0 2 T.f__law_request T.fd__law_request sP__law_request (sp__law_request K T.Disk) := by
  refine T.F__law_request.ok sc__law_request (fun vs H Q E h => len__law_request h) (fun cdv A outer s H vs Q E hr h => ⟨t__law_request K T.Disk, PSs.nox ?_, pure__law_request T.cd vs H Q E h⟩)
  have hu := hu_of hr
  exact (pss_cons (ps_set (i := 3) sc__law_request.nd rfl (Or.inl rfl) (pe_call (ok__law_at T) (hr.mono (by decide)) rfl T.m__law_at T.F__law_at.kp T.b__law_at .nil pass0 (pa_cons (pv 0) (pa_cons (pv 1) (pa_cons pe_int pa_nil)))))
  (pss_cons (ps_set (i := 4) sc__law_request.nd rfl (Or.inl rfl) (pe_ix ix_list (pe_lst (pa_cons pe_str (pa_cons pe_str (pa_cons pe_str (pa_cons pe_str pa_nil))))) (pe_call (ok__law_at T) (hr.mono (by decide)) rfl T.m__law_at T.F__law_at.kp T.b__law_at .nil pass0 (pa_cons (pv 0) (pa_cons (pe_op op_add (pv 1) pe_int) (pa_cons pe_int pa_nil)))) (fun _ _ => rfl)))
  (pss_cons (ps_set (i := 5) sc__law_request.nd rfl (Or.inl rfl) (pe_callB call_len_seq (by rfl) T.n_len (by decide +kernel) (pa_cons (pe_dget2 hu (pv 2) (pv 4) (pe_lst pa_nil) ⟨rfl, rfl, rfl, rfl⟩) pa_nil)))
  (pss_cons (ps_if (PW.pt (pw_or (pt_cmpR op_lt (pv 3) pe_int (nomark _)) (pw_or1 (pt_cmp (pc_dnotin hu (pv 4) (pv 2)))))) (pss_cons (ps_set (i := 6) sc__law_request.nd rfl (Or.inl rfl) (pe_op op_add pe_int (pe_call (ok__law_at T) (hr.mono (by decide)) rfl T.m__law_at T.F__law_at.kp T.b__law_at .nil pass0 (pa_cons (pv 0) (pa_cons (pe_op op_add (pv 1) pe_int) (pa_cons (pe_ix ix_list (pe_lst (pa_cons pe_int (pa_cons pe_int pa_nil))) (pe_call (ok__law_at T) (hr.mono (by decide)) rfl T.m__law_at T.F__law_at.kp T.b__law_at .nil pass0 (pa_cons (pv 0) (pa_cons (pe_op op_add (pv 1) pe_int) (pa_cons pe_int pa_nil)))) (fun _ _ => rfl)) pa_nil))))))
  (pss_cons (ps_setLc (i := 7) (own := [("_law_i", 8)]) (g := gName 8) (tt := tYes) rfl sc__law_request.nd rfl rfl (sw_true rfl rfl rfl (by decide +kernel)) (pi_range1 rfl T.n_range (pa_cons (pv 6) pa_nil)) (blkOk_by (own := [("_law_i", 8)]) (N := sN__law_request) (sc := defScope s__law_request) (by decide +kernel)) (fun _ _ _ _ _ => pg_name (i := 8) sc__law_request.nd rfl (Or.inl rfl)) (fun _ _ _ _ _ => pts_nil)
    (fun _ _ _ _ _ => (pe_op op_mod (pe_callTy call_int1 (by rfl) T.n_int (by decide +kernel) (pa_cons (pe_op op_add (pe_call (ok__law_at T) (hr.mono (by decide)) rfl T.m__law_at T.F__law_at.kp T.b__law_at .nil pass0 (pa_cons (pv 0) (pa_cons (pe_op op_add (pv 1) pe_int) (pa_cons pe_int pa_nil)))) (pe_op op_mul pe_int (pv 8))) pa_nil)) pe_int)))
  (pss_one (ps_ret (pe_tup (pa_cons pe_str (pa_cons (pv 4) (pa_cons (pe_call (ok__law_at T) (hr.mono (by decide)) rfl T.m__law_at T.F__law_at.kp T.b__law_at .nil pass0 (pa_cons (pv 0) (pa_cons (pe_op op_add (pv 1) pe_int) (pa_cons (pe_op op_add (pv 5) pe_int) pa_nil)))) (pa_cons (pv 7) pa_nil))))))))) pss_nil)
  (pss_cons (ps_if (pt_cmpR op_eq (pv 3) pe_int (nomark _)) (pss_one (ps_ret (pe_tup (pa_cons pe_str (pa_cons (pv 4) (pa_cons (pe_call (ok__law_at T) (hr.mono (by decide)) rfl T.m__law_at T.F__law_at.kp T.b__law_at .nil pass0 (pa_cons (pv 0) (pa_cons (pe_op op_add (pv 1) pe_int) (pa_cons (pe_op op_add (pv 5) pe_int) pa_nil)))) (pa_cons (pe_call (ok__law_at T) (hr.mono (by decide)) rfl T.m__law_at T.F__law_at.kp T.b__law_at .nil pass0 (pa_cons (pv 0) (pa_cons (pe_op op_add (pv 1) pe_int) (pa_cons pe_int pa_nil)))) pa_nil))))))) pss_nil)
  (pss_cons (ps_if (pt_cmpR op_eq (pv 3) pe_int (nomark _)) (pss_one (ps_ret (pe_tup (pa_cons pe_str (pa_cons (pv 4) (pa_cons (pe_call (ok__law_at T) (hr.mono (by decide)) rfl T.m__law_at T.F__law_at.kp T.b__law_at .nil pass0 (pa_cons (pv 0) (pa_cons (pe_op op_add (pv 1) pe_int) (pa_cons (pe_op op_add (pv 5) pe_int) pa_nil)))) pa_nil)))))) pss_nil)
  (pss_one (ps_ret (pe_tup (pa_cons (pe_ix ix_list (pe_lst (pa_cons pe_str (pa_cons pe_str (pa_cons pe_str (pa_cons pe_str pa_nil))))) (pe_op op_sub (pv 3) pe_int) (fun _ _ => rfl)) (pa_cons (pv 4) pa_nil)))))))))))
theorem ok__law_perform (T : Tx K mg) : FnOk P w K mg base CX0 1 T.f__law_perform T.fd__law_perform sP__law_perform (sp__law_perform K T.Disk) := by
  refine T.F__law_perform.ok sc__law_perform (fun vs H Q E h => len__law_perform h) (fun cdv A outer s H vs Q E hr h => ⟨t__law_perform K T.Disk, PSs.nox ?_, pure__law_perform T.cd vs H Q E h⟩)
  have hu := hu_of hr
  exact (pss_cons (ps_set (i := 3) sc__law_perform.nd rfl (Or.inl rfl) (pe_ix ix_tup (pv 2) pe_int (fun _ _ => rfl)))
  (pss_cons (ps_set (i := 4) sc__law_perform.nd rfl (Or.inl rfl) (pe_ix ix_tup (pv 2) pe_int (fun _ _ => rfl)))
  (pss_cons (ps_set (i := 5) sc__law_perform.nd rfl (Or.inl rfl) (pe_dget2 hu (pv 0) (pv 4) (pe_lst pa_nil) ⟨rfl, rfl, rfl, rfl⟩))
  (pss_cons (ps_if (pt_cmpR op_eq (pv 3) pe_str (nomark _)) (pss_cons (ps_set (i := 6) sc__law_perform.nd rfl (Or.inl rfl) (pe_callTy call_list_of (by rfl) T.n_list (by decide +kernel) (pa_cons (pe_ix ix_tup (pv 2) pe_int (fun _ _ => rfl)) pa_nil)))
  (pss_cons (ps_set (i := 7) sc__law_perform.nd rfl (Or.inl rfl) (pe_callB (call_max2 rfl) (by rfl) T.n_max (by decide +kernel) (pa_cons pe_int (pa_cons (pe_op op_sub (pe_op op_add (pe_ix ix_tup (pv 2) pe_int (fun _ _ => rfl)) (pe_callB call_len_seq (by rfl) T.n_len (by decide +kernel) (pa_cons (pv 6) pa_nil))) (pe_callB call_len_seq (by rfl) T.n_len (by decide +kernel) (pa_cons (pv 5) pa_nil))) pa_nil))))
  (pss_cons (ps_set (i := 8) sc__law_perform.nd rfl (Or.inl rfl) (pe_or (pe_cmpR op_isN (pv 1) pe_non (nomark _)) (pe_one (pe_cmpR op_le (pv 7) (pv 1) (nomark _)))))
  (C8.pss_cut (ps_if (pt_not (pt_val (pv 8))) (pss_cons (ps_set (i := 6) sc__law_perform.nd rfl (Or.inl rfl) (pe_slice sl_list (pv 6) po_none (po_some (pe_op op_add (pe_op op_sub (pe_callB call_len_seq (by rfl) T.n_len (by decide +kernel) (pa_cons (pv 6) pa_nil)) (pv 7)) (pv 1)))))
  (pss_one (ps_set (i := 7) sc__law_perform.nd rfl (Or.inl rfl) (pv 1)))) pss_nil)
  (C8.pss_cut (ps_if (pt_cmpR op_gt (pe_callB call_len_seq (by rfl) T.n_len (by decide +kernel) (pa_cons (pv 6) pa_nil)) pe_int (nomark _)) (pss_one (ps_dput hu (pv 0) (pv 4) (pe_op op_cat (pe_op op_cat (pe_slice sl_list (pv 5) po_none (po_some (pe_ix ix_tup (pv 2) pe_int (fun _ _ => rfl)))) (pv 6)) (pe_slice sl_list (pv 5) (po_some (pe_op op_add (pe_ix ix_tup (pv 2) pe_int (fun _ _ => rfl)) (pe_callB call_len_seq (by rfl) T.n_len (by decide +kernel) (pa_cons (pv 6) pa_nil)))) po_none)) rfl)) pss_nil)
  (C8.pss_cut (ps_if (pt_cmpR op_notN (pv 1) pe_non (nomark _)) (pss_one (ps_set (i := 1) sc__law_perform.nd rfl (Or.inl rfl) (pe_op op_sub (pv 1) (pv 7)))) pss_nil)
  (pss_one (ps_ret (pe_tup (pa_cons (pv 8) (pa_cons (pv 1) pa_nil))))))))))) pss_nil)
  (pss_cons (ps_if (pt_cmpR op_eq (pv 3) pe_str (nomark _)) (pss_one (ps_ret (pe_tup (pa_cons (pe_slice sl_list (pv 5) (po_some (pe_ix ix_tup (pv 2) pe_int (fun _ _ => rfl))) (po_some (pe_op op_add (pe_ix ix_tup (pv 2) pe_int (fun _ _ => rfl)) (pe_ix ix_tup (pv 2) pe_int (fun _ _ => rfl))))) (pa_cons (pv 1) pa_nil))))) pss_nil)
  (pss_cons (ps_if (pt_cmpR op_eq (pv 3) pe_str (nomark _)) (pss_one (ps_ret (pe_tup (pa_cons (pe_callB call_len_seq (by rfl) T.n_len (by decide +kernel) (pa_cons (pv 5) pa_nil)) (pa_cons (pv 1) pa_nil))))) pss_nil)
  (C8.pss_cut (ps_if (pt_cmpR op_eq (pv 3) pe_str (nomark _)) (pss_one (ps_dput hu (pv 0) (pv 4) (pe_slice sl_list (pv 5) po_none (po_some (pe_ix ix_tup (pv 2) pe_int (fun _ _ => rfl)))) rfl)) (pss_one (ps_if (pt_cmpR op_eq (pv 3) pe_str (nomark _)) (pss_one (ps_expr (pe_dpop1 (pv 0) (pv 4) ⟨rfl, rfl, rfl, rfl⟩))) pss_nil)))
  (pss_one (ps_ret (pe_tup (pa_cons pe_bl (pa_cons (pv 1) pa_nil))))))))))))
theorem ok__law_same (T : Tx K mg) : FnOk P w K mg base CX0 1 T.f__law_same T.fd__law_same sP__law_same (sp__law_same K T.Disk) := by
  refine T.F__law_same.ok sc__law_same (fun vs H Q E h => len__law_same h) (fun cdv A outer s H vs Q E hr h => ⟨t__law_same K T.Disk, PSs.nox ?_, pure__law_same T.cd vs H Q E h⟩)
  have hu := hu_of hr
  exact (pss_cons (ps_if (pt_val (pe_callB call_isi (by rfl) T.n_isinstance (by decide +kernel) (pa_cons (pv 1) (pa_cons (pe_bltn (v := .ty "list") rfl T.n_list (by decide +kernel) rfl) pa_nil)))) (pss_one (ps_ret (pe_and (pe_callB call_isi (by rfl) T.n_isinstance (by decide +kernel) (pa_cons (pv 0) (pa_cons (pe_bltn (v := .ty "list") rfl T.n_list (by decide +kernel) rfl) pa_nil))) (pe_one (pe_cmpR (op_eqD hr.units) (pv 0) (pv 1) (nomark _)))))) pss_nil)
  (pss_one (ps_ret (pe_and (pe_cmpR op_eq (pe_callB call_isi (by rfl) T.n_isinstance (by decide +kernel) (pa_cons (pv 0) (pa_cons (pe_bltn (v := .ty "bool") rfl T.n_bool (by decide +kernel) rfl) pa_nil))) (pe_callB call_isi (by rfl) T.n_isinstance (by decide +kernel) (pa_cons (pv 1) (pa_cons (pe_bltn (v := .ty "bool") rfl T.n_bool (by decide +kernel) rfl) pa_nil))) (nomark _)) (pe_one (pe_cmpR (op_eqD hr.units) (pv 0) (pv 1) (nomark _)))))))
theorem ok_law (T : Tx K mg) : FnOk P w K mg base CX0 4 T.f_law T.fd_law sP_law (sp_law K) := by
  refine T.F_law.ok sc_law (fun vs H Q E h => len_law h) (fun cdv A outer s H vs Q E hr h => ⟨t_law K T.Disk, PSs.nox ?_, pure_law T.cd vs H Q E h⟩)
  have hu := hu_of hr
  exact (pss_cons (ps_set (i := 1) sc_law.nd rfl (Or.inl rfl) (pe_call (ok__law_draws T) (hr.mono (by decide)) rfl T.m__law_draws T.F__law_draws.kp T.b__law_draws .nil pass0 (pa_cons (pv 0) pa_nil)))
  (pss_cons (ps_set (i := 2) sc_law.nd rfl (Or.inl rfl) (pe_make0 T.mk_Disk (ok_Disk___init__ T) (hr.mono (by decide)) rfl T.m_Disk T.b_Disk___init__ .nil pass0))
  (pss_cons (ps_set (i := 3) sc_law.nd rfl (Or.inl rfl) (pe_make0 T.mk_Disk (ok_Disk___init__ T) (hr.mono (by decide)) rfl T.m_Disk T.b_Disk___init__ .nil pass0))
  (pss_cons (ps_set (i := 4) sc_law.nd rfl (Or.inr rfl) pe_dnewK)
  (pss_cons (ps_set (i := 5) sc_law.nd rfl (Or.inl rfl) pe_non)
  (pss_cons (ps_for PassesOwn.never rfl (pi_range1 rfl T.n_range (pa_cons (pe_call (ok__law_at T) (hr.mono (by decide)) rfl T.m__law_at T.F__law_at.kp T.b__law_at .nil pass0 (pa_cons (pv 1) (pa_cons pe_int (pa_cons pe_int pa_nil)))) pa_nil)) (pg_name (i := 6) sc_law.nd rfl (Or.inl rfl))
  (pss_cons (ps_set (i := 7) sc_law.nd rfl (Or.inl rfl) (pe_op op_add pe_int (pe_op op_mul pe_int (pv 6))))
  (C8.pss_cut (ps_if (pt_cmpR op_eq (pe_call (ok__law_at T) (hr.mono (by decide)) rfl T.m__law_at T.F__law_at.kp T.b__law_at .nil pass0 (pa_cons (pv 1) (pa_cons (pe_op op_add (pv 7) pe_int) (pa_cons pe_int pa_nil)))) pe_int (nomark _)) (pss_cons (ps_set (i := 5) sc_law.nd rfl (Or.inl rfl) (pe_ix ix_list (pe_lst (pa_cons pe_non (pa_cons (pe_call (ok__law_at T) (hr.mono (by decide)) rfl T.m__law_at T.F__law_at.kp T.b__law_at .nil pass0 (pa_cons (pv 1) (pa_cons (pe_op op_add (pv 7) pe_int) (pa_cons pe_int pa_nil)))) (pa_cons pe_int (pa_cons (pe_call (ok__law_at T) (hr.mono (by decide)) rfl T.m__law_at T.F__law_at.kp T.b__law_at .nil pass0 (pa_cons (pv 1) (pa_cons (pe_op op_add (pv 7) pe_int) (pa_cons pe_int pa_nil)))) pa_nil))))) (pe_call (ok__law_at T) (hr.mono (by decide)) rfl T.m__law_at T.F__law_at.kp T.b__law_at .nil pass0 (pa_cons (pv 1) (pa_cons (pe_op op_add (pv 7) pe_int) (pa_cons pe_int pa_nil)))) (fun _ _ => rfl)))
  (pss_one (ps_expr (pe_meth (pv 2) T.cl_Disk T.me_Disk_set_room (ok_Disk_set_room T) (hr.mono (by decide)) T.b_Disk_set_room .nil pass0 (pa_cons (pv 5) pa_nil))))) pss_nil)
  (pss_cons (ps_set (i := 8) sc_law.nd rfl (Or.inl rfl) (pe_call (ok__law_request T) (hr.mono (by decide)) rfl T.m__law_request T.F__law_request.kp T.b__law_request .nil pass0 (pa_cons (pv 1) (pa_cons (pv 7) (pa_cons (pv 4) pa_nil)))))
  (pss_cons (ps_asg (pe_call (ok__law_perform T) (hr.mono (by decide)) rfl T.m__law_perform T.F__law_perform.kp T.b__law_perform .nil pass0 (pa_cons (pv 4) (pa_cons (pv 5) (pa_cons (pv 8) pa_nil)))) (pg_tup rfl (pgs_cons (pg_name (i := 9) sc_law.nd rfl (Or.inl rfl)) (pgs_cons (pg_name (i := 5) sc_law.nd rfl (Or.inl rfl)) pgs_nil))))
  (pss_cons (ps_set (i := 10) sc_law.nd rfl (Or.inl rfl) (pe_meth (pv 2) T.cl_Disk T.me_Disk_perform (ok_Disk_perform T) (hr.mono (by decide)) T.b_Disk_perform .nil pass0 (pa_cons (pv 8) pa_nil)))
  (pss_cons (ps_if (pt_not (pt_val (pe_call (ok__law_same T) (hr.mono (by decide)) rfl T.m__law_same T.F__law_same.kp T.b__law_same .nil pass0 (pa_cons (pv 10) (pa_cons (pv 9) pa_nil))))) (pss_one (ps_ret pe_bl)) pss_nil)
  (C8.pss_cut (ps_if (pt_cmpR op_eq (pe_ix ix_tup (pv 8) pe_int (fun _ _ => rfl)) pe_str (nomark _)) (pss_cons (ps_expr (pe_bm PySem.F.plainAttrs_list PySem.F.slot_list_append PySem.F.type_list_append mt_append (pe_ix ix_tup (pv 8) pe_int (fun _ _ => rfl)) (pa_cons pe_int pa_nil)))
  (pss_one (ps_asg pe_int (pg_sub (pe_ix ix_tup (pv 8) pe_int (fun _ _ => rfl)) pe_int set_list)))) pss_nil)
  (C8.pss_cut (ps_if (pt_cmpR op_eq (pe_ix ix_tup (pv 8) pe_int (fun _ _ => rfl)) pe_str (nomark _)) (pss_one (ps_expr (pe_bm PySem.F.plainAttrs_list PySem.F.slot_list_append PySem.F.type_list_append mt_append (pv 10) (pa_cons pe_int pa_nil)))) pss_nil)
  (pss_cons (ps_set (i := 11) sc_law.nd rfl (Or.inl rfl) (pe_meth0 (pv 2) T.cl_Disk T.me_Disk_files (ok_Disk_files T) (hr.mono (by decide)) T.b_Disk_files .nil pass0))
  (pss_cons (ps_if (pt_cmpR (op_neD hr.units) (pv 11) (pe_lc (own := [("_law_name", 12)]) (g := gName 12) (tt := tYes) rfl sc_law.nd (pi_list (pe_callB (call_sortedD rfl) (by rfl) T.n_sorted (by decide +kernel) (pa_cons (pv 4) pa_nil))) (blkOk_by (own := [("_law_name", 12)]) (N := sN_law) (sc := defScope s_law) (by decide +kernel)) (fun _ _ _ _ _ => pg_name (i := 12) sc_law.nd rfl (Or.inl rfl)) (fun _ _ _ _ _ => pts_nil)
    (fun _ _ _ _ _ => (pe_tup (pa_cons (pv 12) (pa_cons (pe_dget hu (pv 4) (pv 12) (fun _ _ => rfl)) pa_nil))))) (nomark _)) (pss_one (ps_ret pe_bl)) pss_nil)
  (pss_cons (ps_for PassesOwn.never rfl (pi_list (pv 11)) (pg_tup rfl (pgs_cons (pg_name (i := 12) sc_law.nd rfl (Or.inl rfl)) (pgs_cons (pg_name (i := 13) sc_law.nd rfl (Or.inl rfl)) pgs_nil)))
  (pss_one (ps_expr (pe_bm PySem.F.plainAttrs_list PySem.F.slot_list_append PySem.F.type_list_append mt_append (pv 13) (pa_cons pe_int pa_nil)))))
  (pss_one (ps_if (PW.pt (pw_or (pt_cmpR (op_neD hr.units) (pe_meth (pv 2) T.cl_Disk T.me_Disk_perform (ok_Disk_perform T) (hr.mono (by decide)) T.b_Disk_perform .nil pass0 (pa_cons (pe_tup (pa_cons pe_str pa_nil)) pa_nil)) (pe_callB (call_sortedD rfl) (by rfl) T.n_sorted (by decide +kernel) (pa_cons (pv 4) pa_nil)) (nomark _)) (pw_or1 (pt_cmpR op_notBl (pe_meth (pv 2) T.cl_Disk T.me_Disk_perform (ok_Disk_perform T) (hr.mono (by decide)) T.b_Disk_perform .nil pass0 (pa_cons (pe_tup (pa_cons pe_str pa_nil)) pa_nil)) pe_bl (nomark _))))) (pss_one (ps_ret pe_bl)) pss_nil))))))))))))))
  (pss_one (ps_ret (pe_and (pe_cmpR (op_eqD hr.units) (pe_meth0 (pv 3) T.cl_Disk T.me_Disk_files (ok_Disk_files T) (hr.mono (by decide)) T.b_Disk_files .nil pass0) (pe_lst pa_nil) (nomark _)) (pe_one (pe_cmpR (op_eqD hr.units) (pe_meth (pv 3) T.cl_Disk T.me_Disk_perform (ok_Disk_perform T) (hr.mono (by decide)) T.b_Disk_perform .nil pass0 (pa_cons (pe_tup (pa_cons pe_str pa_nil)) pa_nil)) (pe_lst pa_nil) (nomark _))))))))))))
end
def d_Disk___init__ : He.DefD := ⟨("Disk", some "__init__"), "__init__", "Disk.__init__", defArgs s_Disk___init__, defBody s_Disk___init__, defScope s_Disk___init__, [], []⟩
def d_Disk_set_room : He.DefD := ⟨("Disk", some "set_room"), "set_room", "Disk.set_room", defArgs s_Disk_set_room, defBody s_Disk_set_room, defScope s_Disk_set_room, [], []⟩
def d_Disk_files : He.DefD := ⟨("Disk", some "files"), "files", "Disk.files", defArgs s_Disk_files, defBody s_Disk_files, defScope s_Disk_files, [], []⟩
def d_Disk__put : He.DefD := ⟨("Disk", some "_put"), "_put", "Disk._put", defArgs s_Disk__put, defBody s_Disk__put, defScope s_Disk__put, [], []⟩
def d_Disk__write : He.DefD := ⟨("Disk", some "_write"), "_write", "Disk._write", defArgs s_Disk__write, defBody s_Disk__write, defScope s_Disk__write, [], []⟩
def d_Disk_perform : He.DefD := ⟨("Disk", some "perform"), "perform", "Disk.perform", defArgs s_Disk_perform, defBody s_Disk_perform, defScope s_Disk_perform, [], []⟩
def d__law_draws : He.DefD := ⟨("_law_draws", none), "_law_draws", "_law_draws", defArgs s__law_draws, defBody s__law_draws, defScope s__law_draws, [], []⟩
def d__law_at : He.DefD := ⟨("_law_at", none), "_law_at", "_law_at", defArgs s__law_at, defBody s__law_at, defScope s__law_at, [], []⟩
def d__law_request : He.DefD := ⟨("_law_request", none), "_law_request", "_law_request", defArgs s__law_request, defBody s__law_request, defScope s__law_request, [], []⟩
def d__law_perform : He.DefD := ⟨("_law_perform", none), "_law_perform", "_law_perform", defArgs s__law_perform, defBody s__law_perform, defScope s__law_perform, [], []⟩
def d__law_same : He.DefD := ⟨("_law_same", none), "_law_same", "_law_same", defArgs s__law_same, defBody s__law_same, defScope s__law_same, [], []⟩
def d_law : He.DefD := ⟨("law", none), "law", "law", defArgs s_law, defBody s_law, defScope s_law, [], []⟩
def fn : List He.DefD := [d_Disk___init__, d_Disk_set_room, d_Disk_files, d_Disk__put, d_Disk__write, d_Disk_perform, d__law_draws, d__law_at, d__law_request, d__law_perform, d__law_same, d_law]
def fa : List He.Fa := [.glo "_law_draws", .glo "_law_at", .glo "_law_request", .glo "_law_perform", .glo "_law_same", .glo "law", .glo "Disk", .cls "Disk", .mkr "Disk", .meth "Disk" "set_room", .meth "Disk" "files", .meth "Disk" "_put", .meth "Disk" "_write", .meth "Disk" "perform", .noat "Disk" "_files", .noat "Disk" "_names", .noat "Disk" "_safe_names", .noat "Disk" "_pending", .noat "Disk" "_room", .free "abs", .free "bool", .free "dict", .free "int", .free "isinstance", .free "len", .free "list", .free "max", .free "min", .free "range", .free "sorted"]
theorem tx {K : PySem.W.Frag} {h : Heap} {mg : Str → Option Value} (X : K.In h) (G : h.Ns mainGlobals mg) (c : He.SaysD fa fn K) : ∃ T : Tx K mg, T.f_law = He.fAd K ("law", none) := by
  obtain ⟨fd_Disk___init__, F_Disk___init__⟩ := c.def_ 0 (d := d_Disk___init__) rfl
  obtain ⟨fd_Disk_set_room, F_Disk_set_room⟩ := c.def_ 1 (d := d_Disk_set_room) rfl
  obtain ⟨fd_Disk_files, F_Disk_files⟩ := c.def_ 2 (d := d_Disk_files) rfl
  obtain ⟨fd_Disk__put, F_Disk__put⟩ := c.def_ 3 (d := d_Disk__put) rfl
  obtain ⟨fd_Disk__write, F_Disk__write⟩ := c.def_ 4 (d := d_Disk__write) rfl
  obtain ⟨fd_Disk_perform, F_Disk_perform⟩ := c.def_ 5 (d := d_Disk_perform) rfl
  obtain ⟨fd__law_draws, F__law_draws⟩ := c.def_ 6 (d := d__law_draws) rfl
  obtain ⟨fd__law_at, F__law_at⟩ := c.def_ 7 (d := d__law_at) rfl
  obtain ⟨fd__law_request, F__law_request⟩ := c.def_ 8 (d := d__law_request) rfl
  obtain ⟨fd__law_perform, F__law_perform⟩ := c.def_ 9 (d := d__law_perform) rfl
  obtain ⟨fd__law_same, F__law_same⟩ := c.def_ 10 (d := d__law_same) rfl
  obtain ⟨fd_law, F_law⟩ := c.def_ 11 (d := d_law) rfl
  exact ⟨{
    f_Disk___init__ := _
    fd_Disk___init__ := fd_Disk___init__
    F_Disk___init__ := F_Disk___init__
    b_Disk___init__ := F_Disk___init__.bindsN fun _ _ _ _ _ _ us hl => match us, hl with | [_], _ => rfl
    f_Disk_set_room := _
    fd_Disk_set_room := fd_Disk_set_room
    F_Disk_set_room := F_Disk_set_room
    b_Disk_set_room := F_Disk_set_room.bindsN fun _ _ _ _ _ _ us hl => match us, hl with | [_, _], _ => rfl
    f_Disk_files := _
    fd_Disk_files := fd_Disk_files
    F_Disk_files := F_Disk_files
    b_Disk_files := F_Disk_files.bindsN fun _ _ _ _ _ _ us hl => match us, hl with | [_], _ => rfl
    f_Disk__put := _
    fd_Disk__put := fd_Disk__put
    F_Disk__put := F_Disk__put
    b_Disk__put := F_Disk__put.bindsN fun _ _ _ _ _ _ us hl => match us, hl with | [_, _, _], _ => rfl
    f_Disk__write := _
    fd_Disk__write := fd_Disk__write
    F_Disk__write := F_Disk__write
    b_Disk__write := F_Disk__write.bindsN fun _ _ _ _ _ _ us hl => match us, hl with | [_, _, _, _], _ => rfl
    f_Disk_perform := _
    fd_Disk_perform := fd_Disk_perform
    F_Disk_perform := F_Disk_perform
    b_Disk_perform := F_Disk_perform.bindsN fun _ _ _ _ _ _ us hl => match us, hl with | [_, _], _ => rfl
    f__law_draws := _
    fd__law_draws := fd__law_draws
    F__law_draws := F__law_draws
    b__law_draws := F__law_draws.bindsN fun _ _ _ _ _ _ us hl => match us, hl with | [_], _ => rfl
    m__law_draws := He.glo_ok X G (c.fact 0 (f := .glo "_law_draws") rfl)
    f__law_at := _
    fd__law_at := fd__law_at
    F__law_at := F__law_at
    b__law_at := F__law_at.bindsN fun _ _ _ _ _ _ us hl => match us, hl with | [_, _, _], _ => rfl
    m__law_at := He.glo_ok X G (c.fact 1 (f := .glo "_law_at") rfl)
    f__law_request := _
    fd__law_request := fd__law_request
    F__law_request := F__law_request
    b__law_request := F__law_request.bindsN fun _ _ _ _ _ _ us hl => match us, hl with | [_, _, _], _ => rfl
    m__law_request := He.glo_ok X G (c.fact 2 (f := .glo "_law_request") rfl)
    f__law_perform := _
    fd__law_perform := fd__law_perform
    F__law_perform := F__law_perform
    b__law_perform := F__law_perform.bindsN fun _ _ _ _ _ _ us hl => match us, hl with | [_, _, _], _ => rfl
    m__law_perform := He.glo_ok X G (c.fact 3 (f := .glo "_law_perform") rfl)
    f__law_same := _
    fd__law_same := fd__law_same
    F__law_same := F__law_same
    b__law_same := F__law_same.bindsN fun _ _ _ _ _ _ us hl => match us, hl with | [_, _], _ => rfl
    m__law_same := He.glo_ok X G (c.fact 4 (f := .glo "_law_same") rfl)
    f_law := _
    fd_law := fd_law
    F_law := F_law
    b_law := F_law.bindsN fun _ _ _ _ _ _ us hl => match us, hl with | [_], _ => rfl
    m_law := He.glo_ok X G (c.fact 5 (f := .glo "law") rfl)
    Disk := He.ga K "Disk"
    m_Disk := He.glo_ok X G (c.fact 6 (f := .glo "Disk") rfl)
    cl_Disk := He.cls_ok (c.fact 7 (f := .cls "Disk") rfl)
    mk_Disk := He.mkr_ok (c.fact 8 (f := .mkr "Disk") rfl)
    me_Disk_set_room := He.meth_ok (c.fact 9 (f := .meth "Disk" "set_room") rfl)
    me_Disk_files := He.meth_ok (c.fact 10 (f := .meth "Disk" "files") rfl)
    me_Disk__put := He.meth_ok (c.fact 11 (f := .meth "Disk" "_put") rfl)
    me_Disk__write := He.meth_ok (c.fact 12 (f := .meth "Disk" "_write") rfl)
    me_Disk_perform := He.meth_ok (c.fact 13 (f := .meth "Disk" "perform") rfl)
    na_Disk__files := He.noat_ok (c.fact 14 (f := .noat "Disk" "_files") rfl)
    na_Disk__names := He.noat_ok (c.fact 15 (f := .noat "Disk" "_names") rfl)
    na_Disk__safe_names := He.noat_ok (c.fact 16 (f := .noat "Disk" "_safe_names") rfl)
    na_Disk__pending := He.noat_ok (c.fact 17 (f := .noat "Disk" "_pending") rfl)
    na_Disk__room := He.noat_ok (c.fact 18 (f := .noat "Disk" "_room") rfl)
    n_abs := He.free_ok X G (c.fact 19 (f := .free "abs") rfl)
    n_bool := He.free_ok X G (c.fact 20 (f := .free "bool") rfl)
    n_dict := He.free_ok X G (c.fact 21 (f := .free "dict") rfl)
    n_int := He.free_ok X G (c.fact 22 (f := .free "int") rfl)
    n_isinstance := He.free_ok X G (c.fact 23 (f := .free "isinstance") rfl)
    n_len := He.free_ok X G (c.fact 24 (f := .free "len") rfl)
    n_list := He.free_ok X G (c.fact 25 (f := .free "list") rfl)
    n_max := He.free_ok X G (c.fact 26 (f := .free "max") rfl)
    n_min := He.free_ok X G (c.fact 27 (f := .free "min") rfl)
    n_range := He.free_ok X G (c.fact 28 (f := .free "range") rfl)
    n_sorted := He.free_ok X G (c.fact 29 (f := .free "sorted") rfl)
    cd := ⟨He.cls_ok (c.fact 7 (f := .cls "Disk") rfl), He.noat_ok (c.fact 14 (f := .noat "Disk" "_files") rfl), He.noat_ok (c.fact 15 (f := .noat "Disk" "_names") rfl), He.noat_ok (c.fact 16 (f := .noat "Disk" "_safe_names") rfl), He.noat_ok (c.fact 17 (f := .noat "Disk" "_pending") rfl), He.noat_ok (c.fact 18 (f := .noat "Disk" "_room") rfl)⟩
  }, rfl⟩
abbrev R : PySem.W.OpenRow := PySem.W.OpenLaw.row PySem.Challenge.rw_bellows_k84_requests_to_a_disk
abbrev hk : PySem.W.Hook := He.hookD 6 fa fn
def ob (s : PySem.W.SharedT) : He.AlD := He.obsDG 6 fa fn (HandSHeadRun.getT s)
theorem ob_eq (s : PySem.W.SharedT) : ob s = hk.obs s.abs := He.obsDG_eq (HandSHeadRun.getT_eq s)
def loose : List Str := ["_wall", "Disk", "_law_draws", "_law_at", "_law_is_integer", "_law_request", "_law_perform", "_law_same"]
theorem run (w : World) : HandSHeadRun.RunEq R (PySem.W.view R.prog [10]) hk ob 2000 loose w := by
  intro os
  kernel_rfl
theorem facts {P : Program} {w : World} {K : PySem.W.Frag} {h : Heap} {mg : Str → Option Value} {f : Addr} (X : K.In h) (G : h.Ns mainGlobals mg) (hfa : mg ("law" : Str) = some (.ref f)) (c : He.SaysD fa fn K) :
    ∃ fd : FuncData, (∀ (s : Shared) (v : Value), BindsTo s fd ⟨[v], []⟩ [("_law_script", v)]) ∧ ∀ base : Heap, K.In base → base.Ns mainGlobals mg → FnOk P w K mg base CX0 4 f fd ["_law_script"] (sp_law K) := by
  obtain ⟨T, _⟩ := tx X G c
  have e := hfa.symm.trans T.m_law
  cases e
  have b := FunD.bindsA (ps := ["_law_script"]) T.F_law fun _ _ _ _ _ _ us hl => match us, hl with | [_], _ => rfl
  exact ⟨_, fun s v => b s [v] rfl, fun base _ _ => ok_law T⟩
end Rw
open PySem PySem.W PySem.Calls PyProof.Rows
theorem PySem.Challenge.cw_bellows_k84_requests_to_a_disk_holds : PySem.Challenge.rw_bellows_k84_requests_to_a_disk.Holds := by
  w_on; o_law
  refine HandSHeadRun.head_any (r := OpenLaw.row PySem.Challenge.rw_bellows_k84_requests_to_a_disk) (q := view (OpenLaw.row PySem.Challenge.rw_bellows_k84_requests_to_a_disk).prog [10]) (H := Rw.hk) (ob := Rw.ob) (M := 2000) (loose := Rw.loose) (d := HandSHeadRun.topDef (OpenLaw.row PySem.Challenge.rw_bellows_k84_requests_to_a_disk).prog 10) (kwd := []) Rw.ob_eq
    (by kernel_rfl) (fun s => by kernel_rfl) Rw.run (by kernel_rfl) (by kernel_rfl) (by kernel_rfl) (by rfl) (by first | assumption | decide +kernel) (by decide +kernel) ⟨rfl, rfl, rfl, rfl, rfl, by decide +kernel⟩ ?hw ?hc
  case hw => w_witness2
  case hc =>
    refine L2.walk_ofE (l := PySem.Challenge.rw_bellows_k84_requests_to_a_disk) (n := 63) (k := 4) (x := "_law_script") (CX := L2.CX0) rfl (by decide) (by kernel_rfl) ⟨rfl, by decide, by decide⟩ ?F (fun _ _ _ _ z => z)
    intro w mg fa h Y G hmg0
    obtain ⟨K, KX, c⟩ := Y
    have hmg : mg ("law" : PySem.Str) = some (.ref fa) := by
      have e : (HandSHeadRun.topDef (OpenLaw.row PySem.Challenge.rw_bellows_k84_requests_to_a_disk).prog 10).name = ("law" : PySem.Str) := by kernel_rfl
      rw [← e]
      exact hmg0
    obtain ⟨fd, hb, hF⟩ := Rw.facts (P := (PySem.Challenge.rw_bellows_k84_requests_to_a_disk).prog) (w := w) KX G hmg c
    exact ⟨K, fd, Pr.sp_law K, KX, hb, fun H a ns hl _ hS => Pr.law_start (n := 63) hl hS, hF⟩
#print axioms PySem.Challenge.cw_bellows_k84_requests_to_a_disk_holds
