import PyProof.Rows.All
import Wide.All
import OpenK.AllK
import Wide.FinOn
import HandS.ForMost
import HandS.Wide
import HandS.Evl
import HandS.Steps
import HandS.IsInst
import HandS.TupLe
import HandS.Defaults
import HandS.Deep
import PySem.Challenge.RW_cellspaid_k60_showings_judged
import HandS.ForExc
import HandS.WordsExc
import HandS.ExcOwn
import HandS.TryMany
import HandS.Zip
import HandS.SortRule
import HandS.Conv
import HandS.Sort
import HandS.Dict
import HandS.More
import HandS.Iter
import KE.KDictWalk
import HandS.Comp
import HandS.NoneIn
import HandS.TupAny
import HandS.TupMul
import KE.KStateDown
import Lean
import HandS.Base
import HandS.Call
import HandS.Ends
import HandS.Words
import HandS.Head0
import HandS.Head1
import HandS.Head2
import HandS.HeadEnd
import HandS.HeadHook1
import HandS.HeadHook2
set_option Elab.async false
set_option linter.all false
set_option maxRecDepth 100000
/-! Steps of readings, one lemma a construct: applied backwards. -/
namespace Gk
open PySem L2
theorem cutS_le (a : Str) (lo hi : Option Int) : (cutS a lo hi).length ≤ a.length := by
  have h : (cutS a lo hi).length = ((a.cps.toList.drop (HT.sIx a.length 0 lo)).take (HT.sIx a.length a.length hi - HT.sIx a.length 0 lo)).length := by
    simp [cutS, Str.length]
  rw [h]
  have h2 : a.length = a.cps.toList.length := by simp [Str.length]
  rw [h2]
  exact Nat.le_trans (List.length_take_le' _ _) (by rw [List.length_drop]; omega)
def rAbs : List V → Hp → VK → Prop := fun xs H Q => ∃ i, xs = [.int i] ∧ Q (.int (if i < 0 then -i else i)) H
theorem cAbs {X : Cx} : CallR X (.builtin "abs") rAbs := call_abs
def rInt1 : List V → Hp → VK → Prop := fun xs H Q => (∃ i, xs = [.int i] ∧ Q (.int i) H) ∨ ∃ k, xs = [.bl k] ∧ Q (.int (if k then 1 else 0)) H
theorem cInt1 {X : Cx} : CallR X (.type "int") rInt1 := call_int1
def rLen (K : PySem.W.Frag) : List V → Hp → VK → Prop := fun xs H Q => ∃ p ys, xs = [.ref p] ∧ (SqL K H p ys ∨ SqT K H p ys) ∧ Q (.int ys.length) H
theorem cLen {X : Cx} : CallR X (.builtin "len") (rLen X.K) := call_len_seq
def rListOf (K : PySem.W.Frag) : List V → Hp → VK → Prop := fun xs H Q => ∃ p ys, xs = [.ref p] ∧ (SqL K H p ys ∨ SqT K H p ys) ∧ ∀ l, H l = none → Q (.ref l) (upd H l (.lst ys))
theorem cListOf {X : Cx} : CallR X (.type "list") (rListOf X.K) := call_list_of
def rAddT : R2 := fun x y H Q => ∃ i j, x = .str i ∧ y = .str j ∧ i.length + j.length ≤ sizeLine ∧ Q (.str (i ++ j)) H
theorem oAddT {X : Cx} : OpR X (binaryOp .Add) rAddT := op_add_str
def rStrI : List V → Hp → VK → Prop := fun xs H Q => ∃ i, xs = [.int i] ∧ i.natAbs.log2 < 1920 ∧ Q (.str (toString i)) H
theorem cStrI {X : Cx} : CallR X (.type "str") rStrI := call_str_int
/-! ### the rules with the written part named -/
section
variable {X : Cx}
theorem eIxL (K : PySem.W.Frag) (h : X.K = K := by rfl) : IxR X (rIxL K) := h ▸ ix_list
theorem eIxT (K : PySem.W.Frag) (h : X.K = K := by rfl) : IxR X (rIxT K) := h ▸ ix_tup
theorem eIn (K : PySem.W.Frag) (h : X.K = K := by rfl) : OpR X (compareOp .In) (rIn K false) := h ▸ op_in_seq
theorem eNotIn (K : PySem.W.Frag) (h : X.K = K := by rfl) : OpR X (compareOp .NotIn) (rIn K true) := h ▸ op_notIn_seq
theorem eLen (K : PySem.W.Frag) (h : X.K = K := by rfl) : CallR X (.builtin "len") (rLen K) := h ▸ cLen
theorem eListOf (K : PySem.W.Frag) (h : X.K = K := by rfl) : CallR X (.type "list") (rListOf K) := h ▸ cListOf
theorem eIsi (K : PySem.W.Frag) (h : X.K = K := by rfl) : CallR X (.builtin "isinstance") (rIsi K) := h ▸ call_isi
theorem eEqD (K : PySem.W.Frag) (hu : X.A.units + 64 < cLine) (h : X.K = K := by rfl) : OpR X (compareOp .Eq) (rEqD K) := h ▸ op_eqD hu
theorem eNeD (K : PySem.W.Frag) (hu : X.A.units + 64 < cLine) (h : X.K = K := by rfl) : OpR X (compareOp .NotEq) (rNeD K) := h ▸ op_neD hu
theorem eSlL (K : PySem.W.Frag) (h : X.K = K := by rfl) : SlR X (rSlL K) := h ▸ sl_list
theorem eSlT (K : PySem.W.Frag) (h : X.K = K := by rfl) : SlR X (rSlT K) := h ▸ sl_tup
theorem ePiL (K : PySem.W.Frag) {tg l : Expr} {tl : TE} (hl : PE X l tl) (h : X.K = K := by rfl) : PI X tg l (iList K tl) := h ▸ pi_list hl
theorem ePiT (K : PySem.W.Frag) {tg l : Expr} {tl : TE} (hl : PE X l tl) (h : X.K = K := by rfl) : PI X tg l (iTup K tl) := h ▸ pi_tup hl
theorem ePgT (K : PySem.W.Frag) {es : List Expr} {k : Nat} {t : TGs} {n : Nat} {pos : Pos} (hc : X.calm = true) (hp : PGs X es t) (h : X.K = K := by rfl)
    (hn : (assignEach es X.env).length = n := by rfl) (hst : (assignEach es X.env).findIdx? (·.1) = none := by rfl) : PG X (.Tuple es k pos) (gTup K n t) := h ▸ pg_tup hc hp hn hst
theorem eBm (K : PySem.W.Frag) {T name id : String} {r : V → List V → Hp → VK → Prop} {o e : Expr} {es : List Expr} {to : TE} {t : TA} {apos cpos : Pos} (pa : PlainAttrs T) (slot : Slot T name id) (hty : typeOf (.builtin id) = pure (.type "method_descriptor")) (hm : MtR X id r) (ho : PE X o to) (ha : PA X (e :: es) t) (h : X.K = K := by rfl)
    (hbase : attributeBase o name X.env (eval o X.env) = eval o X.env := by rfl)
    (hfew : ((backTo cpos (starEach (e :: es) X.env)).all (fun x => !x.1) && (backToKw cpos (keywordEach [] X.env)).all (fun x => x.1.isSome)
      && decide ((e :: es).length + ([] : List Keyword).length + (if ([] : List Keyword).isEmpty then 0 else 1) < 30)) = true := by rfl)
    (hline : (apos.endLine == cpos.line) = true := by rfl) (hs : starEach (e :: es) X.env = (false, eval e X.env) :: starEach es X.env := by rfl) (hplain : (backTo cpos (starEach es X.env)).any (·.1) = false := by rfl) :
    PE X (.Call (.Attribute o name apos) (e :: es) [] cpos) (tBM K T r to t) := h ▸ pe_bm pa slot hty hm ho ha hbase hfew hline hs hplain
theorem eBm0 (K : PySem.W.Frag) {T name id : String} {r : V → List V → Hp → VK → Prop} {o : Expr} {to : TE} {apos cpos : Pos} (pa : PlainAttrs T) (slot : Slot T name id) (hty : typeOf (.builtin id) = pure (.type "method_descriptor")) (hm : MtR X id r) (ho : PE X o to) (h : X.K = K := by rfl)
    (hbase : attributeBase o name X.env (eval o X.env) = eval o X.env := by rfl) (hline : (apos.endLine == cpos.line) = true := by rfl) : PE X (.Call (.Attribute o name apos) [] [] cpos) (tBM0 K T r to) := h ▸ pe_bm0 pa slot hty hm ho hbase hline
end
theorem iteQ {b : Bool} {A B : Prop} (h1 : b = true → A) (h2 : b = false → B) : if b = true then A else B := by
  cases b with
  | true => exact h1 rfl
  | false => exact h2 rfl
theorem iteT {b : Bool} {A B : Prop} (h : b = true) (k : A) : if b = true then A else B := by rw [if_pos h]; exact k
theorem iteF {b : Bool} {A B : Prop} (h : b = false) (k : B) : if b = true then A else B := by rw [h, if_neg Bool.false_ne_true]; exact k
section
variable {K : PySem.W.Frag} {σ : L2.St} {H : Hp} {D : Ends} {ta tb te : TE} {tt tu : TT} {ts tr : TS} {Q : VK} {QB : Bool → Hp → Prop} {QA : List V → Hp → Prop} {QS : L2.St → Hp → Prop}
theorem var {i : Nat} {v : V} (h : σ[i]? = some (some v)) (k : Q v H) : tVar i σ H Q := ⟨v, h, k⟩
theorem con {v : V} (k : Q v H) : tC v σ H Q := k
theorem op {r : R2} (k : ta σ H fun x H1 => tb σ H1 fun y H2 => r x y H2 Q) : tOp r ta tb σ H Q := k
theorem un {r : V → Hp → VK → Prop} (k : ta σ H fun x H1 => r x H1 Q) : tUn r ta σ H Q := k
theorem i0 {g : Int → Int → V} {i j : Int} (k : Q (g i j) H) : rI0 g (.int i) (.int j) H Q := ⟨i, j, rfl, rfl, k⟩
theorem i1 {C : Int → Int → Prop} {g : Int → Int → V} {i j : Int} (c : C i j) (k : Q (g i j) H) : rI C g (.int i) (.int j) H Q := ⟨i, j, rfl, rfl, c, k⟩
theorem u1 {g : Int → V} {i : Int} (k : Q (g i) H) : rU g (.int i) H Q := ⟨i, rfl, k⟩
theorem eqv {x y : V} (h : scal x y = true) (k : Q (.bl (decide (x = y))) H) : rEq x y H Q := ⟨h, k⟩
theorem nev {x y : V} (h : scal x y = true) (k : Q (.bl (!decide (x = y))) H) : rNe x y H Q := ⟨h, k⟩
theorem test (k : te σ H fun x H' => ∃ b, x = .bl b ∧ QB b H') : tTest te σ H QB := k
theorem asB (k : te σ H fun x H' => ∃ b, x = .bl b ∧ QB b H') : tB te σ H QB := k
theorem testB {b : Bool} {QP : Bool → Prop} (k : QP b) : ∃ c, V.bl b = V.bl c ∧ QP c := ⟨b, rfl, k⟩
theorem ixL {p : Addr} {xs : List V} {i : Int} {v : V} (h : SqL K H p xs) (a : atI xs i = some v) (k : Q v H) : rIxL K (.ref p) (.int i) H Q := ⟨p, xs, i, v, rfl, rfl, h, a, k⟩
theorem ixT {p : Addr} {xs : List V} {i : Int} {v : V} (h : SqT K H p xs) (a : atI xs i = some v) (k : Q v H) : rIxT K (.ref p) (.int i) H Q := ⟨p, xs, i, v, rfl, rfl, h, a, k⟩
theorem ixS {z : Str} {i : Int} {c : Nat} (h : z.length ≤ sizeLine) (a : atI z.cps.toList i = some c) (k : Q (.str ⟨#[c]⟩) H) : rIxS (.str z) (.int i) H Q := ⟨z, i, c, rfl, rfl, h, a, k⟩
theorem aNil (k : QA [] H) : tNil σ H QA := k
theorem aCons {tr : TA} (k : ta σ H fun x H1 => tr σ H1 fun xs H2 => QA (x :: xs) H2) : tCons ta tr σ H QA := k
theorem cb {r : List V → Hp → VK → Prop} {t : TA} (k : t σ H fun vs H1 => r vs H1 Q) : tCB r t σ H Q := k
theorem call {sp : Sp} {dvs : List V} {E : XK} {t : TA} (k : t σ H fun vs H1 => sp (vs ++ dvs) H1 Q E) : tCall sp dvs E t σ H Q := k
theorem tup {t : TA} (k : t σ H fun xs H1 => xs.length ≤ sizeLine ∧ ∀ p, H1 p = none → Q (.ref p) (upd H1 p (.tup xs))) : tTup t σ H Q := k
theorem lst {t : TA} (k : t σ H fun xs H1 => xs.length ≤ sizeLine ∧ ∀ p, H1 p = none → Q (.ref p) (upd H1 p (.lst xs))) : tLst t σ H Q := k
theorem ifE (k : tt σ H fun c H1 => if c = true then ta σ H1 Q else tb σ H1 Q) : tIf tt ta tb σ H Q := k
theorem ifS (k : tt σ H fun b H1 => if b = true then ts D σ H1 else tr D σ H1) : tIfS tt ts tr D σ H := k
theorem seq (k : ts { D with nx := tr D } σ H) : tSeq ts tr D σ H := k
theorem next (k : D.nx σ H) : tNext D σ H := k
theorem asg {g : TG} (k : te σ H fun x H1 => g x σ H1 D.nx) : tAsg te g D σ H := k
theorem gname {i : Nat} {v : V} {σ' : L2.St} (e : σ.set i (some v) = σ') (k : QS σ' H) : gName i v σ H QS := by
  show QS (σ.set i (some v)) H
  rw [e]
  exact k
theorem gsub {to ti : TE} {t : TSet} {v : V} (k : to σ H fun o H1 => ti σ H1 fun i H2 => t o i v H2 fun H3 => QS σ H3) : gSub to ti t v σ H QS := k
theorem setL {p : Addr} {xs : List V} {n : Int} {j : Nat} {v : V} {QH : Hp → Prop} (h : H p = some (.lst xs)) (e : ixN xs.length n = some j) (k : QH (upd H p (.lst (xs.set j v)))) : rSetL (.ref p) (.int n) v H QH := ⟨p, xs, n, j, rfl, rfl, h, e, k⟩
theorem ret (k : te σ H D.rt) : tRet te D σ H := k
theorem drop (k : te σ H fun _ H1 => D.nx σ H1) : tDrop te D σ H := k
theorem par {i j : Nat} {t : TA} (k : t σ H fun vs H1 => ∃ v w, vs = [v, w] ∧ D.nx ((σ.set i (some v)).set j (some w)) H1) : tPar i j t D σ H := k
theorem andT (k : tt σ H fun b H1 => if b = true then tu σ H1 QB else QB false H1) : tAnd tt tu σ H QB := k
theorem orT (k : tt σ H fun b H1 => if b = true then QB true H1 else tu σ H1 QB) : tOr tt tu σ H QB := k
theorem notT (k : tt σ H fun b H1 => QB (!b) H1) : tNot tt σ H QB := k
theorem abs {i : Int} (k : Q (.int (if i < 0 then -i else i)) H) : rAbs [.int i] H Q := ⟨i, rfl, k⟩
theorem intI {i : Int} (k : Q (.int i) H) : rInt1 [.int i] H Q := .inl ⟨i, rfl, k⟩
theorem intB {b : Bool} (k : Q (.int (if b then 1 else 0)) H) : rInt1 [.bl b] H Q := .inr ⟨b, rfl, k⟩
theorem lenL {p : Addr} {ys : List V} (h : SqL K H p ys) (k : Q (.int ys.length) H) : rLen K [.ref p] H Q := ⟨p, ys, rfl, .inl h, k⟩
theorem lenT {p : Addr} {ys : List V} (h : SqT K H p ys) (k : Q (.int ys.length) H) : rLen K [.ref p] H Q := ⟨p, ys, rfl, .inr h, k⟩
theorem listOf {p : Addr} {ys : List V} (h : SqL K H p ys) (k : ∀ l, H l = none → Q (.ref l) (upd H l (.lst ys))) : rListOf K [.ref p] H Q := ⟨p, ys, rfl, .inl h, k⟩
theorem listOfT {p : Addr} {ys : List V} (h : SqT K H p ys) (k : ∀ l, H l = none → Q (.ref l) (upd H l (.lst ys))) : rListOf K [.ref p] H Q := ⟨p, ys, rfl, .inr h, k⟩
theorem addT {i j : Str} (h : i.length + j.length ≤ sizeLine) (k : Q (.str (i ++ j)) H) : rAddT (.str i) (.str j) H Q := ⟨i, j, rfl, rfl, h, k⟩
theorem strI {i : Int} (h : i.natAbs.log2 < 1920) (k : Q (.str (toString i)) H) : rStrI [.int i] H Q := ⟨i, rfl, h, k⟩
theorem inL {neg : Bool} {x : V} {p : Addr} {xs : List V} (h : SqL K H p xs) (f1 : flatV x = true) (f2 : xs.all flatV = true) (k : Q (.bl (if neg then !inV x xs else inV x xs)) H) : rIn K neg x (.ref p) H Q := ⟨p, xs, rfl, .inl h, f1, f2, k⟩
theorem inT {neg : Bool} {x : V} {p : Addr} {xs : List V} (h : SqT K H p xs) (f1 : flatV x = true) (f2 : xs.all flatV = true) (k : Q (.bl (if neg then !inV x xs else inV x xs)) H) : rIn K neg x (.ref p) H Q := ⟨p, xs, rfl, .inr h, f1, f2, k⟩
theorem app {l : Addr} {xs : List V} {y : V} (h : H l = some (.lst xs)) (z : xs.length < sizeLine) (k : Q .non (upd H l (.lst (xs ++ [y])))) : rAppend (.ref l) [y] H Q := ⟨l, xs, y, rfl, rfl, h, z, k⟩
theorem bm {T : String} {r : V → List V → Hp → VK → Prop} {to : TE} {t : TA} (k : to σ H fun x H1 => tyV K T x H1 ∧ t σ H1 fun vs H2 => r x vs H2 Q) : tBM K T r to t σ H Q := k
theorem tyL {l : Addr} {xs : List V} {A : Prop} (h : H l = some (.lst xs)) (k : A) : tyV K "list" (.ref l) H ∧ A := ⟨.inl ⟨rfl, xs, .inl (.inl h)⟩, k⟩
theorem gtup {a : Addr} {n : Nat} {t : TGs} {xs : List V} (h : SqT K H a xs) (e : xs.length = n) (k : t xs σ H QS) : gTup K n t (.ref a) σ H QS := ⟨a, xs, rfl, h, e, k⟩
theorem gcons {t : TG} {u : TGs} {v : V} {r : List V} (k : t v σ H fun σ' H' => u r σ' H' QS) : gCons t u (v :: r) σ H QS := ⟨v, r, rfl, k⟩
theorem gnil (k : QS σ H) : gNil [] σ H QS := ⟨rfl, k⟩
theorem sl {r : V → Option Int → Option Int → Hp → VK → Prop} {tl th : TO} (k : ta σ H fun x H1 => tl σ H1 fun l H2 => th σ H2 fun u H3 => r x l u H3 Q) : tSl r ta tl th σ H Q := k
theorem noPart {QO : Option Int → Hp → Prop} (k : QO none H) : tNoPart σ H QO := k
theorem part {QO : Option Int → Hp → Prop} (k : ta σ H fun x H1 => ∃ i, x = .int i ∧ QO (some i) H1) : tPart ta σ H QO := k
theorem partI {i : Int} {QP : Int → Prop} (k : QP i) : ∃ j, V.int i = .int j ∧ QP j := ⟨i, rfl, k⟩
theorem slS {z : Str} {lo hi : Option Int} (h : z.length ≤ sizeLine) (k : Q (.str (cutS z lo hi)) H) : rSlS (.str z) lo hi H Q := ⟨z, rfl, h, k⟩
theorem forS {wi : TI} {g : TG} (k : wi σ H fun J H1 => ∃ W : Nat → Nat → L2.St → Hp → Prop, (∃ m, W 0 m σ H1) ∧ ∀ i m σ H, W i m σ H →
  (J.stop i H ∧ D.nx σ H) ∨ (J.go i H ∧ ∃ Nx : L2.St → Hp → Prop, (∀ σ' H', Nx σ' H' → ∃ m', m' < m ∧ W (i + 1) m' σ' H') ∧ ∀ x H', J.yld i H x H' → g x σ H' fun σ2 H2 => ts { D with nx := Nx, ct := Nx, bk := D.nx } σ2 H2)) : tFor wi g ts D σ H := k
theorem rng1 {ta : TA} {R : It → Hp → Prop} (k : ta σ H fun vs H1 => ∃ j : Int, vs = [.int j] ∧ -(2 ^ 62) ≤ j ∧ j < 2 ^ 62 ∧ R (Itr 0 j.toNat) H1) : iRng1 ta σ H R := k
theorem forR {lo : Int} {n : Nat} {g : TG} {A : L2.St → Hp → Prop} {R : V → Hp → Prop} (Pv : Nat → L2.St → Hp → Prop) (h0 : Pv 0 σ H)
    (hs : ∀ i σ H, i < n → Pv i σ H → g (.int (lo + i)) σ H fun σ2 H2 => ts { nx := Pv (i + 1), rt := R, bk := A, ct := Pv (i + 1) } σ2 H2) (hd : ∀ σ H, Pv n σ H → A σ H) :
    ∃ W : Nat → Nat → L2.St → Hp → Prop, (∃ m, W 0 m σ H) ∧ ∀ i m σ H, W i m σ H →
      ((Itr lo n).stop i H ∧ A σ H) ∨ ((Itr lo n).go i H ∧ ∃ N : L2.St → Hp → Prop, (∀ σ' H', N σ' H' → ∃ m', m' < m ∧ W (i + 1) m' σ' H') ∧ ∀ x H', (Itr lo n).yld i H x H' → g x σ H' fun σ2 H2 => ts { nx := N, rt := R, bk := A, ct := N } σ2 H2) :=
  for_range (D := { nx := A, rt := R, bk := A, ct := A }) Pv h0 hs hd
theorem forL {K : PySem.W.Frag} {a : Addr} {xs : List V} {g : TG} {A : L2.St → Hp → Prop} {R : V → Hp → Prop} (Pv : Nat → L2.St → Hp → Prop) (h0 : Pv 0 σ H) (hl : ∀ i σ H, i ≤ xs.length → Pv i σ H → SqL K H a xs)
    (hs : ∀ i x σ H, xs[i]? = some x → Pv i σ H → g x σ H fun σ2 H2 => ts { nx := Pv (i + 1), rt := R, bk := A, ct := Pv (i + 1) } σ2 H2) (hd : ∀ σ H, Pv xs.length σ H → A σ H) :
    ∃ W : Nat → Nat → L2.St → Hp → Prop, (∃ m, W 0 m σ H) ∧ ∀ i m σ H, W i m σ H →
      ((Itl K a).stop i H ∧ A σ H) ∨ ((Itl K a).go i H ∧ ∃ N : L2.St → Hp → Prop, (∀ σ' H', N σ' H' → ∃ m', m' < m ∧ W (i + 1) m' σ' H') ∧ ∀ x H', (Itl K a).yld i H x H' → g x σ H' fun σ2 H2 => ts { nx := N, rt := R, bk := A, ct := N } σ2 H2) :=
  for_list (D := { nx := A, rt := R, bk := A, ct := A }) Pv h0 hl hs hd
theorem forT {K : PySem.W.Frag} {a : Addr} {xs : List V} {g : TG} {A : L2.St → Hp → Prop} {R : V → Hp → Prop} (Pv : Nat → L2.St → Hp → Prop) (h0 : Pv 0 σ H) (hl : ∀ i σ H, i ≤ xs.length → Pv i σ H → SqT K H a xs)
    (hs : ∀ i x σ H, xs[i]? = some x → Pv i σ H → g x σ H fun σ2 H2 => ts { nx := Pv (i + 1), rt := R, bk := A, ct := Pv (i + 1) } σ2 H2) (hd : ∀ σ H, Pv xs.length σ H → A σ H) :
    ∃ W : Nat → Nat → L2.St → Hp → Prop, (∃ m, W 0 m σ H) ∧ ∀ i m σ H, W i m σ H →
      ((Itt K a).stop i H ∧ A σ H) ∨ ((Itt K a).go i H ∧ ∃ N : L2.St → Hp → Prop, (∀ σ' H', N σ' H' → ∃ m', m' < m ∧ W (i + 1) m' σ' H') ∧ ∀ x H', (Itt K a).yld i H x H' → g x σ H' fun σ2 H2 => ts { nx := N, rt := R, bk := A, ct := N } σ2 H2) :=
  for_tup (D := { nx := A, rt := R, bk := A, ct := A }) Pv h0 hl hs hd
theorem lc {wi : TI} {g : TG} {vs : List Nat} (k : wi σ H fun J H1 => ∀ D, H1 D = none → ∃ W : Nat → Nat → Hp → Prop, (∃ m, W 0 m (upd H1 D (.lst []))) ∧ ∀ i m H, W i m H →
  (J.stop i H ∧ Q (.ref D) H) ∨ (J.go i H ∧ ∃ Nx : Hp → Prop, (∀ H', Nx H' → ∃ m', m' < m ∧ W (i + 1) m' H') ∧ ∀ x H', J.yld i H x H' → g x (wipe σ vs) H' fun σ2 H2 => wipe σ2 vs = wipe σ vs ∧ tt σ2 H2 fun b H3 =>
    if b = true then te σ2 H3 fun y H4 => ∃ acc, H4 D = some (.lst acc) ∧ acc.length < sizeLine ∧ Nx (upd H4 D (.lst (acc ++ [y]))) else Nx H3)) : tLc wi g tt te vs σ H Q := k
theorem isN {x : V} (k : Q (.bl (decide (x = .non))) H) : rIsN x .non H Q := ⟨rfl, k⟩
theorem notN {x : V} (k : Q (.bl (!decide (x = .non))) H) : rNotN x .non H Q := ⟨rfl, k⟩
theorem isi {x c : V} {t u : Value} {b : Bool} (k1 : ClsV c u) (ty : TyX K H x t) (e : PySem.W.kitOne K t u = some b) (k : Q (.bl b) H) : rIsi K [x, c] H Q := ⟨x, c, t, u, b, rfl, k1, ty, e, k⟩
theorem isiB {x : V} {m n : String} {b : Bool} (ty : TyX K H x (.type m)) (e : kitB m n = some b) (k : Q (.bl b) H) : rIsi K [x, .ty n] H Q := isi (.ty n) ty (kit_ty e) k
theorem eqD {x y : V} {d e : PyData} (a : Dp K H x d) (b : Dp K H y e) (s1 : SeqAt.shaped d = true) (s2 : SeqAt.shaped e = true) (k : Q (.bl (PyData.eqv d e)) H) : rEqD K x y H Q := ⟨d, e, a, b, s1, s2, k⟩
theorem neD {x y : V} {d e : PyData} (a : Dp K H x d) (b : Dp K H y e) (s1 : SeqAt.shaped d = true) (s2 : SeqAt.shaped e = true) (k : Q (.bl (!PyData.eqv d e)) H) : rNeD K x y H Q := ⟨d, e, a, b, s1, s2, k⟩
theorem andV (k : ta σ H fun x H1 => ∃ c, x = .bl c ∧ if c = true then tb σ H1 Q else Q (.bl false) H1) : tAndV ta tb σ H Q := k
theorem orV (k : ta σ H fun x H1 => ∃ c, x = .bl c ∧ if c = true then Q (.bl true) H1 else tb σ H1 Q) : tOrV ta tb σ H Q := k
theorem notV (k : ta σ H fun x H1 => ∃ c, x = .bl c ∧ Q (.bl (!c)) H1) : tNotV ta σ H Q := k
theorem yes (k : QB true H) : tYes σ H QB := k
end
end Gk
namespace K60
open PySem L2
abbrev D := PyData
def tyn : D → String
  | .none => "NoneType" | .bool _ => "bool" | .int _ => "int" | .str _ => "str" | .list _ => "list" | .tuple _ => "tuple" | .dict _ => "dict"
def isNum : D → Bool
  | .bool _ => true | .int _ => true | _ => false
def isBl : D → Bool
  | .bool _ => true | _ => false
def isTu : D → Bool
  | .tuple _ => true | _ => false
def isIntD : D → Bool
  | .int _ => true | _ => false
section
variable {K : PySem.W.Frag} {H : Hp} {x : V} {d : D} {Q : VK}
theorem Dp.tyx (h : Dp K H x d) : TyX K H x (.type (tyn d)) := by
  cases h with
  | non => exact .base .non
  | bl b => exact .base (.bl b)
  | int i => exact .base (.int i)
  | str z => exact .base (.str z)
  | lst hs _ =>
    rcases hs with (hs | ⟨_, hs⟩) | ⟨o, its, n, h1, h2, _⟩
    · exact .base (.lst hs)
    · exact .base (.frz hs)
    · exact .kList h1 h2
  | tup hs _ =>
    rcases hs with (hs | ⟨_, hs⟩) | ⟨o, its, n, h1, h2, _⟩
    · exact .base (.tup hs)
    · exact .fTuple hs
    · exact .kTuple h1 h2
theorem Dp.noD (h : Dp K H x d) : ∀ kvs, d ≠ .dict kvs := by
  intro kvs e
  subst e
  cases h
theorem kit_i (hd : ∀ kvs, d ≠ .dict kvs) : kitB (tyn d) "int" = some (isNum d) := by
  cases d with
  | dict kvs => exact absurd rfl (hd kvs)
  | none => exact (show kitB "NoneType" "int" = some false by decide +kernel)
  | bool b => exact (show kitB "bool" "int" = some true by decide +kernel)
  | int b => exact (show kitB "int" "int" = some true by decide +kernel)
  | str b => exact (show kitB "str" "int" = some false by decide +kernel)
  | list b => exact (show kitB "list" "int" = some false by decide +kernel)
  | tuple b => exact (show kitB "tuple" "int" = some false by decide +kernel)
theorem kit_b (hd : ∀ kvs, d ≠ .dict kvs) : kitB (tyn d) "bool" = some (isBl d) := by
  cases d with
  | dict kvs => exact absurd rfl (hd kvs)
  | none => exact (show kitB "NoneType" "bool" = some false by decide +kernel)
  | bool b => exact (show kitB "bool" "bool" = some true by decide +kernel)
  | int b => exact (show kitB "int" "bool" = some false by decide +kernel)
  | str b => exact (show kitB "str" "bool" = some false by decide +kernel)
  | list b => exact (show kitB "list" "bool" = some false by decide +kernel)
  | tuple b => exact (show kitB "tuple" "bool" = some false by decide +kernel)
theorem kit_t (hd : ∀ kvs, d ≠ .dict kvs) : kitB (tyn d) "tuple" = some (isTu d) := by
  cases d with
  | dict kvs => exact absurd rfl (hd kvs)
  | none => exact (show kitB "NoneType" "tuple" = some false by decide +kernel)
  | bool b => exact (show kitB "bool" "tuple" = some false by decide +kernel)
  | int b => exact (show kitB "int" "tuple" = some false by decide +kernel)
  | str b => exact (show kitB "str" "tuple" = some false by decide +kernel)
  | list b => exact (show kitB "list" "tuple" = some false by decide +kernel)
  | tuple b => exact (show kitB "tuple" "tuple" = some true by decide +kernel)
theorem isiI (h : Dp K H x d) (k : Q (.bl (isNum d)) H) : rIsi K [x, .ty "int"] H Q := Gk.isiB (Dp.tyx h) (kit_i (Dp.noD h)) k
theorem isiBo (h : Dp K H x d) (k : Q (.bl (isBl d)) H) : rIsi K [x, .ty "bool"] H Q := Gk.isiB (Dp.tyx h) (kit_b (Dp.noD h)) k
theorem isiT (h : Dp K H x d) (k : Q (.bl (isTu d)) H) : rIsi K [x, .ty "tuple"] H Q := Gk.isiB (Dp.tyx h) (kit_t (Dp.noD h)) k
theorem DpAll.get : ∀ {xs : List V} {ds : List D}, DpAll K H xs ds → ∀ (n : Nat) (e : D), ds[n]? = some e → ∃ v, xs[n]? = some v ∧ Dp K H v e
  | _, _, .nil, _, _, h => nomatch h
  | _, _, .cons a b, 0, e, h => ⟨_, rfl, by cases h; exact a⟩
  | _, _, .cons a b, n + 1, e, h => DpAll.get b n e h
theorem DpAll.len : ∀ {xs : List V} {ds : List D}, DpAll K H xs ds → xs.length = ds.length
  | _, _, .nil => rfl
  | _, _, .cons _ b => congrArg Nat.succ (DpAll.len b)
/-- an item of a tuple -/
theorem ixD {ds : List D} {n : Nat} {e : D} (h : Dp K H x (.tuple ds)) (a : ds[n]? = some e) (k : ∀ v, Dp K H v e → Q v H) : rIxT K x (.int n) H Q := by
  cases h with
  | tup hs ha =>
    obtain ⟨v, h1, h2⟩ := DpAll.get ha n e a
    exact Gk.ixT hs (atI_nat h1) (k v h2)
theorem lenD {ds : List D} (h : Dp K H x (.tuple ds)) (k : Q (.int ds.length) H) : Gk.rLen K [x] H Q := by
  cases h with
  | tup hs ha => exact Gk.lenT hs (by rw [DpAll.len ha]; exact k)
theorem eqI {i j : Int} (k : Q (.bl (decide (i = j))) H) : rEq (.int i) (.int j) H Q := by
  refine Gk.eqv rfl ?_
  have e : decide (V.int i = V.int j) = decide (i = j) := by
    by_cases h : i = j
    · subst h; simp
    · rw [decide_eq_false h, decide_eq_false (fun z => h (V.int.inj z))]
  rw [e]
  exact k
theorem isTu_of (h : isTu d = true) : ∃ ds, d = .tuple ds := by
  cases d with
  | tuple ds => exact ⟨ds, rfl⟩
  | _ => cases h
theorem isInt_of (h : isIntD d = true) : ∃ i, d = .int i := by
  cases d with
  | int i => exact ⟨i, rfl⟩
  | _ => cases h
theorem Dp.int_inv {i : Int} (h : Dp K H x (.int i)) : x = .int i := by cases h; rfl
end
/-! ### what the parts of the program say, over data -/
def within : D → Int → Int → Bool
  | .int i, lo, hi => decide (lo ≤ i) && decide (i ≤ hi)
  | _, _, _ => false
def isZero : D → Bool
  | .int i => decide (i = 0)
  | _ => false
def isAtom : D → Bool
  | .tuple [a, b, c] => within a 0 1 && (if isZero a = true then within b (-1) 399 && within c 0 12 else within b 0 239 && within c 0 3)
  | _ => false
def isOrigin : D → Bool
  | .none => true
  | .tuple [a, b] => within a 0 239 && within b 0 29
  | _ => false
theorem isAtom_len {ds : List D} (h : ds.length ≠ 3) : isAtom (.tuple ds) = false := by
  match ds, h with
  | [], _ => rfl
  | [_], _ => rfl
  | [_, _], _ => rfl
  | [_, _, _], h => exact absurd rfl h
  | _ :: _ :: _ :: _ :: _, _ => rfl
theorem isOrigin_len {ds : List D} (h : ds.length ≠ 2) : isOrigin (.tuple ds) = false := by
  match ds, h with
  | [], _ => rfl
  | [_], _ => rfl
  | [_, _], h => exact absurd rfl h
  | _ :: _ :: _ :: _, _ => rfl
theorem len3 {ds : List D} (h : ds.length = 3) : ∃ a b c, ds = [a, b, c] := by
  match ds, h with
  | [a, b, c], _ => exact ⟨a, b, c, rfl⟩
theorem len2 {ds : List D} (h : ds.length = 2) : ∃ a b, ds = [a, b] := by
  match ds, h with
  | [a, b], _ => exact ⟨a, b, rfl⟩
theorem within_int {d : D} {lo hi : Int} (h : within d lo hi = true) : ∃ i, d = .int i ∧ lo ≤ i ∧ i ≤ hi := by
  cases d with
  | int i =>
    have h2 := Bool.and_eq_true_iff.mp h
    exact ⟨i, rfl, of_decide_eq_true h2.1, of_decide_eq_true h2.2⟩
  | _ => cases h
end K60
namespace K60
open PySem L2
section
variable {K : PySem.W.Frag} {σ : L2.St} {H : Hp} {ta tb tc : TE} {Q : VK}
theorem chain {r r' : R2} (k : ta σ H fun x H1 => tb σ H1 fun y H2 => r x y H2 fun z H3 => ∃ k, z = .bl k ∧ (if k = true then tc σ H3 fun w' H4 => r' y w' H4 Q else Q (.bl false) H3)) : tChain r r' ta tb tc σ H Q := k
theorem neI {i j : Int} (k : Q (.bl (!decide (i = j))) H) : rNe (.int i) (.int j) H Q := by
  refine Gk.nev rfl ?_
  have e : decide (V.int i = V.int j) = decide (i = j) := by
    by_cases h : i = j
    · subst h; simp
    · rw [decide_eq_false h, decide_eq_false (fun z => h (V.int.inj z))]
  rw [e]
  exact k
end
local macro_rules | `(tactic| walk_at "sq") => `(tactic| first | assumption | exact SqL.of (by assumption) | exact SqT.of (by assumption) | exact SqL.of upd_same | exact SqT.of upd_same)
local macro_rules | `(tactic| walk_at "go1") => `(tactic| first
  | (with_reducible refine' Gk.seq ?_)
  | ((with_reducible refine' Gk.var ?hgo ?_); (case hgo => exact rfl))
  | (with_reducible refine' Gk.con ?_)
  | (with_reducible refine' Gk.op ?_)
  | (with_reducible refine' Gk.i0 ?_)
  | (with_reducible refine' Gk.un ?_)
  | ((with_reducible refine' Gk.i1 (C := CMul) ?hgo ?_); (case hgo => first | exact .inl ⟨by decide, by decide⟩ | exact .inr ⟨by decide, by decide⟩ | exact .inl ⟨by omega, by omega⟩ | exact .inr ⟨by omega, by omega⟩))
  | ((with_reducible refine' Gk.i1 (C := CDiv) ?hgo ?_); (case hgo => exact ⟨by omega, by omega⟩))
  | ((with_reducible refine' Gk.i1 (C := CPow) ?hgo ?_); (case hgo => exact ⟨by decide, by decide, by decide⟩))
  | ((with_reducible refine' Gk.i1 (C := fun _ j => 0 < j) ?hgo ?_); (case hgo => show (0 : Int) < _; omega))
  | (with_reducible refine' Gk.u1 ?_)
  | (with_reducible refine' Gk.test ?_)
  | (with_reducible refine' Gk.testB ?_)
  | (with_reducible refine' Gk.asB ?_)
  | (with_reducible refine' K60.eqI ?_)
  | (with_reducible refine' K60.neI ?_)
  | ((with_reducible refine' Gk.eqv ?hgo ?_); (case hgo => exact rfl))
  | ((with_reducible refine' Gk.nev ?hgo ?_); (case hgo => exact rfl))
  | ((with_reducible refine' Gk.ixL ?hgo ?hga ?_); (case hgo => walk_at "sq"); (case hga => first | exact rfl | assumption))
  | ((with_reducible refine' Gk.ixT ?hgo ?hga ?_); (case hgo => walk_at "sq"); (case hga => first | exact rfl | assumption))
  | (with_reducible refine' Gk.aNil ?_)
  | (with_reducible refine' Gk.aCons ?_)
  | (with_reducible refine' Gk.cb ?_)
  | (with_reducible refine' Gk.call ?_)
  | (with_reducible refine' Gk.tup ?_)
  | (with_reducible refine' Gk.lst ?_)
  | (with_reducible refine' Gk.ifE ?_)
  | (with_reducible refine' Gk.ifS ?_)
  | (with_reducible refine' Gk.next ?_)
  | (with_reducible refine' Gk.asg ?_)
  | ((with_reducible refine' Gk.gname ?hgo ?_); (case hgo => exact rfl))
  | (with_reducible refine' Gk.gsub ?_)
  | ((with_reducible refine' Gk.setL ?hgo ?hga ?_); (case hgo => first | assumption | exact upd_same); (case hga => first | exact rfl | assumption))
  | (with_reducible refine' Gk.ret ?_)
  | (with_reducible refine' Gk.drop ?_)
  | (with_reducible refine' Gk.par ?_)
  | (with_reducible refine' Gk.andT ?_)
  | (with_reducible refine' Gk.orT ?_)
  | (with_reducible refine' Gk.notT ?_)
  | (with_reducible refine' Gk.abs ?_)
  | (with_reducible refine' Gk.intI ?_)
  | (with_reducible refine' Gk.intB ?_)
  | ((with_reducible refine' Gk.lenL ?hgo ?_); (case hgo => walk_at "sq"))
  | ((with_reducible refine' Gk.lenT ?hgo ?_); (case hgo => walk_at "sq"))
  | ((with_reducible refine' K60.lenD ?hgo ?_); (case hgo => assumption))
  | (with_reducible refine' K60.zipA ?_)
  | (with_reducible refine' K60.listI ?_)
  | (with_reducible refine' K60.tupI ?_)
  | (with_reducible refine' K60.dget2 ?_)
  | (with_reducible refine' K60.dget ?_)
  | (with_reducible refine' K60.dput ?_)
  | ((with_reducible refine' K60.aug ?hgo ?_); (case hgo => exact rfl))
  | (with_reducible refine' K60.ipI ?_)
  | (with_reducible refine' K60.newT ?_)
  | (with_reducible refine' Gk.bm ?_)
  | ((with_reducible refine' Gk.tyL ?hgo ?_); (case hgo => first | assumption | exact upd_same))
  | ((with_reducible refine' Gk.gtup ?hgo ?hga ?_); (case hgo => walk_at "sq"); (case hga => exact rfl))
  | (with_reducible refine' Gk.gcons ?_)
  | (with_reducible refine' Gk.gnil ?_)
  | (with_reducible refine' Gk.sl ?_)
  | (with_reducible refine' Gk.noPart ?_)
  | (with_reducible refine' Gk.part ?_)
  | (with_reducible refine' Gk.partI ?_)
  | (with_reducible refine' Gk.lc ?_)
  | (with_reducible refine' Gk.rng1 ?_)
  | (with_reducible refine' Gk.forS ?_)
  | (with_reducible refine' Gk.isN ?_)
  | (with_reducible refine' Gk.notN ?_)
  | (with_reducible refine' Gk.andV ?_)
  | (with_reducible refine' Gk.orV ?_)
  | (with_reducible refine' Gk.notV ?_)
  | (with_reducible refine' K60.chain ?_)
  | ((with_reducible refine' K60.isiI ?hgo ?_); (case hgo => assumption))
  | ((with_reducible refine' K60.isiBo ?hgo ?_); (case hgo => assumption))
  | ((with_reducible refine' K60.isiT ?hgo ?_); (case hgo => assumption))
  | ((with_reducible refine' Gk.isiB ?hgo ?hga ?_); (case hgo => exact .base (.non)); (case hga => first | exact (show kitB _ _ = some true by decide +kernel) | exact (show kitB _ _ = some false by decide +kernel)))
  | ((with_reducible refine' Gk.isiB ?hgo ?hga ?_); (case hgo => exact .base (.int _)); (case hga => first | exact (show kitB _ _ = some true by decide +kernel) | exact (show kitB _ _ = some false by decide +kernel)))
  | ((with_reducible refine' Gk.isiB ?hgo ?hga ?_); (case hgo => exact .base (.str _)); (case hga => first | exact (show kitB _ _ = some true by decide +kernel) | exact (show kitB _ _ = some false by decide +kernel)))
  | ((with_reducible refine' Gk.isiB ?hgo ?hga ?_); (case hgo => exact .base (.bl _)); (case hga => first | exact (show kitB _ _ = some true by decide +kernel) | exact (show kitB _ _ = some false by decide +kernel)))
  | ((with_reducible refine' Gk.isiB ?hgo ?hga ?_); (case hgo => exact .base (.tup (by assumption))); (case hga => first | exact (show kitB _ _ = some true by decide +kernel) | exact (show kitB _ _ = some false by decide +kernel)))
  | ((with_reducible refine' Gk.isiB ?hgo ?hga ?_); (case hgo => exact .base (.lst (by assumption))); (case hga => first | exact (show kitB _ _ = some true by decide +kernel) | exact (show kitB _ _ = some false by decide +kernel)))
  | ((with_reducible refine' Gk.iteT ?hgo ?_); (case hgo => exact rfl))
  | ((with_reducible refine' Gk.iteF ?hgo ?_); (case hgo => exact rfl))
  | (with_reducible refine' Gk.yes ?_)
  | (dsimp only))

def top (i : Nat) : Stmt := PySem.Challenge.pw_cellspaid_k60_showings_judged.main.body.getD i (.Pass ⟨0, 0, 0, 0⟩)
def Cl (P : Program) (w : World) (K : PySem.W.Frag) (mg : Str → Option Value) (base : Heap) (x : Str) (ps : List Str) (k : Nat) (sp : Sp) : Prop :=
  ∃ f fd, mg x = some (.ref f) ∧ PySem.W.keepIn K (.ref f) = true ∧ Binds K fd ps [] ∧ FnOk P w K mg base CX0 k f fd ps sp
def Has (K : PySem.W.Frag) (mg : Str → Option Value) (x : Str) (st : Stmt) : Prop := ∃ f fd, mg x = some (.ref f) ∧ Fun K x x st f fd
structure Glo (mg : Str → Option Value) : Prop where
  abs : mg "abs" = none
  all : mg "all" = none
  bool : mg "bool" = none
  int : mg "int" = none
  isinstance : mg "isinstance" = none
  len : mg "len" = none
  list : mg "list" = none
  min : mg "min" = none
  range : mg "range" = none
  sorted : mg "sorted" = none
  tuple : mg "tuple" = none
  zip : mg "zip" = none
  LAST_ROW : ∃ t, mg "LAST_ROW" = some (.int 239 t)
  LAST_VARIABLE : ∃ t, mg "LAST_VARIABLE" = some (.int 399 t)
  LAST_NUMBER : ∃ t, mg "LAST_NUMBER" = some (.int 12 t)
  LAST_CLAIM : ∃ t, mg "LAST_CLAIM" = some (.int 29 t)
  LAST_SUM : ∃ t, mg "LAST_SUM" = some (.int 3 t)
  MOST_HINTS : ∃ t, mg "MOST_HINTS" = some (.int 8000 t)
abbrev sIsInt : Stmt := top 6
theorem scIsInt : FnScope ["x"] ["x"] (defScope sIsInt) := ⟨rfl, rfl, rfl, by decide +kernel, rfl, by decide +kernel, by decide +kernel⟩
abbrev sWithin : Stmt := top 7
theorem scWithin : FnScope ["x", "low", "high"] ["x", "low", "high"] (defScope sWithin) := ⟨rfl, rfl, rfl, by decide +kernel, rfl, by decide +kernel, by decide +kernel⟩
abbrev sIsAtom : Stmt := top 16
theorem scIsAtom : FnScope ["thing"] ["thing"] (defScope sIsAtom) := ⟨rfl, rfl, rfl, by decide +kernel, rfl, by decide +kernel, by decide +kernel⟩
abbrev sIsOrigin : Stmt := top 19
theorem scIsOrigin : FnScope ["thing"] ["thing"] (defScope sIsOrigin) := ⟨rfl, rfl, rfl, by decide +kernel, rfl, by decide +kernel, by decide +kernel⟩
def spIsInt (K : PySem.W.Frag) : Sp := fun vs H Q _ => ∃ x d, vs = [x] ∧ Dp K H x d ∧ Q (.bl (isIntD d)) H
def spWithin (K : PySem.W.Frag) : Sp := fun vs H Q _ => ∃ x d lo hi, vs = [x, .int lo, .int hi] ∧ Dp K H x d ∧ Q (.bl (within d lo hi)) H
def spOf (K : PySem.W.Frag) (p : D → Bool) : Sp := fun vs H Q _ => ∃ x d, vs = [x] ∧ Dp K H x d ∧ Q (.bl (p d)) H
section
variable {P : Program} {w : World} {K : PySem.W.Frag} {mg : Str → Option Value} {base : Heap}
theorem cl_is_int (T : Glo mg) (h : Has K mg "is_int" sIsInt) : Cl P w K mg base "is_int" ["x"] 1 (spOf K isIntD) := by
  obtain ⟨f, fd, m_, F⟩ := h
  refine ⟨f, fd, m_, F.kp, F.binds (ps := ["x"]) fun _ _ _ _ _ _ us hl => match us, hl with | [_], _ => rfl, ?_⟩
  refine F.ok scIsInt (fun vs H Q E h => ?_) (fun cdv A outer s H vs Q E hr h => ?_)
  · obtain ⟨x, d, rfl, _⟩ := h
    rfl
  · obtain ⟨x, d, rfl, hd, k⟩ := h
    refine ⟨_, (pss_one (ps_ret (pe_and (pe_callB (Gk.eIsi K) (by rfl) T.isinstance (by decide +kernel) (pa_cons (pv 0) (pa_cons (pe_bltn (v := .ty "int") (by rfl) T.int (by decide +kernel) rfl) pa_nil))) (pe_one (pe_not (pe_callB (Gk.eIsi K) (by rfl) T.isinstance (by decide +kernel) (pa_cons (pv 0) (pa_cons (pe_bltn (v := .ty "bool") (by rfl) T.bool (by decide +kernel) rfl) pa_nil)))))))), ?_⟩
    repeat walk_at "go1"
    refine Gk.iteQ (fun hn => ?_) (fun hn => ?_)
    · repeat walk_at "go1"
      have e : (!isBl d) = isIntD d := by cases d <;> first | rfl | cases hn
      rw [e]
      exact k
    · have e : isIntD d = false := by cases d <;> first | rfl | cases hn
      rw [e] at k
      exact k
theorem cl_within (T : Glo mg) (h : Has K mg "within" sWithin) (c_IsInt : Cl P w K mg base "is_int" ["x"] 1 (spOf K isIntD)) : Cl P w K mg base "within" ["x", "low", "high"] 2 (spWithin K) := by
  obtain ⟨f_IsInt, fd_IsInt, m_IsInt, k_IsInt, b_IsInt, G_IsInt⟩ := c_IsInt
  obtain ⟨f, fd, m_, F⟩ := h
  refine ⟨f, fd, m_, F.kp, F.binds (ps := ["x", "low", "high"]) fun _ _ _ _ _ _ us hl => match us, hl with | [_, _, _], _ => rfl, ?_⟩
  refine F.ok scWithin (fun vs H Q E h => ?_) (fun cdv A outer s H vs Q E hr h => ?_)
  · obtain ⟨x, d, lo, hi, rfl, _⟩ := h
    rfl
  · obtain ⟨x, d, lo, hi, rfl, hd, k⟩ := h
    refine ⟨_, (pss_one (ps_ret (pe_and (pe_call G_IsInt (hr.mono (by omega)) rfl m_IsInt k_IsInt b_IsInt .nil pass0 (pa_cons (pv 0) pa_nil)) (pe_one (pe_chain op_le op_le (pv 1) (pv 0) (pv 2)))))), ?_⟩
    repeat walk_at "go1"
    refine ⟨x, d, rfl, hd, _, rfl, Gk.iteQ (fun hn => ?_) (fun hn => ?_)⟩
    · obtain ⟨i, rfl⟩ := isInt_of hn
      cases Dp.int_inv hd
      repeat walk_at "go1"
      refine Gk.iteQ (fun h1 => ?_) (fun h1 => ?_)
      · repeat walk_at "go1"
        have e : within (.int i) lo hi = decide (i ≤ hi) := by show (decide (lo ≤ i) && decide (i ≤ hi)) = _; rw [h1]; rfl
        rw [e] at k
        exact k
      · have e : within (.int i) lo hi = false := by show (decide (lo ≤ i) && decide (i ≤ hi)) = _; rw [h1]; rfl
        rw [e] at k
        exact k
    · have e : within d lo hi = false := by cases d <;> first | rfl | cases hn
      rw [e] at k
      exact k
end
end K60
namespace K60
open PySem L2
local macro_rules | `(tactic| walk_at "sq") => `(tactic| first | assumption | exact SqL.of (by assumption) | exact SqT.of (by assumption) | exact SqL.of upd_same | exact SqT.of upd_same)
local macro_rules | `(tactic| walk_at "go1") => `(tactic| first
  | (with_reducible refine' Gk.seq ?_)
  | ((with_reducible refine' Gk.var ?hgo ?_); (case hgo => exact rfl))
  | (with_reducible refine' Gk.con ?_)
  | (with_reducible refine' Gk.op ?_)
  | (with_reducible refine' Gk.i0 ?_)
  | (with_reducible refine' Gk.un ?_)
  | ((with_reducible refine' Gk.i1 (C := CMul) ?hgo ?_); (case hgo => first | exact .inl ⟨by decide, by decide⟩ | exact .inr ⟨by decide, by decide⟩ | exact .inl ⟨by omega, by omega⟩ | exact .inr ⟨by omega, by omega⟩))
  | ((with_reducible refine' Gk.i1 (C := CDiv) ?hgo ?_); (case hgo => exact ⟨by omega, by omega⟩))
  | ((with_reducible refine' Gk.i1 (C := CPow) ?hgo ?_); (case hgo => exact ⟨by decide, by decide, by decide⟩))
  | ((with_reducible refine' Gk.i1 (C := fun _ j => 0 < j) ?hgo ?_); (case hgo => show (0 : Int) < _; omega))
  | (with_reducible refine' Gk.u1 ?_)
  | (with_reducible refine' Gk.test ?_)
  | (with_reducible refine' Gk.testB ?_)
  | (with_reducible refine' Gk.asB ?_)
  | (with_reducible refine' K60.eqI ?_)
  | (with_reducible refine' K60.neI ?_)
  | ((with_reducible refine' Gk.eqv ?hgo ?_); (case hgo => exact rfl))
  | ((with_reducible refine' Gk.nev ?hgo ?_); (case hgo => exact rfl))
  | ((with_reducible refine' Gk.ixL ?hgo ?hga ?_); (case hgo => walk_at "sq"); (case hga => first | exact rfl | assumption))
  | ((with_reducible refine' Gk.ixT ?hgo ?hga ?_); (case hgo => walk_at "sq"); (case hga => first | exact rfl | assumption))
  | (with_reducible refine' Gk.aNil ?_)
  | (with_reducible refine' Gk.aCons ?_)
  | (with_reducible refine' Gk.cb ?_)
  | (with_reducible refine' Gk.call ?_)
  | (with_reducible refine' Gk.tup ?_)
  | (with_reducible refine' Gk.lst ?_)
  | (with_reducible refine' Gk.ifE ?_)
  | (with_reducible refine' Gk.ifS ?_)
  | (with_reducible refine' Gk.next ?_)
  | (with_reducible refine' Gk.asg ?_)
  | ((with_reducible refine' Gk.gname ?hgo ?_); (case hgo => exact rfl))
  | (with_reducible refine' Gk.gsub ?_)
  | ((with_reducible refine' Gk.setL ?hgo ?hga ?_); (case hgo => first | assumption | exact upd_same); (case hga => first | exact rfl | assumption))
  | (with_reducible refine' Gk.ret ?_)
  | (with_reducible refine' Gk.drop ?_)
  | (with_reducible refine' Gk.par ?_)
  | (with_reducible refine' Gk.andT ?_)
  | (with_reducible refine' Gk.orT ?_)
  | (with_reducible refine' Gk.notT ?_)
  | (with_reducible refine' Gk.abs ?_)
  | (with_reducible refine' Gk.intI ?_)
  | (with_reducible refine' Gk.intB ?_)
  | ((with_reducible refine' Gk.lenL ?hgo ?_); (case hgo => walk_at "sq"))
  | ((with_reducible refine' Gk.lenT ?hgo ?_); (case hgo => walk_at "sq"))
  | ((with_reducible refine' K60.lenD ?hgo ?_); (case hgo => assumption))
  | (with_reducible refine' K60.zipA ?_)
  | (with_reducible refine' K60.listI ?_)
  | (with_reducible refine' K60.tupI ?_)
  | (with_reducible refine' K60.dget2 ?_)
  | (with_reducible refine' K60.dget ?_)
  | (with_reducible refine' K60.dput ?_)
  | ((with_reducible refine' K60.aug ?hgo ?_); (case hgo => exact rfl))
  | (with_reducible refine' K60.ipI ?_)
  | (with_reducible refine' K60.newT ?_)
  | (with_reducible refine' Gk.bm ?_)
  | ((with_reducible refine' Gk.tyL ?hgo ?_); (case hgo => first | assumption | exact upd_same))
  | ((with_reducible refine' Gk.gtup ?hgo ?hga ?_); (case hgo => walk_at "sq"); (case hga => exact rfl))
  | (with_reducible refine' Gk.gcons ?_)
  | (with_reducible refine' Gk.gnil ?_)
  | (with_reducible refine' Gk.sl ?_)
  | (with_reducible refine' Gk.noPart ?_)
  | (with_reducible refine' Gk.part ?_)
  | (with_reducible refine' Gk.partI ?_)
  | (with_reducible refine' Gk.lc ?_)
  | (with_reducible refine' Gk.rng1 ?_)
  | (with_reducible refine' Gk.forS ?_)
  | (with_reducible refine' Gk.isN ?_)
  | (with_reducible refine' Gk.notN ?_)
  | (with_reducible refine' Gk.andV ?_)
  | (with_reducible refine' Gk.orV ?_)
  | (with_reducible refine' Gk.notV ?_)
  | (with_reducible refine' K60.chain ?_)
  | ((with_reducible refine' K60.isiI ?hgo ?_); (case hgo => assumption))
  | ((with_reducible refine' K60.isiBo ?hgo ?_); (case hgo => assumption))
  | ((with_reducible refine' K60.isiT ?hgo ?_); (case hgo => assumption))
  | ((with_reducible refine' Gk.isiB ?hgo ?hga ?_); (case hgo => exact .base (.non)); (case hga => first | exact (show kitB _ _ = some true by decide +kernel) | exact (show kitB _ _ = some false by decide +kernel)))
  | ((with_reducible refine' Gk.isiB ?hgo ?hga ?_); (case hgo => exact .base (.int _)); (case hga => first | exact (show kitB _ _ = some true by decide +kernel) | exact (show kitB _ _ = some false by decide +kernel)))
  | ((with_reducible refine' Gk.isiB ?hgo ?hga ?_); (case hgo => exact .base (.str _)); (case hga => first | exact (show kitB _ _ = some true by decide +kernel) | exact (show kitB _ _ = some false by decide +kernel)))
  | ((with_reducible refine' Gk.isiB ?hgo ?hga ?_); (case hgo => exact .base (.bl _)); (case hga => first | exact (show kitB _ _ = some true by decide +kernel) | exact (show kitB _ _ = some false by decide +kernel)))
  | ((with_reducible refine' Gk.isiB ?hgo ?hga ?_); (case hgo => exact .base (.tup (by assumption))); (case hga => first | exact (show kitB _ _ = some true by decide +kernel) | exact (show kitB _ _ = some false by decide +kernel)))
  | ((with_reducible refine' Gk.isiB ?hgo ?hga ?_); (case hgo => exact .base (.lst (by assumption))); (case hga => first | exact (show kitB _ _ = some true by decide +kernel) | exact (show kitB _ _ = some false by decide +kernel)))
  | ((with_reducible refine' Gk.iteT ?hgo ?_); (case hgo => exact rfl))
  | ((with_reducible refine' Gk.iteF ?hgo ?_); (case hgo => exact rfl))
  | (with_reducible refine' Gk.yes ?_)
  | (dsimp only))

section
variable {P : Program} {w : World} {K : PySem.W.Frag} {mg : Str → Option Value} {base : Heap}
theorem cl_is_atom (T : Glo mg) (h : Has K mg "is_atom" sIsAtom) (c_Within : Cl P w K mg base "within" ["x", "low", "high"] 2 (spWithin K)) : Cl P w K mg base "is_atom" ["thing"] 3 (spOf K isAtom) := by
  obtain ⟨f_Within, fd_Within, m_Within, k_Within, b_Within, G_Within⟩ := c_Within
  obtain ⟨f, fd, m_, F⟩ := h
  refine ⟨f, fd, m_, F.kp, F.binds (ps := ["thing"]) fun _ _ _ _ _ _ us hl => match us, hl with | [_], _ => rfl, ?_⟩
  refine F.ok scIsAtom (fun vs H Q E h => ?_) (fun cdv A outer s H vs Q E hr h => ?_)
  · obtain ⟨x, d, rfl, _⟩ := h
    rfl
  · obtain ⟨x, d, rfl, hd, k⟩ := h
    refine ⟨_, (pss_cons (ps_if (PW.pt (pw_or (pt_not (pt_val (pe_callB (Gk.eIsi K) (by rfl) T.isinstance (by decide +kernel) (pa_cons (pv 0) (pa_cons (pe_bltn (v := .ty "tuple") (by rfl) T.tuple (by decide +kernel) rfl) pa_nil))))) (pw_or (pt_cmpR op_ne (pe_callB (Gk.eLen K) (by rfl) T.len PySem.boot_len (pa_cons (pv 0) pa_nil)) pe_int (nomark _)) (pw_or1 (pt_not (pt_val (pe_call G_Within (hr.mono (by omega)) rfl m_Within k_Within b_Within .nil pass0 (pa_cons (pe_ix (Gk.eIxT K) (pv 0) pe_int (fun _ _ => rfl)) (pa_cons pe_int (pa_cons pe_int pa_nil))))))))))
    (pss_one (ps_ret pe_bl))
    pss_nil)
  (pss_cons (ps_if (pt_cmpR op_eq (pe_ix (Gk.eIxT K) (pv 0) pe_int (fun _ _ => rfl)) pe_int (nomark _))
    (pss_one (ps_ret (pe_and (pe_call G_Within (hr.mono (by omega)) rfl m_Within k_Within b_Within .nil pass0 (pa_cons (pe_ix (Gk.eIxT K) (pv 0) pe_int (fun _ _ => rfl)) (pa_cons (pe_un un_neg pe_int) (pa_cons (pe_glob (v := .int 399) (u := .int 399 T.LAST_VARIABLE.choose) rfl T.LAST_VARIABLE.choose_spec ⟨_, rfl⟩) pa_nil)))) (pe_one (pe_call G_Within (hr.mono (by omega)) rfl m_Within k_Within b_Within .nil pass0 (pa_cons (pe_ix (Gk.eIxT K) (pv 0) pe_int (fun _ _ => rfl)) (pa_cons pe_int (pa_cons (pe_glob (v := .int 12) (u := .int 12 T.LAST_NUMBER.choose) rfl T.LAST_NUMBER.choose_spec ⟨_, rfl⟩) pa_nil))))))))
    pss_nil)
  (pss_one (ps_ret (pe_and (pe_call G_Within (hr.mono (by omega)) rfl m_Within k_Within b_Within .nil pass0 (pa_cons (pe_ix (Gk.eIxT K) (pv 0) pe_int (fun _ _ => rfl)) (pa_cons pe_int (pa_cons (pe_glob (v := .int 239) (u := .int 239 T.LAST_ROW.choose) rfl T.LAST_ROW.choose_spec ⟨_, rfl⟩) pa_nil)))) (pe_one (pe_call G_Within (hr.mono (by omega)) rfl m_Within k_Within b_Within .nil pass0 (pa_cons (pe_ix (Gk.eIxT K) (pv 0) pe_int (fun _ _ => rfl)) (pa_cons pe_int (pa_cons (pe_glob (v := .int 3) (u := .int 3 T.LAST_SUM.choose) rfl T.LAST_SUM.choose_spec ⟨_, rfl⟩) pa_nil)))))))))), ?_⟩
    repeat walk_at "go1"
    refine Gk.iteQ (fun h1 => ?_) (fun h1 => ?_)
    · repeat walk_at "go1"
      have e : isAtom d = false := by cases d <;> first | rfl | cases h1
      rw [e] at k
      exact k
    obtain ⟨ds, rfl⟩ := isTu_of (d := d) (by cases hb : isTu d <;> first | rfl | (rw [hb] at h1; cases h1))
    repeat walk_at "go1"
    refine Gk.iteQ (fun h2 => ?_) (fun h2 => ?_)
    · repeat walk_at "go1"
      have e : isAtom (.tuple ds) = false := isAtom_len fun z => by rw [z] at h2; cases h2
      rw [e] at k
      exact k
    obtain ⟨a, b, c, rfl⟩ := len3 (ds := ds) (by
      by_cases z : ds.length = 3
      · exact z
      · have : decide ((ds.length : Int) = 3) = false := decide_eq_false (by omega)
        rw [this] at h2
        cases h2)
    repeat walk_at "go1"
    refine ixD (n := 0) hd rfl fun v0 h0 => ?_
    repeat walk_at "go1"
    refine ⟨v0, a, 0, 1, rfl, h0, ?_⟩
    repeat walk_at "go1"
    refine Gk.iteQ (fun h3 => ?_) (fun h3 => ?_)
    · repeat walk_at "go1"
      have e : isAtom (.tuple [a, b, c]) = false := by
        have z : within a 0 1 = false := by cases hb : within a 0 1 <;> first | rfl | (rw [hb] at h3; cases h3)
        show (within a 0 1 && _) = false
        rw [z]
        rfl
      rw [e] at k
      exact k
    have hw : within a 0 1 = true := by cases hb : within a 0 1 <;> first | rfl | (rw [hb] at h3; cases h3)
    obtain ⟨i, rfl, hi0, hi1⟩ := within_int hw
    cases Dp.int_inv h0
    have ek : isAtom (.tuple [.int i, b, c]) = if decide (i = 0) = true then within b (-1) 399 && within c 0 12 else within b 0 239 && within c 0 3 := by
      show (within (.int i) 0 1 && _) = _
      rw [hw]
      rfl
    rw [ek] at k
    repeat walk_at "go1"
    refine ixD (n := 0) hd rfl fun v0 h0 => ?_
    cases Dp.int_inv h0
    repeat walk_at "go1"
    refine Gk.iteQ (fun h4 => ?_) (fun h4 => ?_)
    · rw [h4, if_pos rfl] at k
      repeat walk_at "go1"
      refine ixD (n := 1) hd rfl fun v1 g1 => ?_
      repeat walk_at "go1"
      refine ⟨v1, b, -1, 399, rfl, g1, ?_⟩
      repeat walk_at "go1"
      refine Gk.iteQ (fun h5 => ?_) (fun h5 => ?_)
      · repeat walk_at "go1"
        refine ixD (n := 2) hd rfl fun v2 g2 => ?_
        repeat walk_at "go1"
        refine ⟨v2, c, 0, 12, rfl, g2, ?_⟩
        rw [h5] at k
        exact k
      · rw [h5] at k
        exact k
    · rw [h4, if_neg Bool.false_ne_true] at k
      repeat walk_at "go1"
      refine ixD (n := 1) hd rfl fun v1 g1 => ?_
      repeat walk_at "go1"
      refine ⟨v1, b, 0, 239, rfl, g1, ?_⟩
      repeat walk_at "go1"
      refine Gk.iteQ (fun h5 => ?_) (fun h5 => ?_)
      · repeat walk_at "go1"
        refine ixD (n := 2) hd rfl fun v2 g2 => ?_
        repeat walk_at "go1"
        refine ⟨v2, c, 0, 3, rfl, g2, ?_⟩
        rw [h5] at k
        exact k
      · rw [h5] at k
        exact k
end
end K60
namespace K60
open PySem L2
/-- t >= u of two tuples of ints -/
def lexGe (ns ms : List Int) : Bool := Ob.lexAt (fun j => decide (ns.getD j 0 = ms.getD j 0)) (fun j => decide (ms.getD j 0 ≤ ns.getD j 0)) (decide (ns.length ≥ ms.length)) 0 (min ns.length ms.length)
def rGeT (K : PySem.W.Frag) : R2 := fun x y H Q => ∃ (a b : Addr) (ns ms : List Int), x = .ref a ∧ y = .ref b ∧ SqT K H a (ns.map V.int) ∧ SqT K H b (ms.map V.int) ∧ Q (.bl (lexGe ns ms)) H
section
open PySem.Spec PyProof.Rows
theorem op_geT {X : Cx} (hu : X.A.units < cLine) : OpR X (compareOp .GtE) (rGeT X.K) := by
  intro pins s σ H x y v u Q I rx ry h
  obtain ⟨a, b, ns, ms, ea, eb, ha, hb, q⟩ := h
  subst ea eb
  cases rx
  cases ry
  obtain ⟨is1, v1, t1, _⟩ := I.tuple ha
  obtain ⟨is2, v2, t2, _⟩ := I.tuple hb
  have n1 : IntsAre is1 ns := Vals.ints v1
  have n2 : IntsAre is2 ms := Vals.ints v2
  have z1 : is1.toArray.size = ns.length := by rw [List.size_toArray]; exact n1.length
  have z2 : is2.toArray.size = ms.length := by rw [List.size_toArray]; exact n2.length
  have g1 (j : Nat) (h1 : j < is1.toArray.size) : ∃ t, is1.toArray[j] = .int (ns.getD j 0) t := PyProof.Rows.IntsAre.int_at n1 _ _ (by simp at h1; simp [h1])
  have g2 (j : Nat) (h1 : j < is2.toArray.size) : ∃ t, is2.toArray[j] = .int (ms.getD j 0) t := PyProof.Rows.IntsAre.int_at n2 _ _ (by simp at h1; simp [h1])
  have R := Ob.RcOp.tuples_ge (A := X.A) (s := s) (e := fun j => decide (ns.getD j 0 = ms.getD j 0)) (r := fun j => decide (ms.getD j 0 ≤ ns.getD j 0)) t1 t2 hu
    (fun j h1 h2 => by
      obtain ⟨t, e1⟩ := g1 j h1
      obtain ⟨t', e2⟩ := g2 j h2
      rw [e1, e2]
      have ed : (ns.getD j 0 == ms.getD j 0) = decide (ns.getD j 0 = ms.getD j 0) := by
        by_cases hq : ns.getD j 0 = ms.getD j 0
        · rw [decide_eq_true hq, beq_iff_eq.mpr hq]
        · rw [decide_eq_false hq, beq_eq_false_iff_ne.mpr hq]
      rw [← ed]
      exact SeqAt.EqAt.int_int _ _ _ _)
    (fun j h1 h2 _ => by
      obtain ⟨t, e1⟩ := g1 j h1
      obtain ⟨t', e2⟩ := g2 j h2
      rw [e1, e2]
      exact Ob.RcOp.ge_int _ _ _ _)
  rw [z1, z2] at R
  exact (R X.prog X.w X.xe (EP X pins σ Q) ⟨.bl _, H, I, rfl, q⟩ : wpAny (model X.prog X.w) X.A (compareOp .GtE (.ref a) (.ref b)) (EP X pins σ Q) X.xe s)
theorem eGeT {X : Cx} (K : PySem.W.Frag) (hu : X.A.units + 64 < cLine) (h : X.K = K := by rfl) : OpR X (compareOp .GtE) (rGeT K) := h ▸ op_geT (by omega)
end
def atomI : D → List Int
  | .tuple [.tuple [.int a, .int b, .int c], _] => [a, b, c]
  | _ => []
def termOk : D → Bool
  | .tuple [a, c] => isAtom a && (isIntD c && !isZero c)
  | _ => false
def upOk : Option (List Int) → D → Bool
  | none, _ => true
  | some q, t => !lexGe q (atomI t)
def termsOk : Option (List Int) → List D → Bool
  | _, [] => true
  | p, t :: r => termOk t && (upOk p t && termsOk (some (atomI t)) r)
def isForm : D → Bool
  | .tuple [c, .tuple ts] => isIntD c && termsOk none ts
  | _ => false
def fitF : D → Bool
  | .tuple [_, .tuple ts] => decide (ts.length ≤ 1000)
  | _ => true
def isHint : D → Bool
  | .tuple [f, e, o] => isForm f && (isBl e && isOrigin o)
  | _ => false
def fitH : D → Bool
  | .tuple [f, _, _] => fitF f
  | _ => true
theorem termOk_len {ds : List D} (h : ds.length ≠ 2) : termOk (.tuple ds) = false := by
  match ds, h with
  | [], _ => rfl
  | [_], _ => rfl
  | [_, _], h => exact absurd rfl h
  | _ :: _ :: _ :: _, _ => rfl
theorem isForm_len {ds : List D} (h : ds.length ≠ 2) : isForm (.tuple ds) = false := by
  match ds, h with
  | [], _ => rfl
  | [_], _ => rfl
  | [_, _], h => exact absurd rfl h
  | _ :: _ :: _ :: _, _ => simp [isForm]
theorem isHint_len {ds : List D} (h : ds.length ≠ 3) : isHint (.tuple ds) = false := by
  match ds, h with
  | [], _ => rfl
  | [_], _ => rfl
  | [_, _], _ => rfl
  | [_, _, _], h => exact absurd rfl h
  | _ :: _ :: _ :: _ :: _, _ => rfl
theorem atom_inv {d : D} (h : isAtom d = true) : ∃ a b c : Int, d = .tuple [.int a, .int b, .int c] := by
  match d, h with
  | .tuple [a, b, c], h =>
    have h1 := Bool.and_eq_true_iff.mp h
    obtain ⟨i, rfl, _, _⟩ := within_int h1.1
    have h2 := h1.2
    by_cases z : isZero (.int i) = true
    · rw [if_pos z] at h2
      have h3 := Bool.and_eq_true_iff.mp h2
      obtain ⟨j, rfl, _, _⟩ := within_int h3.1
      obtain ⟨k, rfl, _, _⟩ := within_int h3.2
      exact ⟨i, j, k, rfl⟩
    · rw [if_neg z] at h2
      have h3 := Bool.and_eq_true_iff.mp h2
      obtain ⟨j, rfl, _, _⟩ := within_int h3.1
      obtain ⟨k, rfl, _, _⟩ := within_int h3.2
      exact ⟨i, j, k, rfl⟩
def isNo : D → Bool
  | .none => true
  | _ => false
theorem bnot {b : Bool} (h : (!b) = true) : b = false := by cases b <;> first | rfl | cases h
theorem bnotF {b : Bool} (h : (!b) = false) : b = true := by cases b <;> first | rfl | cases h
theorem ne_len {n m : Nat} (h : (!decide ((n : Int) = (m : Int))) = true) : n ≠ m := fun z => by
  have e : decide ((n : Int) = (m : Int)) = true := decide_eq_true (by rw [z])
  rw [e] at h
  cases h
theorem eq_len {n m : Nat} (h : (!decide ((n : Int) = (m : Int))) = false) : n = m := by
  have := of_decide_eq_true (bnotF h)
  omega
section
variable {K : PySem.W.Frag} {H : Hp} {x : V} {d : D}
theorem Dp.isN (h : Dp K H x d) : decide (x = V.non) = isNo d := by
  cases h with
  | non => rfl
  | bl b => rfl
  | int i => rfl
  | str z => rfl
  | lst _ _ => rfl
  | tup _ _ => rfl
theorem Dp.ints {a b c : Int} (h : Dp K H x (.tuple [.int a, .int b, .int c])) : ∃ p, x = .ref p ∧ SqT K H p ([a, b, c].map V.int) := by
  cases h with
  | tup hs ha =>
    cases ha with
    | cons h1 ha =>
      cases ha with
      | cons h2 ha =>
        cases ha with
        | cons h3 ha =>
          cases ha
          cases h1
          cases h2
          cases h3
          exact ⟨_, rfl, hs⟩
end
local macro_rules | `(tactic| walk_at "sq") => `(tactic| first | assumption | exact SqL.of (by assumption) | exact SqT.of (by assumption) | exact SqL.of upd_same | exact SqT.of upd_same)
local macro_rules | `(tactic| walk_at "go1") => `(tactic| first
  | (with_reducible refine' Gk.seq ?_)
  | ((with_reducible refine' Gk.var ?hgo ?_); (case hgo => exact rfl))
  | (with_reducible refine' Gk.con ?_)
  | (with_reducible refine' Gk.op ?_)
  | (with_reducible refine' Gk.i0 ?_)
  | (with_reducible refine' Gk.un ?_)
  | ((with_reducible refine' Gk.i1 (C := CMul) ?hgo ?_); (case hgo => first | exact .inl ⟨by decide, by decide⟩ | exact .inr ⟨by decide, by decide⟩ | exact .inl ⟨by omega, by omega⟩ | exact .inr ⟨by omega, by omega⟩))
  | ((with_reducible refine' Gk.i1 (C := CDiv) ?hgo ?_); (case hgo => exact ⟨by omega, by omega⟩))
  | ((with_reducible refine' Gk.i1 (C := CPow) ?hgo ?_); (case hgo => exact ⟨by decide, by decide, by decide⟩))
  | ((with_reducible refine' Gk.i1 (C := fun _ j => 0 < j) ?hgo ?_); (case hgo => show (0 : Int) < _; omega))
  | (with_reducible refine' Gk.u1 ?_)
  | (with_reducible refine' Gk.test ?_)
  | (with_reducible refine' Gk.testB ?_)
  | (with_reducible refine' Gk.asB ?_)
  | (with_reducible refine' K60.eqI ?_)
  | (with_reducible refine' K60.neI ?_)
  | ((with_reducible refine' Gk.eqv ?hgo ?_); (case hgo => exact rfl))
  | ((with_reducible refine' Gk.nev ?hgo ?_); (case hgo => exact rfl))
  | ((with_reducible refine' Gk.ixL ?hgo ?hga ?_); (case hgo => walk_at "sq"); (case hga => first | exact rfl | assumption))
  | ((with_reducible refine' Gk.ixT ?hgo ?hga ?_); (case hgo => walk_at "sq"); (case hga => first | exact rfl | assumption))
  | (with_reducible refine' Gk.aNil ?_)
  | (with_reducible refine' Gk.aCons ?_)
  | (with_reducible refine' Gk.cb ?_)
  | (with_reducible refine' Gk.call ?_)
  | (with_reducible refine' Gk.tup ?_)
  | (with_reducible refine' Gk.lst ?_)
  | (with_reducible refine' Gk.ifE ?_)
  | (with_reducible refine' Gk.ifS ?_)
  | (with_reducible refine' Gk.next ?_)
  | (with_reducible refine' Gk.asg ?_)
  | ((with_reducible refine' Gk.gname ?hgo ?_); (case hgo => exact rfl))
  | (with_reducible refine' Gk.gsub ?_)
  | ((with_reducible refine' Gk.setL ?hgo ?hga ?_); (case hgo => first | assumption | exact upd_same); (case hga => first | exact rfl | assumption))
  | (with_reducible refine' Gk.ret ?_)
  | (with_reducible refine' Gk.drop ?_)
  | (with_reducible refine' Gk.par ?_)
  | (with_reducible refine' Gk.andT ?_)
  | (with_reducible refine' Gk.orT ?_)
  | (with_reducible refine' Gk.notT ?_)
  | (with_reducible refine' Gk.abs ?_)
  | (with_reducible refine' Gk.intI ?_)
  | (with_reducible refine' Gk.intB ?_)
  | ((with_reducible refine' Gk.lenL ?hgo ?_); (case hgo => walk_at "sq"))
  | ((with_reducible refine' Gk.lenT ?hgo ?_); (case hgo => walk_at "sq"))
  | ((with_reducible refine' K60.lenD ?hgo ?_); (case hgo => assumption))
  | (with_reducible refine' K60.zipA ?_)
  | (with_reducible refine' K60.listI ?_)
  | (with_reducible refine' K60.tupI ?_)
  | (with_reducible refine' K60.dget2 ?_)
  | (with_reducible refine' K60.dget ?_)
  | (with_reducible refine' K60.dput ?_)
  | ((with_reducible refine' K60.aug ?hgo ?_); (case hgo => exact rfl))
  | (with_reducible refine' K60.ipI ?_)
  | (with_reducible refine' K60.newT ?_)
  | (with_reducible refine' Gk.bm ?_)
  | ((with_reducible refine' Gk.tyL ?hgo ?_); (case hgo => first | assumption | exact upd_same))
  | ((with_reducible refine' Gk.gtup ?hgo ?hga ?_); (case hgo => walk_at "sq"); (case hga => exact rfl))
  | (with_reducible refine' Gk.gcons ?_)
  | (with_reducible refine' Gk.gnil ?_)
  | (with_reducible refine' Gk.sl ?_)
  | (with_reducible refine' Gk.noPart ?_)
  | (with_reducible refine' Gk.part ?_)
  | (with_reducible refine' Gk.partI ?_)
  | (with_reducible refine' Gk.lc ?_)
  | (with_reducible refine' Gk.rng1 ?_)
  | (with_reducible refine' Gk.forS ?_)
  | (with_reducible refine' Gk.isN ?_)
  | (with_reducible refine' Gk.notN ?_)
  | (with_reducible refine' Gk.andV ?_)
  | (with_reducible refine' Gk.orV ?_)
  | (with_reducible refine' Gk.notV ?_)
  | (with_reducible refine' K60.chain ?_)
  | ((with_reducible refine' K60.isiI ?hgo ?_); (case hgo => assumption))
  | ((with_reducible refine' K60.isiBo ?hgo ?_); (case hgo => assumption))
  | ((with_reducible refine' K60.isiT ?hgo ?_); (case hgo => assumption))
  | ((with_reducible refine' Gk.isiB ?hgo ?hga ?_); (case hgo => exact .base (.non)); (case hga => first | exact (show kitB _ _ = some true by decide +kernel) | exact (show kitB _ _ = some false by decide +kernel)))
  | ((with_reducible refine' Gk.isiB ?hgo ?hga ?_); (case hgo => exact .base (.int _)); (case hga => first | exact (show kitB _ _ = some true by decide +kernel) | exact (show kitB _ _ = some false by decide +kernel)))
  | ((with_reducible refine' Gk.isiB ?hgo ?hga ?_); (case hgo => exact .base (.str _)); (case hga => first | exact (show kitB _ _ = some true by decide +kernel) | exact (show kitB _ _ = some false by decide +kernel)))
  | ((with_reducible refine' Gk.isiB ?hgo ?hga ?_); (case hgo => exact .base (.bl _)); (case hga => first | exact (show kitB _ _ = some true by decide +kernel) | exact (show kitB _ _ = some false by decide +kernel)))
  | ((with_reducible refine' Gk.isiB ?hgo ?hga ?_); (case hgo => exact .base (.tup (by assumption))); (case hga => first | exact (show kitB _ _ = some true by decide +kernel) | exact (show kitB _ _ = some false by decide +kernel)))
  | ((with_reducible refine' Gk.isiB ?hgo ?hga ?_); (case hgo => exact .base (.lst (by assumption))); (case hga => first | exact (show kitB _ _ = some true by decide +kernel) | exact (show kitB _ _ = some false by decide +kernel)))
  | ((with_reducible refine' Gk.iteT ?hgo ?_); (case hgo => exact rfl))
  | ((with_reducible refine' Gk.iteF ?hgo ?_); (case hgo => exact rfl))
  | (with_reducible refine' Gk.yes ?_)
  | (dsimp only))

abbrev sIsForm : Stmt := top 17
theorem scIsForm : FnScope ["thing", "terms", "at", "term"] ["thing"] (defScope sIsForm) := ⟨rfl, rfl, rfl, by decide +kernel, rfl, by decide +kernel, by decide +kernel⟩
abbrev sIsHint : Stmt := top 20
theorem scIsHint : FnScope ["thing"] ["thing"] (defScope sIsHint) := ⟨rfl, rfl, rfl, by decide +kernel, rfl, by decide +kernel, by decide +kernel⟩
section
variable {P : Program} {w : World} {K : PySem.W.Frag} {mg : Str → Option Value} {base : Heap}
theorem cl_is_origin (T : Glo mg) (h : Has K mg "is_origin" sIsOrigin) (c_Within : Cl P w K mg base "within" ["x", "low", "high"] 2 (spWithin K)) : Cl P w K mg base "is_origin" ["thing"] 3 (spOf K isOrigin) := by
  obtain ⟨f_Within, fd_Within, m_Within, k_Within, b_Within, G_Within⟩ := c_Within
  obtain ⟨f, fd, m_, F⟩ := h
  refine ⟨f, fd, m_, F.kp, F.binds (ps := ["thing"]) fun _ _ _ _ _ _ us hl => match us, hl with | [_], _ => rfl, ?_⟩
  refine F.ok scIsOrigin (fun vs H Q E h => ?_) (fun cdv A outer s H vs Q E hr h => ?_)
  · obtain ⟨x, d, rfl, _⟩ := h
    rfl
  · obtain ⟨x, d, rfl, hd, k⟩ := h
    refine ⟨_, (pss_cons (ps_if (pt_cmpR op_isN1 (pv 0) pe_non (nomark _))
    (pss_one (ps_ret pe_bl))
    pss_nil)
  (pss_cons (ps_if (PW.pt (pw_or (pt_not (pt_val (pe_callB (Gk.eIsi K) (by rfl) T.isinstance (by decide +kernel) (pa_cons (pv 0) (pa_cons (pe_bltn (v := .ty "tuple") (by rfl) T.tuple (by decide +kernel) rfl) pa_nil))))) (pw_or1 (pt_cmpR op_ne (pe_callB (Gk.eLen K) (by rfl) T.len PySem.boot_len (pa_cons (pv 0) pa_nil)) pe_int (nomark _)))))
    (pss_one (ps_ret pe_bl))
    pss_nil)
  (pss_one (ps_ret (pe_and (pe_call G_Within (hr.mono (by omega)) rfl m_Within k_Within b_Within .nil pass0 (pa_cons (pe_ix (Gk.eIxT K) (pv 0) pe_int (fun _ _ => rfl)) (pa_cons pe_int (pa_cons (pe_glob (v := .int 239) (u := .int 239 T.LAST_ROW.choose) rfl T.LAST_ROW.choose_spec ⟨_, rfl⟩) pa_nil)))) (pe_one (pe_call G_Within (hr.mono (by omega)) rfl m_Within k_Within b_Within .nil pass0 (pa_cons (pe_ix (Gk.eIxT K) (pv 0) pe_int (fun _ _ => rfl)) (pa_cons pe_int (pa_cons (pe_glob (v := .int 29) (u := .int 29 T.LAST_CLAIM.choose) rfl T.LAST_CLAIM.choose_spec ⟨_, rfl⟩) pa_nil)))))))))), ?_⟩
    repeat walk_at "go1"
    rw [Dp.isN hd]
    refine Gk.iteQ (fun h0 => ?_) (fun h0 => ?_)
    · repeat walk_at "go1"
      have e : isOrigin d = true := by cases d <;> first | rfl | cases h0
      rw [e] at k
      exact k
    repeat walk_at "go1"
    refine Gk.iteQ (fun h1 => ?_) (fun h1 => ?_)
    · repeat walk_at "go1"
      have e : isOrigin d = false := by cases d <;> first | rfl | (cases h0; done) | (cases h1; done)
      rw [e] at k
      exact k
    obtain ⟨ds, rfl⟩ := isTu_of (bnotF h1)
    repeat walk_at "go1"
    refine Gk.iteQ (fun h2 => ?_) (fun h2 => ?_)
    · repeat walk_at "go1"
      have e : isOrigin (.tuple ds) = false := isOrigin_len (ne_len (m := 2) h2)
      rw [e] at k
      exact k
    obtain ⟨a, b, rfl⟩ := len2 (eq_len (m := 2) h2)
    repeat walk_at "go1"
    refine ixD (n := 0) hd rfl fun v0 g0 => ?_
    repeat walk_at "go1"
    refine ⟨v0, a, 0, 239, rfl, g0, ?_⟩
    have ek : isOrigin (.tuple [a, b]) = (within a 0 239 && within b 0 29) := rfl
    rw [ek] at k
    repeat walk_at "go1"
    refine Gk.iteQ (fun h5 => ?_) (fun h5 => ?_)
    · repeat walk_at "go1"
      refine ixD (n := 1) hd rfl fun v2 g2 => ?_
      repeat walk_at "go1"
      refine ⟨v2, b, 0, 29, rfl, g2, ?_⟩
      rw [h5] at k
      exact k
    · rw [h5] at k
      exact k
theorem cl_is_hint (T : Glo mg) (h : Has K mg "is_hint" sIsHint) (c_IsForm : Cl P w K mg base "is_form" ["thing"] 4 (fun vs H Q _ => ∃ x d, vs = [x] ∧ Dp K H x d ∧ fitF d = true ∧ Q (.bl (isForm d)) H)) (c_IsOrigin : Cl P w K mg base "is_origin" ["thing"] 3 (spOf K isOrigin)) :
    Cl P w K mg base "is_hint" ["thing"] 5 (fun vs H Q _ => ∃ x d, vs = [x] ∧ Dp K H x d ∧ fitH d = true ∧ Q (.bl (isHint d)) H) := by
  obtain ⟨f_IsForm, fd_IsForm, m_IsForm, k_IsForm, b_IsForm, G_IsForm⟩ := c_IsForm
  obtain ⟨f_IsOrigin, fd_IsOrigin, m_IsOrigin, k_IsOrigin, b_IsOrigin, G_IsOrigin⟩ := c_IsOrigin
  obtain ⟨f, fd, m_, F⟩ := h
  refine ⟨f, fd, m_, F.kp, F.binds (ps := ["thing"]) fun _ _ _ _ _ _ us hl => match us, hl with | [_], _ => rfl, ?_⟩
  refine F.ok scIsHint (fun vs H Q E h => ?_) (fun cdv A outer s H vs Q E hr h => ?_)
  · obtain ⟨x, d, rfl, _⟩ := h
    rfl
  · obtain ⟨x, d, rfl, hd, hf, k⟩ := h
    refine ⟨_, (pss_cons (ps_if (PW.pt (pw_or (pt_not (pt_val (pe_callB (Gk.eIsi K) (by rfl) T.isinstance (by decide +kernel) (pa_cons (pv 0) (pa_cons (pe_bltn (v := .ty "tuple") (by rfl) T.tuple (by decide +kernel) rfl) pa_nil))))) (pw_or1 (pt_cmpR op_ne (pe_callB (Gk.eLen K) (by rfl) T.len PySem.boot_len (pa_cons (pv 0) pa_nil)) pe_int (nomark _)))))
    (pss_one (ps_ret pe_bl))
    pss_nil)
  (pss_one (ps_ret (pe_and (pe_call G_IsForm (hr.mono (by omega)) rfl m_IsForm k_IsForm b_IsForm .nil pass0 (pa_cons (pe_ix (Gk.eIxT K) (pv 0) pe_int (fun _ _ => rfl)) pa_nil)) (pe_and (pe_callB (Gk.eIsi K) (by rfl) T.isinstance (by decide +kernel) (pa_cons (pe_ix (Gk.eIxT K) (pv 0) pe_int (fun _ _ => rfl)) (pa_cons (pe_bltn (v := .ty "bool") (by rfl) T.bool (by decide +kernel) rfl) pa_nil))) (pe_one (pe_call G_IsOrigin (hr.mono (by omega)) rfl m_IsOrigin k_IsOrigin b_IsOrigin .nil pass0 (pa_cons (pe_ix (Gk.eIxT K) (pv 0) pe_int (fun _ _ => rfl)) pa_nil)))))))), ?_⟩
    repeat walk_at "go1"
    refine Gk.iteQ (fun h1 => ?_) (fun h1 => ?_)
    · repeat walk_at "go1"
      have e : isHint d = false := by cases d <;> first | rfl | (cases h1; done)
      rw [e] at k
      exact k
    obtain ⟨ds, rfl⟩ := isTu_of (bnotF h1)
    repeat walk_at "go1"
    refine Gk.iteQ (fun h2 => ?_) (fun h2 => ?_)
    · repeat walk_at "go1"
      have e : isHint (.tuple ds) = false := isHint_len (ne_len (m := 3) h2)
      rw [e] at k
      exact k
    obtain ⟨a, b, c, rfl⟩ := len3 (eq_len (m := 3) h2)
    repeat walk_at "go1"
    refine ixD (n := 0) hd rfl fun v0 g0 => ?_
    repeat walk_at "go1"
    refine ⟨v0, a, rfl, g0, hf, ?_⟩
    have ek : isHint (.tuple [a, b, c]) = (isForm a && (isBl b && isOrigin c)) := rfl
    rw [ek] at k
    repeat walk_at "go1"
    refine Gk.iteQ (fun h5 => ?_) (fun h5 => ?_)
    · rw [h5] at k
      repeat walk_at "go1"
      refine ixD (n := 1) hd rfl fun v1 g1 => ?_
      repeat walk_at "go1"
      refine Gk.iteQ (fun h6 => ?_) (fun h6 => ?_)
      · rw [h6] at k
        repeat walk_at "go1"
        refine ixD (n := 2) hd rfl fun v2 g2 => ?_
        repeat walk_at "go1"
        exact ⟨v2, c, rfl, g2, k⟩
      · rw [h6] at k
        exact k
    · rw [h5] at k
      exact k
theorem cl_is_form (T : Glo mg) (h : Has K mg "is_form" sIsForm) (c_IsInt : Cl P w K mg base "is_int" ["x"] 1 (spOf K isIntD)) (c_IsAtom : Cl P w K mg base "is_atom" ["thing"] 3 (spOf K isAtom)) :
    Cl P w K mg base "is_form" ["thing"] 4 (fun vs H Q _ => ∃ x d, vs = [x] ∧ Dp K H x d ∧ fitF d = true ∧ Q (.bl (isForm d)) H) := by
  obtain ⟨f_IsInt, fd_IsInt, m_IsInt, k_IsInt, b_IsInt, G_IsInt⟩ := c_IsInt
  obtain ⟨f_IsAtom, fd_IsAtom, m_IsAtom, k_IsAtom, b_IsAtom, G_IsAtom⟩ := c_IsAtom
  obtain ⟨f, fd, m_, F⟩ := h
  refine ⟨f, fd, m_, F.kp, F.binds (ps := ["thing"]) fun _ _ _ _ _ _ us hl => match us, hl with | [_], _ => rfl, ?_⟩
  refine F.ok scIsForm (fun vs H Q E h => ?_) (fun cdv A outer s H vs Q E hr h => ?_)
  · obtain ⟨x, d, rfl, _⟩ := h
    rfl
  · obtain ⟨x, d, rfl, hd, hf, k⟩ := h
    refine ⟨_, (pss_cons (ps_if (PW.pt (pw_or (pt_not (pt_val (pe_callB (Gk.eIsi K) (by rfl) T.isinstance (by decide +kernel) (pa_cons (pv 0) (pa_cons (pe_bltn (v := .ty "tuple") (by rfl) T.tuple (by decide +kernel) rfl) pa_nil))))) (pw_or (pt_cmpR op_ne (pe_callB (Gk.eLen K) (by rfl) T.len PySem.boot_len (pa_cons (pv 0) pa_nil)) pe_int (nomark _)) (pw_or (pt_not (pt_val (pe_call G_IsInt (hr.mono (by omega)) rfl m_IsInt k_IsInt b_IsInt .nil pass0 (pa_cons (pe_ix (Gk.eIxT K) (pv 0) pe_int (fun _ _ => rfl)) pa_nil)))) (pw_or1 (pt_not (pt_val (pe_callB (Gk.eIsi K) (by rfl) T.isinstance (by decide +kernel) (pa_cons (pe_ix (Gk.eIxT K) (pv 0) pe_int (fun _ _ => rfl)) (pa_cons (pe_bltn (v := .ty "tuple") (by rfl) T.tuple (by decide +kernel) rfl) pa_nil))))))))))
    (pss_one (ps_ret pe_bl))
    pss_nil)
  (pss_cons (ps_set (i := 1) scIsForm.nd rfl (Or.inl rfl) (pe_ix (Gk.eIxT K) (pv 0) pe_int (fun _ _ => rfl)))
  (pss_cons (ps_for PassesOwn.never rfl (pi_range1 (by rfl) T.range (pa_cons (pe_callB (Gk.eLen K) (by rfl) T.len PySem.boot_len (pa_cons (pv 1) pa_nil)) pa_nil)) (pg_name (i := 2) scIsForm.nd rfl (Or.inl rfl))
    (pss_cons (ps_set (i := 3) scIsForm.nd rfl (Or.inl rfl) (pe_ix (Gk.eIxT K) (pv 1) (pv 2) (fun _ _ => rfl)))
    (pss_cons (ps_if (PW.pt (pw_or (pt_not (pt_val (pe_callB (Gk.eIsi K) (by rfl) T.isinstance (by decide +kernel) (pa_cons (pv 3) (pa_cons (pe_bltn (v := .ty "tuple") (by rfl) T.tuple (by decide +kernel) rfl) pa_nil))))) (pw_or (pt_cmpR op_ne (pe_callB (Gk.eLen K) (by rfl) T.len PySem.boot_len (pa_cons (pv 3) pa_nil)) pe_int (nomark _)) (pw_or1 (pt_not (pt_val (pe_call G_IsAtom (hr.mono (by omega)) rfl m_IsAtom k_IsAtom b_IsAtom .nil pass0 (pa_cons (pe_ix (Gk.eIxT K) (pv 3) pe_int (fun _ _ => rfl)) pa_nil))))))))
      (pss_one (ps_ret pe_bl))
      pss_nil)
    (pss_cons (ps_if (PW.pt (pw_or (pt_not (pt_val (pe_call G_IsInt (hr.mono (by omega)) rfl m_IsInt k_IsInt b_IsInt .nil pass0 (pa_cons (pe_ix (Gk.eIxT K) (pv 3) pe_int (fun _ _ => rfl)) pa_nil)))) (pw_or1 (pt_cmpR op_eq (pe_ix (Gk.eIxT K) (pv 3) pe_int (fun _ _ => rfl)) pe_int (nomark _)))))
      (pss_one (ps_ret pe_bl))
      pss_nil)
    (pss_one (ps_if (PW.pt (pw_and (pt_cmpR op_gt (pv 2) pe_int (nomark _)) (pw_and1 (pt_cmpR (K60.eGeT K hr.units) (pe_ix (Gk.eIxT K) (pe_ix (Gk.eIxT K) (pv 1) (pe_op op_sub (pv 2) pe_int) (fun _ _ => rfl)) pe_int (fun _ _ => rfl)) (pe_ix (Gk.eIxT K) (pv 3) pe_int (fun _ _ => rfl)) (nomark _)))))
      (pss_one (ps_ret pe_bl))
      pss_nil))))))
  (pss_one (ps_ret pe_bl))))), ?_⟩
    repeat walk_at "go1"
    refine Gk.iteQ (fun h1 => ?_) (fun h1 => ?_)
    · repeat walk_at "go1"
      have e : isForm d = false := by cases d <;> first | rfl | (cases h1; done)
      rw [e] at k
      exact k
    obtain ⟨ds, rfl⟩ := isTu_of (bnotF h1)
    repeat walk_at "go1"
    refine Gk.iteQ (fun h2 => ?_) (fun h2 => ?_)
    · repeat walk_at "go1"
      have e : isForm (.tuple ds) = false := isForm_len (ne_len (m := 2) h2)
      rw [e] at k
      exact k
    obtain ⟨c, tt, rfl⟩ := len2 (eq_len (m := 2) h2)
    repeat walk_at "go1"
    refine ixD (n := 0) hd rfl fun v0 g0 => ?_
    repeat walk_at "go1"
    refine ⟨v0, c, rfl, g0, ?_⟩
    repeat walk_at "go1"
    refine Gk.iteQ (fun h3 => ?_) (fun h3 => ?_)
    · repeat walk_at "go1"
      have e : isForm (.tuple [c, tt]) = false := by
        have z := bnot h3
        cases tt <;> first | rfl | (simp [isForm, z])
      rw [e] at k
      exact k
    have hc := bnotF h3
    repeat walk_at "go1"
    refine ixD (n := 1) hd rfl fun vt gt => ?_
    repeat walk_at "go1"
    refine Gk.iteQ (fun h4 => ?_) (fun h4 => ?_)
    · repeat walk_at "go1"
      have e : isForm (.tuple [c, tt]) = false := by
        cases tt <;> first | rfl | (cases h4; done)
      rw [e] at k
      exact k
    obtain ⟨ts, rfl⟩ := isTu_of (bnotF h4)
    have ek : isForm (.tuple [c, .tuple ts]) = termsOk none ts := by
      show (isIntD c && termsOk none ts) = _
      rw [hc]
      rfl
    rw [ek] at k
    have hn : ts.length ≤ 1000 := of_decide_eq_true hf
    repeat walk_at "go1"
    refine ixD (n := 1) hd rfl fun vt gt => ?_
    repeat walk_at "go1"
    refine ⟨(ts.length : Int), rfl, by omega, by omega, Gk.forR (lo := 0) (n := (ts.length : Int).toNat) (fun i σ' H' => ∃ y z : Option V, σ' = [some x, some vt, y, z] ∧ H' = H ∧
      ∃ p : Option (List Int), termsOk none ts = termsOk p (ts.drop i) ∧ (i = 0 → p = none) ∧ ∀ j, i = j + 1 → ∃ t, ts[j]? = some t ∧ termOk t = true ∧ p = some (atomI t)) ⟨none, none, rfl, rfl, none, rfl, fun _ => rfl, fun j e => by omega⟩ ?_ ?_⟩
    · rintro i σ' H' hi ⟨y, z, rfl, rfl, p, hp, hp0, hp1⟩
      have hil : i < ts.length := by omega
      have eat : ts[i]? = some ts[i] := List.getElem?_eq_getElem hil
      have edr : ts.drop i = ts[i] :: ts.drop (i + 1) := List.drop_eq_getElem_cons hil
      rw [edr] at hp
      generalize ts[i] = t at *
      have hp2 : termsOk p (t :: ts.drop (i + 1)) = (termOk t && (upOk p t && termsOk (some (atomI t)) (ts.drop (i + 1)))) := rfl
      rw [hp2] at hp
      repeat walk_at "go1"
      rw [Int.zero_add]
      refine ixD (n := i) gt eat fun vi gi => ?_
      repeat walk_at "go1"
      refine Gk.iteQ (fun q1 => ?_) (fun q1 => ?_)
      · repeat walk_at "go1"
        have e : termOk t = false := by cases t <;> first | rfl | (cases q1; done)
        rw [hp, e] at k
        exact k
      obtain ⟨es, rfl⟩ := isTu_of (bnotF q1)
      repeat walk_at "go1"
      refine Gk.iteQ (fun q2 => ?_) (fun q2 => ?_)
      · repeat walk_at "go1"
        have e : termOk (.tuple es) = false := termOk_len (ne_len (m := 2) q2)
        rw [hp, e] at k
        exact k
      obtain ⟨a, b, rfl⟩ := len2 (eq_len (m := 2) q2)
      have et : termOk (.tuple [a, b]) = (isAtom a && (isIntD b && !isZero b)) := rfl
      repeat walk_at "go1"
      refine ixD (n := 0) gi rfl fun va ga => ?_
      repeat walk_at "go1"
      refine ⟨va, a, rfl, ga, ?_⟩
      repeat walk_at "go1"
      refine Gk.iteQ (fun q3 => ?_) (fun q3 => ?_)
      · repeat walk_at "go1"
        rw [hp, et, bnot q3] at k
        exact k
      have ha := bnotF q3
      repeat walk_at "go1"
      refine ixD (n := 1) gi rfl fun vb gb => ?_
      repeat walk_at "go1"
      refine ⟨vb, b, rfl, gb, ?_⟩
      repeat walk_at "go1"
      refine Gk.iteQ (fun q4 => ?_) (fun q4 => ?_)
      · repeat walk_at "go1"
        rw [hp, et, ha, bnot q4] at k
        exact k
      obtain ⟨m, rfl⟩ := isInt_of (bnotF q4)
      repeat walk_at "go1"
      refine ixD (n := 1) gi rfl fun vb gb => ?_
      cases Dp.int_inv gb
      repeat walk_at "go1"
      refine Gk.iteQ (fun q5 => ?_) (fun q5 => ?_)
      · repeat walk_at "go1"
        have ez : isZero (.int m) = true := q5
        rw [hp, et, ha, ez] at k
        exact k
      have ez : isZero (.int m) = false := q5
      have et2 : termOk (.tuple [a, .int m]) = true := by rw [et, ha, ez]; rfl
      rw [et2] at hp
      have next : ∀ yy zz : Option V, upOk p (.tuple [a, .int m]) = true → ∃ y z : Option V, ([some x, some vt, yy, zz] : L2.St) = [some x, some vt, y, z] ∧ H' = H' ∧ ∃ p : Option (List Int), termsOk none ts = termsOk p (ts.drop (i + 1)) ∧ (i + 1 = 0 → p = none) ∧
          ∀ j, i + 1 = j + 1 → ∃ t, ts[j]? = some t ∧ termOk t = true ∧ p = some (atomI t) := fun yy zz hu => ⟨yy, zz, rfl, rfl, some (atomI (.tuple [a, .int m])), by rw [hp, hu]; rfl, fun e => by omega, fun j e => by
            have ej : j = i := by omega
            rw [ej]
            exact ⟨_, eat, et2, rfl⟩⟩
      repeat walk_at "go1"
      refine Gk.iteQ (fun q6 => ?_) (fun q6 => ?_)
      · have hi0 : i ≠ 0 := fun e => by rw [e] at q6; cases q6
        obtain ⟨j, rfl⟩ : ∃ j, i = j + 1 := ⟨i - 1, by omega⟩
        obtain ⟨t2, e2, ok2, rfl⟩ := hp1 j rfl
        have ei : ((j + 1 : Nat) : Int) - 1 = (j : Int) := by omega
        repeat walk_at "go1"
        rw [ei]
        refine ixD (n := j) gt e2 fun v2 g2 => ?_
        match t2, ok2 with
        | .tuple [a2, b2], ok2 =>
          have ok3 := (Bool.and_eq_true_iff.mp ok2).1
          obtain ⟨i1, i2, i3, rfl⟩ := atom_inv ok3
          obtain ⟨j1, j2, j3, rfl⟩ := atom_inv ha
          repeat walk_at "go1"
          refine ixD (n := 0) g2 rfl fun v3 g3 => ?_
          repeat walk_at "go1"
          refine ixD (n := 0) gi rfl fun v4 g4 => ?_
          obtain ⟨p3, rfl, s3⟩ := Dp.ints g3
          obtain ⟨p4, rfl, s4⟩ := Dp.ints g4
          refine ⟨p3, p4, _, _, rfl, rfl, s3, s4, ?_⟩
          have eu : upOk (some (atomI (.tuple [.tuple [.int i1, .int i2, .int i3], b2]))) (.tuple [.tuple [.int j1, .int j2, .int j3], .int m]) = !lexGe [i1, i2, i3] [j1, j2, j3] := rfl
          repeat walk_at "go1"
          refine Gk.iteQ (fun q7 => ?_) (fun q7 => ?_)
          · repeat walk_at "go1"
            rw [hp, eu, q7] at k
            exact k
          · repeat walk_at "go1"
            exact next _ _ (by rw [eu, q7]; rfl)
      · have hi0 : i = 0 := by
          by_cases e : i = 0
          · exact e
          · have q8 : ¬ ((i : Int) > 0) := of_decide_eq_false q6
            omega
        repeat walk_at "go1"
        exact next _ _ (by rw [hp0 hi0]; rfl)
    · rintro σ' H' ⟨y, z, rfl, rfl, p, hp, hp0, hp1⟩
      repeat walk_at "go1"
      have ed : ts.drop (ts.length : Int).toNat = [] := List.drop_eq_nil_iff.mpr (by omega)
      rw [ed] at hp
      have e1 : termsOk none ts = true := by rw [hp]; cases p <;> rfl
      rw [e1] at k
      exact k
end
end K60
namespace K60
open PySem L2
/-- an error class of the program -/
structure ErC (K : PySem.W.Frag) (mg : Str → Option Value) (x : Str) (C : Addr) : Prop where
  q : PySem.W.excIn K C [.type "ValueError", .type "Exception", .type "BaseException", .type "object"] "ValueError.__new__" = true
  g : mg x = some (.ref C)
  k : PySem.W.keepIn K (.ref C) = true
  s : PySem.W.subIn K (.ref C) (.type "BaseException") = some true
  t : PySem.W.typeIn K (.ref C) = some (.type "type")
def ClX (P : Program) (w : World) (K : PySem.W.Frag) (mg : Str → Option Value) (base : Heap) (x : Str) (ps : List Str) (k : Nat) (sp : Sp) : Prop :=
  ∃ f fd, mg x = some (.ref f) ∧ PySem.W.keepIn K (.ref f) = true ∧ Binds K fd ps [] ∧ FnOk P w K mg base (L2.CX P w) k f fd ps sp
def upN : Option Int → D → Bool
  | some i, .int j => decide (i < j)
  | _, _ => true
def intO : D → Option Int
  | .int j => some j
  | _ => none
def ascOk : Option Int → List D → Bool
  | _, [] => true
  | p, d :: r => within d 1 12 && (upN p d && ascOk (intO d) r)
def isNever : D → Bool
  | .tuple ds => decide (ds.length ≤ 12) && ascOk none ds
  | _ => false
def isHints : D → Bool
  | .tuple hs => decide (hs.length ≤ 8000) && hs.all isHint
  | _ => false
def fitHs : D → Bool
  | .tuple hs => hs.all fitH
  | _ => true
/-- need_..: nothing, or the error -/
def spNeed (K : PySem.W.Frag) (C : Addr) (fit p : D → Bool) : Sp := fun vs H Q E => ∃ x d, vs = [x] ∧ Dp K H x d ∧ fit d = true ∧ (p d = true → Q .non H) ∧ (p d = false → E (.ref C) none H)
local macro_rules | `(tactic| walk_at "sq") => `(tactic| first | assumption | exact SqL.of (by assumption) | exact SqT.of (by assumption) | exact SqL.of upd_same | exact SqT.of upd_same)
local macro_rules | `(tactic| walk_at "go1") => `(tactic| first
  | (with_reducible refine' Gk.seq ?_)
  | ((with_reducible refine' Gk.var ?hgo ?_); (case hgo => exact rfl))
  | (with_reducible refine' Gk.con ?_)
  | (with_reducible refine' Gk.op ?_)
  | (with_reducible refine' Gk.i0 ?_)
  | (with_reducible refine' Gk.un ?_)
  | ((with_reducible refine' Gk.i1 (C := CMul) ?hgo ?_); (case hgo => first | exact .inl ⟨by decide, by decide⟩ | exact .inr ⟨by decide, by decide⟩ | exact .inl ⟨by omega, by omega⟩ | exact .inr ⟨by omega, by omega⟩))
  | ((with_reducible refine' Gk.i1 (C := CDiv) ?hgo ?_); (case hgo => exact ⟨by omega, by omega⟩))
  | ((with_reducible refine' Gk.i1 (C := CPow) ?hgo ?_); (case hgo => exact ⟨by decide, by decide, by decide⟩))
  | ((with_reducible refine' Gk.i1 (C := fun _ j => 0 < j) ?hgo ?_); (case hgo => show (0 : Int) < _; omega))
  | (with_reducible refine' Gk.u1 ?_)
  | (with_reducible refine' Gk.test ?_)
  | (with_reducible refine' Gk.testB ?_)
  | (with_reducible refine' Gk.asB ?_)
  | (with_reducible refine' K60.eqI ?_)
  | (with_reducible refine' K60.neI ?_)
  | ((with_reducible refine' Gk.eqv ?hgo ?_); (case hgo => exact rfl))
  | ((with_reducible refine' Gk.nev ?hgo ?_); (case hgo => exact rfl))
  | ((with_reducible refine' Gk.ixL ?hgo ?hga ?_); (case hgo => walk_at "sq"); (case hga => first | exact rfl | assumption))
  | ((with_reducible refine' Gk.ixT ?hgo ?hga ?_); (case hgo => walk_at "sq"); (case hga => first | exact rfl | assumption))
  | (with_reducible refine' Gk.aNil ?_)
  | (with_reducible refine' Gk.aCons ?_)
  | (with_reducible refine' Gk.cb ?_)
  | (with_reducible refine' Gk.call ?_)
  | (with_reducible refine' Gk.tup ?_)
  | (with_reducible refine' Gk.lst ?_)
  | (with_reducible refine' Gk.ifE ?_)
  | (with_reducible refine' Gk.ifS ?_)
  | (with_reducible refine' Gk.next ?_)
  | (with_reducible refine' Gk.asg ?_)
  | ((with_reducible refine' Gk.gname ?hgo ?_); (case hgo => exact rfl))
  | (with_reducible refine' Gk.gsub ?_)
  | ((with_reducible refine' Gk.setL ?hgo ?hga ?_); (case hgo => first | assumption | exact upd_same); (case hga => first | exact rfl | assumption))
  | (with_reducible refine' Gk.ret ?_)
  | (with_reducible refine' Gk.drop ?_)
  | (with_reducible refine' Gk.par ?_)
  | (with_reducible refine' Gk.andT ?_)
  | (with_reducible refine' Gk.orT ?_)
  | (with_reducible refine' Gk.notT ?_)
  | (with_reducible refine' Gk.abs ?_)
  | (with_reducible refine' Gk.intI ?_)
  | (with_reducible refine' Gk.intB ?_)
  | ((with_reducible refine' Gk.lenL ?hgo ?_); (case hgo => walk_at "sq"))
  | ((with_reducible refine' Gk.lenT ?hgo ?_); (case hgo => walk_at "sq"))
  | ((with_reducible refine' K60.lenD ?hgo ?_); (case hgo => assumption))
  | (with_reducible refine' K60.zipA ?_)
  | (with_reducible refine' K60.listI ?_)
  | (with_reducible refine' K60.tupI ?_)
  | (with_reducible refine' K60.dget2 ?_)
  | (with_reducible refine' K60.dget ?_)
  | (with_reducible refine' K60.dput ?_)
  | ((with_reducible refine' K60.aug ?hgo ?_); (case hgo => exact rfl))
  | (with_reducible refine' K60.ipI ?_)
  | (with_reducible refine' K60.newT ?_)
  | (with_reducible refine' Gk.bm ?_)
  | ((with_reducible refine' Gk.tyL ?hgo ?_); (case hgo => first | assumption | exact upd_same))
  | ((with_reducible refine' Gk.gtup ?hgo ?hga ?_); (case hgo => walk_at "sq"); (case hga => exact rfl))
  | (with_reducible refine' Gk.gcons ?_)
  | (with_reducible refine' Gk.gnil ?_)
  | (with_reducible refine' Gk.sl ?_)
  | (with_reducible refine' Gk.noPart ?_)
  | (with_reducible refine' Gk.part ?_)
  | (with_reducible refine' Gk.partI ?_)
  | (with_reducible refine' Gk.lc ?_)
  | (with_reducible refine' Gk.rng1 ?_)
  | (with_reducible refine' Gk.forS ?_)
  | (with_reducible refine' Gk.isN ?_)
  | (with_reducible refine' Gk.notN ?_)
  | (with_reducible refine' Gk.andV ?_)
  | (with_reducible refine' Gk.orV ?_)
  | (with_reducible refine' Gk.notV ?_)
  | (with_reducible refine' K60.chain ?_)
  | ((with_reducible refine' K60.isiI ?hgo ?_); (case hgo => assumption))
  | ((with_reducible refine' K60.isiBo ?hgo ?_); (case hgo => assumption))
  | ((with_reducible refine' K60.isiT ?hgo ?_); (case hgo => assumption))
  | ((with_reducible refine' Gk.isiB ?hgo ?hga ?_); (case hgo => exact .base (.non)); (case hga => first | exact (show kitB _ _ = some true by decide +kernel) | exact (show kitB _ _ = some false by decide +kernel)))
  | ((with_reducible refine' Gk.isiB ?hgo ?hga ?_); (case hgo => exact .base (.int _)); (case hga => first | exact (show kitB _ _ = some true by decide +kernel) | exact (show kitB _ _ = some false by decide +kernel)))
  | ((with_reducible refine' Gk.isiB ?hgo ?hga ?_); (case hgo => exact .base (.str _)); (case hga => first | exact (show kitB _ _ = some true by decide +kernel) | exact (show kitB _ _ = some false by decide +kernel)))
  | ((with_reducible refine' Gk.isiB ?hgo ?hga ?_); (case hgo => exact .base (.bl _)); (case hga => first | exact (show kitB _ _ = some true by decide +kernel) | exact (show kitB _ _ = some false by decide +kernel)))
  | ((with_reducible refine' Gk.isiB ?hgo ?hga ?_); (case hgo => exact .base (.tup (by assumption))); (case hga => first | exact (show kitB _ _ = some true by decide +kernel) | exact (show kitB _ _ = some false by decide +kernel)))
  | ((with_reducible refine' Gk.isiB ?hgo ?hga ?_); (case hgo => exact .base (.lst (by assumption))); (case hga => first | exact (show kitB _ _ = some true by decide +kernel) | exact (show kitB _ _ = some false by decide +kernel)))
  | ((with_reducible refine' Gk.iteT ?hgo ?_); (case hgo => exact rfl))
  | ((with_reducible refine' Gk.iteF ?hgo ?_); (case hgo => exact rfl))
  | (with_reducible refine' Gk.yes ?_)
  | (dsimp only))

abbrev sNeedNever : Stmt := top 21
theorem scNeedNever : FnScope ["never", "at"] ["never"] (defScope sNeedNever) := ⟨rfl, rfl, rfl, by decide +kernel, rfl, by decide +kernel, by decide +kernel⟩
abbrev sNeedGoal : Stmt := top 22
theorem scNeedGoal : FnScope ["goal"] ["goal"] (defScope sNeedGoal) := ⟨rfl, rfl, rfl, by decide +kernel, rfl, by decide +kernel, by decide +kernel⟩
abbrev sNeedHints : Stmt := top 23
theorem scNeedHints : FnScope ["hints", "hint"] ["hints"] (defScope sNeedHints) := ⟨rfl, rfl, rfl, by decide +kernel, rfl, by decide +kernel, by decide +kernel⟩
section
variable {P : Program} {w : World} {K : PySem.W.Frag} {mg : Str → Option Value} {base : Heap} {C : Addr}
theorem cl_need_goal (T : Glo mg) (h : Has K mg "need_goal" sNeedGoal) (e_BadGoal : ErC K mg "BadGoal" C) (c_IsForm : Cl P w K mg base "is_form" ["thing"] 4 (fun vs H Q _ => ∃ x d, vs = [x] ∧ Dp K H x d ∧ fitF d = true ∧ Q (.bl (isForm d)) H)) :
    ClX P w K mg base "need_goal" ["goal"] 5 (spNeed K C fitF isForm) := by
  obtain ⟨f_IsForm, fd_IsForm, m_IsForm, k_IsForm, b_IsForm, G_IsForm⟩ := c_IsForm
  obtain ⟨f, fd, m_, F⟩ := h
  refine ⟨f, fd, m_, F.kp, F.binds (ps := ["goal"]) fun _ _ _ _ _ _ us hl => match us, hl with | [_], _ => rfl, ?_⟩
  refine F.okX scNeedGoal (fun vs H Q E h => ?_) (fun cdv A outer s H vs Q E hr h => ?_)
  · obtain ⟨x, d, rfl, _⟩ := h
    rfl
  · obtain ⟨x, d, rfl, hd, hf, k1, k2⟩ := h
    refine ⟨_, (pss_one (ps_if (pt_not (pt_val (pe_call G_IsForm (hr.mono (by omega)) rfl m_IsForm k_IsForm b_IsForm .nil pass0 (pa_cons (pv 0) pa_nil))))
    (pss_one (ps_raise (W := fun cls d _ H => E cls d H) rfl (takes_of rfl rfl rfl rfl) (pmk_own PySem.F.excBase_ValueError e_BadGoal.q e_BadGoal.g e_BadGoal.k (raises_own e_BadGoal.s e_BadGoal.t) rfl)))
    pss_nil)), ?_⟩
    repeat walk_at "go1"
    refine ⟨x, d, rfl, hd, hf, ?_⟩
    repeat walk_at "go1"
    refine Gk.iteQ (fun h1 => ?_) (fun h1 => ?_)
    · repeat walk_at "go1"
      exact k2 (bnot h1)
    · repeat walk_at "go1"
      exact k1 (bnotF h1)
theorem cl_need_hints (T : Glo mg) (h : Has K mg "need_hints" sNeedHints) (e_BadHints : ErC K mg "BadHints" C) (c_IsHint : Cl P w K mg base "is_hint" ["thing"] 5 (fun vs H Q _ => ∃ x d, vs = [x] ∧ Dp K H x d ∧ fitH d = true ∧ Q (.bl (isHint d)) H)) :
    ClX P w K mg base "need_hints" ["hints"] 6 (spNeed K C fitHs isHints) := by
  obtain ⟨f_IsHint, fd_IsHint, m_IsHint, k_IsHint, b_IsHint, G_IsHint⟩ := c_IsHint
  obtain ⟨f, fd, m_, F⟩ := h
  refine ⟨f, fd, m_, F.kp, F.binds (ps := ["hints"]) fun _ _ _ _ _ _ us hl => match us, hl with | [_], _ => rfl, ?_⟩
  refine F.okX scNeedHints (fun vs H Q E h => ?_) (fun cdv A outer s H vs Q E hr h => ?_)
  · obtain ⟨x, d, rfl, _⟩ := h
    rfl
  · obtain ⟨x, d, rfl, hd, hf, k1, k2⟩ := h
    refine ⟨_, (pss_cons (ps_if (PW.pt (pw_or (pt_not (pt_val (pe_callB (Gk.eIsi K) (by rfl) T.isinstance (by decide +kernel) (pa_cons (pv 0) (pa_cons (pe_bltn (v := .ty "tuple") (by rfl) T.tuple (by decide +kernel) rfl) pa_nil))))) (pw_or1 (pt_cmpR op_gt (pe_callB (Gk.eLen K) (by rfl) T.len PySem.boot_len (pa_cons (pv 0) pa_nil)) (pe_glob (v := .int 8000) (u := .int 8000 T.MOST_HINTS.choose) rfl T.MOST_HINTS.choose_spec ⟨_, rfl⟩) (nomark _)))))
    (pss_one (ps_raise (W := fun cls d _ H => E cls d H) rfl (takes_of rfl rfl rfl rfl) (pmk_own PySem.F.excBase_ValueError e_BadHints.q e_BadHints.g e_BadHints.k (raises_own e_BadHints.s e_BadHints.t) rfl)))
    pss_nil)
  (pss_one (ps_for (passes_of rfl) rfl (Gk.ePiT K (pv 0)) (pg_name (i := 1) scNeedHints.nd rfl (Or.inl rfl))
    (pss_one (ps_if (pt_not (pt_val (pe_call G_IsHint (hr.mono (by omega)) rfl m_IsHint k_IsHint b_IsHint .nil pass0 (pa_cons (pv 1) pa_nil))))
      (pss_one (ps_raise (W := fun cls d _ H => E cls d H) rfl (takes_of rfl rfl rfl rfl) (pmk_own PySem.F.excBase_ValueError e_BadHints.q e_BadHints.g e_BadHints.k (raises_own e_BadHints.s e_BadHints.t) rfl)))
      pss_nil))))), ?_⟩
    repeat walk_at "go1"
    refine Gk.iteQ (fun h1 => ?_) (fun h1 => ?_)
    · repeat walk_at "go1"
      exact k2 (by cases d <;> first | rfl | (cases h1; done))
    obtain ⟨ds, rfl⟩ := isTu_of (bnotF h1)
    have hf2 : ds.all fitH = true := hf
    repeat walk_at "go1"
    refine Gk.iteQ (fun h2 => ?_) (fun h2 => ?_)
    · repeat walk_at "go1"
      refine k2 ?_
      have : ¬ ds.length ≤ 8000 := by have := of_decide_eq_true h2; omega
      show (decide (ds.length ≤ 8000) && ds.all isHint) = false
      rw [decide_eq_false this]
      rfl
    have hl : ds.length ≤ 8000 := by have := of_decide_eq_false h2; omega
    have e0 : isHints (.tuple ds) = ds.all isHint := by
      show (decide (ds.length ≤ 8000) && ds.all isHint) = _
      rw [decide_eq_true hl]
      rfl
    rw [e0] at k1 k2
    repeat walk_at "go1"
    cases hd with
    | tup hs ha =>
    rename_i a xs
    have lx := DpAll.len ha
    refine ⟨_, rfl, a, rfl, ⟨xs, hs⟩, Gk.forT (fun i σ' H' => (∃ y : Option V, σ' = [some (.ref a), y]) ∧ H' = H ∧ ∀ j, j < i → ∀ e, ds[j]? = some e → isHint e = true) ⟨⟨none, rfl⟩, rfl, fun j hj => by omega⟩ (fun i σ' H' _ q => by rw [q.2.1]; exact hs) ?_ ?_⟩
    · rintro i v σ' H' hv ⟨⟨y, rfl⟩, rfl, hall⟩
      have hi : i < ds.length := by rw [← lx]; exact (List.getElem?_eq_some_iff.mp hv).1
      have ee : ds[i]? = some ds[i] := List.getElem?_eq_getElem hi
      obtain ⟨v', e1, g1⟩ := DpAll.get ha i _ ee
      rw [hv] at e1
      cases e1
      have hfi : fitH ds[i] = true := List.all_eq_true.mp hf2 _ (List.getElem_mem hi)
      repeat walk_at "go1"
      refine ⟨v, ds[i], rfl, g1, hfi, ?_⟩
      repeat walk_at "go1"
      refine Gk.iteQ (fun h3 => ?_) (fun h3 => ?_)
      · repeat walk_at "go1"
        refine k2 ?_
        rw [List.all_eq_false]
        exact ⟨ds[i], List.getElem_mem hi, by rw [bnot h3]; decide⟩
      · repeat walk_at "go1"
        refine ⟨⟨_, rfl⟩, rfl, fun j hj e he => ?_⟩
        by_cases hji : j = i
        · subst hji
          rw [ee] at he
          cases he
          exact bnotF h3
        · exact hall j (by omega) e he
    · rintro σ' H' ⟨⟨y, rfl⟩, rfl, hall⟩
      refine k1 (List.all_eq_true.mpr fun e he => ?_)
      obtain ⟨j, hj, rfl⟩ := List.getElem_of_mem he
      exact hall j (by omega) _ (List.getElem?_eq_getElem hj)
theorem cl_need_never (T : Glo mg) (h : Has K mg "need_never" sNeedNever) (e_BadNever : ErC K mg "BadNever" C) (c_Within : Cl P w K mg base "within" ["x", "low", "high"] 2 (spWithin K)) :
    ClX P w K mg base "need_never" ["never"] 5 (spNeed K C (fun _ => true) isNever) := by
  obtain ⟨f_Within, fd_Within, m_Within, k_Within, b_Within, G_Within⟩ := c_Within
  obtain ⟨f, fd, m_, F⟩ := h
  refine ⟨f, fd, m_, F.kp, F.binds (ps := ["never"]) fun _ _ _ _ _ _ us hl => match us, hl with | [_], _ => rfl, ?_⟩
  refine F.okX scNeedNever (fun vs H Q E h => ?_) (fun cdv A outer s H vs Q E hr h => ?_)
  · obtain ⟨x, d, rfl, _⟩ := h
    rfl
  · obtain ⟨x, d, rfl, hd, _, k1, k2⟩ := h
    refine ⟨_, (pss_cons (ps_if (PW.pt (pw_or (pt_not (pt_val (pe_callB (Gk.eIsi K) (by rfl) T.isinstance (by decide +kernel) (pa_cons (pv 0) (pa_cons (pe_bltn (v := .ty "tuple") (by rfl) T.tuple (by decide +kernel) rfl) pa_nil))))) (pw_or1 (pt_cmpR op_gt (pe_callB (Gk.eLen K) (by rfl) T.len PySem.boot_len (pa_cons (pv 0) pa_nil)) (pe_glob (v := .int 12) (u := .int 12 T.LAST_NUMBER.choose) rfl T.LAST_NUMBER.choose_spec ⟨_, rfl⟩) (nomark _)))))
    (pss_one (ps_raise (W := fun cls d _ H => E cls d H) rfl (takes_of rfl rfl rfl rfl) (pmk_own PySem.F.excBase_ValueError e_BadNever.q e_BadNever.g e_BadNever.k (raises_own e_BadNever.s e_BadNever.t) rfl)))
    pss_nil)
  (pss_one (ps_for (passes_of rfl) rfl (pi_range1 (by rfl) T.range (pa_cons (pe_callB (Gk.eLen K) (by rfl) T.len PySem.boot_len (pa_cons (pv 0) pa_nil)) pa_nil)) (pg_name (i := 1) scNeedNever.nd rfl (Or.inl rfl))
    (pss_one (ps_if (PW.pt (pw_or (pt_not (pt_val (pe_call G_Within (hr.mono (by omega)) rfl m_Within k_Within b_Within .nil pass0 (pa_cons (pe_ix (Gk.eIxT K) (pv 0) (pv 1) (fun _ _ => rfl)) (pa_cons pe_int (pa_cons (pe_glob (v := .int 12) (u := .int 12 T.LAST_NUMBER.choose) rfl T.LAST_NUMBER.choose_spec ⟨_, rfl⟩) pa_nil)))))) (pw_or1 (PW.pt (pw_and (pt_cmpR op_gt (pv 1) pe_int (nomark _)) (pw_and1 (pt_cmpR op_ge (pe_ix (Gk.eIxT K) (pv 0) (pe_op op_sub (pv 1) pe_int) (fun _ _ => rfl)) (pe_ix (Gk.eIxT K) (pv 0) (pv 1) (fun _ _ => rfl)) (nomark _))))))))
      (pss_one (ps_raise (W := fun cls d _ H => E cls d H) rfl (takes_of rfl rfl rfl rfl) (pmk_own PySem.F.excBase_ValueError e_BadNever.q e_BadNever.g e_BadNever.k (raises_own e_BadNever.s e_BadNever.t) rfl)))
      pss_nil))))), ?_⟩
    repeat walk_at "go1"
    refine Gk.iteQ (fun h1 => ?_) (fun h1 => ?_)
    · repeat walk_at "go1"
      exact k2 (by cases d <;> first | rfl | (cases h1; done))
    obtain ⟨ds, rfl⟩ := isTu_of (bnotF h1)
    repeat walk_at "go1"
    refine Gk.iteQ (fun h2 => ?_) (fun h2 => ?_)
    · repeat walk_at "go1"
      refine k2 ?_
      have : ¬ ds.length ≤ 12 := by have := of_decide_eq_true h2; omega
      show (decide (ds.length ≤ 12) && ascOk none ds) = false
      rw [decide_eq_false this]
      rfl
    have hl : ds.length ≤ 12 := by have := of_decide_eq_false h2; omega
    have e0 : isNever (.tuple ds) = ascOk none ds := by
      show (decide (ds.length ≤ 12) && ascOk none ds) = _
      rw [decide_eq_true hl]
      rfl
    rw [e0] at k1 k2
    repeat walk_at "go1"
    refine ⟨(ds.length : Int), rfl, by omega, by omega, Gk.forR (lo := 0) (n := (ds.length : Int).toNat) (fun i σ' H' => (∃ y : Option V, σ' = [some x, y]) ∧ H' = H ∧
      ∃ p : Option Int, ascOk none ds = ascOk p (ds.drop i) ∧ (i = 0 → p = none) ∧ ∀ j, i = j + 1 → ∃ m, ds[j]? = some (.int m) ∧ p = some m) ⟨⟨none, rfl⟩, rfl, none, rfl, fun _ => rfl, fun j e => by omega⟩ ?_ ?_⟩
    · rintro i σ' H' hi ⟨⟨y, rfl⟩, rfl, p, hp, hp0, hp1⟩
      have hil : i < ds.length := by omega
      have eat : ds[i]? = some ds[i] := List.getElem?_eq_getElem hil
      have edr : ds.drop i = ds[i] :: ds.drop (i + 1) := List.drop_eq_getElem_cons hil
      rw [edr] at hp
      generalize ds[i] = t at *
      repeat walk_at "go1"
      rw [Int.zero_add]
      refine ixD (n := i) hd eat fun vi gi => ?_
      repeat walk_at "go1"
      refine ⟨vi, t, 1, 12, rfl, gi, ?_⟩
      repeat walk_at "go1"
      refine Gk.iteQ (fun q1 => ?_) (fun q1 => ?_)
      · repeat walk_at "go1"
        refine k2 ?_
        rw [hp]
        show (within t 1 12 && _) = false
        rw [bnot q1]
        rfl
      have hw := bnotF q1
      obtain ⟨m, rfl, _, _⟩ := within_int hw
      have hp2 : ascOk p (.int m :: ds.drop (i + 1)) = (upN p (.int m) && ascOk (some m) (ds.drop (i + 1))) := by
        show (within (.int m) 1 12 && _) = _
        rw [hw]
        rfl
      rw [hp2] at hp
      repeat walk_at "go1"
      refine Gk.iteQ (fun q6 => ?_) (fun q6 => ?_)
      · have hi0 : i ≠ 0 := fun e => by rw [e] at q6; cases q6
        obtain ⟨j, rfl⟩ : ∃ j, i = j + 1 := ⟨i - 1, by omega⟩
        obtain ⟨m2, e2, rfl⟩ := hp1 j rfl
        have ei : ((j + 1 : Nat) : Int) - 1 = (j : Int) := by omega
        have hp3 : ascOk none ds = (decide (m2 < m) && ascOk (some m) (ds.drop (j + 1 + 1))) := hp
        repeat walk_at "go1"
        rw [ei]
        refine ixD (n := j) hd e2 fun v2 g2 => ?_
        cases Dp.int_inv g2
        repeat walk_at "go1"
        refine ixD (n := j + 1) hd eat fun v3 g3 => ?_
        cases Dp.int_inv g3
        repeat walk_at "go1"
        refine Gk.iteQ (fun q7 => ?_) (fun q7 => ?_)
        · repeat walk_at "go1"
          refine k2 ?_
          have : ¬ m2 < m := by have := of_decide_eq_true q7; omega
          rw [hp3, decide_eq_false this]
          rfl
        · repeat walk_at "go1"
          have : m2 < m := by have := of_decide_eq_false q7; omega
          refine ⟨⟨_, rfl⟩, rfl, some m, by rw [hp3, decide_eq_true this]; rfl, fun e => by omega, fun j' e => ?_⟩
          have ej : j' = j + 1 := by omega
          rw [ej]
          exact ⟨m, eat, rfl⟩
      · have hi0 : i = 0 := by
          by_cases e : i = 0
          · exact e
          · have q8 : ¬ ((i : Int) > 0) := of_decide_eq_false q6
            omega
        repeat walk_at "go1"
        rw [hp0 hi0] at hp
        refine ⟨⟨_, rfl⟩, rfl, some m, hp, fun e => by omega, fun j' e => ?_⟩
        have ej : j' = i := by omega
        rw [ej]
        exact ⟨m, eat, rfl⟩
    · rintro σ' H' ⟨⟨y, rfl⟩, rfl, p, hp, hp0, hp1⟩
      have ed : ds.drop (ds.length : Int).toNat = [] := List.drop_eq_nil_iff.mpr (by omega)
      rw [ed] at hp
      exact k1 (by rw [hp]; cases p <;> rfl)
end
end K60
namespace K60
open PySem L2
open Evl (Ex)
/-! ### tracked data: nothing but tuples -/
mutual
inductive Tk (H : Hp) : V → D → Prop
  | non : Tk H .non .none
  | bl (b : Bool) : Tk H (.bl b) (.bool b)
  | int (i : Int) : Tk H (.int i) (.int i)
  | str (x : Str) : Tk H (.str x) (.str x)
  | tup {a : Addr} {xs : List V} {ds : List D} : H a = some (.tup xs) → TkAll H xs ds → Tk H (.ref a) (.tuple ds)
inductive TkAll (H : Hp) : List V → List D → Prop
  | nil : TkAll H [] []
  | cons {v : V} {vs : List V} {d : D} {ds : List D} : Tk H v d → TkAll H vs ds → TkAll H (v :: vs) (d :: ds)
end
/-- tuples stay -/
def Tx (H H' : Hp) : Prop := ∀ a xs, H a = some (.tup xs) → H' a = some (.tup xs)
theorem Tx.of_ex {H H' : Hp} (x : Ex H H') : Tx H H' := fun a xs h => x _ _ h
section
variable {K : PySem.W.Frag} {H H' : Hp}
mutual
theorem Tk.mono (x : Tx H H') : ∀ (d : D) (v : V), Tk H v d → Tk H' v d
  | .none, _, h => by
    cases h
    exact .non
  | .bool b, _, h => by
    cases h
    exact .bl b
  | .int i, _, h => by
    cases h
    exact .int i
  | .str z, _, h => by
    cases h
    exact .str z
  | .list ds, _, h => by cases h
  | .tuple ds, _, h => by
    cases h with
    | tup hs ha => exact .tup (x _ _ hs) (Tk.monoAll x ds _ ha)
  | .dict _, _, h => by cases h
theorem Tk.monoAll (x : Tx H H') : ∀ (ds : List D) (vs : List V), TkAll H vs ds → TkAll H' vs ds
  | [], _, h => by
    cases h
    exact .nil
  | d :: ds, _, h => by
    cases h with
    | cons h1 h2 => exact .cons (Tk.mono x d _ h1) (Tk.monoAll x ds _ h2)
end
mutual
theorem Tk.dp : ∀ (d : D) (v : V), Tk H v d → Dp K H v d
  | .none, _, h => by
    cases h
    exact .non
  | .bool b, _, h => by
    cases h
    exact .bl b
  | .int i, _, h => by
    cases h
    exact .int i
  | .str z, _, h => by
    cases h
    exact .str z
  | .list ds, _, h => by cases h
  | .tuple ds, _, h => by
    cases h with
    | tup hs ha => exact .tup (SqT.of hs) (Tk.dpAll ds _ ha)
  | .dict _, _, h => by cases h
theorem Tk.dpAll : ∀ (ds : List D) (vs : List V), TkAll H vs ds → DpAll K H vs ds
  | [], _, h => by
    cases h
    exact .nil
  | d :: ds, _, h => by
    cases h with
    | cons h1 h2 => exact .cons (Tk.dp d _ h1) (Tk.dpAll ds _ h2)
end
theorem SqT.ex {a : Addr} {xs : List V} (x : Ex H H') (h : SqT K H a xs) : SqT K H' a xs := by
  rcases h with (h | ⟨o, h⟩) | h
  · exact .inl (.inl (x _ _ h))
  · exact .inl (.inr ⟨o, x _ _ h⟩)
  · exact .inr h
theorem SqL.ex {a : Addr} {xs : List V} (x : Ex H H') (h : SqL K H a xs) : SqL K H' a xs := by
  rcases h with (h | ⟨o, h⟩) | h
  · exact .inl (.inl (x _ _ h))
  · exact .inl (.inr ⟨o, x _ _ h⟩)
  · exact .inr h
mutual
theorem Dp.ex (x : Ex H H') : ∀ (d : D) (v : V), Dp K H v d → Dp K H' v d
  | .none, _, h => by
    cases h
    exact .non
  | .bool b, _, h => by
    cases h
    exact .bl b
  | .int i, _, h => by
    cases h
    exact .int i
  | .str z, _, h => by
    cases h
    exact .str z
  | .list ds, _, h => by
    cases h with
    | lst hs ha => exact .lst (SqL.ex x hs) (Dp.exAll x ds _ ha)
  | .tuple ds, _, h => by
    cases h with
    | tup hs ha => exact .tup (SqT.ex x hs) (Dp.exAll x ds _ ha)
  | .dict _, _, h => by cases h
theorem Dp.exAll (x : Ex H H') : ∀ (ds : List D) (vs : List V), DpAll K H vs ds → DpAll K H' vs ds
  | [], _, h => by
    cases h
    exact .nil
  | d :: ds, _, h => by
    cases h with
    | cons h1 h2 => exact .cons (Dp.ex x d _ h1) (Dp.exAll x ds _ h2)
end
theorem TkAll.len : ∀ {xs : List V} {ds : List D}, TkAll H xs ds → xs.length = ds.length
  | _, _, .nil => rfl
  | _, _, .cons _ b => congrArg Nat.succ (TkAll.len b)
theorem TkAll.get : ∀ {xs : List V} {ds : List D}, TkAll H xs ds → ∀ (n : Nat) (e : D), ds[n]? = some e → ∃ v, xs[n]? = some v ∧ Tk H v e
  | _, _, .nil, _, _, h => nomatch h
  | _, _, .cons a b, 0, e, h => ⟨_, rfl, by cases h; exact a⟩
  | _, _, .cons a b, n + 1, e, h => TkAll.get b n e h
theorem DpAll.cut2 {xs : List V} {a b : D} (h : DpAll K H xs [a, b]) : ∃ x y, xs = [x, y] ∧ Dp K H x a ∧ Dp K H y b := by
  cases h with
  | cons h1 h =>
    cases h with
    | cons h2 h =>
      cases h
      exact ⟨_, _, rfl, h1, h2⟩
end
theorem eZip {X : Cx} (K : PySem.W.Frag) {e e2 : Expr} {ta : TA} {p pos tpos : Pos} {elts : List Expr} {kk : Nat} (hg : Gl X "zip") (hm : X.mg "zip" = none) (ha : PA X [e, e2] ta) (h : X.K = K := by rfl)
    (hs : starEach [e, e2] X.env = (false, eval e X.env) :: starEach [e2] X.env := by rfl) (hpl : (backTo pos (starEach [e2] X.env)).any (·.1) = false := by rfl) :
    PI X (.Tuple elts kk tpos) (.Call (.Name "zip" p) [e, e2] [] pos) (RZ.iZipA K ta) := h ▸ RZ.pi_zipA hg hm ha hs hpl
theorem zipA {K : PySem.W.Frag} {ta : TA} {σ : L2.St} {H : Hp} {R : It → Hp → Prop} (k : ta σ H fun vs H1 => ∃ a b xs ys, vs = [.ref a, .ref b] ∧ ((SqL K H1 a xs ∧ SqL K H1 b ys ∧ R (Itz K a b) H1) ∨ (SqT K H1 a xs ∧ SqT K H1 b ys ∧ R (RZ.ItzT K a b) H1))) : RZ.iZipA K ta σ H R := k
theorem forZT {K : PySem.W.Frag} {a b : Addr} {xs ys : List V} {g : TG} {tb : TS} {σ : L2.St} {H : Hp} {A : L2.St → Hp → Prop} {R : V → Hp → Prop} (hl : xs.length = ys.length) (Pv : Nat → L2.St → Hp → Prop) (h0 : Pv 0 σ H) (hq : ∀ i σ H, Pv i σ H → SqT K H a xs ∧ SqT K H b ys)
    (hs : ∀ (i : Nat) (x y : V) (T : Addr) (σ : L2.St) (H : Hp), xs[i]? = some x → ys[i]? = some y → Pv i σ H → H T = none → g (.ref T) σ (upd H T (.tup [x, y])) fun σ2 H2 => tb { nx := Pv (i + 1), rt := R, bk := A, ct := Pv (i + 1) } σ2 H2) (hd : ∀ σ H, Pv xs.length σ H → A σ H) :
    ∃ W : Nat → Nat → L2.St → Hp → Prop, (∃ m, W 0 m σ H) ∧ ∀ i m σ H, W i m σ H →
      ((RZ.ItzT K a b).stop i H ∧ A σ H) ∨ ((RZ.ItzT K a b).go i H ∧ ∃ N : L2.St → Hp → Prop, (∀ σ' H', N σ' H' → ∃ m', m' < m ∧ W (i + 1) m' σ' H') ∧ ∀ v H', (RZ.ItzT K a b).yld i H v H' → g v σ H' fun σ2 H2 => tb { nx := N, rt := R, bk := A, ct := N } σ2 H2) :=
  RZ.for_zipT (D := { nx := A, rt := R, bk := A, ct := A }) hl Pv h0 hq hs hd
/-! ### showings -/
def neg : D → Bool
  | .int i => decide (i < 0)
  | _ => false
def exactH : D → Bool
  | .tuple [_, .bool b, _] => b
  | _ => false
def byOk (h m : D) : Bool := isIntD m && !(neg m && !exactH h)
def byAll : List D → List D → Bool
  | [], [] => true
  | h :: hs, m :: ms => byOk h m && byAll hs ms
  | _, _ => false
def fits (hs : List D) : D → Bool
  | .tuple [s, .tuple ms] => isIntD s && (!neg s && byAll hs ms)
  | _ => false
theorem fits_len {hs ds : List D} (h : ds.length ≠ 2) : fits hs (.tuple ds) = false := by
  match ds, h with
  | [], _ => rfl
  | [_], _ => rfl
  | [_, _], h => exact absurd rfl h
  | _ :: _ :: _ :: _, _ => simp [fits]
theorem byAll_len : ∀ {hs ms : List D}, byAll hs ms = true → ms.length = hs.length
  | [], [], _ => rfl
  | [], _ :: _, h => nomatch h
  | _ :: _, [], h => nomatch h
  | h :: hs, m :: ms, e => congrArg Nat.succ (byAll_len (Bool.and_eq_true_iff.mp e).2)
theorem byAll_at : ∀ {hs ms : List D}, ms.length = hs.length → (byAll hs ms = true ↔ ∀ (i : Nat) (h m : D), hs[i]? = some h → ms[i]? = some m → byOk h m = true)
  | [], [], _ => ⟨fun _ i h m e => (by cases e), fun _ => rfl⟩
  | [], _ :: _, h => nomatch h
  | _ :: _, [], h => nomatch h
  | h :: hs, m :: ms, e => by
    have e' : ms.length = hs.length := Nat.succ.inj e
    show (byOk h m && byAll hs ms) = true ↔ _
    rw [Bool.and_eq_true_iff, byAll_at e']
    constructor
    · rintro ⟨a, b⟩ i h' m' e1 e2
      cases i with
      | zero =>
        cases e1
        cases e2
        exact a
      | succ i => exact b i h' m' e1 e2
    · intro a
      exact ⟨a 0 h m rfl rfl, fun i h' m' e1 e2 => a (i + 1) h' m' e1 e2⟩
theorem hint_inv {d : D} (h : isHint d = true) : ∃ f b o, d = .tuple [f, .bool b, o] ∧ isForm f = true ∧ isOrigin o = true := by
  match d, h with
  | .tuple [f, e, o], h =>
    have h1 := Bool.and_eq_true_iff.mp h
    have h2 := Bool.and_eq_true_iff.mp h1.2
    cases e with
    | bool b => exact ⟨f, b, o, rfl, h1.1, h2.2⟩
    | _ => cases h2.1
/-- showing_fits -/
def spFits (K : PySem.W.Frag) : Sp := fun vs H Q _ => ∃ (vh x : V) (hs : List D) (d : D), vs = [vh, x] ∧ Dp K H vh (.tuple hs) ∧ (∀ h ∈ hs, isHint h = true) ∧ Dp K H x d ∧ ∀ H', Ex H H' → Q (.bl (fits hs d)) H'
local macro_rules | `(tactic| walk_at "sq") => `(tactic| first | assumption | exact SqL.of (by assumption) | exact SqT.of (by assumption) | exact SqL.of upd_same | exact SqT.of upd_same)
local macro_rules | `(tactic| walk_at "go1") => `(tactic| first
  | (with_reducible refine' Gk.seq ?_)
  | ((with_reducible refine' Gk.var ?hgo ?_); (case hgo => exact rfl))
  | (with_reducible refine' Gk.con ?_)
  | (with_reducible refine' Gk.op ?_)
  | (with_reducible refine' Gk.i0 ?_)
  | (with_reducible refine' Gk.un ?_)
  | ((with_reducible refine' Gk.i1 (C := CMul) ?hgo ?_); (case hgo => first | exact .inl ⟨by decide, by decide⟩ | exact .inr ⟨by decide, by decide⟩ | exact .inl ⟨by omega, by omega⟩ | exact .inr ⟨by omega, by omega⟩))
  | ((with_reducible refine' Gk.i1 (C := CDiv) ?hgo ?_); (case hgo => exact ⟨by omega, by omega⟩))
  | ((with_reducible refine' Gk.i1 (C := CPow) ?hgo ?_); (case hgo => exact ⟨by decide, by decide, by decide⟩))
  | ((with_reducible refine' Gk.i1 (C := fun _ j => 0 < j) ?hgo ?_); (case hgo => show (0 : Int) < _; omega))
  | (with_reducible refine' Gk.u1 ?_)
  | (with_reducible refine' Gk.test ?_)
  | (with_reducible refine' Gk.testB ?_)
  | (with_reducible refine' Gk.asB ?_)
  | (with_reducible refine' K60.eqI ?_)
  | (with_reducible refine' K60.neI ?_)
  | ((with_reducible refine' Gk.eqv ?hgo ?_); (case hgo => exact rfl))
  | ((with_reducible refine' Gk.nev ?hgo ?_); (case hgo => exact rfl))
  | ((with_reducible refine' Gk.ixL ?hgo ?hga ?_); (case hgo => walk_at "sq"); (case hga => first | exact rfl | assumption))
  | ((with_reducible refine' Gk.ixT ?hgo ?hga ?_); (case hgo => walk_at "sq"); (case hga => first | exact rfl | assumption))
  | (with_reducible refine' Gk.aNil ?_)
  | (with_reducible refine' Gk.aCons ?_)
  | (with_reducible refine' Gk.cb ?_)
  | (with_reducible refine' Gk.call ?_)
  | (with_reducible refine' Gk.tup ?_)
  | (with_reducible refine' Gk.lst ?_)
  | (with_reducible refine' Gk.ifE ?_)
  | (with_reducible refine' Gk.ifS ?_)
  | (with_reducible refine' Gk.next ?_)
  | (with_reducible refine' Gk.asg ?_)
  | ((with_reducible refine' Gk.gname ?hgo ?_); (case hgo => exact rfl))
  | (with_reducible refine' Gk.gsub ?_)
  | ((with_reducible refine' Gk.setL ?hgo ?hga ?_); (case hgo => first | assumption | exact upd_same); (case hga => first | exact rfl | assumption))
  | (with_reducible refine' Gk.ret ?_)
  | (with_reducible refine' Gk.drop ?_)
  | (with_reducible refine' Gk.par ?_)
  | (with_reducible refine' Gk.andT ?_)
  | (with_reducible refine' Gk.orT ?_)
  | (with_reducible refine' Gk.notT ?_)
  | (with_reducible refine' Gk.abs ?_)
  | (with_reducible refine' Gk.intI ?_)
  | (with_reducible refine' Gk.intB ?_)
  | ((with_reducible refine' Gk.lenL ?hgo ?_); (case hgo => walk_at "sq"))
  | ((with_reducible refine' Gk.lenT ?hgo ?_); (case hgo => walk_at "sq"))
  | ((with_reducible refine' K60.lenD ?hgo ?_); (case hgo => assumption))
  | (with_reducible refine' K60.zipA ?_)
  | (with_reducible refine' K60.listI ?_)
  | (with_reducible refine' K60.tupI ?_)
  | (with_reducible refine' K60.dget2 ?_)
  | (with_reducible refine' K60.dget ?_)
  | (with_reducible refine' K60.dput ?_)
  | ((with_reducible refine' K60.aug ?hgo ?_); (case hgo => exact rfl))
  | (with_reducible refine' K60.ipI ?_)
  | (with_reducible refine' K60.newT ?_)
  | (with_reducible refine' Gk.bm ?_)
  | ((with_reducible refine' Gk.tyL ?hgo ?_); (case hgo => first | assumption | exact upd_same))
  | ((with_reducible refine' Gk.gtup ?hgo ?hga ?_); (case hgo => walk_at "sq"); (case hga => exact rfl))
  | (with_reducible refine' Gk.gcons ?_)
  | (with_reducible refine' Gk.gnil ?_)
  | (with_reducible refine' Gk.sl ?_)
  | (with_reducible refine' Gk.noPart ?_)
  | (with_reducible refine' Gk.part ?_)
  | (with_reducible refine' Gk.partI ?_)
  | (with_reducible refine' Gk.lc ?_)
  | (with_reducible refine' Gk.rng1 ?_)
  | (with_reducible refine' Gk.forS ?_)
  | (with_reducible refine' Gk.isN ?_)
  | (with_reducible refine' Gk.notN ?_)
  | (with_reducible refine' Gk.andV ?_)
  | (with_reducible refine' Gk.orV ?_)
  | (with_reducible refine' Gk.notV ?_)
  | (with_reducible refine' K60.chain ?_)
  | ((with_reducible refine' K60.isiI ?hgo ?_); (case hgo => assumption))
  | ((with_reducible refine' K60.isiBo ?hgo ?_); (case hgo => assumption))
  | ((with_reducible refine' K60.isiT ?hgo ?_); (case hgo => assumption))
  | ((with_reducible refine' Gk.isiB ?hgo ?hga ?_); (case hgo => exact .base (.non)); (case hga => first | exact (show kitB _ _ = some true by decide +kernel) | exact (show kitB _ _ = some false by decide +kernel)))
  | ((with_reducible refine' Gk.isiB ?hgo ?hga ?_); (case hgo => exact .base (.int _)); (case hga => first | exact (show kitB _ _ = some true by decide +kernel) | exact (show kitB _ _ = some false by decide +kernel)))
  | ((with_reducible refine' Gk.isiB ?hgo ?hga ?_); (case hgo => exact .base (.str _)); (case hga => first | exact (show kitB _ _ = some true by decide +kernel) | exact (show kitB _ _ = some false by decide +kernel)))
  | ((with_reducible refine' Gk.isiB ?hgo ?hga ?_); (case hgo => exact .base (.bl _)); (case hga => first | exact (show kitB _ _ = some true by decide +kernel) | exact (show kitB _ _ = some false by decide +kernel)))
  | ((with_reducible refine' Gk.isiB ?hgo ?hga ?_); (case hgo => exact .base (.tup (by assumption))); (case hga => first | exact (show kitB _ _ = some true by decide +kernel) | exact (show kitB _ _ = some false by decide +kernel)))
  | ((with_reducible refine' Gk.isiB ?hgo ?hga ?_); (case hgo => exact .base (.lst (by assumption))); (case hga => first | exact (show kitB _ _ = some true by decide +kernel) | exact (show kitB _ _ = some false by decide +kernel)))
  | ((with_reducible refine' Gk.iteT ?hgo ?_); (case hgo => exact rfl))
  | ((with_reducible refine' Gk.iteF ?hgo ?_); (case hgo => exact rfl))
  | (with_reducible refine' Gk.yes ?_)
  | (dsimp only))

abbrev sShowingFits : Stmt := top 25
theorem scShowingFits : FnScope ["hints", "thing", "scale", "multipliers", "hint", "times"] ["hints", "thing"] (defScope sShowingFits) := ⟨rfl, rfl, rfl, by decide +kernel, rfl, by decide +kernel, by decide +kernel⟩
section
variable {P : Program} {w : World} {K : PySem.W.Frag} {mg : Str → Option Value} {base : Heap}
theorem cl_showing_fits (T : Glo mg) (h : Has K mg "showing_fits" sShowingFits) (c_IsInt : Cl P w K mg base "is_int" ["x"] 1 (spOf K isIntD)) : Cl P w K mg base "showing_fits" ["hints", "thing"] 2 (spFits K) := by
  obtain ⟨f_IsInt, fd_IsInt, m_IsInt, k_IsInt, b_IsInt, G_IsInt⟩ := c_IsInt
  obtain ⟨f, fd, m_, F⟩ := h
  refine ⟨f, fd, m_, F.kp, F.binds (ps := ["hints", "thing"]) fun _ _ _ _ _ _ us hl => match us, hl with | [_, _], _ => rfl, ?_⟩
  refine F.ok scShowingFits (fun vs H Q E h => ?_) (fun cdv A outer s H vs Q E hr h => ?_)
  · obtain ⟨vh, x, hs, d, rfl, _⟩ := h
    rfl
  · obtain ⟨vh, x, hs, d, rfl, hh, hok, hd, k⟩ := h
    refine ⟨_, (pss_cons (ps_if (PW.pt (pw_or (pt_not (pt_val (pe_callB (Gk.eIsi K) (by rfl) T.isinstance (by decide +kernel) (pa_cons (pv 1) (pa_cons (pe_bltn (v := .ty "tuple") (by rfl) T.tuple (by decide +kernel) rfl) pa_nil))))) (pw_or1 (pt_cmpR op_ne (pe_callB (Gk.eLen K) (by rfl) T.len PySem.boot_len (pa_cons (pv 1) pa_nil)) pe_int (nomark _)))))
    (pss_one (ps_ret pe_bl))
    pss_nil)
  (pss_cons (ps_asg (pv 1) (Gk.ePgT K rfl (pgs_cons (pg_name (i := 2) scShowingFits.nd rfl (Or.inl rfl)) (pgs_cons (pg_name (i := 3) scShowingFits.nd rfl (Or.inl rfl)) pgs_nil))))
  (pss_cons (ps_if (PW.pt (pw_or (pt_not (pt_val (pe_call G_IsInt (hr.mono (by omega)) rfl m_IsInt k_IsInt b_IsInt .nil pass0 (pa_cons (pv 2) pa_nil)))) (pw_or1 (pt_cmpR op_lt (pv 2) pe_int (nomark _)))))
    (pss_one (ps_ret pe_bl))
    pss_nil)
  (pss_cons (ps_if (PW.pt (pw_or (pt_not (pt_val (pe_callB (Gk.eIsi K) (by rfl) T.isinstance (by decide +kernel) (pa_cons (pv 3) (pa_cons (pe_bltn (v := .ty "tuple") (by rfl) T.tuple (by decide +kernel) rfl) pa_nil))))) (pw_or1 (pt_cmpR op_ne (pe_callB (Gk.eLen K) (by rfl) T.len PySem.boot_len (pa_cons (pv 3) pa_nil)) (pe_callB (Gk.eLen K) (by rfl) T.len PySem.boot_len (pa_cons (pv 0) pa_nil)) (nomark _)))))
    (pss_one (ps_ret pe_bl))
    pss_nil)
  (pss_cons (ps_for PassesOwn.never rfl (K60.eZip K (by rfl) T.zip (pa_cons (pv 0) (pa_cons (pv 3) pa_nil))) (Gk.ePgT K rfl (pgs_cons (pg_name (i := 4) scShowingFits.nd rfl (Or.inl rfl)) (pgs_cons (pg_name (i := 5) scShowingFits.nd rfl (Or.inl rfl)) pgs_nil)))
    (pss_one (ps_if (PW.pt (pw_or (pt_not (pt_val (pe_call G_IsInt (hr.mono (by omega)) rfl m_IsInt k_IsInt b_IsInt .nil pass0 (pa_cons (pv 5) pa_nil)))) (pw_or1 (PW.pt (pw_and (pt_cmpR op_lt (pv 5) pe_int (nomark _)) (pw_and1 (pt_not (pt_val (pe_ix (Gk.eIxT K) (pv 4) pe_int (fun _ _ => rfl))))))))))
      (pss_one (ps_ret pe_bl))
      pss_nil)))
  (pss_one (ps_ret pe_bl))))))), ?_⟩
    have k0 : fits hs d = false → Q (.bl false) H := fun e => by
      have := k H (Ex.refl H)
      rw [e] at this
      exact this
    repeat walk_at "go1"
    refine Gk.iteQ (fun h1 => ?_) (fun h1 => ?_)
    · repeat walk_at "go1"
      exact k0 (by cases d <;> first | rfl | (cases h1; done))
    obtain ⟨ds, rfl⟩ := isTu_of (bnotF h1)
    repeat walk_at "go1"
    refine Gk.iteQ (fun h2 => ?_) (fun h2 => ?_)
    · repeat walk_at "go1"
      exact k0 (fits_len (ne_len (m := 2) h2))
    obtain ⟨s, m, rfl⟩ := len2 (eq_len (m := 2) h2)
    repeat walk_at "go1"
    cases hd with
    | tup hx ha =>
    rename_i ax xx
    obtain ⟨vs_, vm, rfl, gs, gm⟩ := DpAll.cut2 ha
    refine Gk.gtup hx rfl ?_
    repeat walk_at "go1"
    refine ⟨vs_, s, rfl, gs, ?_⟩
    repeat walk_at "go1"
    refine Gk.iteQ (fun h3 => ?_) (fun h3 => ?_)
    · repeat walk_at "go1"
      exact k0 (by
        have z := bnot h3
        cases m <;> first | rfl | (simp [fits, z]))
    obtain ⟨si, rfl⟩ := isInt_of (bnotF h3)
    cases Dp.int_inv gs
    repeat walk_at "go1"
    refine Gk.iteQ (fun h4 => ?_) (fun h4 => ?_)
    · repeat walk_at "go1"
      exact k0 (by
        have z : neg (.int si) = true := h4
        cases m <;> first | rfl | (simp [fits, z]))
    have hneg : neg (.int si) = false := h4
    repeat walk_at "go1"
    refine Gk.iteQ (fun h5 => ?_) (fun h5 => ?_)
    · repeat walk_at "go1"
      exact k0 (by cases m <;> first | rfl | (cases h5; done))
    obtain ⟨ms, rfl⟩ := isTu_of (bnotF h5)
    have ef : fits hs (.tuple [.int si, .tuple ms]) = byAll hs ms := by
      show (true && (!neg (.int si) && byAll hs ms)) = _
      rw [hneg]
      rfl
    rw [ef] at k k0
    repeat walk_at "go1"
    refine Gk.iteQ (fun h6 => ?_) (fun h6 => ?_)
    · repeat walk_at "go1"
      refine k0 ?_
      have := ne_len (n := ms.length) (m := hs.length) h6
      cases e : byAll hs ms with
      | false => rfl
      | true => exact absurd (byAll_len e) this
    have hlen := eq_len (n := ms.length) (m := hs.length) h6
    repeat walk_at "go1"
    cases hh with
    | tup hhs hha =>
    cases gm with
    | tup hms hma =>
    rename_i a1 xs1 a2 xs2
    have l1 := DpAll.len hha
    have l2 := DpAll.len hma
    refine ⟨_, _, _, _, rfl, .inr ⟨hhs, hms, forZT (by omega) (fun i σ' H' => (∃ y z : Option V, σ' = [some (.ref a1), some (.ref ax), some (.int si), some (.ref a2), y, z]) ∧ Ex H H' ∧ ∀ (j : Nat) (h m : D), j < i → hs[j]? = some h → ms[j]? = some m → byOk h m = true) ⟨⟨none, none, rfl⟩, Ex.refl H, fun j _ _ hj => by omega⟩ (fun i σ' H' q => ⟨SqT.ex q.2.1 hhs, SqT.ex q.2.1 hms⟩) ?_ ?_⟩⟩
    · rintro i v1 v2 TT σ' H' e1 e2 ⟨⟨y, z, rfl⟩, x', hall⟩ hT
      have hi : i < hs.length := by rw [← l1]; exact (List.getElem?_eq_some_iff.mp e1).1
      have hi2 : i < ms.length := by omega
      have q1 : hs[i]? = some hs[i] := List.getElem?_eq_getElem hi
      have q2 : ms[i]? = some ms[i] := List.getElem?_eq_getElem hi2
      obtain ⟨w1, f1, g1⟩ := DpAll.get hha i _ q1
      obtain ⟨w2, f2, g2⟩ := DpAll.get hma i _ q2
      rw [e1] at f1
      cases f1
      rw [e2] at f2
      cases f2
      obtain ⟨ff, b, o, eh, _, _⟩ := hint_inv (hok hs[i] (List.getElem_mem hi))
      have x2 : Ex H (upd H' TT (.tup [v1, v2])) := x'.trans (Ex.new hT)
      have p1 := Dp.ex x2 _ _ g1
      have p2 := Dp.ex x2 _ _ g2
      rw [eh] at p1
      have ek : byOk hs[i] ms[i] = (isIntD ms[i] && !(neg ms[i] && !b)) := by rw [eh]; rfl
      have bad : byOk hs[i] ms[i] = false → Q (.bl false) (upd H' TT (.tup [v1, v2])) := fun e => by
        have kk := k _ x2
        have : byAll hs ms = false := by
          cases q : byAll hs ms with
          | false => rfl
          | true =>
            have := (byAll_at hlen).mp q i _ _ q1 q2
            rw [e] at this
            cases this
        rw [this] at kk
        exact kk
      have good : byOk hs[i] ms[i] = true → ∀ yy zz : Option V, (∃ y z : Option V, ([some (.ref a1), some (.ref ax), some (.int si), some (.ref a2), yy, zz] : L2.St) = [some (.ref a1), some (.ref ax), some (.int si), some (.ref a2), y, z]) ∧ Ex H (upd H' TT (.tup [v1, v2])) ∧
          ∀ (j : Nat) (h m : D), j < i + 1 → hs[j]? = some h → ms[j]? = some m → byOk h m = true := fun e yy zz => ⟨⟨yy, zz, rfl⟩, x2, fun j h m hj a b => by
        by_cases hji : j = i
        · subst hji
          rw [q1] at a
          rw [q2] at b
          cases a
          cases b
          exact e
        · exact hall j h m (by omega) a b⟩
      generalize ms[i] = mm at *
      repeat walk_at "go1"
      refine ⟨v2, mm, rfl, p2, ?_⟩
      repeat walk_at "go1"
      refine Gk.iteQ (fun h7 => ?_) (fun h7 => ?_)
      · repeat walk_at "go1"
        exact bad (by rw [ek, bnot h7]; rfl)
      obtain ⟨mi, rfl⟩ := isInt_of (bnotF h7)
      cases Dp.int_inv p2
      repeat walk_at "go1"
      refine Gk.iteQ (fun h8 => ?_) (fun h8 => ?_)
      · have hn : neg (.int mi) = true := h8
        repeat walk_at "go1"
        refine ixD (n := 1) p1 rfl fun vb gb => ?_
        cases gb
        repeat walk_at "go1"
        refine Gk.iteQ (fun h9 => ?_) (fun h9 => ?_)
        · repeat walk_at "go1"
          exact bad (by rw [ek, hn, h9]; rfl)
        · repeat walk_at "go1"
          exact good (by rw [ek, hn, h9]; rfl) _ _
      · have hn : neg (.int mi) = false := h8
        repeat walk_at "go1"
        exact good (by rw [ek, hn]; rfl) _ _
    · rintro σ' H' ⟨⟨y, z, rfl⟩, x', hall⟩
      repeat walk_at "go1"
      have kk := k _ x'
      have : byAll hs ms = true := (byAll_at hlen).mpr fun i h m a b => hall i h m (by rw [l1]; exact (List.getElem?_eq_some_iff.mp a).1) a b
      rw [this] at kk
      exact kk
end
end K60
/-! sorted(d), the keys of d tuples of three ints -/
abbrev Tri : Type := Int × Int × Int
namespace TriS
open PySem PyProof.Rows SrtO Srt
def IsTri (h : Heap) (v : Value) (t : Tri) : Prop := ∃ a o i j k n, v = .ref a ∧ h.get? a = some o ∧ o.cls = .type "tuple" ∧ o.data = .seq #[.int t.1 i, .int t.2.1 j, .int t.2.2 k] n
theorem IsTri.keeps {h h' : Heap} {v : Value} {t : Tri} (p : IsTri h v t) (kp : ∀ b o, h.get? b = some o → o.cls = .type "tuple" → h'.get? b = some o) : IsTri h' v t :=
  let ⟨a, o, i, j, k, n, e, ho, hc, hd⟩ := p
  ⟨a, o, i, j, k, n, e, kp _ _ ho hc, hc, hd⟩
def triAt (h : Heap) : Value → Tri
  | .ref a => match h.get? a with
    | some ⟨_, _, .seq its _, _⟩ => (match its.toList with
      | [.int x _, .int y _, .int z _] => (x, y, z)
      | _ => (0, 0, 0))
    | _ => (0, 0, 0)
  | _ => (0, 0, 0)
theorem IsTri.at_ {h : Heap} {v : Value} {t : Tri} (p : IsTri h v t) : triAt h v = t := by
  obtain ⟨a, ⟨oc, od, dt, sl⟩, i, j, k, n, rfl, ho, hc, hd⟩ := p
  simp only at hd
  subst hd
  simp [triAt, ho]
def ltT (p q : Tri) : Bool := if p.1 = q.1 then (if p.2.1 = q.2.1 then decide (p.2.2 < q.2.2) else decide (p.2.1 < q.2.1)) else decide (p.1 < q.1)
theorem ltT_iff {p q : Tri} : ltT p q = true ↔ p.1 < q.1 ∨ (p.1 = q.1 ∧ (p.2.1 < q.2.1 ∨ (p.2.1 = q.2.1 ∧ p.2.2 < q.2.2))) := by
  unfold ltT
  by_cases e : p.1 = q.1
  · by_cases e2 : p.2.1 = q.2.1
    · rw [if_pos e, if_pos e2, decide_eq_true_eq]
      omega
    · rw [if_pos e, if_neg e2, decide_eq_true_eq]
      omega
  · rw [if_neg e, decide_eq_true_eq]
    omega
theorem ltT_no {p q : Tri} : ltT p q = false ↔ ¬ (p.1 < q.1 ∨ (p.1 = q.1 ∧ (p.2.1 < q.2.1 ∨ (p.2.1 = q.2.1 ∧ p.2.2 < q.2.2)))) := by
  rw [← ltT_iff]
  cases ltT p q <;> simp
theorem swo_tri (k : Value → Tri) : Swo fun v u => ltT (k v) (k u) := by
  refine ⟨fun x y h => ?_, fun x y z h1 h2 => ?_⟩
  · have a := ltT_iff.mp h
    rw [ltT_no]
    omega
  · have a := ltT_no.mp h1
    have b := ltT_no.mp h2
    rw [ltT_no]
    omega
section
variable {prog : Program} {w : World} {A : Around} {E : Value → Shared → Prop} {s : Shared}
theorem oneI (c : Bool) {p q : Int} {t u : Tok} {r : Bool} (e : r = decide (p < q)) : wpAny (model prog w) A (oneLt' c (.int p t) (.int q u)) (fun x s' => s' = s ∧ x = r) (fun _ _ => False) s := by
  cases c with
  | true => exact oneLt_int ⟨rfl, e.symm⟩
  | false => exact PySem.W.kat_one _ _ (PyProof.Rows.lt_int (show s = s ∧ decide (p < q) = r from ⟨rfl, e.symm⟩))
theorem tri_cmp {vs : List Value} {k : Value → Tri} (hp : ∀ v ∈ vs, IsTri s.heap v (k v)) : Cmp prog w A s (tuples' true) (fun p => p.1 ∈ vs) (lt2 fun v u => ltT (k v) (k u)) := by
  intro p q hm hm'
  have h1 := hp _ hm
  have h2 := hp _ hm'
  show wpAny (model prog w) A (keyLt' (tuples' true) p.1 q.1) (fun r s' => s' = s ∧ r = ltT (k p.1) (k q.1)) (fun _ _ => False) s
  generalize k p.1 = t at h1 ⊢
  generalize k q.1 = u at h2 ⊢
  obtain ⟨a, o, i1, i2, i3, n, e, ho, hc, hd⟩ := h1
  obtain ⟨a', o', j1, j2, j3, n', e', ho', hc', hd'⟩ := h2
  obtain ⟨x, y, z⟩ := t
  obtain ⟨x', y', z'⟩ := u
  rw [e, e']
  refine PySem.W.kat_lt ho hd ho' hd' ?_
  show PySem.W.KatLex prog w A true (decide (3 < 3)) _ [(.int x i1, .int x' j1), (.int y i2, .int y' j2), (.int z i3, .int z' j3)] 0 s
  refine PySem.W.kat_cons (SeqAt.EqAt.int_int x i1 x' j1 prog w _ _ ?_)
  refine PySem.W.kat_go (fun e1 => ?_) (fun e1 => ?_)
  · have ex : x = x' := by simpa using e1
    refine PySem.W.kat_yes (PySem.W.kat_cons (SeqAt.EqAt.int_int y i2 y' j2 prog w _ _ ?_))
    refine PySem.W.kat_go (fun e2 => ?_) (fun e2 => ?_)
    · have ey : y = y' := by simpa using e2
      refine PySem.W.kat_yes (PySem.W.kat_cons (SeqAt.EqAt.int_int z i3 z' j3 prog w _ _ ?_))
      refine PySem.W.kat_go (fun e3 => ?_) (fun e3 => ?_)
      · have ez : z = z' := by simpa using e3
        refine PySem.W.kat_yes (PySem.W.kat_nil ⟨rfl, ?_⟩)
        show decide (3 < 3) = _
        symm
        rw [show decide (3 < 3) = false from rfl, ltT_no]
        simp only
        omega
      · refine PySem.W.kat_no (oneI _ ?_)
        show (if x = x' then (if y = y' then decide (z < z') else decide (y < y')) else decide (x < x')) = _
        rw [if_pos ex, if_pos ey]
    · have ey : ¬ y = y' := by simpa using e2
      refine PySem.W.kat_no (oneI _ ?_)
      show (if x = x' then (if y = y' then decide (z < z') else decide (y < y')) else decide (x < x')) = _
      rw [if_pos ex, if_neg ey]
  · have ex : ¬ x = x' := by simpa using e1
    refine PySem.W.kat_no (oneI _ ?_)
    show (if x = x' then (if y = y' then decide (z < z') else decide (y < y')) else decide (x < x')) = _
    rw [if_neg ex]
theorem firsts {h : Heap} : ∀ {vs : List Value}, (∀ v ∈ vs, ∃ t, IsTri h v t) → ∃ fs : List Value, PySem.W.KatTups h vs fs ∧ fs.length = vs.length ∧ ∀ f ∈ fs, ∃ x t, f = Value.int x t
  | [], _ => ⟨[], PySem.W.KatTups.nil, rfl, fun _ hm => nomatch hm⟩
  | v :: vs, hp => by
    obtain ⟨fs, h1, h2, h3⟩ := firsts (vs := vs) fun u hu => hp u (List.mem_cons_of_mem _ hu)
    obtain ⟨t, a, o, i, j, k, n, e, ho, hc, hd⟩ := hp v List.mem_cons_self
    subst e
    refine ⟨.int t.1 i :: fs, PySem.W.KatTups.cons ho hc hd rfl h1, congrArg Nat.succ h2, fun f hf => ?_⟩
    rcases List.mem_cons.mp hf with z | z
    · exact ⟨t.1, i, z⟩
    · exact h3 f z
theorem tri_sortable {a : Addr} {vs : List Value} {k : Value → Tri} (h0 : 0 < vs.length) (hp : ∀ v ∈ vs, IsTri s.heap v (k v)) (ha : ∀ o, s.heap.get? a = some o → o.cls ≠ .type "tuple") : SortableO prog w A s a vs fun v u => ltT (k v) (k u) := by
  intro h' keep
  have hp' : ∀ v ∈ vs, IsTri h' v (k v) := fun v hv => (hp v hv).keeps fun b o e c => keep b o (fun z => ha o (z ▸ e) c) e
  obtain ⟨fs, h1, h2, h3⟩ := firsts fun v hv => ⟨_, hp' v hv⟩
  refine ⟨tuples' true, fun Q E hq => ?_, tri_cmp hp'⟩
  refine PySem.W.kat_kind (T := .type "int") h1 (by omega) (fun f hf => ?_) (by rfl) ?_
  · obtain ⟨x, t, e⟩ := h3 f hf
    rw [e]
    exact PySem.W.Looks.now
  · have e : (Value.type "int" != Value.type "tuple") = true := by decide +kernel
    rw [e]
    exact hq
end
open L2 in
def triK (t : Tri) : List L2.Key := [.inl t.1, .inl t.2.1, .inl t.2.2]
open L2 in
def triV (t : Tri) : List V := [.int t.1, .int t.2.1, .int t.2.2]
open L2 in
def rSortDT : List V → Hp → VK → Prop := fun vs H Q => ∃ (a : Addr) (tb : List (Tri × V)), vs = [V.ref a] ∧ Rd H a (.dT (tb.map fun t => (triK t.1, t.2))) ∧
  ∀ (p : Addr) (L : List (Addr × Tri)), (L.map (·.2)).Perm (tb.map (·.1)) → (L.map (·.2)).Pairwise (fun x y => ltT y x = false) → (∀ q ∈ L, H q.1 = some (.tup (triV q.2))) → H p = none → Q (.ref p) (upd H p (.lst (L.map fun q => V.ref q.1)))
open L2 in
def rSortLT (K : PySem.W.Frag) : List V → Hp → VK → Prop := fun vs H Q => ∃ (a : Addr) (L0 : List (Addr × Tri)), vs = [V.ref a] ∧ SqL K H a (L0.map fun q => V.ref q.1) ∧ (∀ q ∈ L0, H q.1 = some (.tup (triV q.2))) ∧
  ∀ (p : Addr) (L : List (Addr × Tri)), L.Perm L0 → (L.map (·.2)).Pairwise (fun x y => ltT y x = false) → H p = none → Q (.ref p) (upd H p (.lst (L.map fun q => V.ref q.1)))
section
open L2 PySem.Spec
variable {X : Cx} {pins : List (Addr × Obj)} {σ : L2.St} {H : Hp} {s : Shared}
theorem tri_raw (I : Inv X pins σ H s) {b : Addr} {t : Tri} (e : H b = some (.tup (triV t))) : IsTri s.heap (.ref b) t := by
  obtain ⟨_, its, rv, o, ho, hc, n, hd⟩ := I.hok b _ e
  cases rv with
  | cons r1 rv =>
    cases rv with
    | cons r2 rv =>
      cases rv with
      | cons r3 rv =>
        cases rv
        obtain ⟨i, rfl⟩ := r1
        obtain ⟨j, rfl⟩ := r2
        obtain ⟨k, rfl⟩ := r3
        exact ⟨b, o, i, j, k, n, rfl, ho, hc, hd⟩
theorem vals_of : ∀ L : List (Addr × Tri), Vals (L.map fun q => V.ref q.1) (L.map fun q => Value.ref q.1)
  | [] => .nil
  | _ :: r => .cons rfl (vals_of r)
/-- an ordering of the values is one of the pairs -/
theorem back (k : Value → Tri) (L0 : List (Addr × Tri)) (hk : ∀ q ∈ L0, k (.ref q.1) = q.2) : ∀ out : List Value, (∀ u ∈ out, u ∈ L0.map fun q => Value.ref q.1) → ∃ L : List (Addr × Tri), out = L.map (fun q => Value.ref q.1) ∧ (∀ q ∈ L, q ∈ L0) ∧ L.map (·.2) = out.map k
  | [], _ => ⟨[], rfl, fun _ h => (nomatch h), rfl⟩
  | u :: r, h => by
    obtain ⟨L, e, m, f⟩ := back k L0 hk r fun v hv => h v (List.mem_cons_of_mem _ hv)
    obtain ⟨q, hq, eq⟩ := List.mem_map.mp (h u List.mem_cons_self)
    refine ⟨q :: L, by rw [List.map_cons, eq, e], fun z hz => ?_, ?_⟩
    · rcases List.mem_cons.mp hz with w | w
      · rw [w]
        exact hq
      · exact m z w
    · rw [List.map_cons, List.map_cons, f, ← eq, hk q hq]
end
section
open L2 PySem.Spec
variable {X : Cx}
theorem cr_sortDT (hcalm : X.calm = true) : CallR X (.builtin "sorted") rSortDT := by
  intro pins s σ H vs us Q I r h
  obtain ⟨a, tb, rfl, hd, q⟩ := h
  obtain ⟨u, rfl, rx⟩ := vals1 r
  cases rx
  obtain ⟨z, hsm, ks, pr, o, es, ep, ho, hx, hdt, hes, hnd⟩ := (show ObjOk X.prog X.w H s.heap a (.dT (tb.map fun t => (triK t.1, t.2))) from hd.ok I.hok)
  have n1 : es.size = ks.length := size_of_entries hes
  have n2 : (tb.map fun t => (triK t.1, t.2)).length = ks.length := Paired.length pr
  have n3 : tb.length = ks.length := by rw [← n2, List.length_map]
  have hz : es.size ≤ sizeLine := by rw [n1, ← n2]; exact z
  refine Calls.call_function_entry kind_sorted plain_sorted entry_sorted (args_sorted1 _) ?_
  unfold Builtin.«sorted»
  refine wpAny_bind (m := checkCount "sorted" 1 1 _) (wpAny_pure ?_)
  refine wpAny_bind (PySem.W.kdu_collect (A := X.A.in1) (kdl_raw hsm hx hdt) (I.ok.hd hcalm) ho hz fun h' tk acc hk hacc => ?_)
  -- the keys' values
  have el : acc.toList = ks.map fun x => Value.ref x.2.1 := by
    have hl : acc.toList.length = ks.length := by rw [Array.length_toList, hacc.1, n1]
    refine List.ext_getElem? fun j => ?_
    rw [List.getElem?_map]
    cases hj : acc.toList[j]? with
    | none =>
      rw [List.getElem?_eq_none (by have := List.getElem?_eq_none_iff.mp hj; omega)]
      rfl
    | some v =>
      obtain ⟨en, h1, h2⟩ := hacc.2 j v (by rw [← Array.getElem?_toList]; exact hj)
      have qe := entry_at hes j
      rw [h1] at qe
      cases hb : ks[j]? with
      | none =>
        rw [hb] at qe
        cases (show some en = none from qe)
      | some b =>
        rw [hb] at qe
        rw [h2, Option.some.inj (show some en = some (entryOfKey (tupleKind (mixKind X.prog X.w)) b) from qe)]
        rfl
  -- as pairs
  have pairs : ∀ (tb : List (Tri × V)) (ks : List (List Key × Addr × Value)), Paired (fun p b => H b = some (.tup (p.1.map kV))) (tb.map fun t => (triK t.1, t.2)) (ks.map fun x => x.2.1) →
      ∃ L0 : List (Addr × Tri), ks.map (fun x => Value.ref x.2.1) = L0.map (fun q => Value.ref q.1) ∧ L0.map (·.2) = tb.map (·.1) ∧ ∀ q ∈ L0, H q.1 = some (.tup (triV q.2)) := by
    intro tb
    induction tb with
    | nil =>
      intro ks p
      cases ks with
      | nil => exact ⟨[], rfl, rfl, fun _ h => nomatch h⟩
      | cons x r => cases p
    | cons t tb ih =>
      intro ks p
      cases ks with
      | nil => cases p
      | cons x r =>
        cases p with
        | cons h1 h2 =>
          obtain ⟨L0, e1, e2, e3⟩ := ih r h2
          refine ⟨(x.2.1, t.1) :: L0, by rw [List.map_cons, List.map_cons, e1], by rw [List.map_cons, List.map_cons, e2], fun q hq => ?_⟩
          rcases List.mem_cons.mp hq with w | w
          · rw [w]
            exact h1
          · exact e3 q w
  obtain ⟨L0, f1, f2, f3⟩ := pairs tb ks (isKeys_of pr)
  have I1 : Inv X pins σ H { s with heap := h', toks := tk } := I.kept hk
  have hlen : acc.toList.length ≤ sizeLine := by rw [el, List.length_map, ← n1]; exact hz
  have raw : ∀ q ∈ L0, IsTri h' (.ref q.1) q.2 := fun q hq => tri_raw I1 (f3 q hq)
  refine wpAny_bind (wpAny_newList ?_ hlen)
  have hoL : (h'.push (seqObj "list" acc.toList.toArray 0)).get? h'.objs.size = some (seqObj "list" acc.toList.toArray 0) := Heap.get?_push_size _ rfl
  show wpAny _ _ _ _ _ { s with heap := h'.push (seqObj "list" acc.toList.toArray 0), toks := tk }
  have rawL : ∀ v ∈ acc.toList, IsTri (h'.push (seqObj "list" acc.toList.toArray 0)) v (triAt h' v) := fun v hv => by
    rw [el, f1] at hv
    obtain ⟨q, hq, e⟩ := List.mem_map.mp hv
    rw [← e, (raw q hq).at_]
    exact (raw q hq).keeps fun b u e _ => Heap.get?_push_of_some _ e
  refine wpAny_bind (wpAny_holding (wpAny_call_entry slot_list_sort ⟨_, hoL, rfl⟩ entry_list_sort
    (list_sort_ord (s := { s with heap := h'.push (seqObj "list" acc.toList.toArray 0), toks := tk }) (swo_tri (triAt h')) hoL hlen (fun h2 => tri_sortable (by omega) rawL fun u e c => ?_) fun out hsr hst => ⟨_, rfl, ?_⟩) (args_list_sort _)))
  · have e2 : some u = some (seqObj "list" acc.toList.toArray 0) := e.symm.trans hoL
    cases e2
    exact absurd (Value.type.inj c) (by decide)
  · have hm : ∀ u ∈ out, u ∈ L0.map fun q => Value.ref q.1 := fun u hu => by
      rw [← f1, ← el]
      exact hst.perm.mem_iff.mp hu
    obtain ⟨L, g1, g2, g3⟩ := back (triAt h') L0 (fun q hq => (raw q hq).at_) out hm
    obtain ⟨e', he'⟩ := sortedHeap_at (vs := acc.toList) (out := out.toArray) hoL
    have hl2 : (L.map fun q => V.ref q.1).length ≤ sizeLine := by
      have : L.length = out.length := by rw [g1, List.length_map]
      rw [List.length_map, this, hst.perm.length_eq]
      exact hlen
    refine wpAny_pure ⟨_, rfl, .ref h'.objs.size, upd H h'.objs.size (.lst (L.map fun q => V.ref q.1)), I1.laid (t' := tk) (fun b u e => ?_) (Nat.le_refl _)
      (show ObjOk X.prog X.w _ _ _ (.lst (L.map fun q => V.ref q.1)) from ⟨hl2, out, e', by rw [g1]; exact vals_of L, he'⟩), rfl, q _ L ?_ ?_ (fun x hx => f3 x (g2 x hx)) (I1.hok.fresh (Nat.le_refl _))⟩
    · have hb : b < h'.objs.size := Heap.lt_size e
      rw [sortedHeap_old (Nat.ne_of_lt hb) (by rw [size_push']; exact Nat.lt_succ_of_lt hb)]
      exact Heap.get?_push_of_some _ e
    · rw [g3, ← f2]
      have e3 : L0.map (·.2) = (L0.map fun q => Value.ref q.1).map (triAt h') := by
        rw [List.map_map]
        exact List.map_congr_left fun q hq => ((raw q hq).at_).symm
      rw [e3, ← f1, ← el]
      exact hst.perm.map _
    · rw [g3, List.pairwise_map]
      exact hsr
def bkT (h : Heap) (v : Value) : Addr × Tri := match v with
  | .ref b => (b, triAt h (.ref b))
  | _ => (0, (0, 0, 0))
theorem cr_sortLT (K : PySem.W.Frag) (hK : X.K = K := by rfl) : CallR X (.builtin "sorted") (rSortLT K) := by
  subst hK
  intro pins s σ H vs us Q I r h
  obtain ⟨a, L0, rfl, hs, hL, q⟩ := h
  obtain ⟨u, rfl, rx⟩ := vals1 r
  cases rx
  obtain ⟨its, rv, hl, hz⟩ := I.list hs
  have ei : its = L0.map fun q => Value.ref q.1 := by
    have go : ∀ (L : List (Addr × Tri)) (us : List Value), Vals (L.map fun q => V.ref q.1) us → us = L.map fun q => Value.ref q.1 := by
      intro L
      induction L with
      | nil =>
        intro us v
        cases v
        rfl
      | cons p L ih =>
        intro us v
        cases v with
        | cons h1 h2 =>
          cases h1
          rw [ih _ h2]
          rfl
    exact go L0 its rv
  have raw : ∀ q ∈ L0, IsTri s.heap (.ref q.1) q.2 := fun q hq => tri_raw I (hL q hq)
  have hz2 : its.length ≤ sizeLine := by rw [← rv.length]; exact hz
  refine sorted_ord (swo_tri (triAt s.heap)) hl.isList hz2 (fun h2 h1 b hb kk => tri_sortable (by omega) (fun v hv => ?_) fun o e c => ?_) fun out hsr hst => ?_
  · rw [ei] at hv
    obtain ⟨p, hp, e⟩ := List.mem_map.mp hv
    rw [← e, (raw p hp).at_]
    exact (raw p hp).keeps fun b' o e _ => (kk b' o e).2
  · have e2 : some o = some (seqObj "list" its.toArray 0) := e.symm.trans hb
    cases e2
    exact absurd (Value.type.inj c) (by decide)
  · have hm : ∀ u ∈ out, u ∈ L0.map fun q => Value.ref q.1 := fun u hu => by
      rw [← ei]
      exact hst.perm.mem_iff.mp hu
    obtain ⟨L, g1, g2, g3⟩ := back (triAt s.heap) L0 (fun q hq => (raw q hq).at_) out hm
    obtain ⟨n, hn⟩ := sortedAll_at s.heap its out.toArray
    have hl2 : (L.map fun q => V.ref q.1).length ≤ sizeLine := by
      have : L.length = out.length := by rw [g1, List.length_map]
      rw [List.length_map, this, hst.perm.length_eq]
      exact hz2
    have inj : ∀ p ∈ L0, ∀ r ∈ L0, Value.ref p.1 = Value.ref r.1 → p = r := fun p hp r hr e => by
      have e1 := (raw p hp).at_
      have e2 := (raw r hr).at_
      rw [e, e2] at e1
      injection e with e
      exact Prod.ext e e1.symm
    refine ⟨.ref (s.heap.objs.size + 1), upd H (s.heap.objs.size + 1) (.lst (L.map fun q => V.ref q.1)), I.laid (t' := s.toks) (fun b o e => sortedAll_old e) (Nat.le_succ _) ⟨hl2, out, n, by rw [g1]; exact vals_of L, hn⟩, rfl, q _ L ?_ ?_ (I.hok.fresh (Nat.le_succ _))⟩
    · have p1 : (L.map fun q => Value.ref q.1).Perm (L0.map fun q => Value.ref q.1) := by
        rw [← g1, ← ei]
        exact hst.perm
      have p2 := p1.map (bkT s.heap)
      rw [List.map_map, List.map_map] at p2
      have id1 : ∀ M : List (Addr × Tri), (∀ q ∈ M, q ∈ L0) → M.map ((bkT s.heap) ∘ fun q => Value.ref q.1) = M := fun M hM => by
        conv => rhs; rw [← List.map_id M]
        refine List.map_congr_left fun z hz => ?_
        show (z.1, triAt s.heap (.ref z.1)) = z
        rw [(raw z (hM z hz)).at_]
      rw [id1 L g2, id1 L0 fun _ h => h] at p2
      exact p2
    · rw [g3, List.pairwise_map]
      exact hsr
end
end TriS
/-! sorted of a list of terms: (triple, int) -/
abbrev Trm : Type := Tri × Int
namespace TriS
open PySem PyProof.Rows SrtO Srt
def IsTrm (h : Heap) (v : Value) (t : Trm) : Prop := ∃ (a : Addr) (o : Obj) (c : Addr) (j : Tok) (n : Nat), v = .ref a ∧ h.get? a = some o ∧ o.cls = .type "tuple" ∧ o.data = .seq #[.ref c, .int t.2 j] n ∧ IsTri h (.ref c) t.1
theorem IsTrm.keeps {h h' : Heap} {v : Value} {t : Trm} (p : IsTrm h v t) (kp : ∀ b o, h.get? b = some o → o.cls = .type "tuple" → h'.get? b = some o) : IsTrm h' v t :=
  let ⟨a, o, c, j, n, e, ho, hc, hd, ht⟩ := p
  ⟨a, o, c, j, n, e, kp _ _ ho hc, hc, hd, ht.keeps kp⟩
def trmAt (h : Heap) : Value → Trm
  | .ref a => match h.get? a with
    | some ⟨_, _, .seq its _, _⟩ => (match its.toList with
      | [.ref c, .int y _] => (triAt h (.ref c), y)
      | _ => ((0, 0, 0), 0))
    | _ => ((0, 0, 0), 0)
  | _ => ((0, 0, 0), 0)
theorem IsTrm.at_ {h : Heap} {v : Value} {t : Trm} (p : IsTrm h v t) : trmAt h v = t := by
  obtain ⟨a, ⟨oc, od, dt, sl⟩, c, j, n, rfl, ho, hc, hd, ht⟩ := p
  simp only at hd
  subst hd
  simp [trmAt, ho, ht.at_]
def ltP (p q : Trm) : Bool := if p.1 = q.1 then decide (p.2 < q.2) else ltT p.1 q.1
theorem ltT_asym {x y : Tri} (h : ltT x y = true) : ltT y x = false := by
  have a := ltT_iff.mp h
  rw [ltT_no]
  omega
theorem ltT_tot {x y : Tri} (h : ltT x y = false) (n : x ≠ y) : ltT y x = true := by
  have a := ltT_no.mp h
  rw [ltT_iff]
  obtain ⟨a1, a2, a3⟩ := x
  obtain ⟨b1, b2, b3⟩ := y
  simp only at a ⊢
  by_cases e1 : a1 = b1
  · by_cases e2 : a2 = b2
    · by_cases e3 : a3 = b3
      · subst e1 e2 e3
        exact absurd rfl n
      · omega
    · omega
  · omega
theorem swo_trm (k : Value → Trm) : Swo fun v u => ltP (k v) (k u) := by
  refine ⟨fun x y h => ?_, fun x y z h1 h2 => ?_⟩
  · unfold ltP at h ⊢
    by_cases e : (k x).1 = (k y).1
    · rw [if_pos e] at h
      rw [if_pos e.symm]
      have := of_decide_eq_true h
      exact decide_eq_false (by omega)
    · rw [if_neg e] at h
      rw [if_neg fun z => e z.symm]
      exact ltT_asym h
  · unfold ltP at h1 h2 ⊢
    by_cases e1 : (k y).1 = (k x).1
    · rw [if_pos e1] at h1
      by_cases e2 : (k z).1 = (k y).1
      · rw [if_pos e2] at h2
        rw [if_pos (e2.trans e1)]
        have := of_decide_eq_false h1
        have := of_decide_eq_false h2
        exact decide_eq_false (by omega)
      · rw [if_neg e2] at h2
        rw [if_neg fun z => e2 (z.trans e1.symm), ← e1]
        exact h2
    · rw [if_neg e1] at h1
      by_cases e2 : (k z).1 = (k y).1
      · rw [if_pos e2] at h2
        rw [if_neg fun q => e1 (e2.symm.trans q), e2]
        exact h1
      · rw [if_neg e2] at h2
        have a := ltT_no.mp h1
        have b := ltT_no.mp h2
        have c : ltT (k z).1 (k x).1 = false := by
          rw [ltT_no]
          omega
        by_cases e3 : (k z).1 = (k x).1
        · have h3 := ltT_tot h2 e2
          rw [e3] at h3
          rw [h3] at h1
          cases h1
        · rw [if_neg e3]
          exact c
section
variable {prog : Program} {w : World} {A : Around} {E : Value → Shared → Prop} {s : Shared}
theorem lexLt3 (x y : Tri) : HT.lexLt [x.1, x.2.1, x.2.2] [y.1, y.2.1, y.2.2] = ltT x y := by
  obtain ⟨a, b, c⟩ := x
  obtain ⟨a', b', c'⟩ := y
  show (if a = a' then (if b = b' then (if c = c' then false else decide (c < c')) else decide (b < b')) else decide (a < a')) = (if a = a' then (if b = b' then decide (c < c') else decide (b < b')) else decide (a < a'))
  by_cases e1 : a = a'
  · rw [if_pos e1, if_pos e1]
    by_cases e2 : b = b'
    · rw [if_pos e2, if_pos e2]
      by_cases e3 : c = c'
      · rw [if_pos e3, decide_eq_false (by omega)]
      · rw [if_neg e3]
    · rw [if_neg e2, if_neg e2]
  · rw [if_neg e1, if_neg e1]
theorem IsTri.tup {h : Heap} {c : Addr} {t : Tri} (p : IsTri h (.ref c) t) : ∃ i j k, IsTup h c #[.int t.1 i, .int t.2.1 j, .int t.2.2 k] := by
  obtain ⟨a, o, i, j, k, n, e, ho, hc, hd⟩ := p
  cases e
  exact ⟨i, j, k, o, ho, hc, n, hd⟩
theorem IsTri.key {h : Heap} {c : Addr} {t : Tri} (p : IsTri h (.ref c) t) : IsTupleKey (L2.mixKind prog w) h [Sum.inl t.1, Sum.inl t.2.1, Sum.inl t.2.2] c := by
  obtain ⟨a, o, i, j, k, n, e, ho, hc, hd⟩ := p
  cases e
  exact ⟨o, _, n, ho, hc, hd, .cons (L2.mixKind_int prog w _ i) (.cons (L2.mixKind_int prog w _ j) (.cons (L2.mixKind_int prog w _ k) .nil))⟩
theorem trm_cmp (hu : A.units < cLine) {vs : List Value} {k : Value → Trm} (hp : ∀ v ∈ vs, IsTrm s.heap v (k v)) : Cmp prog w A s (tuples' false) (fun p => p.1 ∈ vs) (lt2 fun v u => ltP (k v) (k u)) := by
  intro p q hm hm'
  have h1 := hp _ hm
  have h2 := hp _ hm'
  show wpAny (model prog w) A (keyLt' (tuples' false) p.1 q.1) (fun r s' => s' = s ∧ r = ltP (k p.1) (k q.1)) (fun _ _ => False) s
  generalize k p.1 = t at h1 ⊢
  generalize k q.1 = u at h2 ⊢
  obtain ⟨a, o, c, j, n, e, ho, hc, hd, ht⟩ := h1
  obtain ⟨a', o', c', j', n', e', ho', hc', hd', ht'⟩ := h2
  obtain ⟨x, y⟩ := t
  obtain ⟨x', y'⟩ := u
  rw [e, e']
  refine PySem.W.kat_lt ho hd ho' hd' ?_
  show PySem.W.KatLex prog w A false (decide (2 < 2)) _ [(.ref c, .ref c'), (.int y j, .int y' j')] 0 s
  refine PySem.W.kat_cons (wpAny_eqBool_tuple hu (ht.key (prog := prog) (w := w)) (ht'.key (prog := prog) (w := w)) ?_)
  refine PySem.W.kat_go (fun e1 => ?_) (fun e1 => ?_)
  · have ex : x = x' := by
      have := of_decide_eq_true e1
      simp only [List.cons.injEq, Sum.inl.injEq, and_true] at this
      obtain ⟨a1, a2, a3⟩ := this
      exact Prod.ext a1 (Prod.ext a2 a3)
    refine PySem.W.kat_yes (PySem.W.kat_cons (SeqAt.EqAt.int_int y j y' j' prog w _ _ ?_))
    refine PySem.W.kat_go (fun e2 => ?_) (fun e2 => ?_)
    · have ey : y = y' := by simpa using e2
      refine PySem.W.kat_yes (PySem.W.kat_nil ⟨rfl, ?_⟩)
      show decide (2 < 2) = (if x = x' then decide (y < y') else ltT x x')
      rw [if_pos ex, decide_eq_false (show ¬ y < y' by omega)]
      rfl
    · refine PySem.W.kat_no (oneI _ ?_)
      show (if x = x' then decide (y < y') else ltT x x') = _
      rw [if_pos ex]
  · have ex : ¬ x = x' := fun z => by
      have := of_decide_eq_false e1
      exact this (by rw [z])
    refine PySem.W.kat_no ?_
    show wpAny _ _ (oneLt' false _ _) _ _ _
    obtain ⟨i1, i2, i3, t1⟩ := ht.tup
    obtain ⟨i1', i2', i3', t2⟩ := ht'.tup
    refine PySem.W.kat_one _ _ (HT.lt_tupInts t1 t2 (ns := [x.1, x.2.1, x.2.2]) (ms := [x'.1, x'.2.1, x'.2.2]) ?_ ?_ hu (show s = s ∧ HT.lexLt [x.1, x.2.1, x.2.2] [x'.1, x'.2.1, x'.2.2] = ltP (x, y) (x', y') from ⟨rfl, ?_⟩))
    · exact .cons _ _ (.cons _ _ (.cons _ _ .nil))
    · exact .cons _ _ (.cons _ _ (.cons _ _ .nil))
    · show _ = (if x = x' then decide (y < y') else ltT x x')
      rw [if_neg ex, lexLt3]
theorem firstsP {h : Heap} : ∀ {vs : List Value}, (∀ v ∈ vs, ∃ t, IsTrm h v t) → ∃ fs : List Value, PySem.W.KatTups h vs fs ∧ fs.length = vs.length ∧ ∀ f ∈ fs, ∃ (q : Addr) (o : Obj), f = Value.ref q ∧ h.get? q = some o ∧ o.cls = .type "tuple"
  | [], _ => ⟨[], PySem.W.KatTups.nil, rfl, fun _ hm => nomatch hm⟩
  | v :: vs, hp => by
    obtain ⟨fs, h1, h2, h3⟩ := firstsP (vs := vs) fun u hu => hp u (List.mem_cons_of_mem _ hu)
    obtain ⟨t, a, o, c, j, n, e, ho, hc, hd, ⟨c2, o2, i1, i2, i3, n2, e2, ho2, hc2, hd2⟩⟩ := hp v List.mem_cons_self
    subst e
    cases e2
    refine ⟨.ref c :: fs, PySem.W.KatTups.cons ho hc hd rfl h1, congrArg Nat.succ h2, fun f hf => ?_⟩
    rcases List.mem_cons.mp hf with z | z
    · exact ⟨c, o2, z, ho2, hc2⟩
    · exact h3 f z
theorem trm_sortable (hu : A.units < cLine) {a : Addr} {vs : List Value} {k : Value → Trm} (h0 : 0 < vs.length) (hp : ∀ v ∈ vs, IsTrm s.heap v (k v)) (ha : ∀ o, s.heap.get? a = some o → o.cls ≠ .type "tuple") : SortableO prog w A s a vs fun v u => ltP (k v) (k u) := by
  intro h' keep
  have hp' : ∀ v ∈ vs, IsTrm h' v (k v) := fun v hv => (hp v hv).keeps fun b o e c => keep b o (fun z => ha o (z ▸ e) c) e
  obtain ⟨fs, h1, h2, h3⟩ := firstsP fun v hv => ⟨_, hp' v hv⟩
  refine ⟨tuples' false, fun Q E hq => ?_, trm_cmp hu hp'⟩
  refine PySem.W.kat_kind (T := .type "tuple") h1 (by omega) (fun f hf => ?_) (by rfl) ?_
  · obtain ⟨q, o, e, ho, hc⟩ := h3 f hf
    rw [e]
    have z : PySem.W.Looks (model prog w) h' (typeOf (.ref q)) o.cls := (PySem.W.Looks.ld ho).andThen .now
    rw [hc] at z
    exact z
  · have e : (Value.type "tuple" != Value.type "tuple") = false := by first | rfl | decide | simp
    rw [e]
    exact hq
end
open L2 in
def TrmAt (H : Hp) (b : Addr) (t : Trm) : Prop := ∃ c, H b = some (.tup [.ref c, .int t.2]) ∧ H c = some (.tup (triV t.1))
open L2 in
def rSortPT (K : PySem.W.Frag) : List V → Hp → VK → Prop := fun vs H Q => ∃ (a : Addr) (L0 : List (Addr × Trm)), vs = [V.ref a] ∧ SqL K H a (L0.map fun q => V.ref q.1) ∧ (∀ q ∈ L0, TrmAt H q.1 q.2) ∧
  ∀ (p : Addr) (L : List (Addr × Trm)), L.Perm L0 → (L.map (·.2)).Pairwise (fun x y => ltP y x = false) → H p = none → Q (.ref p) (upd H p (.lst (L.map fun q => V.ref q.1)))
section
open L2 PySem.Spec
variable {X : Cx} {pins : List (Addr × Obj)} {σ : L2.St} {H : Hp} {s : Shared}
theorem trm_raw (I : Inv X pins σ H s) {b : Addr} {t : Trm} (e : TrmAt H b t) : IsTrm s.heap (.ref b) t := by
  obtain ⟨c, e1, e2⟩ := e
  have ht := tri_raw I e2
  obtain ⟨_, its, rv, o, ho, hc, n, hd⟩ := I.hok b _ e1
  cases rv with
  | cons r1 rv =>
    cases rv with
    | cons r2 rv =>
      cases rv
      cases r1
      obtain ⟨j, rfl⟩ := r2
      exact ⟨b, o, c, j, n, rfl, ho, hc, hd, ht⟩
theorem valsP : ∀ L : List (Addr × Trm), Vals (L.map fun q => V.ref q.1) (L.map fun q => Value.ref q.1)
  | [] => .nil
  | _ :: L => .cons rfl (valsP L)
theorem backP (k : Value → Trm) (L0 : List (Addr × Trm)) (hk : ∀ q ∈ L0, k (.ref q.1) = q.2) : ∀ out : List Value, (∀ u ∈ out, u ∈ L0.map fun q => Value.ref q.1) → ∃ L : List (Addr × Trm), out = L.map (fun q => Value.ref q.1) ∧ (∀ q ∈ L, q ∈ L0) ∧ L.map (·.2) = out.map k
  | [], _ => ⟨[], rfl, fun _ h => (nomatch h), rfl⟩
  | u :: out, h => by
    obtain ⟨L, e1, e2, e3⟩ := backP k L0 hk out fun v hv => h v (List.mem_cons_of_mem _ hv)
    obtain ⟨q, hq, eq⟩ := List.mem_map.mp (h u List.mem_cons_self)
    refine ⟨q :: L, by rw [List.map_cons, eq, e1], fun r hr => ?_, ?_⟩
    · rcases List.mem_cons.mp hr with z | z
      · exact z ▸ hq
      · exact e2 r z
    · rw [List.map_cons, List.map_cons, e3, ← eq, hk q hq]
def bkP (h : Heap) (v : Value) : Addr × Trm := match v with
  | .ref b => (b, trmAt h (.ref b))
  | _ => (0, ((0, 0, 0), 0))
theorem cr_sortPT (K : PySem.W.Frag) (hu : X.A.units + 64 < cLine) (hK : X.K = K := by rfl) : CallR X (.builtin "sorted") (rSortPT K) := by
  subst hK
  intro pins s σ H vs us Q I r h
  obtain ⟨a, L0, rfl, hs, hL, q⟩ := h
  obtain ⟨u, rfl, rx⟩ := vals1 r
  cases rx
  obtain ⟨its, rv, hl, hz⟩ := I.list hs
  have ei : its = L0.map fun q => Value.ref q.1 := by
    have go : ∀ (M : List (Addr × Trm)) (us : List Value), Vals (M.map fun q => V.ref q.1) us → us = M.map fun q => Value.ref q.1 := by
      intro M
      induction M with
      | nil =>
        intro us v
        cases v
        rfl
      | cons y M ih =>
        intro us v
        cases v with
        | cons g1 g2 =>
          cases g1
          rw [ih _ g2]
          rfl
    exact go L0 its rv
  have raw : ∀ q ∈ L0, IsTrm s.heap (.ref q.1) q.2 := fun q hq => trm_raw I (hL q hq)
  have hz2 : its.length ≤ sizeLine := by rw [← rv.length]; exact hz
  have hun : X.A.in1.in1.units < cLine := by show X.A.units + 1 + 1 < cLine; omega
  refine sorted_ord (swo_trm (trmAt s.heap)) hl.isList hz2 (fun h2 h1 b hb kk => trm_sortable hun (by omega) (fun v hv => ?_) fun o e c => ?_) fun out hsr hst => ?_
  · rw [ei] at hv
    obtain ⟨p, hp, e⟩ := List.mem_map.mp hv
    rw [← e, (raw p hp).at_]
    exact (raw p hp).keeps fun b' o e _ => (kk b' o e).2
  · have e2 : some o = some (seqObj "list" its.toArray 0) := e.symm.trans hb
    cases e2
    exact absurd (Value.type.inj c) (by decide)
  · have hm : ∀ u ∈ out, u ∈ L0.map fun q => Value.ref q.1 := fun u hu => by
      rw [← ei]
      exact hst.perm.mem_iff.mp hu
    obtain ⟨L, g1, g2, g3⟩ := backP (trmAt s.heap) L0 (fun q hq => (raw q hq).at_) out hm
    obtain ⟨n, hn⟩ := sortedAll_at s.heap its out.toArray
    have hl2 : (L.map fun q => V.ref q.1).length ≤ sizeLine := by
      have : L.length = out.length := by rw [g1, List.length_map]
      rw [List.length_map, this, hst.perm.length_eq]
      exact hz2
    refine ⟨.ref (s.heap.objs.size + 1), upd H (s.heap.objs.size + 1) (.lst (L.map fun q => V.ref q.1)), I.laid (t' := s.toks) (fun b o e => sortedAll_old e) (Nat.le_succ _) ⟨hl2, out, n, by rw [g1]; exact valsP L, hn⟩, rfl, q _ L ?_ ?_ (I.hok.fresh (Nat.le_succ _))⟩
    · have p1 : (L.map fun q => Value.ref q.1).Perm (L0.map fun q => Value.ref q.1) := by
        rw [← g1, ← ei]
        exact hst.perm
      have p2 := p1.map (bkP s.heap)
      rw [List.map_map, List.map_map] at p2
      have same : ∀ M : List (Addr × Trm), (∀ q ∈ M, q ∈ L0) → M.map ((bkP s.heap) ∘ fun q => Value.ref q.1) = M := fun M hM => by
        conv => rhs; rw [← List.map_id M]
        refine List.map_congr_left fun z hz => ?_
        show (z.1, trmAt s.heap (.ref z.1)) = z
        rw [(raw z (hM z hz)).at_]
      rw [same L g2, same L0 fun _ h => h] at p2
      exact p2
    · rw [g3, List.pairwise_map]
      exact hsr
end
end TriS
/-! tables from atoms to ints -/
namespace K60
open PySem L2 TriS
abbrev Tab : Type := List (Tri × Int)
def tget (m : Tab) (a : Tri) : Option Int := (m.find? fun p => decide (p.1 = a)).map (·.2)
def tput (m : Tab) (a : Tri) (c : Int) : Tab := if (m.any fun p => decide (p.1 = a)) = true then m.map (fun p => if p.1 = a then (p.1, c) else p) else m ++ [(a, c)]
def tv (m : Tab) (a : Tri) : Int := (tget m a).getD 0
def encT (m : Tab) : List (List L2.Key × V) := m.map fun t => (triK t.1, V.int t.2)
theorem triK_inj {a b : Tri} : triK a = triK b ↔ a = b := by
  constructor
  · intro h
    obtain ⟨x, y, z⟩ := a
    obtain ⟨x', y', z'⟩ := b
    injection h with h1 h
    injection h with h2 h
    injection h with h3 h
    injection h1 with h1
    injection h2 with h2
    injection h3 with h3
    simp only at h1 h2 h3
    rw [h1, h2, h3]
  · intro h
    rw [h]
theorem tget_nil (a : Tri) : tget [] a = none := rfl
theorem tget_cons (p : Tri × Int) (m : Tab) (a : Tri) : tget (p :: m) a = if p.1 = a then some p.2 else tget m a := by
  unfold tget
  rw [List.find?_cons]
  by_cases h : p.1 = a
  · rw [if_pos h, decide_eq_true h]
    rfl
  · rw [if_neg h, decide_eq_false h]
theorem val_enc (a : Tri) : ∀ m : Tab, valV (encT m) (triK a) = (tget m a).map V.int
  | [] => rfl
  | p :: m => by
    rw [tget_cons]
    show valV ((triK p.1, V.int p.2) :: encT m) (triK a) = _
    by_cases h : p.1 = a
    · rw [if_pos h, valV_pos (triK_inj.mpr h)]
      rfl
    · rw [if_neg h, valV_neg (fun z => h (triK_inj.mp z)), val_enc a m]
theorem any_enc (a : Tri) : ∀ m : Tab, ((encT m).any fun kv => decide (kv.1 = triK a)) = m.any fun p => decide (p.1 = a)
  | [] => rfl
  | p :: m => by
    show (decide (triK p.1 = triK a) || (encT m).any fun kv => decide (kv.1 = triK a)) = (decide (p.1 = a) || m.any fun p => decide (p.1 = a))
    rw [any_enc a m]
    by_cases h : p.1 = a
    · rw [decide_eq_true h, decide_eq_true (triK_inj.mpr h)]
    · rw [decide_eq_false h, decide_eq_false (fun z => h (triK_inj.mp z))]
theorem put_enc (m : Tab) (a : Tri) (c : Int) : putK (encT m) (triK a) (.int c) = encT (tput m a c) := by
  unfold putK tput
  rw [any_enc]
  by_cases h : (m.any fun p => decide (p.1 = a)) = true
  · rw [if_pos h, if_pos h]
    unfold encT
    rw [List.map_map, List.map_map]
    refine List.map_congr_left fun p _ => ?_
    show (if triK p.1 = triK a then (triK p.1, V.int c) else (triK p.1, V.int p.2)) = (triK (if p.1 = a then (p.1, c) else p).1, V.int (if p.1 = a then (p.1, c) else p).2)
    by_cases e : p.1 = a
    · rw [if_pos e, if_pos (triK_inj.mpr e)]
    · rw [if_neg e, if_neg (fun z => e (triK_inj.mp z))]
  · rw [if_neg h, if_neg h]
    unfold encT
    rw [List.map_append]
    rfl
theorem tget_put (m : Tab) (a b : Tri) (c : Int) : tget (tput m a c) b = if b = a then some c else tget m b := by
  have h := valV_put (encT m) (triK a) (triK b) (V.int c)
  rw [put_enc, val_enc, val_enc] at h
  by_cases e : b = a
  · rw [if_pos e]
    rw [if_pos (triK_inj.mpr e)] at h
    cases q : tget (tput m a c) b with
    | none =>
      rw [q] at h
      cases h
    | some d =>
      rw [q] at h
      have h2 : V.int d = V.int c := Option.some.inj h
      rw [V.int.inj h2]
  · rw [if_neg e]
    rw [if_neg (fun z => e (triK_inj.mp z))] at h
    cases q : tget (tput m a c) b with
    | none =>
      rw [q] at h
      cases q2 : tget m b with
      | none => rfl
      | some d =>
        rw [q2] at h
        cases h
    | some d =>
      rw [q] at h
      cases q2 : tget m b with
      | none =>
        rw [q2] at h
        cases h
      | some d2 =>
        rw [q2] at h
        have h2 : V.int d = V.int d2 := Option.some.inj h
        rw [V.int.inj h2]
theorem tv_put (m : Tab) (a b : Tri) (c : Int) : tv (tput m a c) b = if b = a then c else tv m b := by
  unfold tv
  rw [tget_put]
  by_cases e : b = a
  · rw [if_pos e, if_pos e]
    rfl
  · rw [if_neg e, if_neg e]
theorem tput_len (m : Tab) (a : Tri) (c : Int) : (tput m a c).length ≤ m.length + 1 := by
  unfold tput
  by_cases h : (m.any fun p => decide (p.1 = a)) = true
  · rw [if_pos h, List.length_map]
    omega
  · rw [if_neg h, List.length_append]
    exact Nat.le_refl _
theorem tput_keys (m : Tab) (a : Tri) (c : Int) : (tput m a c).map (·.1) = m.map (·.1) ∨ (a ∉ m.map (·.1) ∧ (tput m a c).map (·.1) = m.map (·.1) ++ [a]) := by
  unfold tput
  by_cases h : (m.any fun p => decide (p.1 = a)) = true
  · refine .inl ?_
    rw [if_pos h, List.map_map]
    refine List.map_congr_left fun p _ => ?_
    show (if p.1 = a then (p.1, c) else p).1 = p.1
    by_cases e : p.1 = a
    · rw [if_pos e]
    · rw [if_neg e]
  · refine .inr ⟨fun hm => h ?_, ?_⟩
    · obtain ⟨p, hp, e⟩ := List.mem_map.mp hm
      exact List.any_eq_true.mpr ⟨p, hp, decide_eq_true e⟩
    · rw [if_neg h, List.map_append]
      rfl
theorem tput_nodup {m : Tab} (a : Tri) (c : Int) (h : (m.map (·.1)).Nodup) : ((tput m a c).map (·.1)).Nodup := by
  rcases tput_keys m a c with e | ⟨n, e⟩
  · rw [e]
    exact h
  · rw [e]
    refine List.nodup_append.mpr ⟨h, List.pairwise_singleton _ _, fun x hx y hy => ?_⟩
    rcases List.mem_singleton.mp hy with rfl
    intro z
    exact n (z ▸ hx)
theorem tget_mem : ∀ {m : Tab}, (m.map (·.1)).Nodup → ∀ (a : Tri) (c : Int), (a, c) ∈ m ↔ tget m a = some c
  | [], _, a, c => by simp [tget]
  | p :: m, h, a, c => by
    obtain ⟨h1, h2⟩ := List.nodup_cons.mp (show (p.1 :: m.map (·.1)).Nodup from h)
    rw [tget_cons, List.mem_cons]
    by_cases e : p.1 = a
    · rw [if_pos e]
      constructor
      · rintro (w | w)
        · rw [← w]
        · exact absurd (List.mem_map.mpr ⟨_, w, e.symm⟩) h1
      · intro w
        refine .inl ?_
        rw [← e, ← Option.some.inj w]
    · rw [if_neg e, ← tget_mem h2 a c]
      constructor
      · rintro (w | w)
        · exact absurd (by rw [← w]) e
        · exact w
      · exact .inr
theorem tget_key {m : Tab} {a : Tri} (h : a ∈ m.map (·.1)) : ∃ c, tget m a = some c := by
  induction m with
  | nil => cases h
  | cons p m ih =>
    rw [tget_cons]
    by_cases e : p.1 = a
    · exact ⟨p.2, if_pos e⟩
    · rw [if_neg e]
      rcases List.mem_cons.mp h with w | w
      · exact absurd w.symm e
      · exact ih w
theorem tget_nokey {m : Tab} {a : Tri} (h : a ∉ m.map (·.1)) : tget m a = none := by
  induction m with
  | nil => rfl
  | cons p m ih =>
    rw [tget_cons, if_neg (fun e => h (List.mem_cons.mpr (.inl e.symm)))]
    exact ih fun w => h (List.mem_cons.mpr (.inr w))
/-- the sum of an atom's coefficients -/
def coef : Tab → Tri → Int
  | [], _ => 0
  | p :: m, a => (if p.1 = a then p.2 else 0) + coef m a
abbrev Form : Type := Int × Tab
/-- const and sums of parts -/
def sumC : List (Form × Int) → Int
  | [] => 0
  | p :: r => p.2 * p.1.1 + sumC r
def sumA : List (Form × Int) → Tri → Int
  | [], _ => 0
  | p :: r, a => p.2 * coef p.1.2 a + sumA r a
end K60
namespace K60
open PySem L2 TriS
open Evl (Ex)
def triD (a : Tri) : D := .tuple [.int a.1, .int a.2.1, .int a.2.2]
def termD (t : Tri × Int) : D := .tuple [triD t.1, .int t.2]
def formD (f : Form) : D := .tuple [.int f.1, .tuple (f.2.map termD)]
def small (i : Int) : Prop := i.natAbs < 2 ^ 1000
theorem small_mul {i j : Int} (a : small i) (b : small j) : CMulW i j := wide_mul a b (by decide) (by decide) (by decide)
def Fb (f : Form) : Prop := small f.1 ∧ ∀ t ∈ f.2, small t.2
section
variable {K : PySem.W.Frag} {H H' : Hp} {v : V}
theorem Tk.tri {a : Tri} (h : Tk H v (triD a)) : ∃ b, v = .ref b ∧ H b = some (.tup (triV a)) := by
  cases h with
  | tup hs ha =>
    cases ha with
    | cons h1 ha =>
      cases ha with
      | cons h2 ha =>
        cases ha with
        | cons h3 ha =>
          cases ha
          cases h1
          cases h2
          cases h3
          exact ⟨_, rfl, hs⟩
theorem Tk.term {t : Tri × Int} (h : Tk H v (termD t)) : ∃ b c, v = .ref b ∧ H b = some (.tup [.ref c, .int t.2]) ∧ H c = some (.tup (triV t.1)) := by
  cases h with
  | tup hs ha =>
    cases ha with
    | cons h1 ha =>
      cases ha with
      | cons h2 ha =>
        cases ha
        cases h2
        obtain ⟨b, rfl, hb⟩ := Tk.tri h1
        exact ⟨_, b, rfl, hs, hb⟩
theorem Tk.form {f : Form} (h : Tk H v (formD f)) : ∃ b c xs, v = .ref b ∧ H b = some (.tup [.int f.1, .ref c]) ∧ H c = some (.tup xs) ∧ TkAll H xs (f.2.map termD) := by
  cases h with
  | tup hs ha =>
    cases ha with
    | cons h1 ha =>
      cases ha with
      | cons h2 ha =>
        cases ha
        cases h1
        cases h2 with
        | tup hs2 ha2 => exact ⟨_, _, _, rfl, hs, hs2, ha2⟩
theorem Tk.mkTri {b : Addr} {a : Tri} (h : H b = some (.tup (triV a))) : Tk H (.ref b) (triD a) := .tup h (.cons (.int _) (.cons (.int _) (.cons (.int _) .nil)))
theorem Tx.new {p : Addr} {o : HO} (h : H p = none) : Tx H (upd H p o) := Tx.of_ex (Ex.new h)
theorem Tx.lst {p : Addr} {xs : List V} {o : HO} (h : H p = some (.lst xs)) : Tx H (upd H p o) := fun a ys e => by
  by_cases q : a = p
  · subst q
    rw [h] at e
    cases e
  · rw [upd_ne q]
    exact e
theorem Tx.trans {H1 H2 H3 : Hp} (a : Tx H1 H2) (b : Tx H2 H3) : Tx H1 H3 := fun x xs h => b x xs (a x xs h)
theorem TkAll.snoc {xs : List V} {ds : List D} {d : D} (h : TkAll H xs ds) (e : Tk H v d) : TkAll H (xs ++ [v]) (ds ++ [d]) := by
  induction xs generalizing ds with
  | nil =>
    cases h
    exact .cons e .nil
  | cons x xs ih =>
    cases h with
    | cons h1 h2 => exact .cons h1 (ih h2)
end
theorem eTupOf {X : Cx} (K : PySem.W.Frag) (h : X.K = K := by rfl) : CallR X (.type "tuple") (fun xs H Q => ∃ p ys, xs = [.ref p] ∧ ((SqL K H p ys ∧ ∀ l, H l = none → Q (.ref l) (upd H l (.tup ys))) ∨ (SqT K H p ys ∧ Q (.ref p) H))) := h ▸ call_tuple_of
section
variable {K : PySem.W.Frag} {σ : L2.St} {H : Hp} {tl td ty tx : TE} {R : It → Hp → Prop} {Q : VK} {D : Ends} {i : Nat} {te : TE} {ti : TIp}
theorem listI (k : tl σ H fun x H1 => ∃ a, x = .ref a ∧ (∃ xs, SqL K H1 a xs) ∧ R (Itl K a) H1) : iList K tl σ H R := k
theorem tupI (k : tl σ H fun x H1 => ∃ a, x = .ref a ∧ (∃ xs, SqT K H1 a xs) ∧ R (Itt K a) H1) : iTup K tl σ H R := k
theorem dget2 (k : td σ H fun x H1 => ∃ a, x = .ref a ∧ IsD H1 a ∧ ty σ H1 fun y H2 => tx σ H2 fun z H3 => ∃ o, DGet H3 a y o ∧ Q (o.getD z) H3) : tDGet2 td ty tx σ H Q := k
theorem dget (k : td σ H fun x H1 => ty σ H1 fun y H2 => ∃ a v, x = .ref a ∧ DGet H2 a y (some v) ∧ Q v H2) : tDGet td ty σ H Q := k
theorem dput (k : tx σ H fun v H1 => td σ H1 fun x H2 => ty σ H2 fun y H3 => ∃ a H4, x = .ref a ∧ DPut H3 a y v H4 ∧ D.nx σ H4) : sDPut td ty tx D σ H := k
theorem aug {v : V} (h : σ[i]? = some (some v)) (k : te σ H fun y H1 => ti v y H1 fun z H2 => D.nx (σ.set i (some z)) H2) : tAug i te ti D σ H := ⟨v, h, k⟩
theorem ipI {f : Int → Int → Int} {x y : Int} (k : Q (.int (f x y)) H) : ipI f (.int x) (.int y) H Q := ⟨x, y, rfl, rfl, k⟩
theorem newT (k : ∀ p, H p = none → Q (.ref p) (upd H p (.dT []))) : tDNewT σ H Q := k
end
theorem tab_get {H : Hp} {t b : Addr} {m : Tab} {a : Tri} (h : H t = some (.dT (encT m))) (hb : H b = some (.tup (triV a))) : DGet H t (.ref b) ((tget m a).map V.int) := by
  have := DGet.t (k := triK a) h hb
  rw [val_enc] at this
  exact this
theorem tab_getD {m : Tab} {a : Tri} : ((tget m a).map V.int).getD (V.int 0) = V.int (tv m a) := by
  unfold tv
  cases tget m a <;> rfl
theorem tab_put {H : Hp} {t b : Addr} {m : Tab} {a : Tri} {c : Int} (h : H t = some (.dT (encT m))) (hb : H b = some (.tup (triV a))) (hl : m.length < 16777216) : DPut H t (.ref b) (.int c) (upd H t (.dT (encT (tput m a c)))) := by
  rw [← put_enc]
  exact DPut.t (k := triK a) h hb (by unfold encT; rw [List.length_map, sizeLine_eq]; exact hl)
theorem tab_is {H : Hp} {t : Addr} {m : Tab} (h : H t = some (.dT (encT m))) : IsD H t := .inr ⟨_, .inl h⟩
def PartAt (H : Hp) (v : V) (p : Form × Int) : Prop := ∃ b vf, v = .ref b ∧ H b = some (.tup [vf, .int p.2]) ∧ Tk H vf (formD p.1)
def nTerms : List (Form × Int) → Nat
  | [] => 0
  | p :: r => p.1.2.length + nTerms r
theorem take_one {α : Type} {l : List α} {i : Nat} {x : α} (h : l[i]? = some x) : l.take (i + 1) = l.take i ++ [x] := by
  rw [List.take_succ, h]
  rfl
theorem nTerms_app (l : List (Form × Int)) (p : Form × Int) : nTerms (l ++ [p]) = nTerms l + p.1.2.length := by
  induction l with
  | nil => simp [nTerms]
  | cons q l ih =>
    show q.1.2.length + nTerms (l ++ [p]) = q.1.2.length + nTerms l + p.1.2.length
    rw [ih]
    omega
theorem nTerms_take (l : List (Form × Int)) (i : Nat) : nTerms (l.take i) ≤ nTerms l := by
  induction l generalizing i with
  | nil => simp
  | cons q l ih =>
    cases i with
    | zero => exact Nat.zero_le _
    | succ i =>
      show q.1.2.length + nTerms (l.take i) ≤ q.1.2.length + nTerms l
      have := ih i
      omega
theorem sumC_app (l : List (Form × Int)) (p : Form × Int) : sumC (l ++ [p]) = sumC l + p.2 * p.1.1 := by
  induction l with
  | nil => simp [sumC]
  | cons q l ih =>
    show q.2 * q.1.1 + sumC (l ++ [p]) = q.2 * q.1.1 + sumC l + p.2 * p.1.1
    rw [ih]
    omega
theorem sumA_app (l : List (Form × Int)) (p : Form × Int) (a : Tri) : sumA (l ++ [p]) a = sumA l a + p.2 * coef p.1.2 a := by
  induction l with
  | nil => simp [sumA]
  | cons q l ih =>
    show q.2 * coef q.1.2 a + sumA (l ++ [p]) a = q.2 * coef q.1.2 a + sumA l a + p.2 * coef p.1.2 a
    rw [ih]
    omega
theorem coef_app (m : Tab) (t : Tri × Int) (a : Tri) : coef (m ++ [t]) a = coef m a + if t.1 = a then t.2 else 0 := by
  induction m with
  | nil => simp [coef]
  | cons q l ih =>
    show (if q.1 = a then q.2 else 0) + coef (l ++ [t]) a = (if q.1 = a then q.2 else 0) + coef l a + _
    rw [ih]
    omega
/-- the terms that stand in a table, by the order of their atoms -/
structure TermsOf (S : Tri → Int) (out : Tab) : Prop where
  mem : ∀ a c, (a, c) ∈ out ↔ S a = c ∧ c ≠ 0
  up : out.Pairwise fun x y => ltT x.1 y.1 = true
def sel (m : Tab) (L : List (Addr × Tri)) : Tab := L.filterMap fun q => if tv m q.2 = 0 then none else some (q.2, tv m q.2)
theorem sel_snoc (m : Tab) (L : List (Addr × Tri)) (q : Addr × Tri) : sel m (L ++ [q]) = sel m L ++ (if tv m q.2 = 0 then [] else [(q.2, tv m q.2)]) := by
  unfold sel
  rw [List.filterMap_append]
  by_cases h : tv m q.2 = 0
  · simp [h]
  · simp [h]
theorem ltT_strict {x y : Tri} (h : ltT y x = false) (n : x ≠ y) : ltT x y = true := by
  rw [ltT_iff]
  have h2 := ltT_no.mp h
  obtain ⟨a, b, c⟩ := x
  obtain ⟨a', b', c'⟩ := y
  simp only at h2 ⊢
  by_cases e1 : a = a'
  · by_cases e2 : b = b'
    · by_cases e3 : c = c'
      · subst e1 e2 e3
        exact absurd rfl n
      · omega
    · omega
  · omega
theorem sel_terms {m : Tab} {L : List (Addr × Tri)} (hnd : (m.map (·.1)).Nodup) (hp : (L.map (·.2)).Perm (m.map (·.1))) (hs : (L.map (·.2)).Pairwise (fun x y => ltT y x = false)) : TermsOf (tv m) (sel m L) := by
  constructor
  · intro a c
    unfold sel
    rw [List.mem_filterMap]
    constructor
    · rintro ⟨q, hq, e⟩
      by_cases z : tv m q.2 = 0
      · rw [if_pos z] at e
        cases e
      · rw [if_neg z] at e
        have e2 := Option.some.inj e
        have e3 : q.2 = a := congrArg Prod.fst e2
        have e4 : tv m q.2 = c := congrArg Prod.snd e2
        subst e3
        exact ⟨e4, by rw [← e4]; exact z⟩
    · rintro ⟨e, n⟩
      have hk : a ∈ m.map (·.1) := by
        by_cases z : a ∈ m.map (·.1)
        · exact z
        · have := tget_nokey z
          unfold tv at e
          rw [this] at e
          exact absurd e.symm n
      obtain ⟨q, hq, eq⟩ := List.mem_map.mp (hp.mem_iff.mpr hk)
      refine ⟨q, hq, ?_⟩
      rw [eq, e, if_neg n]
  · unfold sel
    rw [List.pairwise_filterMap]
    have nd : (L.map (·.2)).Nodup := hp.nodup_iff.mpr hnd
    have both := (List.pairwise_map.mp hs).and (List.pairwise_map.mp nd)
    refine both.imp fun {q r} h a ha b hb => ?_
    by_cases z : tv m q.2 = 0
    · rw [if_pos z] at ha
      cases ha
    · by_cases z2 : tv m r.2 = 0
      · rw [if_pos z2] at hb
        cases hb
      · rw [if_neg z] at ha
        rw [if_neg z2] at hb
        rw [← Option.some.inj ha, ← Option.some.inj hb]
        exact ltT_strict h.1 h.2
theorem terms_lc {K : PySem.W.Frag} {σ : L2.St} {H : Hp} {tb : Addr} {m : Tab} {i j : Nat} {Q : VK} (hi : σ[i]? = some (some (.ref tb))) (e1 : ∀ x, ((wipe σ [j]).set j (some x))[i]? = some (some (.ref tb))) (e2 : ∀ x, ((wipe σ [j]).set j (some x))[j]? = some (some x))
    (e3 : ∀ x, wipe ((wipe σ [j]).set j (some x)) [j] = wipe σ [j]) (ht : H tb = some (.dT (encT m))) (hnd : (m.map (·.1)).Nodup) (hm : m.length ≤ 100000)
    (k : ∀ (Dl : Addr) (H' : Hp) (acc : List V) (out : Tab), H' Dl = some (.lst acc) → TkAll H' acc (out.map termD) → Ex H H' → TermsOf (tv m) out → Q (.ref Dl) H') :
    tLc (iList K (tCB TriS.rSortDT (tCons (tVar i) tNil))) (gName j) (tTest (tOp rNe (tDGet (tVar i) (tVar j)) (tC (V.int 0)))) (tTup (tCons (tVar j) (tCons (tDGet (tVar i) (tVar j)) tNil))) [j] σ H Q := by
  refine Gk.lc (listI (Gk.cb (Gk.aCons (Gk.var hi (Gk.aNil ?_)))))
  refine ⟨tb, m.map fun t => (t.1, V.int t.2), rfl, .inl (by rw [List.map_map]; exact ht), fun p L hp1 hp2 hL hp => ?_⟩
  have hp1' : (L.map (·.2)).Perm (m.map (·.1)) := by
    rw [List.map_map] at hp1
    exact hp1
  have ll : L.length = m.length := by
    have := hp1'.length_eq
    rw [List.length_map, List.length_map] at this
    exact this
  refine ⟨p, rfl, ⟨_, SqL.of upd_same⟩, fun Dl hD => lc_list (xs := L.map fun q => V.ref q.1) (fun n H' => ∃ acc, H' Dl = some (.lst acc) ∧ Ex (upd H p (.lst (L.map fun q => V.ref q.1))) H' ∧ TkAll H' acc ((sel m (L.take n)).map termD))
    ⟨[], upd_same, Ex.new hD, .nil⟩ (fun n H' _ q => ?_) ?_ ?_⟩
  · obtain ⟨acc, _, x, _⟩ := q
    exact SqL.of (x _ _ upd_same)
  · rintro n x H' hx ⟨acc, hacc, xe, tk⟩
    rw [List.getElem?_map] at hx
    cases hq : L[n]? with
    | none =>
      rw [hq] at hx
      cases hx
    | some q =>
    rw [hq] at hx
    have ex : V.ref q.1 = x := Option.some.inj hx
    subst ex
    have hn : n < L.length := (List.getElem?_eq_some_iff.mp hq).1
    have hqL : q ∈ L := List.mem_of_getElem? hq
    have xe0 : Ex H H' := (Ex.new hp).trans xe
    have htb := xe0 _ _ ht
    have hkey := xe0 _ _ (hL q hqL)
    have hin : q.2 ∈ m.map (·.1) := hp1'.mem_iff.mp (List.mem_map.mpr ⟨q, hqL, rfl⟩)
    obtain ⟨c, hc⟩ := tget_key hin
    have hv : tv m q.2 = c := by
      unfold tv
      rw [hc]
      rfl
    have dg : ∀ H2 : Hp, Ex H' H2 → DGet H2 tb (.ref q.1) (some (.int c)) := fun H2 x2 => by
      have := tab_get (x2 _ _ htb) (x2 _ _ hkey)
      rw [hc] at this
      exact this
    refine Gk.gname rfl ⟨e3 _, ?_⟩
    refine Gk.test (Gk.op (dget (Gk.var (e1 _) (Gk.var (e2 _) ⟨tb, _, rfl, dg H' (Ex.refl _), Gk.con (neI ⟨_, rfl, ?_⟩)⟩))))
    rw [take_one hq, sel_snoc, hv]
    refine Gk.iteQ (fun h => ?_) (fun h => ?_)
    · have hc0 : c ≠ 0 := of_decide_eq_false (bnot h)
      refine Gk.tup (Gk.aCons (Gk.var (e2 _) (Gk.aCons (dget (Gk.var (e1 _) (Gk.var (e2 _) ⟨tb, _, rfl, dg H' (Ex.refl _), Gk.aNil ?_⟩))))))
      refine ⟨by show 2 ≤ sizeLine; decide, fun t ht2 => ?_⟩
      have a1 : upd H' t (.tup [V.ref q.1, V.int c]) Dl = some (.lst acc) := by rw [upd_ne (ne_of_none hacc ht2)]; exact hacc
      have tx : Tx H' (upd (upd H' t (.tup [V.ref q.1, V.int c])) Dl (.lst (acc ++ [V.ref t]))) := (Tx.new ht2).trans (Tx.lst a1)
      have la : acc.length ≤ n := by
        rw [TkAll.len tk, List.length_map]
        exact Nat.le_trans (List.length_filterMap_le _ _) (List.length_take_le _ _)
      refine ⟨acc, a1, by rw [sizeLine_eq]; omega, acc ++ [V.ref t], upd_same, ?_, ?_⟩
      · refine Ex.mut (xe.trans (Ex.new ht2)) ?_
        exact hD
      · rw [if_neg hc0, List.map_append]
        refine TkAll.snoc (Tk.monoAll tx _ _ tk) ?_
        have dt : Dl ≠ t := ne_of_none hacc ht2
        refine .tup (xs := [V.ref q.1, V.int c]) (by rw [upd_ne dt.symm]; exact upd_same) (.cons (Tk.mkTri (tx _ _ hkey)) (.cons (.int c) .nil))
    · have hc0 : c = 0 := of_decide_eq_true (bnotF h)
      rw [if_pos hc0, List.append_nil]
      exact ⟨acc, hacc, xe, tk⟩
  · rintro H' ⟨acc, hacc, xe, tk⟩
    have el : L.take (L.map fun q => V.ref q.1).length = L := by rw [List.length_map, List.take_length]
    rw [el] at tk
    exact k Dl H' acc _ hacc tk ((Ex.new hp).trans xe) (sel_terms hnd hp1' hp2)
def spSum : Sp := fun vs H Q _ => ∃ (c0 : Int) (p : Addr) (pv : List V) (ps : List (Form × Int)), vs = [.int c0, .ref p] ∧ H p = some (.lst pv) ∧ pv.length = ps.length ∧ (∀ (i : Nat) (x : Form × Int), ps[i]? = some x → ∃ v, pv[i]? = some v ∧ PartAt H v x) ∧
  (∀ x ∈ ps, Fb x.1 ∧ small x.2) ∧ nTerms ps ≤ 90000 ∧
  ∀ (H' : Hp) (v : V) (out : Tab), Ex H H' → Tk H' v (formD (c0 + sumC ps, out)) → TermsOf (sumA ps) out → Q v H'
local macro_rules | `(tactic| walk_at "sq") => `(tactic| first | assumption | exact SqL.of (by assumption) | exact SqT.of (by assumption) | exact SqL.of upd_same | exact SqT.of upd_same)
local macro_rules | `(tactic| walk_at "go1") => `(tactic| first
  | (with_reducible refine' Gk.seq ?_)
  | ((with_reducible refine' Gk.var ?hgo ?_); (case hgo => exact rfl))
  | (with_reducible refine' Gk.con ?_)
  | (with_reducible refine' Gk.op ?_)
  | (with_reducible refine' Gk.i0 ?_)
  | (with_reducible refine' Gk.un ?_)
  | ((with_reducible refine' Gk.i1 (C := CMul) ?hgo ?_); (case hgo => first | exact .inl ⟨by decide, by decide⟩ | exact .inr ⟨by decide, by decide⟩ | exact .inl ⟨by omega, by omega⟩ | exact .inr ⟨by omega, by omega⟩))
  | ((with_reducible refine' Gk.i1 (C := CDiv) ?hgo ?_); (case hgo => exact ⟨by omega, by omega⟩))
  | ((with_reducible refine' Gk.i1 (C := CPow) ?hgo ?_); (case hgo => exact ⟨by decide, by decide, by decide⟩))
  | ((with_reducible refine' Gk.i1 (C := fun _ j => 0 < j) ?hgo ?_); (case hgo => show (0 : Int) < _; omega))
  | (with_reducible refine' Gk.u1 ?_)
  | (with_reducible refine' Gk.test ?_)
  | (with_reducible refine' Gk.testB ?_)
  | (with_reducible refine' Gk.asB ?_)
  | (with_reducible refine' K60.eqI ?_)
  | (with_reducible refine' K60.neI ?_)
  | ((with_reducible refine' Gk.eqv ?hgo ?_); (case hgo => exact rfl))
  | ((with_reducible refine' Gk.nev ?hgo ?_); (case hgo => exact rfl))
  | ((with_reducible refine' Gk.ixL ?hgo ?hga ?_); (case hgo => walk_at "sq"); (case hga => first | exact rfl | assumption))
  | ((with_reducible refine' Gk.ixT ?hgo ?hga ?_); (case hgo => walk_at "sq"); (case hga => first | exact rfl | assumption))
  | (with_reducible refine' Gk.aNil ?_)
  | (with_reducible refine' Gk.aCons ?_)
  | (with_reducible refine' Gk.cb ?_)
  | (with_reducible refine' Gk.call ?_)
  | (with_reducible refine' Gk.tup ?_)
  | (with_reducible refine' Gk.lst ?_)
  | (with_reducible refine' Gk.ifE ?_)
  | (with_reducible refine' Gk.ifS ?_)
  | (with_reducible refine' Gk.next ?_)
  | (with_reducible refine' Gk.asg ?_)
  | ((with_reducible refine' Gk.gname ?hgo ?_); (case hgo => exact rfl))
  | (with_reducible refine' Gk.gsub ?_)
  | ((with_reducible refine' Gk.setL ?hgo ?hga ?_); (case hgo => first | assumption | exact upd_same); (case hga => first | exact rfl | assumption))
  | (with_reducible refine' Gk.ret ?_)
  | (with_reducible refine' Gk.drop ?_)
  | (with_reducible refine' Gk.par ?_)
  | (with_reducible refine' Gk.andT ?_)
  | (with_reducible refine' Gk.orT ?_)
  | (with_reducible refine' Gk.notT ?_)
  | (with_reducible refine' Gk.abs ?_)
  | (with_reducible refine' Gk.intI ?_)
  | (with_reducible refine' Gk.intB ?_)
  | ((with_reducible refine' Gk.lenL ?hgo ?_); (case hgo => walk_at "sq"))
  | ((with_reducible refine' Gk.lenT ?hgo ?_); (case hgo => walk_at "sq"))
  | ((with_reducible refine' K60.lenD ?hgo ?_); (case hgo => assumption))
  | (with_reducible refine' K60.zipA ?_)
  | (with_reducible refine' K60.listI ?_)
  | (with_reducible refine' K60.tupI ?_)
  | (with_reducible refine' K60.dget2 ?_)
  | (with_reducible refine' K60.dget ?_)
  | (with_reducible refine' K60.dput ?_)
  | ((with_reducible refine' K60.aug ?hgo ?_); (case hgo => exact rfl))
  | (with_reducible refine' K60.ipI ?_)
  | (with_reducible refine' K60.newT ?_)
  | (with_reducible refine' Gk.bm ?_)
  | ((with_reducible refine' Gk.tyL ?hgo ?_); (case hgo => first | assumption | exact upd_same))
  | ((with_reducible refine' Gk.gtup ?hgo ?hga ?_); (case hgo => walk_at "sq"); (case hga => exact rfl))
  | (with_reducible refine' Gk.gcons ?_)
  | (with_reducible refine' Gk.gnil ?_)
  | (with_reducible refine' Gk.sl ?_)
  | (with_reducible refine' Gk.noPart ?_)
  | (with_reducible refine' Gk.part ?_)
  | (with_reducible refine' Gk.partI ?_)
  | (with_reducible refine' Gk.lc ?_)
  | (with_reducible refine' Gk.rng1 ?_)
  | (with_reducible refine' Gk.forS ?_)
  | (with_reducible refine' Gk.isN ?_)
  | (with_reducible refine' Gk.notN ?_)
  | (with_reducible refine' Gk.andV ?_)
  | (with_reducible refine' Gk.orV ?_)
  | (with_reducible refine' Gk.notV ?_)
  | (with_reducible refine' K60.chain ?_)
  | ((with_reducible refine' K60.isiI ?hgo ?_); (case hgo => assumption))
  | ((with_reducible refine' K60.isiBo ?hgo ?_); (case hgo => assumption))
  | ((with_reducible refine' K60.isiT ?hgo ?_); (case hgo => assumption))
  | ((with_reducible refine' Gk.isiB ?hgo ?hga ?_); (case hgo => exact .base (.non)); (case hga => first | exact (show kitB _ _ = some true by decide +kernel) | exact (show kitB _ _ = some false by decide +kernel)))
  | ((with_reducible refine' Gk.isiB ?hgo ?hga ?_); (case hgo => exact .base (.int _)); (case hga => first | exact (show kitB _ _ = some true by decide +kernel) | exact (show kitB _ _ = some false by decide +kernel)))
  | ((with_reducible refine' Gk.isiB ?hgo ?hga ?_); (case hgo => exact .base (.str _)); (case hga => first | exact (show kitB _ _ = some true by decide +kernel) | exact (show kitB _ _ = some false by decide +kernel)))
  | ((with_reducible refine' Gk.isiB ?hgo ?hga ?_); (case hgo => exact .base (.bl _)); (case hga => first | exact (show kitB _ _ = some true by decide +kernel) | exact (show kitB _ _ = some false by decide +kernel)))
  | ((with_reducible refine' Gk.isiB ?hgo ?hga ?_); (case hgo => exact .base (.tup (by assumption))); (case hga => first | exact (show kitB _ _ = some true by decide +kernel) | exact (show kitB _ _ = some false by decide +kernel)))
  | ((with_reducible refine' Gk.isiB ?hgo ?hga ?_); (case hgo => exact .base (.lst (by assumption))); (case hga => first | exact (show kitB _ _ = some true by decide +kernel) | exact (show kitB _ _ = some false by decide +kernel)))
  | ((with_reducible refine' Gk.iteT ?hgo ?_); (case hgo => exact rfl))
  | ((with_reducible refine' Gk.iteF ?hgo ?_); (case hgo => exact rfl))
  | (with_reducible refine' Gk.yes ?_)
  | (dsimp only))

abbrev sSummed : Stmt := top 15
theorem scSummed : FnScope ["const", "parts", "table", "form", "times", "atom", "coefficient"] ["const", "parts"] (defScope sSummed) := ⟨rfl, rfl, rfl, by decide +kernel, rfl, by decide +kernel, by decide +kernel⟩
section
variable {P : Program} {w : World} {K : PySem.W.Frag} {mg : Str → Option Value} {base : Heap}
theorem cl_summed (T : Glo mg) (h : Has K mg "summed" sSummed) : Cl P w K mg base "summed" ["const", "parts"] 1 spSum := by
  obtain ⟨f, fd, m_, F⟩ := h
  refine ⟨f, fd, m_, F.kp, F.binds (ps := ["const", "parts"]) fun _ _ _ _ _ _ us hl => match us, hl with | [_, _], _ => rfl, ?_⟩
  refine F.ok scSummed (fun vs H Q E h => ?_) (fun cdv A outer s H vs Q E hr h => ?_)
  · obtain ⟨c0, p, pvs, ps, rfl, _⟩ := h
    rfl
  · obtain ⟨c0, p, pvs, ps, rfl, hp, hlen, hat, hb, hn, k⟩ := h
    refine ⟨_, (pss_cons (ps_set (i := 2) scSummed.nd rfl (Or.inr rfl) pe_dnewT)
  (pss_cons (ps_for PassesOwn.never rfl (Gk.ePiL K (pv 1)) (Gk.ePgT K rfl (pgs_cons (pg_name (i := 3) scSummed.nd rfl (Or.inl rfl)) (pgs_cons (pg_name (i := 4) scSummed.nd rfl (Or.inl rfl)) pgs_nil)))
    (pss_one (ps_if (pt_cmpR op_ne (pv 4) pe_int (nomark _))
      (pss_cons (ps_aug (i := 0) scSummed.nd rfl (Or.inl rfl) (pe_op op_mulW (pv 4) (pe_ix (Gk.eIxT K) (pv 3) pe_int (fun _ _ => rfl))) ip_add)
      (pss_one (ps_for PassesOwn.never rfl (Gk.ePiT K (pe_ix (Gk.eIxT K) (pv 3) pe_int (fun _ _ => rfl))) (Gk.ePgT K rfl (pgs_cons (pg_name (i := 5) scSummed.nd rfl (Or.inl rfl)) (pgs_cons (pg_name (i := 6) scSummed.nd rfl (Or.inl rfl)) pgs_nil)))
        (pss_one (ps_dput (hu_of hr) (pv 2) (pv 5) (pe_op op_add (pe_dget2 (hu_of hr) (pv 2) (pv 5) pe_int ⟨by rfl, by rfl, by rfl, by rfl⟩) (pe_op op_mulW (pv 4) (pv 6))) (by rfl))))))
      pss_nil)))
  (pss_one (ps_ret (pe_tup (pa_cons (pv 0) (pa_cons (pe_callTy (K60.eTupOf K) (by rfl) T.tuple (by decide +kernel) (pa_cons (pe_lc (own := [("atom", 5)]) (g := gName 5) (tt := _) rfl scSummed.nd (Gk.ePiL K (pe_callB (TriS.cr_sortDT rfl) (by rfl) T.sorted (by decide +kernel) (pa_cons (pv 2) pa_nil))) (blkOk_by (N := ["const", "parts", "table", "form", "times", "atom", "coefficient"]) (sc := defScope sSummed) (by decide +kernel)) (fun _ _ _ _ _ => pg_name (i := 5) scSummed.nd rfl (Or.inl rfl)) (fun _ _ _ _ _ => (pts_one (pt_cmpR op_ne (pe_dget (hu_of hr) (pv 2) (pv 5) (fun _ _ => rfl)) pe_int (nomark _)))) (fun _ _ _ _ _ => (pe_tup (pa_cons (pv 5) (pa_cons (pe_dget (hu_of hr) (pv 2) (pv 5) (fun _ _ => rfl)) pa_nil))))) pa_nil)) pa_nil))))))), ?_⟩
    repeat walk_at "go1"
    intro tb htb
    repeat walk_at "go1"
    refine ⟨p, rfl, ⟨pvs, SqL.of (by rw [upd_ne (ne_of_none hp htb)]; exact hp)⟩, Gk.forL (xs := pvs) (fun n σ' H' => (∃ (f t a c : Option V), σ' = [some (.int (c0 + sumC (ps.take n))), some (.ref p), some (.ref tb), f, t, a, c]) ∧ Ex H H' ∧
      ∃ m : Tab, H' tb = some (.dT (encT m)) ∧ (m.map (·.1)).Nodup ∧ m.length ≤ nTerms (ps.take n) ∧ ∀ a, tv m a = sumA (ps.take n) a) ?_ (fun n σ' H' _ q => SqL.of (q.2.1 _ _ hp)) ?_ ?_⟩
    · refine ⟨⟨none, none, none, none, ?_⟩, Ex.new htb, [], upd_same, List.nodup_nil, Nat.zero_le _, fun a => rfl⟩
      show _ = [some (V.int (c0 + 0)), _, _, _, _, _, _]
      rw [Int.add_zero]
      rfl
    · rintro n x σ' H' hx ⟨⟨f, t, a, c, rfl⟩, xe, m, hm, hnd, hml, hsum⟩
      have hn1 : n < ps.length := by rw [← hlen]; exact (List.getElem?_eq_some_iff.mp hx).1
      obtain ⟨⟨fo, ti⟩, hpn⟩ : ∃ y, ps[n]? = some y := ⟨ps[n], List.getElem?_eq_getElem hn1⟩
      obtain ⟨v, hv, b, vf, rfl, hb0, hf0⟩ := hat n _ hpn
      rw [hx] at hv
      cases hv
      have hmem : (fo, ti) ∈ ps := List.mem_of_getElem? hpn
      obtain ⟨⟨hs1, hs2⟩, hs3⟩ := hb _ hmem
      obtain ⟨bf, cf, xs, rfl, hbf, hcf, hall⟩ := Tk.form hf0
      have hb1 := xe _ _ hb0
      have hbf1 := xe _ _ hbf
      have hcf1 := xe _ _ hcf
      have et := take_one hpn
      have hnt := nTerms_take ps (n + 1)
      rw [et, nTerms_app] at hnt
      have hnt' : nTerms (ps.take n) + fo.2.length ≤ nTerms ps := hnt
      rw [et, sumC_app]
      refine Gk.gtup (SqT.of hb1) rfl ?_
      repeat walk_at "go1"
      refine Gk.iteQ (fun h1 => ?_) (fun h1 => ?_)
      · repeat walk_at "go1"
        refine Gk.i1 (small_mul hs3 hs1) ?_
        repeat walk_at "go1"
        have lx := TkAll.len hall
        rw [List.length_map] at lx
        refine ⟨cf, rfl, ⟨xs, SqT.of hcf1⟩, Gk.forT (xs := xs) (fun j σ2 H2 => (∃ (a c : Option V), σ2 = [some (.int (c0 + sumC (ps.take n) + ti * fo.1)), some (.ref p), some (.ref tb), some (.ref bf), some (.int ti), a, c]) ∧ Ex H H2 ∧
          ∃ m : Tab, H2 tb = some (.dT (encT m)) ∧ (m.map (·.1)).Nodup ∧ m.length ≤ nTerms (ps.take n) + j ∧ ∀ a, tv m a = sumA (ps.take n) a + ti * coef (fo.2.take j) a) ?_ (fun j σ2 H2 _ q => SqT.of (q.2.1 _ _ hcf)) ?_ ?_⟩
        · refine ⟨⟨a, c, rfl⟩, xe, m, hm, hnd, hml, fun a => ?_⟩
          rw [hsum]
          show _ = _ + ti * 0
          rw [Int.mul_zero, Int.add_zero]
        · rintro j y σ2 H2 hy ⟨⟨a2, c2, rfl⟩, xe2, m2, hm2, hnd2, hml2, hsum2⟩
          have hj : j < fo.2.length := by rw [← lx]; exact (List.getElem?_eq_some_iff.mp hy).1
          obtain ⟨⟨at_, co⟩, hjt⟩ : ∃ z, fo.2[j]? = some z := ⟨fo.2[j], List.getElem?_eq_getElem hj⟩
          obtain ⟨w1, q1, g1⟩ := TkAll.get hall j (termD (at_, co)) (by rw [List.getElem?_map, hjt]; rfl)
          rw [hy] at q1
          cases q1
          obtain ⟨b2, c3, rfl, hb2, hc3⟩ := Tk.term g1
          have hb3 := xe2 _ _ hb2
          have hc4 := xe2 _ _ hc3
          have hco : small co := hs2 _ (List.mem_of_getElem? hjt)
          refine Gk.gtup (SqT.of hb3) rfl ?_
          repeat walk_at "go1"
          refine ⟨tb, rfl, tab_is hm2, ?_⟩
          repeat walk_at "go1"
          refine ⟨_, tab_get hm2 hc4, ?_⟩
          rw [tab_getD]
          repeat walk_at "go1"
          refine Gk.i1 (small_mul hs3 hco) ?_
          repeat walk_at "go1"
          refine ⟨tb, _, rfl, tab_put hm2 hc4 (by omega), ⟨_, _, rfl⟩, Ex.mut xe2 htb, tput m2 at_ (tv m2 at_ + ti * co), upd_same, tput_nodup _ _ hnd2, ?_, fun a => ?_⟩
          · have := tput_len m2 at_ (tv m2 at_ + ti * co)
            omega
          · rw [tv_put, take_one hjt, coef_app, hsum2, hsum2]
            by_cases e : a = at_
            · subst e
              rw [if_pos rfl, if_pos rfl, Int.mul_add]
              dsimp only
              omega
            · rw [if_neg e, if_neg (fun z => e z.symm), Int.add_zero]
        · rintro σ2 H2 ⟨⟨a2, c2, rfl⟩, xe2, m2, hm2, hnd2, hml2, hsum2⟩
          have el : fo.2.take xs.length = fo.2 := by rw [lx, List.take_length]
          rw [el] at hsum2
          refine ⟨⟨some (.ref bf), some (.int ti), a2, c2, by rw [Int.add_assoc]⟩, xe2, m2, hm2, hnd2, ?_, fun a => ?_⟩
          · rw [nTerms_app]
            show _ ≤ _ + fo.2.length
            have lx' : xs.length = fo.2.length := lx
            omega
          · rw [sumA_app]
            exact hsum2 a
      · have h0 : ti = 0 := of_decide_eq_true (bnotF h1)
        repeat walk_at "go1"
        refine ⟨⟨some (.ref bf), some (.int ti), a, c, by rw [h0, Int.zero_mul, Int.add_zero]; rfl⟩, xe, m, hm, hnd, ?_, fun a => ?_⟩
        · rw [nTerms_app]
          omega
        · rw [sumA_app, h0, Int.zero_mul, Int.add_zero]
          exact hsum a
    · rintro σ' H' ⟨⟨f, t, a, c, rfl⟩, xe, m, hm, hnd, hml, hsum⟩
      have el : ps.take pvs.length = ps := by rw [hlen, List.take_length]
      rw [el] at hml hsum ⊢
      refine Gk.ret (Gk.tup (Gk.aCons (Gk.var rfl (Gk.aCons (Gk.cb (Gk.aCons ?_))))))
      refine' terms_lc (i := 2) (j := 5) (m := m) (tb := tb) ?a1 ?a2 ?a3 ?a4 hm hnd (by omega) fun Dl H2 acc out hacc tk xe2 hto => ?a5
      case a1 => rfl
      case a2 => exact fun _ => rfl
      case a3 => exact fun _ => rfl
      case a4 => exact fun _ => rfl
      repeat walk_at "go1"
      refine ⟨Dl, acc, rfl, .inl ⟨SqL.of hacc, fun l hl => ?_⟩⟩
      repeat walk_at "go1"
      refine ⟨by show 2 ≤ sizeLine; decide, fun q hq => ?_⟩
      have x3 : Ex H2 (upd (upd H2 l (.tup acc)) q (.tup [V.int (c0 + sumC ps), V.ref l])) := (Ex.new hl).trans (Ex.new hq)
      refine k _ _ out ((xe.trans xe2).trans x3) ?_ ?_
      · have lq : l ≠ q := ne_of_none (upd_same (H := H2)) hq
        refine .tup upd_same (.cons (.int _) (.cons ?_ .nil))
        exact .tup (by rw [upd_ne lq]; exact upd_same) (Tk.monoAll (Tx.of_ex x3) _ _ tk)
      · have : tv m = sumA ps := funext hsum
        rw [← this]
        exact hto
end
end K60
namespace K60
open PySem L2 TriS
open Evl (Ex)
def floorB (ns : List Int) (a : Tri) : Bool := decide (a.1 = 1) || inV (.int a.2.2) (ns.map V.int)
theorem flat_ints : ∀ ns : List Int, (ns.map V.int).all flatV = true
  | [] => rfl
  | _ :: r => by
    show (true && (r.map V.int).all flatV) = true
    rw [flat_ints r]
    rfl
def spFloor : Sp := fun vs H Q _ => ∃ (n b : Addr) (ns : List Int) (a : Tri), vs = [.ref n, .ref b] ∧ H n = some (.tup (ns.map V.int)) ∧ H b = some (.tup (triV a)) ∧ Q (.bl (floorB ns a)) H
abbrev Hint : Type := Form × Bool × D
def hintD (h : Hint) : D := .tuple [formD h.1, .bool h.2.1, h.2.2]
def partsOf (f : Form) (s : Int) (hs : List Hint) (ms : List Int) : List (Form × Int) := (f, s) :: List.zipWith (fun h m => (h.1, -m)) hs ms
structure Good (ns : List Int) (s : Int) (ps : List (Form × Int)) : Prop where
  c0 : 0 ≤ sumC ps
  c1 : s = 0 → 1 ≤ sumC ps
  at_ : ∀ a, sumA ps a ≠ 0 → 0 < sumA ps a ∧ floorB ns a = true
def ShowsP (ns : List Int) (f : Form) (hs : List Hint) (d : D) : Prop := ∃ (s : Int) (ms : List Int), d = .tuple [.int s, .tuple (ms.map .int)] ∧ fits (hs.map hintD) d = true ∧ Good ns s (partsOf f s hs ms)
theorem byAll_ints : ∀ {hs ms : List D}, byAll hs ms = true → ∃ is : List Int, ms = is.map .int
  | [], [], _ => ⟨[], rfl⟩
  | [], _ :: _, h => nomatch h
  | _ :: _, [], h => nomatch h
  | h :: hs, m :: ms, e => by
    have e1 := Bool.and_eq_true_iff.mp e
    obtain ⟨is, r⟩ := byAll_ints e1.2
    obtain ⟨i, r2⟩ := isInt_of (Bool.and_eq_true_iff.mp e1.1).1
    exact ⟨i :: is, by rw [r, r2]; rfl⟩
theorem fits_inv {hs : List D} {d : D} (h : fits hs d = true) : ∃ (s : Int) (ms : List Int), d = .tuple [.int s, .tuple (ms.map .int)] ∧ 0 ≤ s ∧ ms.length = hs.length := by
  match d, h with
  | .tuple [s, .tuple ms], h =>
    have h1 := Bool.and_eq_true_iff.mp h
    have h2 := Bool.and_eq_true_iff.mp h1.2
    obtain ⟨i, rfl⟩ := isInt_of h1.1
    obtain ⟨is, rfl⟩ := byAll_ints h2.2
    have := byAll_len h2.2
    rw [List.length_map] at this
    exact ⟨i, is, rfl, by have := of_decide_eq_false (bnot h2.1); omega, this⟩
theorem map_int_inj : ∀ {a b : List Int}, (a.map PyData.int) = b.map PyData.int → a = b
  | [], [], _ => rfl
  | [], _ :: _, h => nomatch h
  | _ :: _, [], h => nomatch h
  | x :: a, y :: b, h => by
    injection h with h1 h2
    injection h1 with h1
    rw [h1, map_int_inj h2]
theorem shows_iff {ns : List Int} {f : Form} {hs : List Hint} {s : Int} {ms : List Int} (h : fits (hs.map hintD) (.tuple [.int s, .tuple (ms.map .int)]) = true) :
    ShowsP ns f hs (.tuple [.int s, .tuple (ms.map .int)]) ↔ Good ns s (partsOf f s hs ms) := by
  constructor
  · rintro ⟨s2, ms2, e, _, g⟩
    injection e with e
    injection e with e1 e
    injection e1 with e1
    injection e with e2 _
    injection e2 with e2
    rw [e1, map_int_inj e2]
    exact g
  · intro g
    exact ⟨s, ms, rfl, h, g⟩
structure ShowsIn (H : Hp) (K : PySem.W.Frag) (vn vg vh x : V) (ns : List Int) (f : Form) (hs : List Hint) (d : D) : Prop where
  n : ∃ a, vn = .ref a ∧ H a = some (.tup (ns.map V.int))
  g : Tk H vg (formD f)
  h : Tk H vh (.tuple (hs.map hintD))
  x : Dp K H x d
  ok : ∀ y ∈ hs, isHint (hintD y) = true
  fb : Fb f ∧ ∀ y ∈ hs, Fb y.1
  sm : ∀ (s : Int) (ms : List Int), d = .tuple [.int s, .tuple (ms.map .int)] → small s ∧ ∀ m ∈ ms, small m
  nt : f.2.length + (hs.map fun y => y.1.2.length).sum ≤ 90000
  hl : hs.length ≤ 10000
def spShows (K : PySem.W.Frag) : Sp := fun vs H Q _ => ∃ (vn vg vh x : V) (ns : List Int) (f : Form) (hs : List Hint) (d : D), vs = [vn, vg, vh, x] ∧ ShowsIn H K vn vg vh x ns f hs d ∧
  ∀ (H' : Hp) (b : Bool), Ex H H' → (b = true ↔ ShowsP ns f hs d) → Q (.bl b) H'
theorem PartAt.mono {H H' : Hp} {v : V} {p : Form × Int} (x : Tx H H') (h : PartAt H v p) : PartAt H' v p := by
  obtain ⟨b, vf, e, h1, h2⟩ := h
  exact ⟨b, vf, e, x _ _ h1, Tk.mono x _ _ h2⟩
theorem nTerms_zip : ∀ (hs : List Hint) (ms : List Int), nTerms (List.zipWith (fun h m => (h.1, -m)) hs ms) ≤ (hs.map fun y => y.1.2.length).sum
  | [], _ => Nat.zero_le _
  | _ :: _, [] => Nat.zero_le _
  | h :: hs, m :: ms => by
    have := nTerms_zip hs ms
    show h.1.2.length + nTerms _ ≤ (h.1.2.length :: (hs.map fun y => y.1.2.length)).sum
    rw [List.sum_cons]
    omega
theorem small_neg {i : Int} (h : small i) : small (-i) := by
  unfold small
  rw [Int.natAbs_neg]
  exact h
local macro_rules | `(tactic| walk_at "sq") => `(tactic| first | assumption | exact SqL.of (by assumption) | exact SqT.of (by assumption) | exact SqL.of upd_same | exact SqT.of upd_same)
local macro_rules | `(tactic| walk_at "go1") => `(tactic| first
  | (with_reducible refine' Gk.seq ?_)
  | ((with_reducible refine' Gk.var ?hgo ?_); (case hgo => exact rfl))
  | (with_reducible refine' Gk.con ?_)
  | (with_reducible refine' Gk.op ?_)
  | (with_reducible refine' Gk.i0 ?_)
  | (with_reducible refine' Gk.un ?_)
  | ((with_reducible refine' Gk.i1 (C := CMul) ?hgo ?_); (case hgo => first | exact .inl ⟨by decide, by decide⟩ | exact .inr ⟨by decide, by decide⟩ | exact .inl ⟨by omega, by omega⟩ | exact .inr ⟨by omega, by omega⟩))
  | ((with_reducible refine' Gk.i1 (C := CDiv) ?hgo ?_); (case hgo => exact ⟨by omega, by omega⟩))
  | ((with_reducible refine' Gk.i1 (C := CPow) ?hgo ?_); (case hgo => exact ⟨by decide, by decide, by decide⟩))
  | ((with_reducible refine' Gk.i1 (C := fun _ j => 0 < j) ?hgo ?_); (case hgo => show (0 : Int) < _; omega))
  | (with_reducible refine' Gk.u1 ?_)
  | (with_reducible refine' Gk.test ?_)
  | (with_reducible refine' Gk.testB ?_)
  | (with_reducible refine' Gk.asB ?_)
  | (with_reducible refine' K60.eqI ?_)
  | (with_reducible refine' K60.neI ?_)
  | ((with_reducible refine' Gk.eqv ?hgo ?_); (case hgo => exact rfl))
  | ((with_reducible refine' Gk.nev ?hgo ?_); (case hgo => exact rfl))
  | ((with_reducible refine' Gk.ixL ?hgo ?hga ?_); (case hgo => walk_at "sq"); (case hga => first | exact rfl | assumption))
  | ((with_reducible refine' Gk.ixT ?hgo ?hga ?_); (case hgo => walk_at "sq"); (case hga => first | exact rfl | assumption))
  | (with_reducible refine' Gk.aNil ?_)
  | (with_reducible refine' Gk.aCons ?_)
  | (with_reducible refine' Gk.cb ?_)
  | (with_reducible refine' Gk.call ?_)
  | (with_reducible refine' Gk.tup ?_)
  | (with_reducible refine' Gk.lst ?_)
  | (with_reducible refine' Gk.ifE ?_)
  | (with_reducible refine' Gk.ifS ?_)
  | (with_reducible refine' Gk.next ?_)
  | (with_reducible refine' Gk.asg ?_)
  | ((with_reducible refine' Gk.gname ?hgo ?_); (case hgo => exact rfl))
  | (with_reducible refine' Gk.gsub ?_)
  | ((with_reducible refine' Gk.setL ?hgo ?hga ?_); (case hgo => first | assumption | exact upd_same); (case hga => first | exact rfl | assumption))
  | (with_reducible refine' Gk.ret ?_)
  | (with_reducible refine' Gk.drop ?_)
  | (with_reducible refine' Gk.par ?_)
  | (with_reducible refine' Gk.andT ?_)
  | (with_reducible refine' Gk.orT ?_)
  | (with_reducible refine' Gk.notT ?_)
  | (with_reducible refine' Gk.abs ?_)
  | (with_reducible refine' Gk.intI ?_)
  | (with_reducible refine' Gk.intB ?_)
  | ((with_reducible refine' Gk.lenL ?hgo ?_); (case hgo => walk_at "sq"))
  | ((with_reducible refine' Gk.lenT ?hgo ?_); (case hgo => walk_at "sq"))
  | ((with_reducible refine' K60.lenD ?hgo ?_); (case hgo => assumption))
  | (with_reducible refine' K60.zipA ?_)
  | (with_reducible refine' K60.listI ?_)
  | (with_reducible refine' K60.tupI ?_)
  | (with_reducible refine' K60.dget2 ?_)
  | (with_reducible refine' K60.dget ?_)
  | (with_reducible refine' K60.dput ?_)
  | ((with_reducible refine' K60.aug ?hgo ?_); (case hgo => exact rfl))
  | (with_reducible refine' K60.ipI ?_)
  | (with_reducible refine' K60.newT ?_)
  | (with_reducible refine' Gk.bm ?_)
  | ((with_reducible refine' Gk.tyL ?hgo ?_); (case hgo => first | assumption | exact upd_same))
  | ((with_reducible refine' Gk.gtup ?hgo ?hga ?_); (case hgo => walk_at "sq"); (case hga => exact rfl))
  | (with_reducible refine' Gk.gcons ?_)
  | (with_reducible refine' Gk.gnil ?_)
  | (with_reducible refine' Gk.sl ?_)
  | (with_reducible refine' Gk.noPart ?_)
  | (with_reducible refine' Gk.part ?_)
  | (with_reducible refine' Gk.partI ?_)
  | (with_reducible refine' Gk.lc ?_)
  | (with_reducible refine' Gk.rng1 ?_)
  | (with_reducible refine' Gk.forS ?_)
  | (with_reducible refine' Gk.isN ?_)
  | (with_reducible refine' Gk.notN ?_)
  | (with_reducible refine' Gk.andV ?_)
  | (with_reducible refine' Gk.orV ?_)
  | (with_reducible refine' Gk.notV ?_)
  | (with_reducible refine' K60.chain ?_)
  | ((with_reducible refine' K60.isiI ?hgo ?_); (case hgo => assumption))
  | ((with_reducible refine' K60.isiBo ?hgo ?_); (case hgo => assumption))
  | ((with_reducible refine' K60.isiT ?hgo ?_); (case hgo => assumption))
  | ((with_reducible refine' Gk.isiB ?hgo ?hga ?_); (case hgo => exact .base (.non)); (case hga => first | exact (show kitB _ _ = some true by decide +kernel) | exact (show kitB _ _ = some false by decide +kernel)))
  | ((with_reducible refine' Gk.isiB ?hgo ?hga ?_); (case hgo => exact .base (.int _)); (case hga => first | exact (show kitB _ _ = some true by decide +kernel) | exact (show kitB _ _ = some false by decide +kernel)))
  | ((with_reducible refine' Gk.isiB ?hgo ?hga ?_); (case hgo => exact .base (.str _)); (case hga => first | exact (show kitB _ _ = some true by decide +kernel) | exact (show kitB _ _ = some false by decide +kernel)))
  | ((with_reducible refine' Gk.isiB ?hgo ?hga ?_); (case hgo => exact .base (.bl _)); (case hga => first | exact (show kitB _ _ = some true by decide +kernel) | exact (show kitB _ _ = some false by decide +kernel)))
  | ((with_reducible refine' Gk.isiB ?hgo ?hga ?_); (case hgo => exact .base (.tup (by assumption))); (case hga => first | exact (show kitB _ _ = some true by decide +kernel) | exact (show kitB _ _ = some false by decide +kernel)))
  | ((with_reducible refine' Gk.isiB ?hgo ?hga ?_); (case hgo => exact .base (.lst (by assumption))); (case hga => first | exact (show kitB _ _ = some true by decide +kernel) | exact (show kitB _ _ = some false by decide +kernel)))
  | ((with_reducible refine' Gk.iteT ?hgo ?_); (case hgo => exact rfl))
  | ((with_reducible refine' Gk.iteF ?hgo ?_); (case hgo => exact rfl))
  | (with_reducible refine' Gk.yes ?_)
  | (dsimp only))

abbrev sIsFloor : Stmt := top 18
theorem scIsFloor : FnScope ["never", "atom"] ["never", "atom"] (defScope sIsFloor) := ⟨rfl, rfl, rfl, by decide +kernel, rfl, by decide +kernel, by decide +kernel⟩
abbrev sShows : Stmt := top 26
theorem scShows : FnScope ["never", "goal", "hints", "thing", "scale", "multipliers", "parts", "hint", "times", "const", "terms", "atom", "coefficient"] ["never", "goal", "hints", "thing"] (defScope sShows) := ⟨rfl, rfl, rfl, by decide +kernel, rfl, by decide +kernel, by decide +kernel⟩
abbrev sIsShown : Stmt := top 27
theorem scIsShown : FnScope ["never", "goal", "hints", "thing"] ["never", "goal", "hints", "thing"] (defScope sIsShown) := ⟨rfl, rfl, rfl, by decide +kernel, rfl, by decide +kernel, by decide +kernel⟩
section
variable {P : Program} {w : World} {K : PySem.W.Frag} {mg : Str → Option Value} {base : Heap}
theorem cl_is_floor (T : Glo mg) (h : Has K mg "is_floor" sIsFloor) : Cl P w K mg base "is_floor" ["never", "atom"] 1 spFloor := by
  obtain ⟨f, fd, m_, F⟩ := h
  refine ⟨f, fd, m_, F.kp, F.binds (ps := ["never", "atom"]) fun _ _ _ _ _ _ us hl => match us, hl with | [_, _], _ => rfl, ?_⟩
  refine F.ok scIsFloor (fun vs H Q E h => ?_) (fun cdv A outer s H vs Q E hr h => ?_)
  · obtain ⟨n, b, ns, a, rfl, _⟩ := h
    rfl
  · obtain ⟨n, b, ns, a, rfl, hn, hb, k⟩ := h
    refine ⟨_, (pss_one (ps_ret (pe_or (pe_cmpR op_eq (pe_ix (Gk.eIxT K) (pv 1) pe_int (fun _ _ => rfl)) pe_int (nomark _)) (pe_one (pe_cmpR (Gk.eIn K) (pe_ix (Gk.eIxT K) (pv 1) pe_int (fun _ _ => rfl)) (pv 0) (by rfl)))))), ?_⟩
    have hb' : H b = some (.tup [.int a.1, .int a.2.1, .int a.2.2]) := hb
    repeat walk_at "go1"
    refine Gk.iteQ (fun h1 => ?_) (fun h1 => ?_)
    · have e : floorB ns a = true := by
        unfold floorB
        rw [h1]
        rfl
      rw [e] at k
      exact k
    · repeat walk_at "go1"
      refine Gk.inT (SqT.of hn) rfl (flat_ints ns) ?_
      have e : floorB ns a = inV (.int a.2.2) (ns.map V.int) := by
        unfold floorB
        rw [h1]
        rfl
      rw [e] at k
      exact k
theorem cl_shows (T : Glo mg) (h : Has K mg "shows" sShows) (c_ShowingFits : Cl P w K mg base "showing_fits" ["hints", "thing"] 2 (spFits K)) (c_Summed : Cl P w K mg base "summed" ["const", "parts"] 1 spSum) (c_IsFloor : Cl P w K mg base "is_floor" ["never", "atom"] 1 spFloor) : Cl P w K mg base "shows" ["never", "goal", "hints", "thing"] 3 (spShows K) := by
  obtain ⟨f_ShowingFits, fd_ShowingFits, m_ShowingFits, k_ShowingFits, b_ShowingFits, G_ShowingFits⟩ := c_ShowingFits
  obtain ⟨f_Summed, fd_Summed, m_Summed, k_Summed, b_Summed, G_Summed⟩ := c_Summed
  obtain ⟨f_IsFloor, fd_IsFloor, m_IsFloor, k_IsFloor, b_IsFloor, G_IsFloor⟩ := c_IsFloor
  obtain ⟨f, fd, m_, F⟩ := h
  refine ⟨f, fd, m_, F.kp, F.binds (ps := ["never", "goal", "hints", "thing"]) fun _ _ _ _ _ _ us hl => match us, hl with | [_, _, _, _], _ => rfl, ?_⟩
  refine F.ok scShows (fun vs H Q E h => ?_) (fun cdv A outer s H vs Q E hr h => ?_)
  · obtain ⟨vn, vg, vh, x, ns, f, hs, d, rfl, _⟩ := h
    rfl
  · obtain ⟨vn, vg, vh, x, ns, f, hs, d, rfl, J, k⟩ := h
    refine ⟨_, (pss_cons (ps_if (pt_not (pt_val (pe_call G_ShowingFits (hr.mono (by omega)) rfl m_ShowingFits k_ShowingFits b_ShowingFits .nil pass0 (pa_cons (pv 2) (pa_cons (pv 3) pa_nil)))))
    (pss_one (ps_ret pe_bl))
    pss_nil)
  (pss_cons (ps_asg (pv 3) (Gk.ePgT K rfl (pgs_cons (pg_name (i := 4) scShows.nd rfl (Or.inl rfl)) (pgs_cons (pg_name (i := 5) scShows.nd rfl (Or.inl rfl)) pgs_nil))))
  (pss_cons (ps_set (i := 6) scShows.nd rfl (Or.inl rfl) (pe_lst (pa_cons (pe_tup (pa_cons (pv 1) (pa_cons (pv 4) pa_nil))) pa_nil)))
  (pss_cons (ps_for PassesOwn.never rfl (K60.eZip K (by rfl) T.zip (pa_cons (pv 2) (pa_cons (pv 5) pa_nil))) (Gk.ePgT K rfl (pgs_cons (pg_name (i := 7) scShows.nd rfl (Or.inl rfl)) (pgs_cons (pg_name (i := 8) scShows.nd rfl (Or.inl rfl)) pgs_nil)))
    (pss_one (ps_expr (Gk.eBm K PySem.F.plainAttrs_list PySem.F.slot_list_append PySem.F.type_list_append mt_append (pv 6) (pa_cons (pe_tup (pa_cons (pe_ix (Gk.eIxT K) (pv 7) pe_int (fun _ _ => rfl)) (pa_cons (pe_un un_neg (pv 8)) pa_nil))) pa_nil)))))
  (pss_cons (ps_asg (pe_call G_Summed (hr.mono (by omega)) rfl m_Summed k_Summed b_Summed .nil pass0 (pa_cons pe_int (pa_cons (pv 6) pa_nil))) (Gk.ePgT K rfl (pgs_cons (pg_name (i := 9) scShows.nd rfl (Or.inl rfl)) (pgs_cons (pg_name (i := 10) scShows.nd rfl (Or.inl rfl)) pgs_nil))))
  (pss_cons (ps_if (PW.pt (pw_or (pt_cmpR op_lt (pv 9) pe_int (nomark _)) (pw_or1 (PW.pt (pw_and (pt_cmpR op_eq (pv 4) pe_int (nomark _)) (pw_and1 (pt_cmpR op_lt (pv 9) pe_int (nomark _))))))))
    (pss_one (ps_ret pe_bl))
    pss_nil)
  (pss_cons (ps_for PassesOwn.never rfl (Gk.ePiT K (pv 10)) (Gk.ePgT K rfl (pgs_cons (pg_name (i := 11) scShows.nd rfl (Or.inl rfl)) (pgs_cons (pg_name (i := 12) scShows.nd rfl (Or.inl rfl)) pgs_nil)))
    (pss_one (ps_if (PW.pt (pw_or (pt_cmpR op_lt (pv 12) pe_int (nomark _)) (pw_or1 (pt_not (pt_val (pe_call G_IsFloor (hr.mono (by omega)) rfl m_IsFloor k_IsFloor b_IsFloor .nil pass0 (pa_cons (pv 0) (pa_cons (pv 11) pa_nil))))))))
      (pss_one (ps_ret pe_bl))
      pss_nil)))
  (pss_one (ps_ret pe_bl))))))))), ?_⟩
    repeat walk_at "go1"
    refine ⟨vh, x, hs.map hintD, d, rfl, Tk.dp _ _ J.h, fun y hy => by
      obtain ⟨z, hz, e⟩ := List.mem_map.mp hy
      rw [← e]
      exact J.ok z hz, J.x, fun H1 x1 => ?_⟩
    repeat walk_at "go1"
    refine Gk.iteQ (fun h1 => ?_) (fun h1 => ?_)
    · repeat walk_at "go1"
      refine k _ _ x1 ⟨fun e => (by cases e), fun ⟨_, _, _, g, _⟩ => ?_⟩
      rw [bnot h1] at g
      cases g
    have hfit := bnotF h1
    obtain ⟨s, ms, rfl, hs0, hml⟩ := fits_inv hfit
    rw [List.length_map] at hml
    obtain ⟨sms, smm⟩ := J.sm s ms rfl
    have dx := Dp.ex x1 _ _ J.x
    have si := shows_iff (ns := ns) (f := f) hfit
    repeat walk_at "go1"
    cases dx with
    | tup hx ha =>
    rename_i ax xx
    obtain ⟨v1, v2, rfl, g1, g2⟩ := DpAll.cut2 ha
    cases Dp.int_inv g1
    refine Gk.gtup hx rfl ?_
    repeat walk_at "go1"
    refine ⟨by show 2 ≤ sizeLine; decide, fun p1 hp1 => ?_⟩
    repeat walk_at "go1"
    refine ⟨by show 1 ≤ sizeLine; decide, fun pl hpl => ?_⟩
    have hp1l : p1 ≠ pl := ne_of_none (upd_same (H := H1)) hpl
    have xA : Ex H1 (upd (upd H1 p1 (.tup [vg, V.int s])) pl (.lst [V.ref p1])) := (Ex.new hp1).trans (Ex.new hpl)
    have tgo : Tk (upd (upd H1 p1 (.tup [vg, V.int s])) pl (.lst [V.ref p1])) vg (formD f) := Tk.mono (Tx.of_ex (x1.trans xA)) _ _ J.g
    have part0 : PartAt (upd (upd H1 p1 (.tup [vg, V.int s])) pl (.lst [V.ref p1])) (.ref p1) (f, s) := ⟨p1, vg, rfl, by rw [upd_ne hp1l]; exact upd_same, tgo⟩
    have hpl' : upd (upd H1 p1 (.tup [vg, V.int s])) pl (.lst [V.ref p1]) pl = some (.lst [V.ref p1]) := upd_same
    have xB : Ex (upd H1 p1 (.tup [vg, V.int s])) (upd (upd H1 p1 (.tup [vg, V.int s])) pl (.lst [V.ref p1])) := Ex.new hpl
    have xH1 : Ex H1 (upd H1 p1 (.tup [vg, V.int s])) := Ex.new hp1
    generalize upd (upd H1 p1 (.tup [vg, V.int s])) pl (.lst [V.ref p1]) = H3 at *
    generalize upd H1 p1 (.tup [vg, V.int s]) = H2 at *
    have x3 : Ex H H2 := x1.trans xH1
    obtain ⟨an, rfl, hn⟩ := J.n
    have tvh := J.h
    cases tvh with
    | tup hvh hva =>
    rename_i ah xh
    cases g2 with
    | tup hvm hvb =>
    rename_i am xm
    have lh := TkAll.len hva
    have lm := DpAll.len hvb
    rw [List.length_map] at lh lm
    repeat walk_at "go1"
    refine ⟨ah, am, _, _, rfl, .inr ⟨SqT.of ((x3.trans xB) _ _ hvh), SqT.ex (xH1.trans xB) hvm, forZT (by omega) (fun i σ' H' => (∃ y z : Option V, σ' = [some (.ref an), some vg, some (.ref ah), some (.ref ax), some (.int s), some (.ref am), some (.ref pl), y, z, none, none, none, none]) ∧ Ex H2 H' ∧
      ∃ pvs : List V, H' pl = some (.lst pvs) ∧ pvs.length = i + 1 ∧ ∀ (j : Nat) (q : Form × Int), j < i + 1 → (partsOf f s hs ms)[j]? = some q → ∃ v, pvs[j]? = some v ∧ PartAt H' v q) ?_ (fun i σ' H' q => ⟨SqT.of (q.2.1 _ _ (x3 _ _ hvh)), SqT.ex (xH1.trans q.2.1) hvm⟩) ?_ ?_⟩⟩
    · refine ⟨⟨none, none, rfl⟩, xB, [V.ref p1], hpl', rfl, fun j q hj hq => ?_⟩
      have : j = 0 := by omega
      subst this
      have : (f, s) = q := Option.some.inj hq
      subst this
      exact ⟨_, rfl, part0⟩
    · rintro i y1 y2 TT σ' H' e1 e2 ⟨⟨y, z, rfl⟩, xe, pvs, hpv, hpn, hpa⟩ hT
      have hi : i < hs.length := by rw [← lh]; exact (List.getElem?_eq_some_iff.mp e1).1
      have hi2 : i < ms.length := by omega
      have q1 : hs[i]? = some hs[i] := List.getElem?_eq_getElem hi
      have q2 : ms[i]? = some ms[i] := List.getElem?_eq_getElem hi2
      obtain ⟨w1, f1, gg1⟩ := TkAll.get hva i (hintD hs[i]) (by rw [List.getElem?_map, q1]; rfl)
      obtain ⟨w2, f2, gg2⟩ := DpAll.get hvb i (.int ms[i]) (by rw [List.getElem?_map, q2]; rfl)
      rw [e1] at f1
      cases f1
      rw [e2] at f2
      cases f2
      cases Dp.int_inv gg2
      have hz : (partsOf f s hs ms)[i + 1]? = some (hs[i].1, -ms[i]) := by
        show (List.zipWith (fun h m => (h.1, -m)) hs ms)[i]? = _
        rw [List.getElem?_zipWith, q1, q2]
      generalize hs[i] = hh at *
      generalize ms[i] = mm at *
      have x4 : Ex H' (upd H' TT (.tup [y1, V.int mm])) := Ex.new hT
      have th : Tk (upd H' TT (.tup [y1, V.int mm])) y1 (hintD hh) := Tk.mono (Tx.of_ex ((x3.trans xe).trans x4)) _ _ gg1
      have hT2 : upd H' TT (.tup [y1, V.int mm]) TT = some (.tup [y1, V.int mm]) := upd_same
      have hpv2 := x4 _ _ hpv
      have xe2 := xe.trans x4
      have hpa2 : ∀ (j : Nat) (q : Form × Int), j < i + 1 → (partsOf f s hs ms)[j]? = some q → ∃ v, pvs[j]? = some v ∧ PartAt (upd H' TT (.tup [y1, V.int mm])) v q := fun j q hj hq => by
        obtain ⟨v, a1, a2⟩ := hpa j q hj hq
        exact ⟨v, a1, PartAt.mono (Tx.of_ex x4) a2⟩
      generalize upd H' TT (.tup [y1, V.int mm]) = H4 at *
      cases th with
      | tup hth hta =>
      cases hta with
      | cons t1 hta =>
      cases hta with
      | cons t2 hta =>
      cases hta with
      | cons t3 hta =>
      cases hta
      rename_i ay vf vb vo
      refine Gk.gtup (SqT.of hT2) rfl ?_
      repeat walk_at "go1"
      refine ⟨by show 2 ≤ sizeLine; decide, fun pp hpp => ?_⟩
      have x5 : Ex H4 (upd H4 pp (.tup [vf, V.int (-mm)])) := Ex.new hpp
      repeat walk_at "go1"
      refine Gk.app (x5 _ _ hpv2) (by rw [hpn, sizeLine_eq]; have := J.hl; omega) ?_
      repeat walk_at "go1"
      have tx : Tx H4 (upd (upd H4 pp (.tup [vf, V.int (-mm)])) pl (.lst (pvs ++ [V.ref pp]))) := (Tx.new hpp).trans (Tx.lst (x5 _ _ hpv2))
      have npl : pl ≠ pp := ne_of_none hpv2 hpp
      refine ⟨⟨_, _, rfl⟩, Ex.mut (xe2.trans x5) hpl, pvs ++ [V.ref pp], upd_same, by rw [List.length_append, hpn]; rfl, fun j q hj hq => ?_⟩
      by_cases hji : j = i + 1
      · subst hji
        rw [hz] at hq
        cases hq
        refine ⟨V.ref pp, by rw [List.getElem?_append_right (by omega), hpn, Nat.sub_self]; rfl, pp, vf, rfl, ?_, Tk.mono tx _ _ t1⟩
        rw [upd_ne npl.symm]
        exact upd_same
      · obtain ⟨v, a1, a2⟩ := hpa2 j q (by omega) hq
        refine ⟨v, ?_, PartAt.mono tx a2⟩
        rw [List.getElem?_append_left (by omega)]
        exact a1
    · rintro σ' H' ⟨⟨y, z, rfl⟩, xe, pvs, hpv, hpn, hpa⟩
      have lp : (partsOf f s hs ms).length = hs.length + 1 := by
        show (List.zipWith (fun h m => (h.1, -m)) hs ms).length + 1 = _
        rw [List.length_zipWith]
        omega
      repeat walk_at "go1"
      refine ⟨0, pl, pvs, partsOf f s hs ms, rfl, hpv, by omega, fun j q hq => hpa j q (by have := (List.getElem?_eq_some_iff.mp hq).1; omega) hq, ?_, ?_, fun H5 v out x5 tk to => ?_⟩
      · intro q hq
        rcases List.mem_cons.mp hq with e | e
        · rw [e]
          exact ⟨J.fb.1, sms⟩
        · obtain ⟨i, hi, e2⟩ := List.getElem_of_mem e
          rw [List.getElem_zipWith] at e2
          rw [← e2]
          exact ⟨J.fb.2 _ (List.getElem_mem _), small_neg (smm _ (List.getElem_mem _))⟩
      · have h1 := nTerms_zip hs ms
        have h2 := J.nt
        show f.2.length + nTerms (List.zipWith (fun h m => (h.1, -m)) hs ms) ≤ 90000
        omega
      · rw [Int.zero_add] at tk
        obtain ⟨b5, c5, xs5, rfl, hb5, hc5, ha5⟩ := Tk.form tk
        have l5 : xs5.length = out.length := by
          have := TkAll.len ha5
          rw [List.length_map] at this
          exact this
        have xF : Ex H H5 := (x3.trans xe).trans x5
        have hn5 := xF _ _ hn
        generalize partsOf f s hs ms = ps at *
        refine Gk.gtup (SqT.of hb5) rfl ?_
        have no : ¬ Good ns s ps → Q (.bl false) H5 := fun hg => k _ _ xF ⟨fun e => (by cases e), fun g => absurd (si.mp g) hg⟩
        repeat walk_at "go1"
        refine Gk.iteQ (fun q1 => ?_) (fun q1 => ?_)
        · repeat walk_at "go1"
          exact no fun g => by
            have := of_decide_eq_true q1
            have := g.c0
            omega
        have hc0 : 0 ≤ sumC ps := by have := of_decide_eq_false q1; omega
        repeat walk_at "go1"
        have rest : (s = 0 → 1 ≤ sumC ps) → tFor (iTup K (tVar 10)) (gTup K 2 (gCons (gName 11) (gCons (gName 12) gNil))) (tIfS (tOr (tTest (tOp (rI0 fun i j => .bl (decide (i < j))) (tVar 12) (tC (V.int 0)))) (tNot (tTest (tCall spFloor [] E0 (tCons (tVar 0) (tCons (tVar 11) tNil)))))) (tRet (tC (V.bl false))) tNext)
            { nx := fun σ H => tRet (tC (V.bl true)) { nx := fun _ H' => Q .non H', rt := Q } σ H, rt := Q } [some (.ref an), some vg, some (.ref ah), some (.ref ax), some (.int s), some (.ref am), some (.ref pl), y, z, some (.int (sumC ps)), some (.ref c5), none, none] H5 := by
          intro hc1
          refine Gk.forS (tupI (Gk.var rfl ⟨c5, rfl, ⟨xs5, SqT.of hc5⟩, Gk.forT (xs := xs5) (fun n σ' H' => (∃ u v : Option V, σ' = [some (.ref an), some vg, some (.ref ah), some (.ref ax), some (.int s), some (.ref am), some (.ref pl), y, z, some (.int (sumC ps)), some (.ref c5), u, v]) ∧ H' = H5 ∧
            ∀ (j : Nat) (t : Tri × Int), j < n → out[j]? = some t → 0 < t.2 ∧ floorB ns t.1 = true) ⟨⟨none, none, rfl⟩, rfl, fun j t hj => by omega⟩ (fun n σ' H' _ q => by rw [q.2.1]; exact SqT.of hc5) ?_ ?_⟩))
          · rintro n w σ' H' hw ⟨⟨u, v, rfl⟩, rfl, hall⟩
            have hno : n < out.length := by rw [← l5]; exact (List.getElem?_eq_some_iff.mp hw).1
            obtain ⟨⟨a, c⟩, ht⟩ : ∃ t, out[n]? = some t := ⟨out[n], List.getElem?_eq_getElem hno⟩
            obtain ⟨w1, f1, gg⟩ := TkAll.get ha5 n (termD (a, c)) (by rw [List.getElem?_map, ht]; rfl)
            rw [hw] at f1
            cases f1
            obtain ⟨bt, ct, rfl, hbt, hct⟩ := Tk.term gg
            have hmem := (to.mem a c).mp (List.mem_of_getElem? ht)
            refine Gk.gtup (SqT.of hbt) rfl ?_
            repeat walk_at "go1"
            refine Gk.iteQ (fun r1 => ?_) (fun r1 => ?_)
            · repeat walk_at "go1"
              exact no fun g => by
                have r2 : c < 0 := of_decide_eq_true r1
                have := (g.at_ a (by rw [hmem.1]; exact hmem.2)).1
                rw [hmem.1] at this
                omega
            have r2 : ¬ c < 0 := of_decide_eq_false r1
            repeat walk_at "go1"
            refine ⟨an, ct, ns, a, rfl, hn5, hct, ?_⟩
            repeat walk_at "go1"
            refine Gk.iteQ (fun r3 => ?_) (fun r3 => ?_)
            · repeat walk_at "go1"
              exact no fun g => by
                have := (g.at_ a (by rw [hmem.1]; exact hmem.2)).2
                rw [this] at r3
                cases r3
            · repeat walk_at "go1"
              refine ⟨⟨_, _, rfl⟩, rfl, fun j t hj hjt => ?_⟩
              by_cases hjn : j = n
              · subst hjn
                rw [ht] at hjt
                cases hjt
                have := hmem.2
                exact ⟨by show 0 < c; omega, bnotF r3⟩
              · exact hall j t (by omega) hjt
          · rintro σ' H' ⟨⟨u, v, rfl⟩, rfl, hall⟩
            repeat walk_at "go1"
            refine k _ _ xF ⟨fun _ => si.mpr ⟨hc0, hc1, fun a hne => ?_⟩, fun _ => rfl⟩
            have hm := (to.mem a _).mpr ⟨rfl, hne⟩
            obtain ⟨j, hj, ej⟩ := List.getElem_of_mem hm
            have := hall j _ (by omega) (List.getElem?_eq_getElem hj)
            rw [ej] at this
            exact this
        refine Gk.iteQ (fun q2 => ?_) (fun q2 => ?_)
        · have hs1 : s = 0 := of_decide_eq_true q2
          repeat walk_at "go1"
          refine Gk.iteQ (fun q3 => ?_) (fun q3 => ?_)
          · repeat walk_at "go1"
            exact no fun g => by
              have := of_decide_eq_true q3
              have := g.c1 hs1
              omega
          · have hq3 := of_decide_eq_false q3
            exact rest fun _ => by omega
        · have hs1 : s ≠ 0 := of_decide_eq_false q2
          exact rest fun e => absurd e hs1
end
end K60
namespace K60
open PySem L2 TriS
open Evl (Ex)
def spShown (K : PySem.W.Frag) (CN CG CH : Addr) : Sp := fun vs H Q E => ∃ (vn vg vh x : V) (dn dg dh : D), vs = [vn, vg, vh, x] ∧ Dp K H vn dn ∧ Dp K H vg dg ∧ Dp K H vh dh ∧ fitF dg = true ∧ fitHs dh = true ∧
  (isNever dn = false → E (.ref CN) none H) ∧ (isNever dn = true → isForm dg = false → E (.ref CG) none H) ∧ (isNever dn = true → isForm dg = true → isHints dh = false → E (.ref CH) none H) ∧
  (isNever dn = true → isForm dg = true → isHints dh = true → ∃ (ns : List Int) (f : Form) (hs : List Hint) (d : D), ShowsIn H K vn vg vh x ns f hs d ∧ ∀ (H' : Hp) (b : Bool), Ex H H' → (b = true ↔ ShowsP ns f hs d) → Q (.bl b) H')
/-- is_shown, called by position and by name -/
def ClS (P : Program) (w : World) (K : PySem.W.Frag) (mg : Str → Option Value) (base : Heap) (k : Nat) (sp : Sp) : Prop :=
  ∃ f fd, mg "is_shown" = some (.ref f) ∧ PySem.W.keepIn K (.ref f) = true ∧ Binds K fd ["never", "goal", "hints", "thing"] [] ∧
    (∀ (s : Shared) (t h g n : Value), BindsTo s fd ⟨[], [("thing", t), ("hints", h), ("goal", g), ("never", n)]⟩ [("never", n), ("goal", g), ("hints", h), ("thing", t)]) ∧ FnOk P w K mg base (L2.CX P w) k f fd ["never", "goal", "hints", "thing"] sp
local macro_rules | `(tactic| walk_at "sq") => `(tactic| first | assumption | exact SqL.of (by assumption) | exact SqT.of (by assumption) | exact SqL.of upd_same | exact SqT.of upd_same)
local macro_rules | `(tactic| walk_at "go1") => `(tactic| first
  | (with_reducible refine' Gk.seq ?_)
  | ((with_reducible refine' Gk.var ?hgo ?_); (case hgo => exact rfl))
  | (with_reducible refine' Gk.con ?_)
  | (with_reducible refine' Gk.op ?_)
  | (with_reducible refine' Gk.i0 ?_)
  | (with_reducible refine' Gk.un ?_)
  | ((with_reducible refine' Gk.i1 (C := CMul) ?hgo ?_); (case hgo => first | exact .inl ⟨by decide, by decide⟩ | exact .inr ⟨by decide, by decide⟩ | exact .inl ⟨by omega, by omega⟩ | exact .inr ⟨by omega, by omega⟩))
  | ((with_reducible refine' Gk.i1 (C := CDiv) ?hgo ?_); (case hgo => exact ⟨by omega, by omega⟩))
  | ((with_reducible refine' Gk.i1 (C := CPow) ?hgo ?_); (case hgo => exact ⟨by decide, by decide, by decide⟩))
  | ((with_reducible refine' Gk.i1 (C := fun _ j => 0 < j) ?hgo ?_); (case hgo => show (0 : Int) < _; omega))
  | (with_reducible refine' Gk.u1 ?_)
  | (with_reducible refine' Gk.test ?_)
  | (with_reducible refine' Gk.testB ?_)
  | (with_reducible refine' Gk.asB ?_)
  | (with_reducible refine' K60.eqI ?_)
  | (with_reducible refine' K60.neI ?_)
  | ((with_reducible refine' Gk.eqv ?hgo ?_); (case hgo => exact rfl))
  | ((with_reducible refine' Gk.nev ?hgo ?_); (case hgo => exact rfl))
  | ((with_reducible refine' Gk.ixL ?hgo ?hga ?_); (case hgo => walk_at "sq"); (case hga => first | exact rfl | assumption))
  | ((with_reducible refine' Gk.ixT ?hgo ?hga ?_); (case hgo => walk_at "sq"); (case hga => first | exact rfl | assumption))
  | (with_reducible refine' Gk.aNil ?_)
  | (with_reducible refine' Gk.aCons ?_)
  | (with_reducible refine' Gk.cb ?_)
  | (with_reducible refine' Gk.call ?_)
  | (with_reducible refine' Gk.tup ?_)
  | (with_reducible refine' Gk.lst ?_)
  | (with_reducible refine' Gk.ifE ?_)
  | (with_reducible refine' Gk.ifS ?_)
  | (with_reducible refine' Gk.next ?_)
  | (with_reducible refine' Gk.asg ?_)
  | ((with_reducible refine' Gk.gname ?hgo ?_); (case hgo => exact rfl))
  | (with_reducible refine' Gk.gsub ?_)
  | ((with_reducible refine' Gk.setL ?hgo ?hga ?_); (case hgo => first | assumption | exact upd_same); (case hga => first | exact rfl | assumption))
  | (with_reducible refine' Gk.ret ?_)
  | (with_reducible refine' Gk.drop ?_)
  | (with_reducible refine' Gk.par ?_)
  | (with_reducible refine' Gk.andT ?_)
  | (with_reducible refine' Gk.orT ?_)
  | (with_reducible refine' Gk.notT ?_)
  | (with_reducible refine' Gk.abs ?_)
  | (with_reducible refine' Gk.intI ?_)
  | (with_reducible refine' Gk.intB ?_)
  | ((with_reducible refine' Gk.lenL ?hgo ?_); (case hgo => walk_at "sq"))
  | ((with_reducible refine' Gk.lenT ?hgo ?_); (case hgo => walk_at "sq"))
  | ((with_reducible refine' K60.lenD ?hgo ?_); (case hgo => assumption))
  | (with_reducible refine' K60.zipA ?_)
  | (with_reducible refine' K60.listI ?_)
  | (with_reducible refine' K60.tupI ?_)
  | (with_reducible refine' K60.dget2 ?_)
  | (with_reducible refine' K60.dget ?_)
  | (with_reducible refine' K60.dput ?_)
  | ((with_reducible refine' K60.aug ?hgo ?_); (case hgo => exact rfl))
  | (with_reducible refine' K60.ipI ?_)
  | (with_reducible refine' K60.newT ?_)
  | (with_reducible refine' Gk.bm ?_)
  | ((with_reducible refine' Gk.tyL ?hgo ?_); (case hgo => first | assumption | exact upd_same))
  | ((with_reducible refine' Gk.gtup ?hgo ?hga ?_); (case hgo => walk_at "sq"); (case hga => exact rfl))
  | (with_reducible refine' Gk.gcons ?_)
  | (with_reducible refine' Gk.gnil ?_)
  | (with_reducible refine' Gk.sl ?_)
  | (with_reducible refine' Gk.noPart ?_)
  | (with_reducible refine' Gk.part ?_)
  | (with_reducible refine' Gk.partI ?_)
  | (with_reducible refine' Gk.lc ?_)
  | (with_reducible refine' Gk.rng1 ?_)
  | (with_reducible refine' Gk.forS ?_)
  | (with_reducible refine' Gk.isN ?_)
  | (with_reducible refine' Gk.notN ?_)
  | (with_reducible refine' Gk.andV ?_)
  | (with_reducible refine' Gk.orV ?_)
  | (with_reducible refine' Gk.notV ?_)
  | (with_reducible refine' K60.chain ?_)
  | ((with_reducible refine' K60.isiI ?hgo ?_); (case hgo => assumption))
  | ((with_reducible refine' K60.isiBo ?hgo ?_); (case hgo => assumption))
  | ((with_reducible refine' K60.isiT ?hgo ?_); (case hgo => assumption))
  | ((with_reducible refine' Gk.isiB ?hgo ?hga ?_); (case hgo => exact .base (.non)); (case hga => first | exact (show kitB _ _ = some true by decide +kernel) | exact (show kitB _ _ = some false by decide +kernel)))
  | ((with_reducible refine' Gk.isiB ?hgo ?hga ?_); (case hgo => exact .base (.int _)); (case hga => first | exact (show kitB _ _ = some true by decide +kernel) | exact (show kitB _ _ = some false by decide +kernel)))
  | ((with_reducible refine' Gk.isiB ?hgo ?hga ?_); (case hgo => exact .base (.str _)); (case hga => first | exact (show kitB _ _ = some true by decide +kernel) | exact (show kitB _ _ = some false by decide +kernel)))
  | ((with_reducible refine' Gk.isiB ?hgo ?hga ?_); (case hgo => exact .base (.bl _)); (case hga => first | exact (show kitB _ _ = some true by decide +kernel) | exact (show kitB _ _ = some false by decide +kernel)))
  | ((with_reducible refine' Gk.isiB ?hgo ?hga ?_); (case hgo => exact .base (.tup (by assumption))); (case hga => first | exact (show kitB _ _ = some true by decide +kernel) | exact (show kitB _ _ = some false by decide +kernel)))
  | ((with_reducible refine' Gk.isiB ?hgo ?hga ?_); (case hgo => exact .base (.lst (by assumption))); (case hga => first | exact (show kitB _ _ = some true by decide +kernel) | exact (show kitB _ _ = some false by decide +kernel)))
  | ((with_reducible refine' Gk.iteT ?hgo ?_); (case hgo => exact rfl))
  | ((with_reducible refine' Gk.iteF ?hgo ?_); (case hgo => exact rfl))
  | (with_reducible refine' Gk.yes ?_)
  | (dsimp only))

section
variable {P : Program} {w : World} {K : PySem.W.Frag} {mg : Str → Option Value} {base : Heap} {CN CG CH : Addr}
theorem cl_is_shown (T : Glo mg) (h : Has K mg "is_shown" sIsShown) (c_NeedNever : ClX P w K mg base "need_never" ["never"] 5 (spNeed K CN (fun _ => true) isNever)) (c_NeedGoal : ClX P w K mg base "need_goal" ["goal"] 5 (spNeed K CG fitF isForm))
    (c_NeedHints : ClX P w K mg base "need_hints" ["hints"] 6 (spNeed K CH fitHs isHints)) (c_Shows : Cl P w K mg base "shows" ["never", "goal", "hints", "thing"] 3 (spShows K)) : ClS P w K mg base 7 (spShown K CN CG CH) := by
  obtain ⟨f_NeedNever, fd_NeedNever, m_NeedNever, k_NeedNever, b_NeedNever, G_NeedNever⟩ := c_NeedNever
  obtain ⟨f_NeedGoal, fd_NeedGoal, m_NeedGoal, k_NeedGoal, b_NeedGoal, G_NeedGoal⟩ := c_NeedGoal
  obtain ⟨f_NeedHints, fd_NeedHints, m_NeedHints, k_NeedHints, b_NeedHints, G_NeedHints⟩ := c_NeedHints
  obtain ⟨f_Shows, fd_Shows, m_Shows, k_Shows, b_Shows, G_Shows⟩ := c_Shows
  obtain ⟨f, fd, m_, F⟩ := h
  refine ⟨f, fd, m_, F.kp, F.binds (ps := ["never", "goal", "hints", "thing"]) fun _ _ _ _ _ _ us hl => match us, hl with | [_, _, _, _], _ => rfl, ?_, ?_⟩
  · obtain ⟨oc, od, kV, doc, pm, an, cdv, ct, osl, rfl, lk, hcd⟩ := F.ex
    exact fun s t h g n => .of_eq rfl
  refine F.okX scIsShown (fun vs H Q E h => ?_) (fun cdv A outer s H vs Q E hr h => ?_)
  · obtain ⟨vn, vg, vh, x, dn, dg, dh, rfl, _⟩ := h
    rfl
  · obtain ⟨vn, vg, vh, x, dn, dg, dh, rfl, h1, h2, h3, f1, f2, k1, k2, k3, k4⟩ := h
    refine ⟨_, (pss_cons (ps_expr (pe_call G_NeedNever (hr.mono (by omega)) rfl m_NeedNever k_NeedNever b_NeedNever .nil (passes_call (takes_of rfl rfl rfl rfl) fun _ _ _ _ h => h) (pa_cons (pv 0) pa_nil)))
  (pss_cons (ps_expr (pe_call G_NeedGoal (hr.mono (by omega)) rfl m_NeedGoal k_NeedGoal b_NeedGoal .nil (passes_call (takes_of rfl rfl rfl rfl) fun _ _ _ _ h => h) (pa_cons (pv 1) pa_nil)))
  (pss_cons (ps_expr (pe_call G_NeedHints (hr.mono (by omega)) rfl m_NeedHints k_NeedHints b_NeedHints .nil (passes_call (takes_of rfl rfl rfl rfl) fun _ _ _ _ h => h) (pa_cons (pv 2) pa_nil)))
  (pss_one (ps_ret (pe_call G_Shows (hr.mono (by omega)) rfl m_Shows k_Shows b_Shows .nil pass0 (pa_cons (pv 0) (pa_cons (pv 1) (pa_cons (pv 2) (pa_cons (pv 3) pa_nil)))))))))), ?_⟩
    repeat walk_at "go1"
    refine ⟨vn, dn, rfl, h1, rfl, fun g1 => ?_, k1⟩
    repeat walk_at "go1"
    refine ⟨vg, dg, rfl, h2, f1, fun g2 => ?_, k2 g1⟩
    repeat walk_at "go1"
    refine ⟨vh, dh, rfl, h3, f2, fun g3 => ?_, k3 g1 g2⟩
    repeat walk_at "go1"
    obtain ⟨ns, f, hs, d, J, k⟩ := k4 g1 g2 g3
    exact ⟨vn, vg, vh, x, ns, f, hs, d, rfl, J, k⟩
end
end K60
namespace K60
open PySem L2 TriS
open Evl (Ex)
/-- the well: its dict at p, the great cells at q; at most t turns -/
def wellO (q : Addr) (m n : Int) : HO := .dK [(.inr "great", .ref q), (.inr "mix", .int m), (.inr "turn", .int n)]
structure WellAt (H : Hp) (p q : Addr) (t : Nat) : Prop where
  ex : ∃ (gs : List Int) (m n : Int), H p = some (wellO q m n) ∧ H q = some (.lst (gs.map V.int)) ∧ (∀ g ∈ gs, 0 ≤ g) ∧ gs.length ≤ 1000 ∧ 0 ≤ m ∧ m < 2147483647 ∧ 0 ≤ n ∧ n ≤ t
def But (p q : Addr) (H H' : Hp) : Prop := ∀ b o, b ≠ p → b ≠ q → H b = some o → H' b = some o
theorem But.refl (p q : Addr) (H : Hp) : But p q H H := fun _ _ _ _ h => h
theorem But.trans {p q : Addr} {H H1 H2 : Hp} (a : But p q H H1) (b : But p q H1 H2) : But p q H H2 := fun c o h1 h2 h => b c o h1 h2 (a c o h1 h2 h)
theorem But.ex {p q : Addr} {H H' : Hp} (x : Ex H H') : But p q H H' := fun b o _ _ h => x b o h
theorem WellAt.ex_ {H H' : Hp} {p q : Addr} {t : Nat} (x : Ex H H') (h : WellAt H p q t) : WellAt H' p q t := by
  obtain ⟨gs, m, n, h1, h2, h3⟩ := h.ex
  exact ⟨gs, m, n, x _ _ h1, x _ _ h2, h3⟩
theorem WellAt.le {H : Hp} {p q : Addr} {t u : Nat} (h : WellAt H p q t) (l : t ≤ u) : WellAt H p q u := by
  obtain ⟨gs, m, n, h1, h2, h3, h4, h5, h6, h7, h8⟩ := h.ex
  exact ⟨gs, m, n, h1, h2, h3, h4, h5, h6, h7, by omega⟩
theorem WellAt.ne {H : Hp} {p q : Addr} {t : Nat} (h : WellAt H p q t) : p ≠ q := by
  obtain ⟨gs, m, n, h1, h2, _⟩ := h.ex
  intro e
  subst e
  rw [h1] at h2
  have := Option.some.inj h2
  unfold wellO at this
  cases this
def spDraw : Sp := fun vs H Q _ => ∃ (p q : Addr) (many : Int) (t : Nat), vs = [.ref p, .int many] ∧ WellAt H p q t ∧ 1 ≤ many ∧ many < 1073741824 ∧ t ≤ 10000000 ∧
  ∀ (H' : Hp) (got : Int), 0 ≤ got → got < many → WellAt H' p q (t + 1) → But p q H H' → Q (.int got) H'
theorem wget_g {H : Hp} {p q : Addr} {m n : Int} (h : H p = some (wellO q m n)) : DGet H p (.str "great") (some (.ref q)) := DGet.k (k := .inr "great") h
theorem wget_m {H : Hp} {p q : Addr} {m n : Int} (h : H p = some (wellO q m n)) : DGet H p (.str "mix") (some (.int m)) := DGet.k (k := .inr "mix") h
theorem wget_t {H : Hp} {p q : Addr} {m n : Int} (h : H p = some (wellO q m n)) : DGet H p (.str "turn") (some (.int n)) := DGet.k (k := .inr "turn") h
theorem wput_m {H : Hp} {p q : Addr} {m n : Int} (h : H p = some (wellO q m n)) (v : Int) : DPut H p (.str "mix") (.int v) (upd H p (wellO q v n)) := DPut.k (k := .inr "mix") h (by show 3 < sizeLine; decide)
theorem wput_t {H : Hp} {p q : Addr} {m n : Int} (h : H p = some (wellO q m n)) (v : Int) : DPut H p (.str "turn") (.int v) (upd H p (wellO q m v)) := DPut.k (k := .inr "turn") h (by show 3 < sizeLine; decide)
theorem dp_ints {K : PySem.W.Frag} {H : Hp} : ∀ gs : List Int, DpAll K H (gs.map V.int) (gs.map .int)
  | [] => .nil
  | _ :: r => .cons (.int _) (dp_ints r)
theorem lay_ints : ∀ gs : List Int, PyData.canLayAll0 (gs.map .int) = true
  | [] => rfl
  | _ :: r => by
    show (true && PyData.canLayAll0 (r.map .int)) = true
    rw [lay_ints r]
    rfl
theorem dep_ints : ∀ gs : List Int, PyData.depthAll (gs.map .int) = 0
  | [] => rfl
  | _ :: r => by
    show max (PyData.depth (.int _)) (PyData.depthAll (r.map .int)) = 0
    rw [dep_ints r]
    rfl
theorem shaped_ints (gs : List Int) : SeqAt.shaped (.list (gs.map .int)) = true := by
  unfold SeqAt.shaped
  have h1 : PyData.canLay0 (.list (gs.map .int)) = true := lay_ints gs
  have h2 : PyData.depth (.list (gs.map .int)) ≤ 64 := by
    show PyData.depthAll (gs.map .int) + 1 ≤ 64
    rw [dep_ints]
    decide
  rw [h1, decide_eq_true h2]
  rfl
local macro_rules | `(tactic| walk_at "sq") => `(tactic| first | assumption | exact SqL.of (by assumption) | exact SqT.of (by assumption) | exact SqL.of upd_same | exact SqT.of upd_same)
local macro_rules | `(tactic| walk_at "go1") => `(tactic| first
  | (with_reducible refine' Gk.seq ?_)
  | ((with_reducible refine' Gk.var ?hgo ?_); (case hgo => exact rfl))
  | (with_reducible refine' Gk.con ?_)
  | (with_reducible refine' Gk.op ?_)
  | (with_reducible refine' Gk.i0 ?_)
  | (with_reducible refine' Gk.un ?_)
  | ((with_reducible refine' Gk.i1 (C := CMul) ?hgo ?_); (case hgo => first | exact .inl ⟨by decide, by decide⟩ | exact .inr ⟨by decide, by decide⟩ | exact .inl ⟨by omega, by omega⟩ | exact .inr ⟨by omega, by omega⟩))
  | ((with_reducible refine' Gk.i1 (C := CDiv) ?hgo ?_); (case hgo => exact ⟨by omega, by omega⟩))
  | ((with_reducible refine' Gk.i1 (C := CPow) ?hgo ?_); (case hgo => exact ⟨by decide, by decide, by decide⟩))
  | ((with_reducible refine' Gk.i1 (C := fun _ j => 0 < j) ?hgo ?_); (case hgo => show (0 : Int) < _; omega))
  | (with_reducible refine' Gk.u1 ?_)
  | (with_reducible refine' Gk.test ?_)
  | (with_reducible refine' Gk.testB ?_)
  | (with_reducible refine' Gk.asB ?_)
  | (with_reducible refine' K60.eqI ?_)
  | (with_reducible refine' K60.neI ?_)
  | ((with_reducible refine' Gk.eqv ?hgo ?_); (case hgo => exact rfl))
  | ((with_reducible refine' Gk.nev ?hgo ?_); (case hgo => exact rfl))
  | ((with_reducible refine' Gk.ixL ?hgo ?hga ?_); (case hgo => walk_at "sq"); (case hga => first | exact rfl | assumption))
  | ((with_reducible refine' Gk.ixT ?hgo ?hga ?_); (case hgo => walk_at "sq"); (case hga => first | exact rfl | assumption))
  | (with_reducible refine' Gk.aNil ?_)
  | (with_reducible refine' Gk.aCons ?_)
  | (with_reducible refine' Gk.cb ?_)
  | (with_reducible refine' Gk.call ?_)
  | (with_reducible refine' Gk.tup ?_)
  | (with_reducible refine' Gk.lst ?_)
  | (with_reducible refine' Gk.ifE ?_)
  | (with_reducible refine' Gk.ifS ?_)
  | (with_reducible refine' Gk.next ?_)
  | (with_reducible refine' Gk.asg ?_)
  | ((with_reducible refine' Gk.gname ?hgo ?_); (case hgo => exact rfl))
  | (with_reducible refine' Gk.gsub ?_)
  | ((with_reducible refine' Gk.setL ?hgo ?hga ?_); (case hgo => first | assumption | exact upd_same); (case hga => first | exact rfl | assumption))
  | (with_reducible refine' Gk.ret ?_)
  | (with_reducible refine' Gk.drop ?_)
  | (with_reducible refine' Gk.par ?_)
  | (with_reducible refine' Gk.andT ?_)
  | (with_reducible refine' Gk.orT ?_)
  | (with_reducible refine' Gk.notT ?_)
  | (with_reducible refine' Gk.abs ?_)
  | (with_reducible refine' Gk.intI ?_)
  | (with_reducible refine' Gk.intB ?_)
  | ((with_reducible refine' Gk.lenL ?hgo ?_); (case hgo => walk_at "sq"))
  | ((with_reducible refine' Gk.lenT ?hgo ?_); (case hgo => walk_at "sq"))
  | ((with_reducible refine' K60.lenD ?hgo ?_); (case hgo => assumption))
  | (with_reducible refine' K60.zipA ?_)
  | (with_reducible refine' K60.listI ?_)
  | (with_reducible refine' K60.tupI ?_)
  | (with_reducible refine' K60.dget2 ?_)
  | (with_reducible refine' K60.dget ?_)
  | (with_reducible refine' K60.dput ?_)
  | ((with_reducible refine' K60.aug ?hgo ?_); (case hgo => exact rfl))
  | (with_reducible refine' K60.ipI ?_)
  | (with_reducible refine' K60.newT ?_)
  | (with_reducible refine' Gk.bm ?_)
  | ((with_reducible refine' Gk.tyL ?hgo ?_); (case hgo => first | assumption | exact upd_same))
  | ((with_reducible refine' Gk.gtup ?hgo ?hga ?_); (case hgo => walk_at "sq"); (case hga => exact rfl))
  | (with_reducible refine' Gk.gcons ?_)
  | (with_reducible refine' Gk.gnil ?_)
  | (with_reducible refine' Gk.sl ?_)
  | (with_reducible refine' Gk.noPart ?_)
  | (with_reducible refine' Gk.part ?_)
  | (with_reducible refine' Gk.partI ?_)
  | (with_reducible refine' Gk.lc ?_)
  | (with_reducible refine' Gk.rng1 ?_)
  | (with_reducible refine' Gk.forS ?_)
  | (with_reducible refine' Gk.isN ?_)
  | (with_reducible refine' Gk.notN ?_)
  | (with_reducible refine' Gk.andV ?_)
  | (with_reducible refine' Gk.orV ?_)
  | (with_reducible refine' Gk.notV ?_)
  | (with_reducible refine' K60.chain ?_)
  | ((with_reducible refine' K60.isiI ?hgo ?_); (case hgo => assumption))
  | ((with_reducible refine' K60.isiBo ?hgo ?_); (case hgo => assumption))
  | ((with_reducible refine' K60.isiT ?hgo ?_); (case hgo => assumption))
  | ((with_reducible refine' Gk.isiB ?hgo ?hga ?_); (case hgo => exact .base (.non)); (case hga => first | exact (show kitB _ _ = some true by decide +kernel) | exact (show kitB _ _ = some false by decide +kernel)))
  | ((with_reducible refine' Gk.isiB ?hgo ?hga ?_); (case hgo => exact .base (.int _)); (case hga => first | exact (show kitB _ _ = some true by decide +kernel) | exact (show kitB _ _ = some false by decide +kernel)))
  | ((with_reducible refine' Gk.isiB ?hgo ?hga ?_); (case hgo => exact .base (.str _)); (case hga => first | exact (show kitB _ _ = some true by decide +kernel) | exact (show kitB _ _ = some false by decide +kernel)))
  | ((with_reducible refine' Gk.isiB ?hgo ?hga ?_); (case hgo => exact .base (.bl _)); (case hga => first | exact (show kitB _ _ = some true by decide +kernel) | exact (show kitB _ _ = some false by decide +kernel)))
  | ((with_reducible refine' Gk.isiB ?hgo ?hga ?_); (case hgo => exact .base (.tup (by assumption))); (case hga => first | exact (show kitB _ _ = some true by decide +kernel) | exact (show kitB _ _ = some false by decide +kernel)))
  | ((with_reducible refine' Gk.isiB ?hgo ?hga ?_); (case hgo => exact .base (.lst (by assumption))); (case hga => first | exact (show kitB _ _ = some true by decide +kernel) | exact (show kitB _ _ = some false by decide +kernel)))
  | ((with_reducible refine' Gk.iteT ?hgo ?_); (case hgo => exact rfl))
  | ((with_reducible refine' Gk.iteF ?hgo ?_); (case hgo => exact rfl))
  | (with_reducible refine' Gk.yes ?_)
  | (dsimp only))

abbrev sLawDraw : Stmt := top 30
theorem scLawDraw : FnScope ["well", "many", "great", "top"] ["well", "many"] (defScope sLawDraw) := ⟨rfl, rfl, rfl, by decide +kernel, rfl, by decide +kernel, by decide +kernel⟩
abbrev sLawIsInt : Stmt := top 32
theorem scLawIsInt : FnScope ["x"] ["x"] (defScope sLawIsInt) := ⟨rfl, rfl, rfl, by decide +kernel, rfl, by decide +kernel, by decide +kernel⟩
section
variable {P : Program} {w : World} {K : PySem.W.Frag} {mg : Str → Option Value} {base : Heap}
theorem cl_law_draw (T : Glo mg) (h : Has K mg "_law_draw" sLawDraw) : Cl P w K mg base "_law_draw" ["well", "many"] 1 spDraw := by
  obtain ⟨f, fd, m_, F⟩ := h
  refine ⟨f, fd, m_, F.kp, F.binds (ps := ["well", "many"]) fun _ _ _ _ _ _ us hl => match us, hl with | [_, _], _ => rfl, ?_⟩
  refine F.ok scLawDraw (fun vs H Q E h => ?_) (fun cdv A outer s H vs Q E hr h => ?_)
  · obtain ⟨p, q, many, t, rfl, _⟩ := h
    rfl
  · obtain ⟨p, q, many, t, rfl, W, hm1, hm2, ht, k⟩ := h
    have hpq := W.ne
    obtain ⟨gs, m, n, hp, hq, hg, hgl, m0, m1, n0, n1⟩ := W.ex
    refine ⟨_, (pss_cons (ps_set (i := 2) scLawDraw.nd rfl (Or.inl rfl) (pe_dget (hu_of hr) (pv 0) pe_str (fun _ _ => rfl)))
  (pss_cons (ps_if (pt_cmpR (Gk.eNeD K hr.units) (pv 2) (pe_lst pa_nil) (nomark _))
    (pss_cons (ps_set (i := 3) scLawDraw.nd rfl (Or.inl rfl) (Gk.eBm K PySem.F.plainAttrs_list PySem.F.slot_list_pop PySem.F.type_list_pop mt_popAt (pv 2) (pa_cons pe_int pa_nil)))
    (Evl.pss_cut (ps_if (pt_cmpR op_ge (pv 3) (pv 1) (nomark _))
      (pss_one (ps_expr (Gk.eBm K PySem.F.plainAttrs_list PySem.F.slot_list_insert PySem.F.type_list_insert mt_insert (pv 2) (pa_cons pe_int (pa_cons (pe_op op_fdiv (pv 3) (pv 1)) pa_nil)))))
      pss_nil)
    (pss_one (ps_ret (pe_op op_mod (pe_callTy Gk.cInt1 (by rfl) T.int (by decide +kernel) (pa_cons (pv 3) pa_nil)) (pv 1))))))
    pss_nil)
  (pss_cons (ps_dput (hu_of hr) (pv 0) pe_str (pe_op op_add (pe_dget (hu_of hr) (pv 0) pe_str (fun _ _ => rfl)) pe_int) (by rfl))
  (pss_cons (ps_dput (hu_of hr) (pv 0) pe_str (pe_op op_mod (pe_callTy Gk.cInt1 (by rfl) T.int (by decide +kernel) (pa_cons (pe_op op_add (pe_op op_add (pe_op op_mul (pe_dget (hu_of hr) (pv 0) pe_str (fun _ _ => rfl)) pe_int) (pe_op op_mul (pe_op op_mul (pe_dget (hu_of hr) (pv 0) pe_str (fun _ _ => rfl)) (pe_dget (hu_of hr) (pv 0) pe_str (fun _ _ => rfl))) pe_int)) pe_int) pa_nil)) pe_int) (by rfl))
  (pss_one (ps_ret (pe_op op_mod (pe_op op_fdiv (pe_op op_mod (pe_callTy Gk.cInt1 (by rfl) T.int (by decide +kernel) (pa_cons (pe_op op_mul (pe_dget (hu_of hr) (pv 0) pe_str (fun _ _ => rfl)) (pe_dget (hu_of hr) (pv 0) pe_str (fun _ _ => rfl))) pa_nil)) pe_int) pe_int) (pv 1)))))))), ?_⟩
    repeat walk_at "go1"
    refine ⟨p, _, rfl, wget_g hp, ?_⟩
    repeat walk_at "go1"
    refine ⟨by show 0 ≤ sizeLine; decide, fun e he => ?_⟩
    have xe : Ex H (upd H e (.lst [])) := Ex.new he
    refine Gk.neD (d := .list (gs.map .int)) (e := .list []) (.lst (SqL.of (xe _ _ hq)) (dp_ints gs)) (.lst (SqL.of upd_same) .nil) (shaped_ints gs) (by decide) ?_
    have hp2 := xe _ _ hp
    have hq2 := xe _ _ hq
    generalize upd H e (.lst []) = H2 at *
    have hev : PyData.eqv (.list (gs.map .int)) (.list []) = gs.isEmpty := by cases gs <;> rfl
    rw [hev]
    repeat walk_at "go1"
    refine Gk.iteQ (fun h1 => ?_) (fun h1 => ?_)
    · cases gs with
      | nil => cases h1
      | cons g gr =>
      have hg0 : 0 ≤ g := hg g List.mem_cons_self
      have lg : gr.length + 1 ≤ 1000 := hgl
      repeat walk_at "go1"
      have si : seqIndex? 0 ((g :: gr).map V.int).length = some 0 := by
        rw [List.length_map]
        unfold seqIndex?
        simp
      refine ⟨q, _, 0, 0, .int g, rfl, rfl, hq2, by decide, by decide, si, rfl, ?_⟩
      have ee : ((g :: gr).map V.int).eraseIdx 0 = gr.map V.int := rfl
      rw [ee]
      have hq3 : upd H2 q (.lst (gr.map V.int)) q = some (.lst (gr.map V.int)) := upd_same
      have hp3 : upd H2 q (.lst (gr.map V.int)) p = some (wellO q m n) := by rw [upd_ne hpq]; exact hp2
      have bt : But p q H (upd H2 q (.lst (gr.map V.int))) := fun b o h1 h2 h => by
        rw [upd_ne h2]
        exact xe _ _ h
      generalize upd H2 q (.lst (gr.map V.int)) = H3 at *
      repeat walk_at "go1"
      refine ⟨fun σ1 H1 => σ1 = [some (.ref p), some (.int many), some (.ref q), some (.int g)] ∧ But p q H H1 ∧ H1 p = some (wellO q m n) ∧ ∃ gs : List Int, H1 q = some (.lst (gs.map V.int)) ∧ (∀ g ∈ gs, 0 ≤ g) ∧ gs.length ≤ 1000, ?_, ?_⟩
      · repeat walk_at "go1"
        refine Gk.iteQ (fun h2 => ?_) (fun h2 => ?_)
        · repeat walk_at "go1"
          refine ⟨q, _, 0, _, rfl, rfl, hq3, by rw [List.length_map, sizeLine_eq]; omega, by decide, by decide, ?_⟩
          have e2 : (gr.map V.int).take (0 : Int).toNat ++ [V.int (g / many)] ++ (gr.map V.int).drop (0 : Int).toNat = ((g / many) :: gr).map V.int := rfl
          rw [e2]
          refine ⟨rfl, fun b o h1 h2 h => by rw [upd_ne h2]; exact bt b o h1 h2 h, by rw [upd_ne hpq]; exact hp3, (g / many) :: gr, upd_same, fun x hx => ?_, hgl⟩
          rcases List.mem_cons.mp hx with e | e
          · rw [e]
            exact Int.ediv_nonneg hg0 (by omega)
          · exact hg x (List.mem_cons_of_mem _ e)
        · exact ⟨rfl, bt, hp3, gr, hq3, fun x hx => hg x (List.mem_cons_of_mem _ hx), by omega⟩
      · rintro σ1 H1 ⟨rfl, b1, hp4, gs2, hq4, hg2, hl2⟩
        repeat walk_at "go1"
        exact k H1 _ (Int.emod_nonneg _ (by omega)) (Int.emod_lt_of_pos _ (by omega)) ⟨gs2, m, n, hp4, hq4, hg2, hl2, m0, m1, n0, by omega⟩ b1
    · repeat walk_at "go1"
      refine ⟨p, _, rfl, wget_t hp2, ?_⟩
      repeat walk_at "go1"
      refine ⟨p, _, rfl, wput_t hp2 (n + 1), ?_⟩
      have hp3 : upd H2 p (wellO q m (n + 1)) p = some (wellO q m (n + 1)) := upd_same
      have hq3 : upd H2 p (wellO q m (n + 1)) q = some (.lst (gs.map V.int)) := by rw [upd_ne hpq.symm]; exact hq2
      have bt : But p q H (upd H2 p (wellO q m (n + 1))) := fun b o h1 h2 h => by
        rw [upd_ne h1]
        exact xe _ _ h
      generalize upd H2 p (wellO q m (n + 1)) = H3 at *
      repeat walk_at "go1"
      refine ⟨p, _, rfl, wget_m hp3, ?_⟩
      repeat walk_at "go1"
      refine ⟨p, _, rfl, wget_t hp3, ?_⟩
      repeat walk_at "go1"
      refine ⟨p, _, rfl, wget_t hp3, ?_⟩
      repeat walk_at "go1"
      refine ⟨p, _, rfl, wput_m hp3 _, ?_⟩
      obtain ⟨mm, hmm⟩ : ∃ mm : Int, (m * 48271 + (n + 1) * (n + 1) * 69621 + 11) % 2147483647 = mm := ⟨_, rfl⟩
      rw [hmm]
      have mm0 : 0 ≤ mm := by rw [← hmm]; exact Int.emod_nonneg _ (by decide)
      have mm1 : mm < 2147483647 := by rw [← hmm]; exact Int.emod_lt_of_pos _ (by decide)
      have hp4 : upd H3 p (wellO q mm (n + 1)) p = some (wellO q mm (n + 1)) := upd_same
      have hq4 : upd H3 p (wellO q mm (n + 1)) q = some (.lst (gs.map V.int)) := by rw [upd_ne hpq.symm]; exact hq3
      have bt2 : But p q H (upd H3 p (wellO q mm (n + 1))) := fun b o h1 h2 h => by
        rw [upd_ne h1]
        exact bt b o h1 h2 h
      generalize upd H3 p (wellO q mm (n + 1)) = H4 at *
      repeat walk_at "go1"
      refine ⟨p, _, rfl, wget_m hp4, ?_⟩
      repeat walk_at "go1"
      refine ⟨p, _, rfl, wget_m hp4, ?_⟩
      repeat walk_at "go1"
      exact k H4 _ (Int.emod_nonneg _ (by omega)) (Int.emod_lt_of_pos _ (by omega)) ⟨gs, mm, n + 1, hp4, hq4, hg, hgl, mm0, mm1, by omega, by omega⟩ bt2
theorem cl_law_is_int (T : Glo mg) (h : Has K mg "_law_is_int" sLawIsInt) : Cl P w K mg base "_law_is_int" ["x"] 1 (spOf K isIntD) := by
  obtain ⟨f, fd, m_, F⟩ := h
  refine ⟨f, fd, m_, F.kp, F.binds (ps := ["x"]) fun _ _ _ _ _ _ us hl => match us, hl with | [_], _ => rfl, ?_⟩
  refine F.ok scLawIsInt (fun vs H Q E h => ?_) (fun cdv A outer s H vs Q E hr h => ?_)
  · obtain ⟨x, d, rfl, _⟩ := h
    rfl
  · obtain ⟨x, d, rfl, hd, k⟩ := h
    refine ⟨_, (pss_one (ps_ret (pe_and (pe_callB (Gk.eIsi K) (by rfl) T.isinstance (by decide +kernel) (pa_cons (pv 0) (pa_cons (pe_bltn (v := .ty "int") (by rfl) T.int (by decide +kernel) rfl) pa_nil))) (pe_one (pe_not (pe_callB (Gk.eIsi K) (by rfl) T.isinstance (by decide +kernel) (pa_cons (pv 0) (pa_cons (pe_bltn (v := .ty "bool") (by rfl) T.bool (by decide +kernel) rfl) pa_nil)))))))), ?_⟩
    repeat walk_at "go1"
    refine Gk.iteQ (fun hn => ?_) (fun hn => ?_)
    · repeat walk_at "go1"
      have e : (!isBl d) = isIntD d := by cases d <;> first | rfl | cases hn
      rw [e]
      exact k
    · have e : isIntD d = false := by cases d <;> first | rfl | cases hn
      rw [e] at k
      exact k
end
end K60
namespace K60
open PySem L2 TriS
open Evl (Ex)
theorem WellAt.tx {H H' : Hp} {p q : Addr} {t : Nat} (W : WellAt H p q t) (b : But p q H H') : Tx H H' := fun a xs e => by
  obtain ⟨gs, m, n, h1, h2, _⟩ := W.ex
  refine b a _ (fun z => ?_) (fun z => ?_) e
  · subst z
    rw [h1] at e
    have := Option.some.inj e
    unfold wellO at this
    cases this
  · subst z
    rw [h2] at e
    cases e
def big : Int := 6000000000000000000000000000000
def spBy : Sp := fun vs H Q _ => ∃ (p q : Addr) (t : Nat), vs = [.ref p] ∧ WellAt H p q t ∧ t ≤ 9000000 ∧ ∀ (H' : Hp) (x : Int), -big ≤ x → x ≤ big → WellAt H' p q (t + 3) → But p q H H' → Q (.int x) H'
def spOrg : Sp := fun vs H Q _ => ∃ (p q : Addr) (t : Nat), vs = [.ref p] ∧ WellAt H p q t ∧ t ≤ 9000000 ∧ ∀ (H' : Hp) (v : V) (d : D), Tk H' v d → isOrigin d = true → WellAt H' p q (t + 3) → But p q H H' → Q v H'
def spOne : Sp := fun vs H Q _ => ∃ (p q l : Addr) (t : Nat) (xs : List V), vs = [.ref p, .ref l] ∧ WellAt H p q t ∧ t ≤ 9000000 ∧ H l = some (.lst xs) ∧ l ≠ p ∧ l ≠ q ∧ 1 ≤ xs.length ∧ xs.length ≤ 1000 ∧
  ∀ (H' : Hp) (i : Nat) (v : V), xs[i]? = some v → WellAt H' p q (t + 1) → But p q H H' → Q v H'
def spSumOf : Sp := fun vs H Q _ => ∃ (c : Int) (tb : Addr) (m : Tab), vs = [.int c, .ref tb] ∧ H tb = some (.dT (encT m)) ∧ (m.map (·.1)).Nodup ∧ m.length ≤ 100000 ∧
  ∀ (H' : Hp) (v : V) (out : Tab), Ex H H' → Tk H' v (formD (c, out)) → TermsOf (tv m) out → Q v H'
local macro_rules | `(tactic| walk_at "sq") => `(tactic| first | assumption | exact SqL.of (by assumption) | exact SqT.of (by assumption) | exact SqL.of upd_same | exact SqT.of upd_same)
local macro_rules | `(tactic| walk_at "go1") => `(tactic| first
  | (with_reducible refine' Gk.seq ?_)
  | ((with_reducible refine' Gk.var ?hgo ?_); (case hgo => exact rfl))
  | (with_reducible refine' Gk.con ?_)
  | (with_reducible refine' Gk.op ?_)
  | (with_reducible refine' Gk.i0 ?_)
  | (with_reducible refine' Gk.un ?_)
  | ((with_reducible refine' Gk.i1 (C := CMul) ?hgo ?_); (case hgo => first | exact .inl ⟨by decide, by decide⟩ | exact .inr ⟨by decide, by decide⟩ | exact .inl ⟨by omega, by omega⟩ | exact .inr ⟨by omega, by omega⟩))
  | ((with_reducible refine' Gk.i1 (C := CDiv) ?hgo ?_); (case hgo => exact ⟨by omega, by omega⟩))
  | ((with_reducible refine' Gk.i1 (C := CPow) ?hgo ?_); (case hgo => exact ⟨by decide, by decide, by decide⟩))
  | ((with_reducible refine' Gk.i1 (C := fun _ j => 0 < j) ?hgo ?_); (case hgo => show (0 : Int) < _; omega))
  | (with_reducible refine' Gk.u1 ?_)
  | (with_reducible refine' Gk.test ?_)
  | (with_reducible refine' Gk.testB ?_)
  | (with_reducible refine' Gk.asB ?_)
  | (with_reducible refine' K60.eqI ?_)
  | (with_reducible refine' K60.neI ?_)
  | ((with_reducible refine' Gk.eqv ?hgo ?_); (case hgo => exact rfl))
  | ((with_reducible refine' Gk.nev ?hgo ?_); (case hgo => exact rfl))
  | ((with_reducible refine' Gk.ixL ?hgo ?hga ?_); (case hgo => walk_at "sq"); (case hga => first | exact rfl | assumption))
  | ((with_reducible refine' Gk.ixT ?hgo ?hga ?_); (case hgo => walk_at "sq"); (case hga => first | exact rfl | assumption))
  | (with_reducible refine' Gk.aNil ?_)
  | (with_reducible refine' Gk.aCons ?_)
  | (with_reducible refine' Gk.cb ?_)
  | (with_reducible refine' Gk.call ?_)
  | (with_reducible refine' Gk.tup ?_)
  | (with_reducible refine' Gk.lst ?_)
  | (with_reducible refine' Gk.ifE ?_)
  | (with_reducible refine' Gk.ifS ?_)
  | (with_reducible refine' Gk.next ?_)
  | (with_reducible refine' Gk.asg ?_)
  | ((with_reducible refine' Gk.gname ?hgo ?_); (case hgo => exact rfl))
  | (with_reducible refine' Gk.gsub ?_)
  | ((with_reducible refine' Gk.setL ?hgo ?hga ?_); (case hgo => first | assumption | exact upd_same); (case hga => first | exact rfl | assumption))
  | (with_reducible refine' Gk.ret ?_)
  | (with_reducible refine' Gk.drop ?_)
  | (with_reducible refine' Gk.par ?_)
  | (with_reducible refine' Gk.andT ?_)
  | (with_reducible refine' Gk.orT ?_)
  | (with_reducible refine' Gk.notT ?_)
  | (with_reducible refine' Gk.abs ?_)
  | (with_reducible refine' Gk.intI ?_)
  | (with_reducible refine' Gk.intB ?_)
  | ((with_reducible refine' Gk.lenL ?hgo ?_); (case hgo => walk_at "sq"))
  | ((with_reducible refine' Gk.lenT ?hgo ?_); (case hgo => walk_at "sq"))
  | ((with_reducible refine' K60.lenD ?hgo ?_); (case hgo => assumption))
  | (with_reducible refine' K60.zipA ?_)
  | (with_reducible refine' K60.listI ?_)
  | (with_reducible refine' K60.tupI ?_)
  | (with_reducible refine' K60.dget2 ?_)
  | (with_reducible refine' K60.dget ?_)
  | (with_reducible refine' K60.dput ?_)
  | ((with_reducible refine' K60.aug ?hgo ?_); (case hgo => exact rfl))
  | (with_reducible refine' K60.ipI ?_)
  | (with_reducible refine' K60.newT ?_)
  | (with_reducible refine' Gk.bm ?_)
  | ((with_reducible refine' Gk.tyL ?hgo ?_); (case hgo => first | assumption | exact upd_same))
  | ((with_reducible refine' Gk.gtup ?hgo ?hga ?_); (case hgo => walk_at "sq"); (case hga => exact rfl))
  | (with_reducible refine' Gk.gcons ?_)
  | (with_reducible refine' Gk.gnil ?_)
  | (with_reducible refine' Gk.sl ?_)
  | (with_reducible refine' Gk.noPart ?_)
  | (with_reducible refine' Gk.part ?_)
  | (with_reducible refine' Gk.partI ?_)
  | (with_reducible refine' Gk.lc ?_)
  | (with_reducible refine' Gk.rng1 ?_)
  | (with_reducible refine' Gk.forS ?_)
  | (with_reducible refine' Gk.isN ?_)
  | (with_reducible refine' Gk.notN ?_)
  | (with_reducible refine' Gk.andV ?_)
  | (with_reducible refine' Gk.orV ?_)
  | (with_reducible refine' Gk.notV ?_)
  | (with_reducible refine' K60.chain ?_)
  | ((with_reducible refine' K60.isiI ?hgo ?_); (case hgo => assumption))
  | ((with_reducible refine' K60.isiBo ?hgo ?_); (case hgo => assumption))
  | ((with_reducible refine' K60.isiT ?hgo ?_); (case hgo => assumption))
  | ((with_reducible refine' Gk.isiB ?hgo ?hga ?_); (case hgo => exact .base (.non)); (case hga => first | exact (show kitB _ _ = some true by decide +kernel) | exact (show kitB _ _ = some false by decide +kernel)))
  | ((with_reducible refine' Gk.isiB ?hgo ?hga ?_); (case hgo => exact .base (.int _)); (case hga => first | exact (show kitB _ _ = some true by decide +kernel) | exact (show kitB _ _ = some false by decide +kernel)))
  | ((with_reducible refine' Gk.isiB ?hgo ?hga ?_); (case hgo => exact .base (.str _)); (case hga => first | exact (show kitB _ _ = some true by decide +kernel) | exact (show kitB _ _ = some false by decide +kernel)))
  | ((with_reducible refine' Gk.isiB ?hgo ?hga ?_); (case hgo => exact .base (.bl _)); (case hga => first | exact (show kitB _ _ = some true by decide +kernel) | exact (show kitB _ _ = some false by decide +kernel)))
  | ((with_reducible refine' Gk.isiB ?hgo ?hga ?_); (case hgo => exact .base (.tup (by assumption))); (case hga => first | exact (show kitB _ _ = some true by decide +kernel) | exact (show kitB _ _ = some false by decide +kernel)))
  | ((with_reducible refine' Gk.isiB ?hgo ?hga ?_); (case hgo => exact .base (.lst (by assumption))); (case hga => first | exact (show kitB _ _ = some true by decide +kernel) | exact (show kitB _ _ = some false by decide +kernel)))
  | ((with_reducible refine' Gk.iteT ?hgo ?_); (case hgo => exact rfl))
  | ((with_reducible refine' Gk.iteF ?hgo ?_); (case hgo => exact rfl))
  | (with_reducible refine' Gk.yes ?_)
  | (dsimp only))

abbrev sLawOne : Stmt := top 31
theorem scLawOne : FnScope ["well", "some"] ["well", "some"] (defScope sLawOne) := ⟨rfl, rfl, rfl, by decide +kernel, rfl, by decide +kernel, by decide +kernel⟩
abbrev sLawBy : Stmt := top 35
theorem scLawBy : FnScope ["well", "by"] ["well"] (defScope sLawBy) := ⟨rfl, rfl, rfl, by decide +kernel, rfl, by decide +kernel, by decide +kernel⟩
abbrev sLawOrigin : Stmt := top 38
theorem scLawOrigin : FnScope ["well"] ["well"] (defScope sLawOrigin) := ⟨rfl, rfl, rfl, by decide +kernel, rfl, by decide +kernel, by decide +kernel⟩
abbrev sLawSumOf : Stmt := top 39
theorem scLawSumOf : FnScope ["const", "sums", "atom"] ["const", "sums"] (defScope sLawSumOf) := ⟨rfl, rfl, rfl, by decide +kernel, rfl, by decide +kernel, by decide +kernel⟩
section
variable {P : Program} {w : World} {K : PySem.W.Frag} {mg : Str → Option Value} {base : Heap}
theorem cl_law_sum_of (T : Glo mg) (h : Has K mg "_law_sum_of" sLawSumOf) : Cl P w K mg base "_law_sum_of" ["const", "sums"] 1 spSumOf := by
  obtain ⟨f, fd, m_, F⟩ := h
  refine ⟨f, fd, m_, F.kp, F.binds (ps := ["const", "sums"]) fun _ _ _ _ _ _ us hl => match us, hl with | [_, _], _ => rfl, ?_⟩
  refine F.ok scLawSumOf (fun vs H Q E h => ?_) (fun cdv A outer s H vs Q E hr h => ?_)
  · obtain ⟨c, tb, m, rfl, _⟩ := h
    rfl
  · obtain ⟨c, tb, m, rfl, hm, hnd, hl, k⟩ := h
    refine ⟨_, (pss_one (ps_ret (pe_tup (pa_cons (pv 0) (pa_cons (pe_callTy (K60.eTupOf K) (by rfl) T.tuple (by decide +kernel) (pa_cons (pe_lc (own := [("atom", 2)]) (g := gName 2) (tt := _) rfl scLawSumOf.nd (Gk.ePiL K (pe_callB (TriS.cr_sortDT rfl) (by rfl) T.sorted (by decide +kernel) (pa_cons (pv 1) pa_nil))) (blkOk_by (N := ["const", "sums", "atom"]) (sc := defScope sLawSumOf) (by decide +kernel)) (fun _ _ _ _ _ => pg_name (i := 2) scLawSumOf.nd rfl (Or.inl rfl)) (fun _ _ _ _ _ => (pts_one (pt_cmpR op_ne (pe_dget (hu_of hr) (pv 1) (pv 2) (fun _ _ => rfl)) pe_int (nomark _)))) (fun _ _ _ _ _ => (pe_tup (pa_cons (pv 2) (pa_cons (pe_dget (hu_of hr) (pv 1) (pv 2) (fun _ _ => rfl)) pa_nil))))) pa_nil)) pa_nil))))), ?_⟩
    refine Gk.ret (Gk.tup (Gk.aCons (Gk.var rfl (Gk.aCons (Gk.cb (Gk.aCons ?_))))))
    refine' terms_lc (i := 1) (j := 2) (m := m) (tb := tb) ?a1 ?a2 ?a3 ?a4 hm hnd hl fun Dl H2 acc out hacc tk xe2 hto => ?a5
    case a1 => rfl
    case a2 => exact fun _ => rfl
    case a3 => exact fun _ => rfl
    case a4 => exact fun _ => rfl
    repeat walk_at "go1"
    refine ⟨Dl, acc, rfl, .inl ⟨SqL.of hacc, fun l hl => ?_⟩⟩
    repeat walk_at "go1"
    refine ⟨by show 2 ≤ sizeLine; decide, fun q hq => ?_⟩
    have x3 : Ex H2 (upd (upd H2 l (.tup acc)) q (.tup [V.int c, V.ref l])) := (Ex.new hl).trans (Ex.new hq)
    refine k _ _ out (xe2.trans x3) ?_ hto
    have lq : l ≠ q := ne_of_none (upd_same (H := H2)) hq
    refine .tup upd_same (.cons (.int _) (.cons ?_ .nil))
    exact .tup (by rw [upd_ne lq]; exact upd_same) (Tk.monoAll (Tx.of_ex x3) _ _ tk)
theorem cl_law_one (T : Glo mg) (h : Has K mg "_law_one" sLawOne) (c_LawDraw : Cl P w K mg base "_law_draw" ["well", "many"] 1 spDraw) : Cl P w K mg base "_law_one" ["well", "some"] 2 spOne := by
  obtain ⟨f_LawDraw, fd_LawDraw, m_LawDraw, k_LawDraw, b_LawDraw, G_LawDraw⟩ := c_LawDraw
  obtain ⟨f, fd, m_, F⟩ := h
  refine ⟨f, fd, m_, F.kp, F.binds (ps := ["well", "some"]) fun _ _ _ _ _ _ us hl => match us, hl with | [_, _], _ => rfl, ?_⟩
  refine F.ok scLawOne (fun vs H Q E h => ?_) (fun cdv A outer s H vs Q E hr h => ?_)
  · obtain ⟨p, q, l, t, xs, rfl, _⟩ := h
    rfl
  · obtain ⟨p, q, l, t, xs, rfl, W, ht, hl, n1, n2, l1, l2, k⟩ := h
    refine ⟨_, (pss_one (ps_ret (pe_ix (Gk.eIxL K) (pv 1) (pe_call G_LawDraw (hr.mono (by omega)) rfl m_LawDraw k_LawDraw b_LawDraw .nil pass0 (pa_cons (pv 0) (pa_cons (pe_callB (Gk.eLen K) (by rfl) T.len PySem.boot_len (pa_cons (pv 1) pa_nil)) pa_nil))) (fun _ _ => rfl)))), ?_⟩
    repeat walk_at "go1"
    refine ⟨p, q, _, t, rfl, W, by omega, by omega, by omega, fun H' got g0 g1 W' b => ?_⟩
    obtain ⟨i, rfl⟩ : ∃ i : Nat, got = (i : Int) := ⟨got.toNat, by omega⟩
    have hi : i < xs.length := by omega
    have e : xs[i]? = some xs[i] := List.getElem?_eq_getElem hi
    exact Gk.ixL (SqL.of (b l _ n1 n2 hl)) (atI_nat e) (k H' i _ e W' b)
theorem cl_law_by (T : Glo mg) (h : Has K mg "_law_by" sLawBy) (c_LawDraw : Cl P w K mg base "_law_draw" ["well", "many"] 1 spDraw) : Cl P w K mg base "_law_by" ["well"] 2 spBy := by
  obtain ⟨f_LawDraw, fd_LawDraw, m_LawDraw, k_LawDraw, b_LawDraw, G_LawDraw⟩ := c_LawDraw
  obtain ⟨f, fd, m_, F⟩ := h
  refine ⟨f, fd, m_, F.kp, F.binds (ps := ["well"]) fun _ _ _ _ _ _ us hl => match us, hl with | [_], _ => rfl, ?_⟩
  refine F.ok scLawBy (fun vs H Q E h => ?_) (fun cdv A outer s H vs Q E hr h => ?_)
  · obtain ⟨p, q, t, rfl, _⟩ := h
    rfl
  · obtain ⟨p, q, t, rfl, W, ht, k⟩ := h
    refine ⟨_, (pss_cons (ps_set (i := 1) scLawBy.nd rfl (Or.inl rfl) (pe_op op_sub (pe_call G_LawDraw (hr.mono (by omega)) rfl m_LawDraw k_LawDraw b_LawDraw .nil pass0 (pa_cons (pv 0) (pa_cons pe_int pa_nil))) pe_int))
  (Evl.pss_cut (ps_if (pt_cmpR op_eq (pe_call G_LawDraw (hr.mono (by omega)) rfl m_LawDraw k_LawDraw b_LawDraw .nil pass0 (pa_cons (pv 0) (pa_cons pe_int pa_nil))) pe_int (nomark _))
    (pss_one (ps_set (i := 1) scLawBy.nd rfl (Or.inl rfl) (pe_op op_add (pe_op op_mul (pv 1) (pe_op op_pow pe_int pe_int)) (pe_call G_LawDraw (hr.mono (by omega)) rfl m_LawDraw k_LawDraw b_LawDraw .nil pass0 (pa_cons (pv 0) (pa_cons (pe_op op_pow pe_int pe_int) pa_nil))))))
    pss_nil)
  (pss_one (ps_ret (pv 1))))), ?_⟩
    repeat walk_at "go1"
    refine ⟨p, q, 11, t, rfl, W, by decide, by decide, by omega, fun H1 a a0 a1 W1 b1 => ?_⟩
    repeat walk_at "go1"
    refine ⟨fun σ' H' => ∃ x : Int, σ' = [some (.ref p), some (.int x)] ∧ -big ≤ x ∧ x ≤ big ∧ WellAt H' p q (t + 3) ∧ But p q H H', ?_, ?_⟩
    · repeat walk_at "go1"
      refine ⟨p, q, 6, t + 1, rfl, W1, by decide, by decide, by omega, fun H2 c c0 c1 W2 b2 => ?_⟩
      repeat walk_at "go1"
      refine Gk.iteQ (fun h1 => ?_) (fun h1 => ?_)
      · repeat walk_at "go1"
        have e30 : ((10 : Int) ^ (30 : Int).toNat) = 1000000000000000000000000000000 := by decide
        have e9 : ((10 : Int) ^ (9 : Int).toNat) = 1000000000 := by decide
        try rw [e9]
        refine ⟨p, q, 1000000000, t + 2, rfl, W2, by decide, by decide, by omega, fun H3 d d0 d1 W3 b3 => ?_⟩
        repeat walk_at "go1"
        try rw [e30]
        refine ⟨_, rfl, ?_, ?_, W3, (b1.trans b2).trans b3⟩
        · unfold big
          omega
        · unfold big
          omega
      · refine ⟨a - 5, rfl, ?_, ?_, W2.le (by omega), b1.trans b2⟩
        · unfold big
          omega
        · unfold big
          omega
    · rintro σ' H' ⟨x, rfl, x0, x1, W', b⟩
      repeat walk_at "go1"
      exact k H' x x0 x1 W' b
theorem cl_law_origin (T : Glo mg) (h : Has K mg "_law_origin" sLawOrigin) (c_LawDraw : Cl P w K mg base "_law_draw" ["well", "many"] 1 spDraw) : Cl P w K mg base "_law_origin" ["well"] 2 spOrg := by
  obtain ⟨f_LawDraw, fd_LawDraw, m_LawDraw, k_LawDraw, b_LawDraw, G_LawDraw⟩ := c_LawDraw
  obtain ⟨f, fd, m_, F⟩ := h
  refine ⟨f, fd, m_, F.kp, F.binds (ps := ["well"]) fun _ _ _ _ _ _ us hl => match us, hl with | [_], _ => rfl, ?_⟩
  refine F.ok scLawOrigin (fun vs H Q E h => ?_) (fun cdv A outer s H vs Q E hr h => ?_)
  · obtain ⟨p, q, t, rfl, _⟩ := h
    rfl
  · obtain ⟨p, q, t, rfl, W, ht, k⟩ := h
    refine ⟨_, (pss_cons (ps_if (pt_cmpR op_eq (pe_call G_LawDraw (hr.mono (by omega)) rfl m_LawDraw k_LawDraw b_LawDraw .nil pass0 (pa_cons (pv 0) (pa_cons pe_int pa_nil))) pe_int (nomark _))
    (pss_one (ps_ret pe_non))
    pss_nil)
  (pss_one (ps_ret (pe_tup (pa_cons (pe_call G_LawDraw (hr.mono (by omega)) rfl m_LawDraw k_LawDraw b_LawDraw .nil pass0 (pa_cons (pv 0) (pa_cons pe_int pa_nil))) (pa_cons (pe_call G_LawDraw (hr.mono (by omega)) rfl m_LawDraw k_LawDraw b_LawDraw .nil pass0 (pa_cons (pv 0) (pa_cons pe_int pa_nil))) pa_nil)))))), ?_⟩
    repeat walk_at "go1"
    refine ⟨p, q, 2, t, rfl, W, by decide, by decide, by omega, fun H1 a a0 a1 W1 b1 => ?_⟩
    repeat walk_at "go1"
    refine Gk.iteQ (fun h1 => ?_) (fun h1 => ?_)
    · repeat walk_at "go1"
      exact k H1 _ .none .non rfl (W1.le (by omega)) b1
    · repeat walk_at "go1"
      refine ⟨p, q, 240, t + 1, rfl, W1, by decide, by decide, by omega, fun H2 c c0 c1 W2 b2 => ?_⟩
      repeat walk_at "go1"
      refine ⟨p, q, 30, t + 2, rfl, W2, by decide, by decide, by omega, fun H3 d d0 d1 W3 b3 => ?_⟩
      repeat walk_at "go1"
      refine ⟨by show 2 ≤ sizeLine; decide, fun pp hpp => ?_⟩
      refine k _ _ (.tuple [.int c, .int d]) (.tup upd_same (.cons (.int _) (.cons (.int _) .nil))) ?_ (WellAt.ex_ (Ex.new hpp) W3) (((b1.trans b2).trans b3).trans (But.ex (Ex.new hpp)))
      show (within (.int c) 0 239 && within (.int d) 0 29) = true
      have e1 : within (.int c) 0 239 = true := by
        show (decide (0 ≤ c) && decide (c ≤ 239)) = true
        rw [decide_eq_true c0, decide_eq_true (by omega)]
        rfl
      have e2 : within (.int d) 0 29 = true := by
        show (decide (0 ≤ d) && decide (d ≤ 29)) = true
        rw [decide_eq_true d0, decide_eq_true (by omega)]
        rfl
      rw [e1, e2]
      rfl
end
end K60
namespace K60
open PySem L2 TriS
open Evl (Ex)
theorem forZL {K : PySem.W.Frag} {a b : Addr} {xs ys : List V} {g : TG} {tb : TS} {σ : L2.St} {H : Hp} {A : L2.St → Hp → Prop} {R : V → Hp → Prop} (hl : xs.length = ys.length) (Pv : Nat → L2.St → Hp → Prop) (h0 : Pv 0 σ H) (hq : ∀ i σ H, Pv i σ H → SqL K H a xs ∧ SqL K H b ys)
    (hs : ∀ (i : Nat) (x y : V) (T : Addr) (σ : L2.St) (H : Hp), xs[i]? = some x → ys[i]? = some y → Pv i σ H → H T = none → g (.ref T) σ (upd H T (.tup [x, y])) fun σ2 H2 => tb { nx := Pv (i + 1), rt := R, bk := A, ct := Pv (i + 1) } σ2 H2) (hd : ∀ σ H, Pv xs.length σ H → A σ H) :
    ∃ W : Nat → Nat → L2.St → Hp → Prop, (∃ m, W 0 m σ H) ∧ ∀ i m σ H, W i m σ H →
      ((Itz K a b).stop i H ∧ A σ H) ∨ ((Itz K a b).go i H ∧ ∃ N : L2.St → Hp → Prop, (∀ σ' H', N σ' H' → ∃ m', m' < m ∧ W (i + 1) m' σ' H') ∧ ∀ v H', (Itz K a b).yld i H v H' → g v σ H' fun σ2 H2 => tb { nx := N, rt := R, bk := A, ct := N } σ2 H2) :=
  RZ.for_zipL (D := { nx := A, rt := R, bk := A, ct := A }) hl Pv h0 hq hs hd
/-- what _law_rest is given -/
structure RestIn (K : PySem.W.Frag) (H : Hp) (vg : V) (ah am : Addr) (xh : List V) (f : Form) (hs : List Hint) (s : Int) (ms : List Int) : Prop where
  g : Tk H vg (formD f)
  sq : (SqT K H ah xh ∧ SqT K H am (ms.map V.int)) ∨ (SqL K H ah xh ∧ SqL K H am (ms.map V.int))
  hh : TkAll H xh (hs.map hintD)
  ln : ms.length = hs.length
  fg : Fb f
  fh : ∀ y ∈ hs, Fb y.1
  ss : small s
  sm : ∀ m ∈ ms, small m
  nd : (f.2.map (·.1)).Nodup
  nt : f.2.length + (hs.map fun y => y.1.2.length).sum ≤ 90000
def spRest (K : PySem.W.Frag) : Sp := fun vs H Q _ => ∃ (vg : V) (ah am : Addr) (xh : List V) (f : Form) (hs : List Hint) (s : Int) (ms : List Int), vs = [vg, .ref ah, .int s, .ref am] ∧ RestIn K H vg ah am xh f hs s ms ∧
  ∀ (H' : Hp) (l tb : Addr) (m : Tab), H' l = some (.lst [.int (s * f.1 + sumC (List.zipWith (fun h m => (h.1, -m)) hs ms)), .ref tb]) → H' tb = some (.dT (encT m)) → (m.map (·.1)).Nodup → m.length ≤ 90000 →
    (∀ a, tv m a = s * coef f.2 a + sumA (List.zipWith (fun h m => (h.1, -m)) hs ms) a) → Ex H H' → H tb = none → Q (.ref l) H'
theorem coef_none {m : Tab} {a : Tri} (h : a ∉ m.map (·.1)) : coef m a = 0 := by
  induction m with
  | nil => rfl
  | cons p m ih =>
    show (if p.1 = a then p.2 else 0) + coef m a = 0
    rw [if_neg (fun e => h (List.mem_cons.mpr (.inl e.symm))), ih fun w => h (List.mem_cons.mpr (.inr w))]
    rfl
local macro_rules | `(tactic| walk_at "sq") => `(tactic| first | assumption | exact SqL.of (by assumption) | exact SqT.of (by assumption) | exact SqL.of upd_same | exact SqT.of upd_same)
local macro_rules | `(tactic| walk_at "go1") => `(tactic| first
  | (with_reducible refine' Gk.seq ?_)
  | ((with_reducible refine' Gk.var ?hgo ?_); (case hgo => exact rfl))
  | (with_reducible refine' Gk.con ?_)
  | (with_reducible refine' Gk.op ?_)
  | (with_reducible refine' Gk.i0 ?_)
  | (with_reducible refine' Gk.un ?_)
  | ((with_reducible refine' Gk.i1 (C := CMul) ?hgo ?_); (case hgo => first | exact .inl ⟨by decide, by decide⟩ | exact .inr ⟨by decide, by decide⟩ | exact .inl ⟨by omega, by omega⟩ | exact .inr ⟨by omega, by omega⟩))
  | ((with_reducible refine' Gk.i1 (C := CDiv) ?hgo ?_); (case hgo => exact ⟨by omega, by omega⟩))
  | ((with_reducible refine' Gk.i1 (C := CPow) ?hgo ?_); (case hgo => exact ⟨by decide, by decide, by decide⟩))
  | ((with_reducible refine' Gk.i1 (C := fun _ j => 0 < j) ?hgo ?_); (case hgo => show (0 : Int) < _; omega))
  | (with_reducible refine' Gk.u1 ?_)
  | (with_reducible refine' Gk.test ?_)
  | (with_reducible refine' Gk.testB ?_)
  | (with_reducible refine' Gk.asB ?_)
  | (with_reducible refine' K60.eqI ?_)
  | (with_reducible refine' K60.neI ?_)
  | ((with_reducible refine' Gk.eqv ?hgo ?_); (case hgo => exact rfl))
  | ((with_reducible refine' Gk.nev ?hgo ?_); (case hgo => exact rfl))
  | ((with_reducible refine' Gk.ixL ?hgo ?hga ?_); (case hgo => walk_at "sq"); (case hga => first | exact rfl | assumption))
  | ((with_reducible refine' Gk.ixT ?hgo ?hga ?_); (case hgo => walk_at "sq"); (case hga => first | exact rfl | assumption))
  | (with_reducible refine' Gk.aNil ?_)
  | (with_reducible refine' Gk.aCons ?_)
  | (with_reducible refine' Gk.cb ?_)
  | (with_reducible refine' Gk.call ?_)
  | (with_reducible refine' Gk.tup ?_)
  | (with_reducible refine' Gk.lst ?_)
  | (with_reducible refine' Gk.ifE ?_)
  | (with_reducible refine' Gk.ifS ?_)
  | (with_reducible refine' Gk.next ?_)
  | (with_reducible refine' Gk.asg ?_)
  | ((with_reducible refine' Gk.gname ?hgo ?_); (case hgo => exact rfl))
  | (with_reducible refine' Gk.gsub ?_)
  | ((with_reducible refine' Gk.setL ?hgo ?hga ?_); (case hgo => first | assumption | exact upd_same); (case hga => first | exact rfl | assumption))
  | (with_reducible refine' Gk.ret ?_)
  | (with_reducible refine' Gk.drop ?_)
  | (with_reducible refine' Gk.par ?_)
  | (with_reducible refine' Gk.andT ?_)
  | (with_reducible refine' Gk.orT ?_)
  | (with_reducible refine' Gk.notT ?_)
  | (with_reducible refine' Gk.abs ?_)
  | (with_reducible refine' Gk.intI ?_)
  | (with_reducible refine' Gk.intB ?_)
  | ((with_reducible refine' Gk.lenL ?hgo ?_); (case hgo => walk_at "sq"))
  | ((with_reducible refine' Gk.lenT ?hgo ?_); (case hgo => walk_at "sq"))
  | ((with_reducible refine' K60.lenD ?hgo ?_); (case hgo => assumption))
  | (with_reducible refine' K60.zipA ?_)
  | (with_reducible refine' K60.listI ?_)
  | (with_reducible refine' K60.tupI ?_)
  | (with_reducible refine' K60.dget2 ?_)
  | (with_reducible refine' K60.dget ?_)
  | (with_reducible refine' K60.dput ?_)
  | ((with_reducible refine' K60.aug ?hgo ?_); (case hgo => exact rfl))
  | (with_reducible refine' K60.ipI ?_)
  | (with_reducible refine' K60.newT ?_)
  | (with_reducible refine' Gk.bm ?_)
  | ((with_reducible refine' Gk.tyL ?hgo ?_); (case hgo => first | assumption | exact upd_same))
  | ((with_reducible refine' Gk.gtup ?hgo ?hga ?_); (case hgo => walk_at "sq"); (case hga => exact rfl))
  | (with_reducible refine' Gk.gcons ?_)
  | (with_reducible refine' Gk.gnil ?_)
  | (with_reducible refine' Gk.sl ?_)
  | (with_reducible refine' Gk.noPart ?_)
  | (with_reducible refine' Gk.part ?_)
  | (with_reducible refine' Gk.partI ?_)
  | (with_reducible refine' Gk.lc ?_)
  | (with_reducible refine' Gk.rng1 ?_)
  | (with_reducible refine' Gk.forS ?_)
  | (with_reducible refine' Gk.isN ?_)
  | (with_reducible refine' Gk.notN ?_)
  | (with_reducible refine' Gk.andV ?_)
  | (with_reducible refine' Gk.orV ?_)
  | (with_reducible refine' Gk.notV ?_)
  | (with_reducible refine' K60.chain ?_)
  | ((with_reducible refine' K60.isiI ?hgo ?_); (case hgo => assumption))
  | ((with_reducible refine' K60.isiBo ?hgo ?_); (case hgo => assumption))
  | ((with_reducible refine' K60.isiT ?hgo ?_); (case hgo => assumption))
  | ((with_reducible refine' Gk.isiB ?hgo ?hga ?_); (case hgo => exact .base (.non)); (case hga => first | exact (show kitB _ _ = some true by decide +kernel) | exact (show kitB _ _ = some false by decide +kernel)))
  | ((with_reducible refine' Gk.isiB ?hgo ?hga ?_); (case hgo => exact .base (.int _)); (case hga => first | exact (show kitB _ _ = some true by decide +kernel) | exact (show kitB _ _ = some false by decide +kernel)))
  | ((with_reducible refine' Gk.isiB ?hgo ?hga ?_); (case hgo => exact .base (.str _)); (case hga => first | exact (show kitB _ _ = some true by decide +kernel) | exact (show kitB _ _ = some false by decide +kernel)))
  | ((with_reducible refine' Gk.isiB ?hgo ?hga ?_); (case hgo => exact .base (.bl _)); (case hga => first | exact (show kitB _ _ = some true by decide +kernel) | exact (show kitB _ _ = some false by decide +kernel)))
  | ((with_reducible refine' Gk.isiB ?hgo ?hga ?_); (case hgo => exact .base (.tup (by assumption))); (case hga => first | exact (show kitB _ _ = some true by decide +kernel) | exact (show kitB _ _ = some false by decide +kernel)))
  | ((with_reducible refine' Gk.isiB ?hgo ?hga ?_); (case hgo => exact .base (.lst (by assumption))); (case hga => first | exact (show kitB _ _ = some true by decide +kernel) | exact (show kitB _ _ = some false by decide +kernel)))
  | ((with_reducible refine' Gk.iteT ?hgo ?_); (case hgo => exact rfl))
  | ((with_reducible refine' Gk.iteF ?hgo ?_); (case hgo => exact rfl))
  | (with_reducible refine' Gk.yes ?_)
  | (dsimp only))

abbrev sLawRest : Stmt := top 33
theorem scLawRest : FnScope ["goal", "hints", "scale", "multipliers", "const", "sums", "atom", "times", "hint", "by"] ["goal", "hints", "scale", "multipliers"] (defScope sLawRest) := ⟨rfl, rfl, rfl, by decide +kernel, rfl, by decide +kernel, by decide +kernel⟩
section
variable {P : Program} {w : World} {K : PySem.W.Frag} {mg : Str → Option Value} {base : Heap}
theorem cl_law_rest (T : Glo mg) (h : Has K mg "_law_rest" sLawRest) : Cl P w K mg base "_law_rest" ["goal", "hints", "scale", "multipliers"] 1 (spRest K) := by
  obtain ⟨f, fd, m_, F⟩ := h
  refine ⟨f, fd, m_, F.kp, F.binds (ps := ["goal", "hints", "scale", "multipliers"]) fun _ _ _ _ _ _ us hl => match us, hl with | [_, _, _, _], _ => rfl, ?_⟩
  refine F.ok scLawRest (fun vs H Q E h => ?_) (fun cdv A outer s H vs Q E hr h => ?_)
  · obtain ⟨vg, ah, am, xh, f, hs, s, ms, rfl, _⟩ := h
    rfl
  · obtain ⟨vg, ah, am, xh, f, hs, s, ms, rfl, J, k⟩ := h
    refine ⟨_, (pss_cons (ps_set (i := 4) scLawRest.nd rfl (Or.inl rfl) (pe_op op_mulW (pv 2) (pe_ix (Gk.eIxT K) (pv 0) pe_int (fun _ _ => rfl))))
  (pss_cons (ps_set (i := 5) scLawRest.nd rfl (Or.inl rfl) pe_dnewT)
  (pss_cons (ps_for PassesOwn.never rfl (Gk.ePiT K (pe_ix (Gk.eIxT K) (pv 0) pe_int (fun _ _ => rfl))) (Gk.ePgT K rfl (pgs_cons (pg_name (i := 6) scLawRest.nd rfl (Or.inl rfl)) (pgs_cons (pg_name (i := 7) scLawRest.nd rfl (Or.inl rfl)) pgs_nil)))
    (pss_one (ps_dput (hu_of hr) (pv 5) (pv 6) (pe_op op_mulW (pv 2) (pv 7)) (by rfl))))
  (pss_cons (ps_for PassesOwn.never rfl (K60.eZip K (by rfl) T.zip (pa_cons (pv 1) (pa_cons (pv 3) pa_nil))) (Gk.ePgT K rfl (pgs_cons (pg_name (i := 8) scLawRest.nd rfl (Or.inl rfl)) (pgs_cons (pg_name (i := 9) scLawRest.nd rfl (Or.inl rfl)) pgs_nil)))
    (pss_cons (ps_set (i := 4) scLawRest.nd rfl (Or.inl rfl) (pe_op op_sub (pv 4) (pe_op op_mulW (pv 9) (pe_ix (Gk.eIxT K) (pe_ix (Gk.eIxT K) (pv 8) pe_int (fun _ _ => rfl)) pe_int (fun _ _ => rfl)))))
    (pss_one (ps_for PassesOwn.never rfl (Gk.ePiT K (pe_ix (Gk.eIxT K) (pe_ix (Gk.eIxT K) (pv 8) pe_int (fun _ _ => rfl)) pe_int (fun _ _ => rfl))) (Gk.ePgT K rfl (pgs_cons (pg_name (i := 6) scLawRest.nd rfl (Or.inl rfl)) (pgs_cons (pg_name (i := 7) scLawRest.nd rfl (Or.inl rfl)) pgs_nil)))
      (pss_one (ps_dput (hu_of hr) (pv 5) (pv 6) (pe_op op_sub (pe_dget2 (hu_of hr) (pv 5) (pv 6) pe_int ⟨by rfl, by rfl, by rfl, by rfl⟩) (pe_op op_mulW (pv 9) (pv 7))) (by rfl)))))))
  (pss_one (ps_ret (pe_lst (pa_cons (pv 4) (pa_cons (pv 5) pa_nil))))))))), ?_⟩
    obtain ⟨bg, cg, xg, rfl, hbg, hcg, hgall⟩ := Tk.form J.g
    have lg : xg.length = f.2.length := by
      have := TkAll.len hgall
      rw [List.length_map] at this
      exact this
    have lh : xh.length = hs.length := by
      have := TkAll.len J.hh
      rw [List.length_map] at this
      exact this
    have lml : (ms.map V.int).length = ms.length := List.length_map _
    have hln := J.ln
    have ntz := nTerms_zip hs ms
    have hnt0 := J.nt
    obtain ⟨zs, hzs⟩ : ∃ zs, zs = List.zipWith (fun (h : Hint) (m : Int) => (h.1, -m)) hs ms := ⟨_, rfl⟩
    rw [← hzs] at k ntz
    repeat walk_at "go1"
    refine Gk.i1 (small_mul J.ss J.fg.1) ?_
    repeat walk_at "go1"
    intro tb htb
    have xt : Ex H (upd H tb (.dT [])) := Ex.new htb
    have hbg2 := xt _ _ hbg
    have hcg2 := xt _ _ hcg
    have htb2 : upd H tb (.dT []) tb = some (.dT (encT [])) := upd_same
    generalize upd H tb (.dT []) = H0 at *
    repeat walk_at "go1"
    refine ⟨cg, rfl, ⟨xg, SqT.of hcg2⟩, Gk.forT (xs := xg) (fun j σ2 H2 => (∃ (u v : Option V), σ2 = [some (.ref bg), some (.ref ah), some (.int s), some (.ref am), some (.int (s * f.1)), some (.ref tb), u, v, none, none]) ∧ Ex H H2 ∧
      ∃ m : Tab, H2 tb = some (.dT (encT m)) ∧ (m.map (·.1)).Nodup ∧ m.length ≤ j ∧ ∀ a, tv m a = s * coef (f.2.take j) a) ?_ (fun j σ2 H2 _ q => SqT.of (q.2.1 _ _ hcg)) ?_ ?_⟩
    · refine ⟨⟨none, none, rfl⟩, xt, [], htb2, List.nodup_nil, Nat.le_refl _, fun a => ?_⟩
      show 0 = s * 0
      rw [Int.mul_zero]
    · rintro j y σ2 H2 hy ⟨⟨u, v, rfl⟩, xe2, m2, hm2, hnd2, hml2, hsum2⟩
      have hj : j < f.2.length := by rw [← lg]; exact (List.getElem?_eq_some_iff.mp hy).1
      obtain ⟨⟨at_, co⟩, hjt⟩ : ∃ z, f.2[j]? = some z := ⟨f.2[j], List.getElem?_eq_getElem hj⟩
      obtain ⟨w1, q1, g1⟩ := TkAll.get hgall j (termD (at_, co)) (by rw [List.getElem?_map, hjt]; rfl)
      rw [hy] at q1
      cases q1
      obtain ⟨b2, c3, rfl, hb2, hc3⟩ := Tk.term g1
      have hb3 := xe2 _ _ hb2
      have hc4 := xe2 _ _ hc3
      have hco : small co := J.fg.2 _ (List.mem_of_getElem? hjt)
      refine Gk.gtup (SqT.of hb3) rfl ?_
      repeat walk_at "go1"
      refine Gk.i1 (small_mul J.ss hco) ?_
      repeat walk_at "go1"
      refine ⟨tb, _, rfl, tab_put hm2 hc4 (by omega), ⟨_, _, rfl⟩, Ex.mut xe2 htb, tput m2 at_ (s * co), upd_same, tput_nodup _ _ hnd2, ?_, fun a => ?_⟩
      · have := tput_len m2 at_ (s * co)
        omega
      · rw [tv_put, take_one hjt, coef_app]
        by_cases e : a = at_
        · subst e
          have hno : a ∉ (f.2.take j).map (·.1) := fun hm => by
            have nd := J.nd
            have e3 : f.2 = f.2.take j ++ f.2.drop j := (List.take_append_drop j f.2).symm
            have e4 : f.2.drop j = (a, co) :: f.2.drop (j + 1) := by
              have := List.drop_eq_getElem_cons hj
              rw [List.getElem?_eq_getElem hj] at hjt
              rw [this, Option.some.inj hjt]
            rw [e3, e4, List.map_append, List.map_cons] at nd
            exact (List.nodup_append.mp nd).2.2 a hm a List.mem_cons_self rfl
          rw [if_pos rfl, if_pos rfl, coef_none hno, Int.zero_add]
        · rw [if_neg e, if_neg (fun z => e z.symm), Int.add_zero]
          exact hsum2 a
    · rintro σ2 H2 ⟨⟨u0, v0, rfl⟩, xe0, m0, hm0, hnd0, hml0, hs0⟩
      have el : f.2.take xg.length = f.2 := by rw [lg, List.take_length]
      rw [el] at hs0
      repeat walk_at "go1"
      rcases J.sq with ⟨h1, h2⟩ | ⟨h1, h2⟩
      · refine ⟨ah, am, xh, ms.map V.int, rfl, .inr ⟨SqT.ex xe0 h1, SqT.ex xe0 h2, forZT (by omega) (fun i σ' H' => (∃ (u v y z : Option V), σ' = [some (.ref bg), some (.ref ah), some (.int s), some (.ref am), some (.int (s * f.1 + sumC (zs.take i))), some (.ref tb), u, v, y, z]) ∧ Ex H H' ∧
        ∃ m : Tab, H' tb = some (.dT (encT m)) ∧ (m.map (·.1)).Nodup ∧ m.length ≤ f.2.length + nTerms (zs.take i) ∧ ∀ a, tv m a = s * coef f.2 a + sumA (zs.take i) a) ?_ (fun i σ' H' q => ⟨SqT.ex q.2.1 h1, SqT.ex q.2.1 h2⟩) ?_ ?_⟩⟩
        · refine ⟨⟨u0, v0, none, none, ?_⟩, xe0, m0, hm0, hnd0, ?_, fun a => ?_⟩
          · show _ = [_, _, _, _, some (V.int (s * f.1 + 0)), _, _, _, _, _]
            rw [Int.add_zero]
          · show m0.length ≤ f.2.length + 0
            omega
          · rw [hs0 a]
            show _ = _ + 0
            rw [Int.add_zero]
        · rintro i y1 y2 TT σ' H' e1 e2 ⟨⟨u, v, y, z, rfl⟩, xe, m, hm, hnd, hml, hsum⟩ hT
          have hi : i < hs.length := by
            have := (List.getElem?_eq_some_iff.mp e1).1
            omega
          have q1 : hs[i]? = some hs[i] := List.getElem?_eq_getElem hi
          have hi2 : i < ms.length := by omega
          have q2 : ms[i]? = some ms[i] := List.getElem?_eq_getElem hi2
          obtain ⟨w1, f1, gg1⟩ := TkAll.get J.hh i (hintD hs[i]) (by rw [List.getElem?_map, q1]; rfl)
          rw [e1] at f1
          cases f1
          rw [List.getElem?_map, q2] at e2
          have ey : V.int ms[i] = y2 := Option.some.inj e2
          subst ey
          have hz : zs[i]? = some (hs[i].1, -ms[i]) := by
            rw [hzs, List.getElem?_zipWith, q1, q2]
          have sh := J.fh _ (List.getElem_mem hi)
          have sm := J.sm _ (List.getElem_mem hi2)
          generalize hs[i] = hh at *
          generalize ms[i] = mm at *
          have xT : Ex H (upd H' TT (.tup [y1, V.int mm])) := xe.trans (Ex.new hT)
          have hT2 : upd H' TT (.tup [y1, V.int mm]) TT = some (.tup [y1, V.int mm]) := upd_same
          have hm4 := Ex.new (o := .tup [y1, V.int mm]) hT _ _ hm
          generalize upd H' TT (.tup [y1, V.int mm]) = H4 at *
          have et := take_one hz
          have hnt := nTerms_take zs (i + 1)
          rw [et, nTerms_app] at hnt
          have hnt' : nTerms (zs.take i) + hh.1.2.length ≤ nTerms zs := hnt
          cases gg1 with
          | tup hth hta =>
          cases hta with
          | cons t1 hta =>
          cases hta with
          | cons t2 hta =>
          cases hta with
          | cons t3 hta =>
          cases hta
          rename_i ay vf vb vo
          obtain ⟨bf, cf, xs, rfl, hbf, hcf, hall⟩ := Tk.form t1
          have a1 := xT _ _ hth
          have a2 := xT _ _ hbf
          have a3 := xT _ _ hcf
          refine Gk.gtup (SqT.of hT2) rfl ?_
          repeat walk_at "go1"
          refine Gk.i1 (small_mul sm sh.1) ?_
          repeat walk_at "go1"
          have lx : xs.length = hh.1.2.length := by
            have := TkAll.len hall
            rw [List.length_map] at this
            exact this
          rw [et]
          refine ⟨cf, rfl, ⟨xs, SqT.of a3⟩, Gk.forT (xs := xs) (fun j σ2 H2 => (∃ (u v : Option V), σ2 = [some (.ref bg), some (.ref ah), some (.int s), some (.ref am), some (.int (s * f.1 + sumC (zs.take i) - mm * hh.1.1)), some (.ref tb), u, v, some (.ref ay), some (.int mm)]) ∧ Ex H H2 ∧
            ∃ m : Tab, H2 tb = some (.dT (encT m)) ∧ (m.map (·.1)).Nodup ∧ m.length ≤ f.2.length + nTerms (zs.take i) + j ∧ ∀ a, tv m a = s * coef f.2 a + sumA (zs.take i) a - mm * coef (hh.1.2.take j) a) ?_ (fun j σ2 H2 _ q => SqT.of (q.2.1 _ _ hcf)) ?_ ?_⟩
          · refine ⟨⟨u, v, rfl⟩, xT, m, hm4, hnd, hml, fun a => ?_⟩
            rw [hsum]
            show _ = _ - mm * 0
            rw [Int.mul_zero, Int.sub_zero]
          · rintro j y σ2 H2 hy ⟨⟨a2, c2, rfl⟩, xe2, m2, hm2, hnd2, hml2, hsum2⟩
            have hj : j < hh.1.2.length := by rw [← lx]; exact (List.getElem?_eq_some_iff.mp hy).1
            obtain ⟨⟨at_, co⟩, hjt⟩ : ∃ z, hh.1.2[j]? = some z := ⟨hh.1.2[j], List.getElem?_eq_getElem hj⟩
            obtain ⟨w1, q1, g1⟩ := TkAll.get hall j (termD (at_, co)) (by rw [List.getElem?_map, hjt]; rfl)
            rw [hy] at q1
            cases q1
            obtain ⟨b2, c3, rfl, hb2, hc3⟩ := Tk.term g1
            have hb3 := xe2 _ _ hb2
            have hc4 := xe2 _ _ hc3
            have hco : small co := sh.2 _ (List.mem_of_getElem? hjt)
            refine Gk.gtup (SqT.of hb3) rfl ?_
            repeat walk_at "go1"
            refine ⟨tb, rfl, tab_is hm2, ?_⟩
            repeat walk_at "go1"
            refine ⟨_, tab_get hm2 hc4, ?_⟩
            rw [tab_getD]
            repeat walk_at "go1"
            refine Gk.i1 (small_mul sm hco) ?_
            repeat walk_at "go1"
            refine ⟨tb, _, rfl, tab_put hm2 hc4 (by omega), ⟨_, _, rfl⟩, Ex.mut xe2 htb, tput m2 at_ (tv m2 at_ - mm * co), upd_same, tput_nodup _ _ hnd2, ?_, fun a => ?_⟩
            · have := tput_len m2 at_ (tv m2 at_ - mm * co)
              omega
            · rw [tv_put, take_one hjt, coef_app, hsum2, hsum2]
              by_cases e : a = at_
              · subst e
                rw [if_pos rfl, if_pos rfl, Int.mul_add]
                dsimp only
                omega
              · rw [if_neg e, if_neg (fun z => e z.symm), Int.add_zero]
          · rintro σ2 H2 ⟨⟨a2, c2, rfl⟩, xe2, m2, hm2, hnd2, hml2, hsum2⟩
            have el : hh.1.2.take xs.length = hh.1.2 := by rw [lx, List.take_length]
            rw [el] at hsum2
            refine ⟨⟨a2, c2, some (.ref ay), some (.int mm), ?_⟩, xe2, m2, hm2, hnd2, ?_, fun a => ?_⟩
            · rw [sumC_app]
              have e5 : s * f.1 + sumC (zs.take i) - mm * hh.1.1 = s * f.1 + (sumC (zs.take i) + -mm * hh.1.1) := by
                rw [Int.neg_mul]
                omega
              rw [e5]
            · rw [nTerms_app]
              show _ ≤ _ + (_ + hh.1.2.length)
              omega
            · rw [sumA_app, hsum2 a]
              show _ = _ + (_ + -mm * coef hh.1.2 a)
              rw [Int.neg_mul]
              omega
        · rintro σ' H' ⟨⟨u, v, y, z, rfl⟩, xe, m, hm, hnd, hml, hsum⟩
          have el : zs.take xh.length = zs := List.take_of_length_le (by rw [hzs, List.length_zipWith]; omega)
          rw [el] at hml hsum ⊢
          repeat walk_at "go1"
          refine ⟨by show 2 ≤ sizeLine; decide, fun l hl => ?_⟩
          refine k _ l tb m upd_same (Ex.new hl _ _ hm) hnd (by omega) hsum (xe.trans (Ex.new hl)) htb
      · refine ⟨ah, am, xh, ms.map V.int, rfl, .inl ⟨SqL.ex xe0 h1, SqL.ex xe0 h2, forZL (by omega) (fun i σ' H' => (∃ (u v y z : Option V), σ' = [some (.ref bg), some (.ref ah), some (.int s), some (.ref am), some (.int (s * f.1 + sumC (zs.take i))), some (.ref tb), u, v, y, z]) ∧ Ex H H' ∧
        ∃ m : Tab, H' tb = some (.dT (encT m)) ∧ (m.map (·.1)).Nodup ∧ m.length ≤ f.2.length + nTerms (zs.take i) ∧ ∀ a, tv m a = s * coef f.2 a + sumA (zs.take i) a) ?_ (fun i σ' H' q => ⟨SqL.ex q.2.1 h1, SqL.ex q.2.1 h2⟩) ?_ ?_⟩⟩
        · refine ⟨⟨u0, v0, none, none, ?_⟩, xe0, m0, hm0, hnd0, ?_, fun a => ?_⟩
          · show _ = [_, _, _, _, some (V.int (s * f.1 + 0)), _, _, _, _, _]
            rw [Int.add_zero]
          · show m0.length ≤ f.2.length + 0
            omega
          · rw [hs0 a]
            show _ = _ + 0
            rw [Int.add_zero]
        · rintro i y1 y2 TT σ' H' e1 e2 ⟨⟨u, v, y, z, rfl⟩, xe, m, hm, hnd, hml, hsum⟩ hT
          have hi : i < hs.length := by
            have := (List.getElem?_eq_some_iff.mp e1).1
            omega
          have q1 : hs[i]? = some hs[i] := List.getElem?_eq_getElem hi
          have hi2 : i < ms.length := by omega
          have q2 : ms[i]? = some ms[i] := List.getElem?_eq_getElem hi2
          obtain ⟨w1, f1, gg1⟩ := TkAll.get J.hh i (hintD hs[i]) (by rw [List.getElem?_map, q1]; rfl)
          rw [e1] at f1
          cases f1
          rw [List.getElem?_map, q2] at e2
          have ey : V.int ms[i] = y2 := Option.some.inj e2
          subst ey
          have hz : zs[i]? = some (hs[i].1, -ms[i]) := by
            rw [hzs, List.getElem?_zipWith, q1, q2]
          have sh := J.fh _ (List.getElem_mem hi)
          have sm := J.sm _ (List.getElem_mem hi2)
          generalize hs[i] = hh at *
          generalize ms[i] = mm at *
          have xT : Ex H (upd H' TT (.tup [y1, V.int mm])) := xe.trans (Ex.new hT)
          have hT2 : upd H' TT (.tup [y1, V.int mm]) TT = some (.tup [y1, V.int mm]) := upd_same
          have hm4 := Ex.new (o := .tup [y1, V.int mm]) hT _ _ hm
          generalize upd H' TT (.tup [y1, V.int mm]) = H4 at *
          have et := take_one hz
          have hnt := nTerms_take zs (i + 1)
          rw [et, nTerms_app] at hnt
          have hnt' : nTerms (zs.take i) + hh.1.2.length ≤ nTerms zs := hnt
          cases gg1 with
          | tup hth hta =>
          cases hta with
          | cons t1 hta =>
          cases hta with
          | cons t2 hta =>
          cases hta with
          | cons t3 hta =>
          cases hta
          rename_i ay vf vb vo
          obtain ⟨bf, cf, xs, rfl, hbf, hcf, hall⟩ := Tk.form t1
          have a1 := xT _ _ hth
          have a2 := xT _ _ hbf
          have a3 := xT _ _ hcf
          refine Gk.gtup (SqT.of hT2) rfl ?_
          repeat walk_at "go1"
          refine Gk.i1 (small_mul sm sh.1) ?_
          repeat walk_at "go1"
          have lx : xs.length = hh.1.2.length := by
            have := TkAll.len hall
            rw [List.length_map] at this
            exact this
          rw [et]
          refine ⟨cf, rfl, ⟨xs, SqT.of a3⟩, Gk.forT (xs := xs) (fun j σ2 H2 => (∃ (u v : Option V), σ2 = [some (.ref bg), some (.ref ah), some (.int s), some (.ref am), some (.int (s * f.1 + sumC (zs.take i) - mm * hh.1.1)), some (.ref tb), u, v, some (.ref ay), some (.int mm)]) ∧ Ex H H2 ∧
            ∃ m : Tab, H2 tb = some (.dT (encT m)) ∧ (m.map (·.1)).Nodup ∧ m.length ≤ f.2.length + nTerms (zs.take i) + j ∧ ∀ a, tv m a = s * coef f.2 a + sumA (zs.take i) a - mm * coef (hh.1.2.take j) a) ?_ (fun j σ2 H2 _ q => SqT.of (q.2.1 _ _ hcf)) ?_ ?_⟩
          · refine ⟨⟨u, v, rfl⟩, xT, m, hm4, hnd, hml, fun a => ?_⟩
            rw [hsum]
            show _ = _ - mm * 0
            rw [Int.mul_zero, Int.sub_zero]
          · rintro j y σ2 H2 hy ⟨⟨a2, c2, rfl⟩, xe2, m2, hm2, hnd2, hml2, hsum2⟩
            have hj : j < hh.1.2.length := by rw [← lx]; exact (List.getElem?_eq_some_iff.mp hy).1
            obtain ⟨⟨at_, co⟩, hjt⟩ : ∃ z, hh.1.2[j]? = some z := ⟨hh.1.2[j], List.getElem?_eq_getElem hj⟩
            obtain ⟨w1, q1, g1⟩ := TkAll.get hall j (termD (at_, co)) (by rw [List.getElem?_map, hjt]; rfl)
            rw [hy] at q1
            cases q1
            obtain ⟨b2, c3, rfl, hb2, hc3⟩ := Tk.term g1
            have hb3 := xe2 _ _ hb2
            have hc4 := xe2 _ _ hc3
            have hco : small co := sh.2 _ (List.mem_of_getElem? hjt)
            refine Gk.gtup (SqT.of hb3) rfl ?_
            repeat walk_at "go1"
            refine ⟨tb, rfl, tab_is hm2, ?_⟩
            repeat walk_at "go1"
            refine ⟨_, tab_get hm2 hc4, ?_⟩
            rw [tab_getD]
            repeat walk_at "go1"
            refine Gk.i1 (small_mul sm hco) ?_
            repeat walk_at "go1"
            refine ⟨tb, _, rfl, tab_put hm2 hc4 (by omega), ⟨_, _, rfl⟩, Ex.mut xe2 htb, tput m2 at_ (tv m2 at_ - mm * co), upd_same, tput_nodup _ _ hnd2, ?_, fun a => ?_⟩
            · have := tput_len m2 at_ (tv m2 at_ - mm * co)
              omega
            · rw [tv_put, take_one hjt, coef_app, hsum2, hsum2]
              by_cases e : a = at_
              · subst e
                rw [if_pos rfl, if_pos rfl, Int.mul_add]
                dsimp only
                omega
              · rw [if_neg e, if_neg (fun z => e z.symm), Int.add_zero]
          · rintro σ2 H2 ⟨⟨a2, c2, rfl⟩, xe2, m2, hm2, hnd2, hml2, hsum2⟩
            have el : hh.1.2.take xs.length = hh.1.2 := by rw [lx, List.take_length]
            rw [el] at hsum2
            refine ⟨⟨a2, c2, some (.ref ay), some (.int mm), ?_⟩, xe2, m2, hm2, hnd2, ?_, fun a => ?_⟩
            · rw [sumC_app]
              have e5 : s * f.1 + sumC (zs.take i) - mm * hh.1.1 = s * f.1 + (sumC (zs.take i) + -mm * hh.1.1) := by
                rw [Int.neg_mul]
                omega
              rw [e5]
            · rw [nTerms_app]
              show _ ≤ _ + (_ + hh.1.2.length)
              omega
            · rw [sumA_app, hsum2 a]
              show _ = _ + (_ + -mm * coef hh.1.2 a)
              rw [Int.neg_mul]
              omega
        · rintro σ' H' ⟨⟨u, v, y, z, rfl⟩, xe, m, hm, hnd, hml, hsum⟩
          have el : zs.take xh.length = zs := List.take_of_length_le (by rw [hzs, List.length_zipWith]; omega)
          rw [el] at hml hsum ⊢
          repeat walk_at "go1"
          refine ⟨by show 2 ≤ sizeLine; decide, fun l hl => ?_⟩
          refine k _ l tb m upd_same (Ex.new hl _ _ hm) hnd (by omega) hsum (xe.trans (Ex.new hl)) htb
end
end K60
/-! for k, v in d.items(), the keys of d tuples -/
namespace ItT
open PySem PySem.Spec PyProof.Rows L2
section
variable {X : Cx} {pins : List (Addr × Obj)} {σ : L2.St} {H : Hp} {s : Shared} {d : Addr} {o : Obj}
theorem frzTV {kvs : List (List Key × V)} (I : Inv X pins σ H s) (h : H d = some (.frz o (.dT kvs))) :
    (d == sysModules) = false ∧ ∃ (es : Array DictEntry) (ep : Nat), o.data = .dict es ep ∧ es.size = kvs.length ∧ s.heap.DictRaw d es ep ∧
      ∀ (i : Nat) (k : List Key) (v : V), kvs[i]? = some (k, v) → ∃ (en : DictEntry) (q : Addr), es[i]? = some en ∧ en.key = .ref q ∧ H q = some (.tup (k.map kV)) ∧ RelV v en.val := by
  obtain ⟨hd, z, hs, xs, pr, o', es, ep, ho, hx, hdt, he, _⟩ := I.hok d _ h
  rw [hd] at ho
  cases ho
  have l1 : es.size = xs.length := size_of_entries he
  have l2 : kvs.length = xs.length := Paired.length pr
  refine ⟨hs, es, ep, hdt, by omega, ⟨o, hd, hx, hdt⟩, fun i k v e => ?_⟩
  obtain ⟨b, hb, e1, e2, e3⟩ := paired_get pr e
  have q := entry_at he i
  rw [hb] at q
  exact ⟨_, b.2.1, q, rfl, e2, e3⟩
end
/-- pairs of the key's own tuple and the value -/
def Itti (d : Addr) (o : Obj) (kvs : List (List Key × V)) : It :=
  ⟨fun i H => H d = some (.frz o (.dT kvs)) ∧ i < kvs.length, fun i H x H' => ∃ T k v q, kvs[i]? = some (k, v) ∧ H q = some (.tup (k.map kV)) ∧ x = .ref T ∧ H T = none ∧ H' = upd H T (.tup [.ref q, v]), fun i H => H d = some (.frz o (.dT kvs)) ∧ kvs.length ≤ i⟩
theorem turn_itemsT {P : Program} {w : World} {K : PySem.W.Frag} {d : Addr} {o : Obj} {es : Array DictEntry} {ep : Nat} {kvs : List (List Key × V)} {elts : List Expr} {kk : Nat} {tpos : Pos} (it : Addr) (hod : o.data = .dict es ep) :
    Turn P w K (.Tuple elts kk tpos) (Itti d o kvs) [it] it (fun i h => ∃ ok ov, IsItemIter h it d i kvs.length ep ok ov) where
  mem := by simp
  obj := fun i h st b hb => by
    obtain ⟨ok, ov, e⟩ := st
    have eb : b = it := by simpa using hb
    subst eb
    exact ⟨_, e, fun v z => nomatch z⟩
  keep := fun i h h' st k => let ⟨ok, ov, e⟩ := st; ⟨ok, ov, k it (by simp) _ e⟩
  item := by
    intro X hP hw hK hc i pins s σ H E I hf st hg
    subst hP hw hK
    obtain ⟨hd, hi⟩ := hg
    obtain ⟨hs, es', ep', hdt, hsz, hraw, hall⟩ := frzTV I hd
    obtain ⟨rfl, rfl⟩ := dict_ep hod hdt
    obtain ⟨⟨k, v⟩, hkv⟩ : ∃ p, kvs[i]? = some p := ⟨kvs[i], List.getElem?_eq_getElem hi⟩
    obtain ⟨en, q, hen, hk, hq, hv⟩ := hall i k v hkv
    obtain ⟨ok, ov, he⟩ := st
    rw [← hsz] at he
    have hlt : it < s.heap.objs.size := Heap.lt_size he
    have hie : i < es'.size := by omega
    have e0 : es'[i] = en := by
      rw [Array.getElem?_eq_getElem hie] at hen
      exact Option.some.inj hen
    refine wpAny_pyNext_items_item_raw he hraw hie fun h' ho hT hz hkp => ?_
    rw [e0] at ho hT
    refine ⟨_, rfl, wpAny_letOwnedTupleGo_items (s := { s with heap := h' }) ho fun h'' he' sb => ?_⟩
    have hT2 : h''.get? s.heap.objs.size = some { cls := .type "tuple", data := .seq #[en.key, en.val] } := (sb.2 _ (Nat.ne_of_gt hlt)).trans hT
    have new : ObjOk X.prog X.w (upd H s.heap.objs.size (.tup [.ref q, v])) h'' s.heap.objs.size (.tup [.ref q, v]) :=
      ⟨by show 2 ≤ sizeLine; decide, [en.key, en.val], .cons hk (.cons hv .nil), ⟨_, hT2, rfl, _, rfl⟩⟩
    have I1 : Inv X pins σ (upd H s.heap.objs.size (.tup [.ref q, v])) { s with heap := h'' } :=
      I.turnedNew (t' := s.toks) (ch := [it]) (fun b ob hb e => (sb.2 b (by simpa using hb)).trans (hkp b ob (by simpa using hb) e)) hf (Nat.le_refl _) new
    refine ⟨.ref s.heap.objs.size, _, I1, rfl, ⟨_, k, v, q, hkv, hq, rfl, I.hok.fresh (Nat.le_refl _), rfl⟩, ⟨en.key, en.val, ?_⟩, fun b hb => ?_⟩
    · rw [← hsz]
      exact he'
    · have eb : b = it := by simpa using hb
      rw [eb, upd_ne (Nat.ne_of_lt hlt)]
      exact (hf it (by simp)).1
  done := by
    intro X hP hw hK hc i pins s σ H E I hf st hg
    subst hP hw hK
    obtain ⟨hd, hi⟩ := hg
    obtain ⟨f0, f1, f2, f3, f4, f5⟩ := hf it (by simp)
    obtain ⟨hs, es', ep', hdt, hsz, hraw, hall⟩ := frzTV I hd
    obtain ⟨rfl, rfl⟩ := dict_ep hod hdt
    obtain ⟨ok, ov, he⟩ := st
    rw [← hsz] at he
    exact wpAny_pyNext_items_end_raw (I.ok.hd hc) he hraw (by omega) fun h' eb => ⟨rfl, I.turned (t' := s.toks) (fun b ob hb e => eb b ob hb e) f0 f1 f3 f4 f5⟩
  self := fun A i s Q E st h => let ⟨_, _, e⟩ := st; PySem.W.kcp_self e h
def iItemsT (td : TE) : TI := fun σ H R => td σ H fun x H1 => ∃ d o kvs, x = .ref d ∧ H1 d = some (.frz o (.dT kvs)) ∧ R (Itti d o kvs) H1
theorem pi_itemsT {X : Cx} {e : Expr} {td : TE} {apos cpos : Pos} {elts : List Expr} {kk : Nat} {tpos : Pos} (he : PE X e td) (hbase : attributeBase e "items" X.env (eval e X.env) = eval e X.env := by rfl) (hline : (apos.endLine == cpos.line) = true := by rfl) :
    PI X (.Tuple elts kk tpos) (.Call (.Attribute e "items" apos) [] [] cpos) (iItemsT td) := by
  refine ⟨fun pins s σ H R I h => ?_⟩
  refine wpAny_Call_method (T := "dict") (id := "dict.items") hbase rfl hline F.plainAttrs_dict F.slot_dict_items F.type_dict_items (thn (he.run pins s σ H _ I h) fun u s1 ⟨x, H1, I1, rx, d, o, kvs, ex, hd, q⟩ => ?_)
  subst ex
  obtain rfl : u = Value.ref d := rx
  obtain ⟨hs, es, ep, hdt, hsz, hraw, hall⟩ := frzTV I1 hd
  obtain ⟨o', ho', hx', hd'⟩ := id hraw
  refine ⟨⟨o', ho', hx'.1⟩, fun b eb => ?_, ?_⟩
  · cases eb
    exact ⟨o', ho', hx'.2.1⟩
  have I2 : Inv X pins σ H1 { s1 with heap := s1.heap.push { cls := .type "dict_items", data := .fields #[.ref d] } } := I1.kept (t' := s1.toks) fun b ob q => Heap.get?_push_of_some _ q
  have fin : wpAny (model X.prog X.w) X.A (pyIter (.ref s1.heap.objs.size)) (PIE X pins σ (.Tuple elts kk tpos) R) X.xe { s1 with heap := s1.heap.push { cls := .type "dict_items", data := .fields #[.ref d] } } := by
    refine wpAny_pyIter_items_raw (d := d) (es := es) (ep := ep) ⟨_, Heap.get?_push_size _ rfl, rfl, rfl⟩ ⟨o', Heap.get?_push_of_some _ ho', hx', hd'⟩ (pi_one (tk := s1.toks) I2 _ (turn_itemsT _ hdt) ⟨.none, .none, ?_⟩ q)
    rw [← hsz]
    exact Heap.get?_push_size _ rfl
  show wpAny _ _ (callWith cpos (.builtin "dict.items") [.ref d] [] []) _ X.xe s1
  exact method_meetsIn F.slot_dict_items F.entry_dict_items rfl (PySem.evalArgs_none ⟨rfl, ⟨o', ho', hx'.1⟩, F.args_dict_items_1 _, _, meets_dict_items_raw d hs, ⟨es, ep, hraw⟩, fin⟩)
end ItT
/-! a comprehension over zip of two tuples of one length -/
namespace ItT
open PySem PySem.Spec PyProof.Rows L2
theorem lc_zipT {K : PySem.W.Frag} {a b : Addr} {xs ys : List V} {g : TG} {tt : TT} {te : TE} {vs : List Nat} {σ : L2.St} {H1 : Hp} {Dl : Addr} {Qd : Hp → Prop} (hl : xs.length = ys.length) (Pv : Nat → Hp → Prop) (h0 : Pv 0 (upd H1 Dl (.lst [])))
    (hq : ∀ i H, Pv i H → SqT K H a xs ∧ SqT K H b ys)
    (hs : ∀ (i : Nat) (x y : V) (T : Addr) (H : Hp), xs[i]? = some x → ys[i]? = some y → Pv i H → H T = none → g (.ref T) (wipe σ vs) (upd H T (.tup [x, y])) fun σ2 H2 => wipe σ2 vs = wipe σ vs ∧ tt σ2 H2 fun b H3 =>
      if b = true then te σ2 H3 fun z H4 => ∃ acc, H4 Dl = some (.lst acc) ∧ acc.length < sizeLine ∧ Pv (i + 1) (upd H4 Dl (.lst (acc ++ [z]))) else Pv (i + 1) H3) (hd : ∀ H, Pv xs.length H → Qd H) :
    ∃ W : Nat → Nat → Hp → Prop, (∃ m, W 0 m (upd H1 Dl (.lst []))) ∧ ∀ i m H, W i m H →
      ((RZ.ItzT K a b).stop i H ∧ Qd H) ∨ ((RZ.ItzT K a b).go i H ∧ ∃ Nx : Hp → Prop, (∀ H', Nx H' → ∃ m', m' < m ∧ W (i + 1) m' H') ∧ ∀ x H', (RZ.ItzT K a b).yld i H x H' → g x (wipe σ vs) H' fun σ2 H2 => wipe σ2 vs = wipe σ vs ∧ tt σ2 H2 fun b H3 =>
        if b = true then te σ2 H3 fun z H4 => ∃ acc, H4 Dl = some (.lst acc) ∧ acc.length < sizeLine ∧ Nx (upd H4 Dl (.lst (acc ++ [z]))) else Nx H3) := by
  refine ⟨fun i m H => m = xs.length - i ∧ i ≤ xs.length ∧ Pv i H, ⟨xs.length, by simp, Nat.zero_le _, h0⟩, ?_⟩
  rintro i m H ⟨rfl, hi, p⟩
  obtain ⟨qx, qy⟩ := hq i H p
  rcases Nat.lt_or_ge i xs.length with hlt | hge
  · have hx : xs[i]? = some xs[i] := List.getElem?_eq_getElem hlt
    have hlt2 : i < ys.length := by omega
    have hy : ys[i]? = some ys[i] := List.getElem?_eq_getElem hlt2
    refine .inr ⟨⟨xs, ys, _, _, qx, qy, hx, hy⟩, Pv (i + 1), fun H' p' => ⟨xs.length - (i + 1), by omega, rfl, hlt, p'⟩, ?_⟩
    rintro v H' ⟨T, x', y', rfl, hT, rfl, f1, f2⟩
    exact hs i x' y' T H (f1 xs qx) (f2 ys qy) p hT
  · have e : i = xs.length := by omega
    subst e
    exact .inl ⟨⟨xs, ys, qx, qy, Or.inl (Nat.le_refl _)⟩, hd H p⟩
end ItT
/-! plain: what _law_made makes -/
namespace K60
open PySem L2 TriS
theorem coef_mem : ∀ {m : Tab}, (m.map (·.1)).Nodup → ∀ {a : Tri} {c : Int}, (a, c) ∈ m → coef m a = c
  | [], _, _, _, h => by cases h
  | p :: m, hn, a, c, h => by
    obtain ⟨h1, h2⟩ := List.nodup_cons.mp (show (p.1 :: m.map (·.1)).Nodup from hn)
    show (if p.1 = a then p.2 else 0) + coef m a = c
    rcases List.mem_cons.mp h with e | e
    · subst e
      rw [if_pos rfl, coef_none h1, Int.add_zero]
    · have : p.1 ≠ a := fun z => h1 (List.mem_map.mpr ⟨_, e, z.symm⟩)
      rw [if_neg this, coef_mem h2 e, Int.zero_add]
theorem ltT_irr (x : Tri) : ltT x x = false := by
  rw [ltT_no]
  omega
theorem up_nodup {l : List Tri} (h : l.Pairwise fun x y => ltT x y = true) : l.Nodup := h.imp fun {a b} e z => by
  subst z
  rw [ltT_irr] at e
  cases e
theorem TermsOf.upK {S : Tri → Int} {out : Tab} (h : TermsOf S out) : (out.map (·.1)).Pairwise fun x y => ltT x y = true := List.pairwise_map.mpr h.up
theorem TermsOf.nd {S : Tri → Int} {out : Tab} (h : TermsOf S out) : (out.map (·.1)).Nodup := up_nodup h.upK
theorem coef_terms {S : Tri → Int} {out : Tab} (h : TermsOf S out) (a : Tri) : coef out a = S a := by
  by_cases z : S a = 0
  · rw [z]
    refine coef_none fun hm => ?_
    obtain ⟨⟨a', c⟩, hp, e⟩ := List.mem_map.mp hm
    cases e
    have := (h.mem _ _).mp hp
    exact this.2 (this.1.symm.trans z)
  · exact coef_mem h.nd ((h.mem a (S a)).mpr ⟨rfl, z⟩)
def negz (hs : List Hint) (ms : List Int) : List (Form × Int) := List.zipWith (fun h m => (h.1, -m)) hs ms
theorem negz_snoc (hs : List Hint) (ms : List Int) (y : Hint) (m : Int) (h : ms.length = hs.length) : negz (hs ++ [y]) (ms ++ [m]) = negz hs ms ++ [(y.1, -m)] := by
  unfold negz
  rw [List.zipWith_append h.symm]
  rfl
/-- the made showing with scale 0 -/
theorem good_zero {ns : List Int} {f g : Form} {hs : List Hint} {ms : List Int} {e : Bool} {o : D} {b : Int} {low S : Tri → Int} (hl : ms.length = hs.length) (h1 : g.1 = sumC (negz hs ms) - 1 - b) (hb : 0 ≤ b)
    (ht : TermsOf S g.2) (hS : ∀ a, S a = sumA (negz hs ms) a - low a) (h0 : ∀ a, 0 ≤ low a) (hf : ∀ a, low a ≠ 0 → floorB ns a = true) : Good ns 0 (partsOf f 0 (hs ++ [(g, e, o)]) (ms ++ [1])) := by
  have eP : partsOf f 0 (hs ++ [(g, e, o)]) (ms ++ [1]) = (f, 0) :: (negz hs ms ++ [(g, -1)]) := by
    show (f, 0) :: negz _ _ = _
    rw [negz_snoc _ _ _ _ hl]
  have eC : sumC (partsOf f 0 (hs ++ [(g, e, o)]) (ms ++ [1])) = 1 + b := by
    rw [eP]
    show 0 * f.1 + sumC (negz hs ms ++ [(g, -1)]) = _
    rw [sumC_app]
    show 0 * f.1 + (sumC (negz hs ms) + -1 * g.1) = _
    rw [h1]
    omega
  have eA : ∀ a, sumA (partsOf f 0 (hs ++ [(g, e, o)]) (ms ++ [1])) a = low a := fun a => by
    rw [eP]
    show 0 * coef f.2 a + sumA (negz hs ms ++ [(g, -1)]) a = _
    rw [sumA_app]
    show 0 * coef f.2 a + (sumA (negz hs ms) a + -1 * coef g.2 a) = _
    rw [coef_terms ht, hS]
    omega
  refine ⟨by rw [eC]; omega, fun _ => by rw [eC]; omega, fun a h => ?_⟩
  rw [eA] at h ⊢
  have := h0 a
  exact ⟨by omega, hf a h⟩
/-- the made showing with a scale above 0 -/
theorem good_some {ns : List Int} {g : Form} {hs : List Hint} {ms : List Int} {s u : Int} {low S : Tri → Int} (hs0 : 0 < s) (h1 : g.1 = -(sumC (negz hs ms) - u) / s) (hu : 0 ≤ u) (hd : s ∣ sumC (negz hs ms) - u)
    (ht : TermsOf S g.2) (hS : ∀ a, S a = -(sumA (negz hs ms) a - low a) / s) (hda : ∀ a, s ∣ sumA (negz hs ms) a - low a) (h0 : ∀ a, 0 ≤ low a) (hf : ∀ a, low a ≠ 0 → floorB ns a = true) : Good ns s (partsOf g s hs ms) := by
  have cut : ∀ x : Int, s ∣ x → s * (-x / s) = -x := fun x h => Int.mul_ediv_cancel' (Int.dvd_neg.mpr h)
  have eC : sumC (partsOf g s hs ms) = u := by
    show s * g.1 + sumC (negz hs ms) = u
    rw [h1, cut _ hd]
    omega
  have eA : ∀ a, sumA (partsOf g s hs ms) a = low a := fun a => by
    show s * coef g.2 a + sumA (negz hs ms) a = low a
    rw [coef_terms ht, hS, cut _ (hda a)]
    omega
  refine ⟨by rw [eC]; exact hu, fun e => by omega, fun a h => ?_⟩
  rw [eA] at h ⊢
  have := h0 a
  exact ⟨by omega, hf a h⟩
/-! bounds -/
theorem sumC_le {M N : Nat} : ∀ ps : List (Form × Int), (∀ p ∈ ps, p.2.natAbs ≤ M ∧ p.1.1.natAbs ≤ N) → (sumC ps).natAbs ≤ ps.length * (M * N)
  | [], _ => Nat.zero_le _
  | p :: ps, h => by
    have h1 := sumC_le ps fun q hq => h q (List.mem_cons_of_mem _ hq)
    obtain ⟨h2, h3⟩ := h p List.mem_cons_self
    have h4 : (p.2 * p.1.1).natAbs ≤ M * N := by rw [Int.natAbs_mul]; exact Nat.mul_le_mul h2 h3
    show (p.2 * p.1.1 + sumC ps).natAbs ≤ (ps.length + 1) * (M * N)
    rw [Nat.succ_mul]
    have := Int.natAbs_add_le (p.2 * p.1.1) (sumC ps)
    omega
theorem sumA_le {M N : Nat} {a : Tri} : ∀ ps : List (Form × Int), (∀ p ∈ ps, p.2.natAbs ≤ M ∧ (coef p.1.2 a).natAbs ≤ N) → (sumA ps a).natAbs ≤ ps.length * (M * N)
  | [], _ => Nat.zero_le _
  | p :: ps, h => by
    have h1 := sumA_le ps fun q hq => h q (List.mem_cons_of_mem _ hq)
    obtain ⟨h2, h3⟩ := h p List.mem_cons_self
    have h4 : (p.2 * coef p.1.2 a).natAbs ≤ M * N := by rw [Int.natAbs_mul]; exact Nat.mul_le_mul h2 h3
    show (p.2 * coef p.1.2 a + sumA ps a).natAbs ≤ (ps.length + 1) * (M * N)
    rw [Nat.succ_mul]
    have := Int.natAbs_add_le (p.2 * coef p.1.2 a) (sumA ps a)
    omega
theorem coef_le {m : Tab} {N : Nat} (hn : (m.map (·.1)).Nodup) (h : ∀ t ∈ m, t.2.natAbs ≤ N) (a : Tri) : (coef m a).natAbs ≤ N := by
  by_cases z : a ∈ m.map (·.1)
  · obtain ⟨⟨a', c⟩, hp, e⟩ := List.mem_map.mp z
    cases e
    rw [coef_mem hn hp]
    exact h _ hp
  · rw [coef_none z]
    exact Nat.zero_le _
theorem sumA_dvd {s : Int} {a : Tri} : ∀ ps : List (Form × Int), (∀ p ∈ ps, s ∣ p.2) → s ∣ sumA ps a
  | [], _ => Int.dvd_zero s
  | p :: ps, h => Int.dvd_add (Int.dvd_trans (h p List.mem_cons_self) (Int.dvd_mul_right _ _)) (sumA_dvd ps fun q hq => h q (List.mem_cons_of_mem _ hq))
theorem sumA_no {a : Tri} : ∀ ps : List (Form × Int), (∀ p ∈ ps, a ∉ p.1.2.map (·.1)) → sumA ps a = 0
  | [], _ => rfl
  | p :: ps, h => by
    show p.2 * coef p.1.2 a + sumA ps a = 0
    rw [coef_none (h p List.mem_cons_self), sumA_no ps fun q hq => h q (List.mem_cons_of_mem _ hq)]
    omega
theorem negz_mem {hs : List Hint} {ms : List Int} {p : Form × Int} (h : p ∈ negz hs ms) : ∃ y m, y ∈ hs ∧ m ∈ ms ∧ p = (y.1, -m) := by
  unfold negz at h
  induction hs generalizing ms with
  | nil => cases ms <;> cases h
  | cons y hs ih =>
    cases ms with
    | nil => cases h
    | cons m ms =>
      rcases List.mem_cons.mp (show p ∈ (y.1, -m) :: List.zipWith (fun (h : Hint) (m : Int) => (h.1, -m)) hs ms from h) with e | e
      · exact ⟨y, m, List.mem_cons_self, List.mem_cons_self, e⟩
      · obtain ⟨y', m', a, b, c⟩ := ih e
        exact ⟨y', m', List.mem_cons_of_mem _ a, List.mem_cons_of_mem _ b, c⟩
theorem negz_len {hs : List Hint} {ms : List Int} (h : ms.length = hs.length) : (negz hs ms).length = hs.length := by
  unfold negz
  rw [List.length_zipWith, h, Nat.min_self]
/-! forms -/
theorem lexGe3 (x y : Tri) : lexGe [x.1, x.2.1, x.2.2] [y.1, y.2.1, y.2.2] = !ltT x y := by
  obtain ⟨a, b, c⟩ := x
  obtain ⟨a', b', c'⟩ := y
  show (if decide (a = a') = true then (if decide (b = b') = true then (if decide (c = c') = true then decide ((3 : Nat) ≥ 3) else decide (c' ≤ c)) else decide (b' ≤ b)) else decide (a' ≤ a)) = !(if a = a' then (if b = b' then decide (c < c') else decide (b < b')) else decide (a < a'))
  have z : ∀ p q : Int, p ≠ q → decide (q ≤ p) = !decide (p < q) := fun p q n => by
    by_cases h : p < q
    · rw [decide_eq_true h, decide_eq_false (by omega)]
      rfl
    · rw [decide_eq_false h, decide_eq_true (by omega)]
      rfl
  by_cases e1 : a = a'
  · rw [if_pos (decide_eq_true e1), if_pos e1]
    by_cases e2 : b = b'
    · rw [if_pos (decide_eq_true e2), if_pos e2]
      by_cases e3 : c = c'
      · rw [if_pos (decide_eq_true e3), decide_eq_false (p := c < c') (by omega)]
        rfl
      · rw [if_neg (by simpa using e3), z _ _ e3]
    · rw [if_neg (by simpa using e2), if_neg e2, z _ _ e2]
  · rw [if_neg (by simpa using e1), if_neg e1, z _ _ e1]
theorem terms_ok : ∀ (p : Option Tri) (ts : Tab), (∀ t ∈ ts, isAtom (triD t.1) = true ∧ t.2 ≠ 0) → (ts.map (·.1)).Pairwise (fun x y => ltT x y = true) → (∀ q t, p = some q → t ∈ ts → ltT q t.1 = true) →
    termsOk (p.map fun q => [q.1, q.2.1, q.2.2]) (ts.map termD) = true
  | _, [], _, _, _ => rfl
  | p, t :: ts, h, hp, hq => by
    obtain ⟨a1, a2⟩ := h t List.mem_cons_self
    have hp2 := List.pairwise_cons.mp (show (t.1 :: ts.map (·.1)).Pairwise _ from hp)
    have e1 : termOk (termD t) = true := by
      show (isAtom (triD t.1) && (true && !decide (t.2 = 0))) = true
      rw [a1, decide_eq_false a2]
      rfl
    have e2 : upOk (p.map fun q => [q.1, q.2.1, q.2.2]) (termD t) = true := by
      cases p with
      | none => rfl
      | some q =>
        show (!lexGe [q.1, q.2.1, q.2.2] [t.1.1, t.1.2.1, t.1.2.2]) = true
        rw [lexGe3, hq q t rfl List.mem_cons_self]
        rfl
    have e3 := terms_ok (some t.1) ts (fun u hu => h u (List.mem_cons_of_mem _ hu)) hp2.2 fun q u e hu => by
      cases e
      exact hp2.1 _ (List.mem_map_of_mem hu)
    show (termOk (termD t) && (upOk (p.map fun q => [q.1, q.2.1, q.2.2]) (termD t) && termsOk (some (atomI (termD t))) (ts.map termD))) = true
    rw [e1, e2]
    exact e3
theorem form_ok {f : Form} (h : ∀ t ∈ f.2, isAtom (triD t.1) = true ∧ t.2 ≠ 0) (hp : (f.2.map (·.1)).Pairwise (fun x y => ltT x y = true)) : isForm (formD f) = true := by
  show (true && termsOk none (f.2.map termD)) = true
  exact terms_ok none f.2 h hp fun q t e => by cases e
/-- what a form of the program's says of its terms -/
theorem terms_back : ∀ (p : Option Tri) (ts : Tab), termsOk (p.map fun q => [q.1, q.2.1, q.2.2]) (ts.map termD) = true → (∀ t ∈ ts, isAtom (triD t.1) = true ∧ t.2 ≠ 0)
  | _, [], _ => fun t h => by cases h
  | p, t :: ts, h => by
    have h' : (termOk (termD t) && (upOk (p.map fun q => [q.1, q.2.1, q.2.2]) (termD t) && termsOk ((some t.1).map fun q => [q.1, q.2.1, q.2.2]) (ts.map termD))) = true := h
    have h1 := Bool.and_eq_true_iff.mp h'
    have h2 := Bool.and_eq_true_iff.mp h1.2
    have ih := terms_back (some t.1) ts h2.2
    have h3 := Bool.and_eq_true_iff.mp (show (isAtom (triD t.1) && (true && !decide (t.2 = 0))) = true from h1.1)
    intro u hu
    rcases List.mem_cons.mp hu with e | e
    · subst e
      refine ⟨h3.1, fun z => ?_⟩
      have := h3.2
      rw [z] at this
      cases this
    · exact ih u e
theorem form_back {f : Form} (h : isForm (formD f) = true) : ∀ t ∈ f.2, isAtom (triD t.1) = true ∧ t.2 ≠ 0 := terms_back none f.2 h
theorem atom01 {a : Tri} (h : isAtom (triD a) = true) : a.1 = 0 ∨ a.1 = 1 := by
  have h1 := (Bool.and_eq_true_iff.mp (show (within (.int a.1) 0 1 && _) = true from h)).1
  have h2 := Bool.and_eq_true_iff.mp h1
  have := of_decide_eq_true h2.1
  have := of_decide_eq_true h2.2
  omega
/-- an atom of a sum stands in one of its forms -/
theorem sumA_in {a : Tri} : ∀ ps : List (Form × Int), sumA ps a ≠ 0 → ∃ p ∈ ps, a ∈ p.1.2.map (·.1)
  | [], h => absurd rfl h
  | p :: ps, h => by
    by_cases z : a ∈ p.1.2.map (·.1)
    · exact ⟨p, List.mem_cons_self, z⟩
    · have e : sumA (p :: ps) a = p.2 * coef p.1.2 a + sumA ps a := rfl
      rw [coef_none z, Int.mul_zero, Int.zero_add] at e
      obtain ⟨q, hq, hz⟩ := sumA_in ps (e ▸ h)
      exact ⟨q, List.mem_cons_of_mem _ hq, hz⟩
theorem parts_atoms {f : Form} {s : Int} {hs : List Hint} {ms : List Int} {a : Tri} (hf : isForm (formD f) = true) (hh : ∀ y ∈ hs, isHint (hintD y) = true) (h : sumA (partsOf f s hs ms) a ≠ 0) : a.1 = 0 ∨ a.1 = 1 := by
  obtain ⟨p, hp, hm⟩ := sumA_in _ h
  obtain ⟨t, ht, e⟩ := List.mem_map.mp hm
  subst e
  rcases List.mem_cons.mp (show p ∈ (f, s) :: negz hs ms from hp) with e | e
  · subst e
    exact atom01 (form_back hf t ht).1
  · obtain ⟨y, m, hy, _, rfl⟩ := negz_mem e
    obtain ⟨f', b, o, e', g, _⟩ := hint_inv (hh y hy)
    have : formD y.1 = f' := by
      unfold hintD at e'
      injection e' with e'
      injection e'
    rw [← this] at g
    exact atom01 (form_back g t ht).1
end K60
namespace K60
open PySem L2 TriS
open Evl (Ex)
theorem eAll {X : Cx} (K : PySem.W.Frag) (hc : X.calm = true := by rfl) (h : X.K = K := by rfl) : CallR X (.builtin "all") (rAll K) := h ▸ cr_all hc
theorem ePgU {X : Cx} (K : PySem.W.Frag) {es : List Expr} {k : Nat} {t : TGs} {n : Nat} {pos : Pos} (hc : X.calm = true) (hp : PGs X es t) (h : X.K = K := by rfl)
    (hn : (assignEach es X.env).length = n := by rfl) (hst : (assignEach es X.env).findIdx? (·.1) = none := by rfl) : PG X (.Tuple es k pos) (gUnl K n t) := h ▸ pg_unl hc hp hn hst
theorem forItT {d : Addr} {o : Obj} {m : Tab} {g : TG} {ts : TS} {σ : L2.St} {H : Hp} {A : L2.St → Hp → Prop} {R : V → Hp → Prop} (Pv : Nat → L2.St → Hp → Prop) (h0 : Pv 0 σ H) (hq : ∀ i σ H, Pv i σ H → H d = some (.frz o (.dT (encT m))))
    (hs : ∀ (i : Nat) (a : Tri) (c : Int) (T q : Addr) (σ : L2.St) (H : Hp), m[i]? = some (a, c) → H q = some (.tup (triV a)) → Pv i σ H → H T = none → g (.ref T) σ (upd H T (.tup [.ref q, .int c])) fun σ2 H2 => ts { nx := Pv (i + 1), rt := R, bk := A, ct := Pv (i + 1) } σ2 H2) (hd : ∀ σ H, Pv m.length σ H → A σ H) :
    ∃ W : Nat → Nat → L2.St → Hp → Prop, (∃ k, W 0 k σ H) ∧ ∀ i k σ H, W i k σ H →
      ((ItT.Itti d o (encT m)).stop i H ∧ A σ H) ∨ ((ItT.Itti d o (encT m)).go i H ∧ ∃ N : L2.St → Hp → Prop, (∀ σ' H', N σ' H' → ∃ k', k' < k ∧ W (i + 1) k' σ' H') ∧ ∀ v H', (ItT.Itti d o (encT m)).yld i H v H' → g v σ H' fun σ2 H2 => ts { nx := N, rt := R, bk := A, ct := N } σ2 H2) := by
  have le : (encT m).length = m.length := List.length_map _
  refine ⟨fun i k σ H => k = m.length - i ∧ i ≤ m.length ∧ Pv i σ H, ⟨m.length, rfl, Nat.zero_le _, h0⟩, ?_⟩
  rintro i k σ H ⟨rfl, hi, p⟩
  rcases Nat.lt_or_ge i m.length with hlt | hge
  · refine .inr ⟨⟨hq i σ H p, by omega⟩, Pv (i + 1), fun σ' H' p' => ⟨m.length - (i + 1), by omega, rfl, hlt, p'⟩, ?_⟩
    rintro v H' ⟨T, k, w, q, hk, hqq, rfl, hT, rfl⟩
    have hm : m[i]? = some m[i] := List.getElem?_eq_getElem hlt
    unfold encT at hk
    rw [List.getElem?_map, hm] at hk
    cases hk
    exact hs i m[i].1 m[i].2 T q σ H hm hqq p hT
  · have e : i = m.length := by omega
    subst e
    exact .inl ⟨⟨hq _ σ H p, by omega⟩, hd σ H p⟩
theorem allInts : ∀ ms : List D, (ms.map isIntD).all id = true → ∃ is : List Int, ms = is.map .int
  | [], _ => ⟨[], rfl⟩
  | m :: ms, hall => by
    have h := Bool.and_eq_true_iff.mp (show (isIntD m && (ms.map isIntD).all id) = true from hall)
    obtain ⟨i, rfl⟩ := isInt_of h.1
    obtain ⟨is, e⟩ := allInts ms h.2
    exact ⟨i :: is, by rw [e]; rfl⟩
theorem lay_terms : ∀ ts : Tab, PyData.canLayAll0 (ts.map termD) = true
  | [] => rfl
  | t :: r => by
    show (true && PyData.canLayAll0 (r.map termD)) = true
    rw [lay_terms r]
    rfl
theorem dep_terms : ∀ ts : Tab, PyData.depthAll (ts.map termD) ≤ 2
  | [] => by decide
  | t :: r => by
    have := dep_terms r
    show max 2 (PyData.depthAll (r.map termD)) ≤ 2
    omega
theorem org_data {d : D} (h : isOrigin d = true) : PyData.canLay0 d = true ∧ PyData.depth d ≤ 1 := by
  match d, h with
  | .none, _ => exact ⟨rfl, by decide⟩
  | .tuple [a, b], h =>
    have h1 := Bool.and_eq_true_iff.mp h
    obtain ⟨i, rfl, _⟩ := within_int h1.1
    obtain ⟨j, rfl, _⟩ := within_int h1.2
    exact ⟨rfl, Nat.le_refl 1⟩
theorem hint_data {y : Hint} (h : isHint (hintD y) = true) : PyData.canLay0 (hintD y) = true ∧ PyData.depth (hintD y) ≤ 5 := by
  have h1 := (Bool.and_eq_true_iff.mp (Bool.and_eq_true_iff.mp h).2).2
  obtain ⟨l, e⟩ := org_data h1
  constructor
  · show ((true && (PyData.canLayAll0 (y.1.2.map termD) && true)) && (true && (PyData.canLay0 y.2.2 && true))) = true
    rw [lay_terms, l]
    rfl
  · have := dep_terms y.1.2
    show max (max 0 (max (PyData.depthAll (y.1.2.map termD) + 1) 0) + 1) (max 0 (max (PyData.depth y.2.2) 0)) + 1 ≤ 5
    omega
theorem hints_data : ∀ l : List Hint, (∀ y ∈ l, isHint (hintD y) = true) → PyData.canLayAll0 (l.map hintD) = true ∧ PyData.depthAll (l.map hintD) ≤ 5
  | [], _ => ⟨rfl, by decide⟩
  | y :: r, h => by
    obtain ⟨a, b⟩ := hint_data (h y List.mem_cons_self)
    obtain ⟨c, d⟩ := hints_data r fun z hz => h z (List.mem_cons_of_mem _ hz)
    constructor
    · show (PyData.canLay0 (hintD y) && PyData.canLayAll0 (r.map hintD)) = true
      rw [a, c]
      rfl
    · show max (PyData.depth (hintD y)) (PyData.depthAll (r.map hintD)) ≤ 5
      omega
theorem hints_shaped {l : List Hint} (h : ∀ y ∈ l, isHint (hintD y) = true) : SeqAt.shaped (.list (l.map hintD)) = true := by
  obtain ⟨a, b⟩ := hints_data l h
  unfold SeqAt.shaped
  have h1 : PyData.canLay0 (.list (l.map hintD)) = true := a
  have h2 : PyData.depth (.list (l.map hintD)) ≤ 64 := by
    show PyData.depthAll (l.map hintD) + 1 ≤ 64
    omega
  rw [h1, decide_eq_true h2]
  rfl
/-- the hints that a showing takes the wrong way round -/
def wrongs : List Hint → List Int → List Hint
  | h :: hs, m :: ms => (if (decide (m < 0) && !h.2.1) = true then [h] else []) ++ wrongs hs ms
  | _, _ => []
theorem wrongs_mem : ∀ (hs : List Hint) (ms : List Int), ∀ y ∈ wrongs hs ms, y ∈ hs
  | [], _, y, h => by cases h
  | _ :: _, [], y, h => by cases h
  | h :: hs, m :: ms, y, hy => by
    rcases List.mem_append.mp (show y ∈ (if (decide (m < 0) && !h.2.1) = true then [h] else []) ++ wrongs hs ms from hy) with w | w
    · by_cases e : (decide (m < 0) && !h.2.1) = true
      · rw [if_pos e] at w
        rw [List.mem_singleton.mp w]
        exact List.mem_cons_self
      · rw [if_neg e] at w
        cases w
    · exact List.mem_cons_of_mem _ (wrongs_mem hs ms y w)
theorem wrongs_iff : ∀ (hs : List Hint) (ms : List Int), ms.length = hs.length → (byAll (hs.map hintD) (ms.map .int) = (wrongs hs ms).isEmpty)
  | [], [], _ => rfl
  | [], _ :: _, h => nomatch h
  | _ :: _, [], h => nomatch h
  | h :: hs, m :: ms, e => by
    have ih := wrongs_iff hs ms (Nat.succ.inj e)
    show ((true && !(decide (m < 0) && !h.2.1)) && byAll (hs.map hintD) (ms.map .int)) = ((if (decide (m < 0) && !h.2.1) = true then [h] else []) ++ wrongs hs ms).isEmpty
    rw [ih]
    cases (decide (m < 0) && !h.2.1) <;> simp
theorem wrongs_take (hs : List Hint) (ms : List Int) (i : Nat) (h : Hint) (m : Int) (h1 : hs[i]? = some h) (h2 : ms[i]? = some m) : wrongs (hs.take (i + 1)) (ms.take (i + 1)) = wrongs (hs.take i) (ms.take i) ++ (if (decide (m < 0) && !h.2.1) = true then [h] else []) := by
  induction i generalizing hs ms with
  | zero =>
    match hs, ms, h1, h2 with
    | a :: hs, b :: ms, h1, h2 =>
      cases h1
      cases h2
      show (if _ then _ else _) ++ [] = [] ++ _
      rw [List.append_nil, List.nil_append]
  | succ i ih =>
    match hs, ms, h1, h2 with
    | a :: hs, b :: ms, h1, h2 =>
      show (if _ then _ else _) ++ wrongs (hs.take (i + 1)) (ms.take (i + 1)) = ((if _ then _ else _) ++ wrongs (hs.take i) (ms.take i)) ++ _
      rw [ih hs ms h1 h2, List.append_assoc]
def spLawShows (K : PySem.W.Frag) : Sp := fun vs H Q _ => ∃ (vn vg vh x : V) (ns : List Int) (f : Form) (hs : List Hint) (d : D), vs = [vn, vg, vh, x] ∧ ShowsIn H K vn vg vh x ns f hs d ∧ (f.2.map (·.1)).Nodup ∧ isForm (formD f) = true ∧
  ∀ (H' : Hp) (b : Bool), Ex H H' → (b = true ↔ ShowsP ns f hs d) → Q (.bl b) H'
local macro_rules | `(tactic| walk_at "sq") => `(tactic| first | assumption | exact SqL.of (by assumption) | exact SqT.of (by assumption) | exact SqL.of upd_same | exact SqT.of upd_same)
local macro_rules | `(tactic| walk_at "go1") => `(tactic| first
  | (with_reducible refine' Gk.seq ?_)
  | ((with_reducible refine' Gk.var ?hgo ?_); (case hgo => exact rfl))
  | (with_reducible refine' Gk.con ?_)
  | (with_reducible refine' Gk.op ?_)
  | (with_reducible refine' Gk.i0 ?_)
  | (with_reducible refine' Gk.un ?_)
  | ((with_reducible refine' Gk.i1 (C := CMul) ?hgo ?_); (case hgo => first | exact .inl ⟨by decide, by decide⟩ | exact .inr ⟨by decide, by decide⟩ | exact .inl ⟨by omega, by omega⟩ | exact .inr ⟨by omega, by omega⟩))
  | ((with_reducible refine' Gk.i1 (C := CDiv) ?hgo ?_); (case hgo => exact ⟨by omega, by omega⟩))
  | ((with_reducible refine' Gk.i1 (C := CPow) ?hgo ?_); (case hgo => exact ⟨by decide, by decide, by decide⟩))
  | ((with_reducible refine' Gk.i1 (C := fun _ j => 0 < j) ?hgo ?_); (case hgo => show (0 : Int) < _; omega))
  | (with_reducible refine' Gk.u1 ?_)
  | (with_reducible refine' Gk.test ?_)
  | (with_reducible refine' Gk.testB ?_)
  | (with_reducible refine' Gk.asB ?_)
  | (with_reducible refine' K60.eqI ?_)
  | (with_reducible refine' K60.neI ?_)
  | ((with_reducible refine' Gk.eqv ?hgo ?_); (case hgo => exact rfl))
  | ((with_reducible refine' Gk.nev ?hgo ?_); (case hgo => exact rfl))
  | ((with_reducible refine' Gk.ixL ?hgo ?hga ?_); (case hgo => walk_at "sq"); (case hga => first | exact rfl | assumption))
  | ((with_reducible refine' Gk.ixT ?hgo ?hga ?_); (case hgo => walk_at "sq"); (case hga => first | exact rfl | assumption))
  | (with_reducible refine' Gk.aNil ?_)
  | (with_reducible refine' Gk.aCons ?_)
  | (with_reducible refine' Gk.cb ?_)
  | (with_reducible refine' Gk.call ?_)
  | (with_reducible refine' Gk.tup ?_)
  | (with_reducible refine' Gk.lst ?_)
  | (with_reducible refine' Gk.ifE ?_)
  | (with_reducible refine' Gk.ifS ?_)
  | (with_reducible refine' Gk.next ?_)
  | (with_reducible refine' Gk.asg ?_)
  | ((with_reducible refine' Gk.gname ?hgo ?_); (case hgo => exact rfl))
  | (with_reducible refine' Gk.gsub ?_)
  | ((with_reducible refine' Gk.setL ?hgo ?hga ?_); (case hgo => first | assumption | exact upd_same); (case hga => first | exact rfl | assumption))
  | (with_reducible refine' Gk.ret ?_)
  | (with_reducible refine' Gk.drop ?_)
  | (with_reducible refine' Gk.par ?_)
  | (with_reducible refine' Gk.andT ?_)
  | (with_reducible refine' Gk.orT ?_)
  | (with_reducible refine' Gk.notT ?_)
  | (with_reducible refine' Gk.abs ?_)
  | (with_reducible refine' Gk.intI ?_)
  | (with_reducible refine' Gk.intB ?_)
  | ((with_reducible refine' Gk.lenL ?hgo ?_); (case hgo => walk_at "sq"))
  | ((with_reducible refine' Gk.lenT ?hgo ?_); (case hgo => walk_at "sq"))
  | ((with_reducible refine' K60.lenD ?hgo ?_); (case hgo => assumption))
  | (with_reducible refine' K60.zipA ?_)
  | (with_reducible refine' K60.listI ?_)
  | (with_reducible refine' K60.tupI ?_)
  | (with_reducible refine' K60.dget2 ?_)
  | (with_reducible refine' K60.dget ?_)
  | (with_reducible refine' K60.dput ?_)
  | ((with_reducible refine' K60.aug ?hgo ?_); (case hgo => exact rfl))
  | (with_reducible refine' K60.ipI ?_)
  | (with_reducible refine' K60.newT ?_)
  | (with_reducible refine' Gk.bm ?_)
  | ((with_reducible refine' Gk.tyL ?hgo ?_); (case hgo => first | assumption | exact upd_same))
  | ((with_reducible refine' Gk.gtup ?hgo ?hga ?_); (case hgo => walk_at "sq"); (case hga => exact rfl))
  | (with_reducible refine' Gk.gcons ?_)
  | (with_reducible refine' Gk.gnil ?_)
  | (with_reducible refine' Gk.sl ?_)
  | (with_reducible refine' Gk.noPart ?_)
  | (with_reducible refine' Gk.part ?_)
  | (with_reducible refine' Gk.partI ?_)
  | (with_reducible refine' Gk.lc ?_)
  | (with_reducible refine' Gk.rng1 ?_)
  | (with_reducible refine' Gk.forS ?_)
  | (with_reducible refine' Gk.isN ?_)
  | (with_reducible refine' Gk.notN ?_)
  | (with_reducible refine' Gk.andV ?_)
  | (with_reducible refine' Gk.orV ?_)
  | (with_reducible refine' Gk.notV ?_)
  | (with_reducible refine' K60.chain ?_)
  | ((with_reducible refine' K60.isiI ?hgo ?_); (case hgo => assumption))
  | ((with_reducible refine' K60.isiBo ?hgo ?_); (case hgo => assumption))
  | ((with_reducible refine' K60.isiT ?hgo ?_); (case hgo => assumption))
  | ((with_reducible refine' Gk.isiB ?hgo ?hga ?_); (case hgo => exact .base (.non)); (case hga => first | exact (show kitB _ _ = some true by decide +kernel) | exact (show kitB _ _ = some false by decide +kernel)))
  | ((with_reducible refine' Gk.isiB ?hgo ?hga ?_); (case hgo => exact .base (.int _)); (case hga => first | exact (show kitB _ _ = some true by decide +kernel) | exact (show kitB _ _ = some false by decide +kernel)))
  | ((with_reducible refine' Gk.isiB ?hgo ?hga ?_); (case hgo => exact .base (.str _)); (case hga => first | exact (show kitB _ _ = some true by decide +kernel) | exact (show kitB _ _ = some false by decide +kernel)))
  | ((with_reducible refine' Gk.isiB ?hgo ?hga ?_); (case hgo => exact .base (.bl _)); (case hga => first | exact (show kitB _ _ = some true by decide +kernel) | exact (show kitB _ _ = some false by decide +kernel)))
  | ((with_reducible refine' Gk.isiB ?hgo ?hga ?_); (case hgo => exact .base (.tup (by assumption))); (case hga => first | exact (show kitB _ _ = some true by decide +kernel) | exact (show kitB _ _ = some false by decide +kernel)))
  | ((with_reducible refine' Gk.isiB ?hgo ?hga ?_); (case hgo => exact .base (.lst (by assumption))); (case hga => first | exact (show kitB _ _ = some true by decide +kernel) | exact (show kitB _ _ = some false by decide +kernel)))
  | ((with_reducible refine' Gk.iteT ?hgo ?_); (case hgo => exact rfl))
  | ((with_reducible refine' Gk.iteF ?hgo ?_); (case hgo => exact rfl))
  | (with_reducible refine' Gk.yes ?_)
  | (dsimp only))

abbrev sLawShows : Stmt := top 34
theorem scLawShows : FnScope ["never", "goal", "hints", "thing", "const", "sums", "atom", "times", "hint", "by"] ["never", "goal", "hints", "thing"] (defScope sLawShows) := ⟨rfl, rfl, rfl, by decide +kernel, rfl, by decide +kernel, by decide +kernel⟩
section
variable {P : Program} {w : World} {K : PySem.W.Frag} {mg : Str → Option Value} {base : Heap}
theorem cl_law_shows (T : Glo mg) (h : Has K mg "_law_shows" sLawShows) (c_LawIsInt : Cl P w K mg base "_law_is_int" ["x"] 1 (spOf K isIntD)) (c_LawRest : Cl P w K mg base "_law_rest" ["goal", "hints", "scale", "multipliers"] 1 (spRest K)) : Cl P w K mg base "_law_shows" ["never", "goal", "hints", "thing"] 2 (spLawShows K) := by
  obtain ⟨f_LawIsInt, fd_LawIsInt, m_LawIsInt, k_LawIsInt, b_LawIsInt, G_LawIsInt⟩ := c_LawIsInt
  obtain ⟨f_LawRest, fd_LawRest, m_LawRest, k_LawRest, b_LawRest, G_LawRest⟩ := c_LawRest
  obtain ⟨f, fd, m_, F⟩ := h
  refine ⟨f, fd, m_, F.kp, F.binds (ps := ["never", "goal", "hints", "thing"]) fun _ _ _ _ _ _ us hl => match us, hl with | [_, _, _, _], _ => rfl, ?_⟩
  refine F.ok scLawShows (fun vs H Q E h => ?_) (fun cdv A outer s H vs Q E hr h => ?_)
  · obtain ⟨vn, vg, vh, x, ns, f, hs, d, rfl, _⟩ := h
    rfl
  · obtain ⟨vn, vg, vh, x, ns, f, hs, d, rfl, J, hnd, hfo, k⟩ := h
    refine ⟨_, (pss_cons (ps_if (PW.pt (pw_or (pt_not (pt_val (pe_callB (Gk.eIsi K) (by rfl) T.isinstance (by decide +kernel) (pa_cons (pv 3) (pa_cons (pe_bltn (v := .ty "tuple") (by rfl) T.tuple (by decide +kernel) rfl) pa_nil))))) (pw_or (pt_cmpR op_ne (pe_callB (Gk.eLen K) (by rfl) T.len PySem.boot_len (pa_cons (pv 3) pa_nil)) pe_int (nomark _)) (pw_or (pt_not (pt_val (pe_call G_LawIsInt (hr.mono (by omega)) rfl m_LawIsInt k_LawIsInt b_LawIsInt .nil pass0 (pa_cons (pe_ix (Gk.eIxT K) (pv 3) pe_int (fun _ _ => rfl)) pa_nil)))) (pw_or1 (pt_cmpR op_lt (pe_ix (Gk.eIxT K) (pv 3) pe_int (fun _ _ => rfl)) pe_int (nomark _)))))))
    (pss_one (ps_ret pe_bl))
    pss_nil)
  (pss_cons (ps_if (PW.pt (pw_or (pt_not (pt_val (pe_callB (Gk.eIsi K) (by rfl) T.isinstance (by decide +kernel) (pa_cons (pe_ix (Gk.eIxT K) (pv 3) pe_int (fun _ _ => rfl)) (pa_cons (pe_bltn (v := .ty "tuple") (by rfl) T.tuple (by decide +kernel) rfl) pa_nil))))) (pw_or (pt_cmpR op_ne (pe_callB (Gk.eLen K) (by rfl) T.len PySem.boot_len (pa_cons (pe_ix (Gk.eIxT K) (pv 3) pe_int (fun _ _ => rfl)) pa_nil)) (pe_callB (Gk.eLen K) (by rfl) T.len PySem.boot_len (pa_cons (pv 2) pa_nil)) (nomark _)) (pw_or1 (pt_not (pt_val (pe_callB (K60.eAll K) (by rfl) T.all (by decide +kernel) (pa_cons (pe_lc (own := [("by", 9)]) (g := gName 9) (tt := tYes) rfl scLawShows.nd (Gk.ePiT K (pe_ix (Gk.eIxT K) (pv 3) pe_int (fun _ _ => rfl))) (blkOk_by (N := ["never", "goal", "hints", "thing", "const", "sums", "atom", "times", "hint", "by"]) (sc := defScope sLawShows) (by decide +kernel)) (fun _ _ _ _ _ => pg_name (i := 9) scLawShows.nd rfl (Or.inl rfl)) (fun _ _ _ _ _ => pts_nil) (fun _ _ _ _ _ => (pe_call G_LawIsInt (hr.mono (by omega)) rfl m_LawIsInt k_LawIsInt b_LawIsInt .nil pass0 (pa_cons (pv 9) pa_nil)))) pa_nil))))))))
    (pss_one (ps_ret pe_bl))
    pss_nil)
  (pss_cons (ps_if (pt_cmpR (Gk.eNeD K hr.units) (pe_lc (own := [("hint", 8), ("by", 9)]) (g := gTup K 2 (gCons (gName 8) (gCons (gName 9) gNil))) (tt := _) rfl scLawShows.nd (K60.eZip K (by rfl) T.zip (pa_cons (pv 2) (pa_cons (pe_ix (Gk.eIxT K) (pv 3) pe_int (fun _ _ => rfl)) pa_nil))) (blkOk_by (N := ["never", "goal", "hints", "thing", "const", "sums", "atom", "times", "hint", "by"]) (sc := defScope sLawShows) (by decide +kernel)) (fun _ _ _ _ _ => (Gk.ePgT K (n := 2) rfl (pgs_cons (pg_name (i := 8) scLawShows.nd rfl (Or.inl rfl)) (pgs_cons (pg_name (i := 9) scLawShows.nd rfl (Or.inl rfl)) pgs_nil)))) (fun _ _ _ _ _ => (pts_one (PW.pt (pw_and (pt_cmpR op_lt (pv 9) pe_int (nomark _)) (pw_and1 (pt_not (pt_val (pe_ix (Gk.eIxT K) (pv 8) pe_int (fun _ _ => rfl))))))))) (fun _ _ _ _ _ => (pv 8))) (pe_lst pa_nil) (nomark _))
    (pss_one (ps_ret pe_bl))
    pss_nil)
  (pss_cons (ps_asg (pe_call G_LawRest (hr.mono (by omega)) rfl m_LawRest k_LawRest b_LawRest .nil pass0 (pa_cons (pv 1) (pa_cons (pv 2) (pa_cons (pe_ix (Gk.eIxT K) (pv 3) pe_int (fun _ _ => rfl)) (pa_cons (pe_ix (Gk.eIxT K) (pv 3) pe_int (fun _ _ => rfl)) pa_nil))))) (K60.ePgU K rfl (pgs_cons (pg_name (i := 4) scLawShows.nd rfl (Or.inl rfl)) (pgs_cons (pg_name (i := 5) scLawShows.nd rfl (Or.inl rfl)) pgs_nil))))
  (pss_cons (ps_if (pt_cmpR op_lt (pv 4) (pe_callTy Gk.cInt1 (by rfl) T.int (by decide +kernel) (pa_cons (pe_cmpR op_eq (pe_ix (Gk.eIxT K) (pv 3) pe_int (fun _ _ => rfl)) pe_int (nomark _)) pa_nil)) (nomark _))
    (pss_one (ps_ret pe_bl))
    pss_nil)
  (pss_cons (ps_lock (ps_for PassesOwn.never rfl (ItT.pi_itemsT (pv 5)) (Gk.ePgT K rfl (pgs_cons (pg_name (i := 6) scLawShows.nd rfl (Or.inl rfl)) (pgs_cons (pg_name (i := 7) scLawShows.nd rfl (Or.inl rfl)) pgs_nil)))
    (pss_one (ps_if (PW.pt (pw_or (pt_cmpR op_lt (pv 7) pe_int (nomark _)) (pw_or1 (PW.pt (pw_and (pt_cmpR op_gt (pv 7) pe_int (nomark _)) (pw_and (pt_cmpR op_eq (pe_ix (Gk.eIxT K) (pv 6) pe_int (fun _ _ => rfl)) pe_int (nomark _)) (pw_and1 (pt_cmpR (Gk.eNotIn K) (pe_ix (Gk.eIxT K) (pv 6) pe_int (fun _ _ => rfl)) (pv 0) (by rfl)))))))))
      (pss_one (ps_ret pe_bl))
      pss_nil))))
  (pss_one (ps_ret pe_bl)))))))), ?_⟩
    have k0 : fits (hs.map hintD) d = false → ∀ H1, Ex H H1 → Q (.bl false) H1 := fun e H1 x1 => k _ _ x1 ⟨fun e => (by cases e), fun ⟨_, _, _, g, _⟩ => by
      rw [e] at g
      cases g⟩
    have hd := J.x
    repeat walk_at "go1"
    refine Gk.iteQ (fun h1 => ?_) (fun h1 => ?_)
    · repeat walk_at "go1"
      exact k0 (by cases d <;> first | rfl | (cases h1; done)) H (Ex.refl H)
    obtain ⟨ds, rfl⟩ := isTu_of (bnotF h1)
    repeat walk_at "go1"
    refine Gk.iteQ (fun h2 => ?_) (fun h2 => ?_)
    · repeat walk_at "go1"
      exact k0 (fits_len (ne_len (m := 2) h2)) H (Ex.refl H)
    obtain ⟨s, m, rfl⟩ := len2 (eq_len (m := 2) h2)
    repeat walk_at "go1"
    refine ixD (n := 0) hd rfl fun v0 g0 => ?_
    repeat walk_at "go1"
    refine ⟨v0, s, rfl, g0, ?_⟩
    repeat walk_at "go1"
    refine Gk.iteQ (fun h3 => ?_) (fun h3 => ?_)
    · repeat walk_at "go1"
      exact k0 (by
        have z := bnot h3
        cases m <;> first | rfl | (simp [fits, z])) H (Ex.refl H)
    obtain ⟨si, rfl⟩ := isInt_of (bnotF h3)
    cases Dp.int_inv g0
    repeat walk_at "go1"
    refine ixD (n := 0) hd rfl fun v0 g0 => ?_
    cases Dp.int_inv g0
    repeat walk_at "go1"
    refine Gk.iteQ (fun h4 => ?_) (fun h4 => ?_)
    · repeat walk_at "go1"
      exact k0 (by
        have z : neg (.int si) = true := h4
        cases m <;> first | rfl | (simp [fits, z])) H (Ex.refl H)
    have hneg : neg (.int si) = false := h4
    repeat walk_at "go1"
    refine ixD (n := 1) hd rfl fun v1 g1 => ?_
    repeat walk_at "go1"
    refine Gk.iteQ (fun h5 => ?_) (fun h5 => ?_)
    · repeat walk_at "go1"
      exact k0 (by cases m <;> first | rfl | (cases h5; done)) H (Ex.refl H)
    obtain ⟨ms, rfl⟩ := isTu_of (bnotF h5)
    have ef : fits (hs.map hintD) (.tuple [.int si, .tuple ms]) = byAll (hs.map hintD) ms := by
      show (true && (!neg (.int si) && byAll (hs.map hintD) ms)) = _
      rw [hneg]
      rfl
    rw [ef] at k0
    repeat walk_at "go1"
    refine ixD (n := 1) hd rfl fun v1 g1 => ?_
    repeat walk_at "go1"
    have dh : Dp K H vh (.tuple (hs.map hintD)) := Tk.dp _ _ J.h
    refine lenD dh ?_
    repeat walk_at "go1"
    rw [List.length_map]
    refine Gk.iteQ (fun h6 => ?_) (fun h6 => ?_)
    · repeat walk_at "go1"
      refine k0 ?_ H (Ex.refl H)
      have := ne_len (n := ms.length) (m := hs.length) h6
      cases e : byAll (hs.map hintD) ms with
      | false => rfl
      | true =>
        have := byAll_len e
        rw [List.length_map] at this
        omega
    have hlen := eq_len (n := ms.length) (m := hs.length) h6
    repeat walk_at "go1"
    refine ixD (n := 1) hd rfl fun v2 g2 => ?_
    cases g2 with
    | tup hms hma =>
    rename_i am xm
    have lm := DpAll.len hma
    refine ⟨am, rfl, ⟨xm, hms⟩, fun Dl hD => lc_tup (xs := xm) (fun i H' => H' Dl = some (.lst ((ms.take i).map fun m => V.bl (isIntD m))) ∧ Ex H H') ⟨upd_same, Ex.new hD⟩ (fun i H' _ q => SqT.ex q.2 hms) ?_ ?_⟩
    · rintro i y H' hy ⟨hl, xe⟩
      have hi : i < ms.length := by rw [← lm]; exact (List.getElem?_eq_some_iff.mp hy).1
      obtain ⟨y2, e1, g3⟩ := DpAll.get hma i ms[i] (List.getElem?_eq_getElem hi)
      rw [hy] at e1
      cases e1
      repeat walk_at "go1"
      refine ⟨rfl, ?_⟩
      repeat walk_at "go1"
      refine ⟨y, ms[i], rfl, Dp.ex xe _ _ g3, ?_⟩
      refine ⟨_, hl, by rw [List.length_map, List.length_take, sizeLine_eq]; have := J.hl; omega, ?_, Ex.mut xe hD⟩
      rw [upd_same, take_one (List.getElem?_eq_getElem hi), List.map_append]
      rfl
    · rintro H2 ⟨hl, xe⟩
      have el : ms.take xm.length = ms := by rw [lm, List.take_length]
      rw [el] at hl
      repeat walk_at "go1"
      refine ⟨Dl, ms.map isIntD, rfl, SqL.of (by rw [hl, List.map_map]; rfl), ?_⟩
      repeat walk_at "go1"
      refine Gk.iteQ (fun h7 => ?_) (fun h7 => ?_)
      · repeat walk_at "go1"
        refine k0 ?_ _ xe
        cases e : byAll (hs.map hintD) ms with
        | false => rfl
        | true =>
          obtain ⟨is, rfl⟩ := byAll_ints e
          have : ((is.map PyData.int).map isIntD).all id = true := by
            rw [List.map_map, List.all_map]
            exact List.all_eq_true.mpr fun _ _ => rfl
          rw [this] at h7
          cases h7
      have hall := bnotF h7
      obtain ⟨is, rfl⟩ := allInts ms hall
      have hd2 := Dp.ex xe _ _ hd
      have hlen2 : is.length = hs.length := by rw [← hlen, List.length_map]
      have tvh := J.h
      cases tvh with
      | tup hvh hva =>
      rename_i ah xh
      have lh := TkAll.len hva
      rw [List.length_map] at lh
      repeat walk_at "go1"
      refine ixD (n := 1) hd2 rfl fun v3 g3 => ?_
      cases g3 with
      | tup hms2 hma2 =>
      rename_i am2 xm2
      have lm2 := DpAll.len hma2
      rw [List.length_map] at lm2
      repeat walk_at "go1"
      refine ⟨ah, am2, xh, xm2, rfl, .inr ⟨SqT.of (xe _ _ hvh), hms2, fun D2 hD2 => ItT.lc_zipT (xs := xh) (ys := xm2) (by omega) (fun i H' => ∃ acc, H' D2 = some (.lst acc) ∧ Ex H2 H' ∧ TkAll H' acc ((wrongs (hs.take i) (is.take i)).map hintD)) ⟨[], upd_same, Ex.new hD2, .nil⟩
        (fun i H' q => by
          obtain ⟨_, _, x2, _⟩ := q
          exact ⟨SqT.of (x2 _ _ (xe _ _ hvh)), SqT.ex x2 hms2⟩) ?_ ?_⟩⟩
      · rintro i y1 y2 TT H' e1 e2 ⟨acc, hacc, xe3, tk⟩ hT
        have hi : i < hs.length := by rw [← lh]; exact (List.getElem?_eq_some_iff.mp e1).1
        have hi2 : i < is.length := by omega
        have q1 : hs[i]? = some hs[i] := List.getElem?_eq_getElem hi
        have q2 : is[i]? = some is[i] := List.getElem?_eq_getElem hi2
        obtain ⟨w1, f1, gg1⟩ := TkAll.get hva i (hintD hs[i]) (by rw [List.getElem?_map, q1]; rfl)
        obtain ⟨w2, f2, gg2⟩ := DpAll.get hma2 i (.int is[i]) (by rw [List.getElem?_map, q2]; rfl)
        rw [e1] at f1
        cases f1
        rw [e2] at f2
        cases f2
        cases Dp.int_inv gg2
        rw [wrongs_take hs is i _ _ q1 q2]
        generalize hs[i] = hh at *
        generalize is[i] = mm at *
        have x4 : Ex H' (upd H' TT (.tup [y1, V.int mm])) := Ex.new hT
        have th : Tk (upd H' TT (.tup [y1, V.int mm])) y1 (hintD hh) := Tk.mono (Tx.of_ex ((xe.trans xe3).trans x4)) _ _ gg1
        have hT2 : upd H' TT (.tup [y1, V.int mm]) TT = some (.tup [y1, V.int mm]) := upd_same
        have hacc4 := x4 _ _ hacc
        have xe4 := xe3.trans x4
        have tk4 := Tk.monoAll (Tx.of_ex x4) _ _ tk
        generalize upd H' TT (.tup [y1, V.int mm]) = H4 at *
        have thd : Dp K H4 y1 (hintD hh) := Tk.dp _ _ th
        have la : acc.length ≤ 10000 := by
          have h1 := TkAll.len tk
          rw [List.length_map] at h1
          have h2 : ∀ (a : List Hint) (b : List Int), (wrongs a b).length ≤ a.length := by
            intro a
            induction a with
            | nil => exact fun b => Nat.le_refl 0
            | cons z a ih =>
              intro b
              cases b with
              | nil => exact Nat.zero_le _
              | cons m b =>
                show ((if (decide (m < 0) && !z.2.1) = true then [z] else []) ++ wrongs a b).length ≤ a.length + 1
                rw [List.length_append]
                have := ih b
                split <;> simp <;> omega
          have h3 := h2 (hs.take i) (is.take i)
          rw [List.length_take] at h3
          have := J.hl
          omega
        refine Gk.gtup (SqT.of hT2) rfl ?_
        repeat walk_at "go1"
        refine ⟨rfl, ?_⟩
        repeat walk_at "go1"
        refine Gk.iteQ (fun h8 => ?_) (fun h8 => ?_)
        · repeat walk_at "go1"
          refine ixD (n := 1) thd rfl fun vb gb => ?_
          cases gb
          repeat walk_at "go1"
          refine Gk.iteQ (fun h9 => ?_) (fun h9 => ?_)
          · repeat walk_at "go1"
            refine ⟨acc, hacc4, by rw [sizeLine_eq]; omega, acc ++ [y1], upd_same, Ex.mut xe4 hD2, ?_⟩
            rw [h8, h9, List.map_append]
            exact TkAll.snoc (Tk.monoAll (Tx.lst hacc4) _ _ tk4) (Tk.mono (Tx.lst hacc4) _ _ th)
          · rw [h8, h9]
            refine ⟨acc, hacc4, xe4, ?_⟩
            show TkAll H4 acc ((wrongs (hs.take i) (is.take i) ++ []).map hintD)
            rw [List.append_nil]
            exact tk4
        · rw [h8]
          refine ⟨acc, hacc4, xe4, ?_⟩
          show TkAll H4 acc ((wrongs (hs.take i) (is.take i) ++ []).map hintD)
          rw [List.append_nil]
          exact tk4
      · rintro H3 ⟨acc, hacc, xe3, tk⟩
        have e1 : hs.take xh.length = hs := by rw [lh, List.take_length]
        have e2 : is.take xh.length = is := List.take_of_length_le (by omega)
        rw [e1, e2] at tk
        repeat walk_at "go1"
        refine ⟨by show 0 ≤ sizeLine; decide, fun e he => ?_⟩
        have x5 : Ex H3 (upd H3 e (.lst [])) := Ex.new he
        refine Gk.neD (d := .list ((wrongs hs is).map hintD)) (e := .list []) (.lst (SqL.of (x5 _ _ hacc)) (Tk.dpAll _ _ (Tk.monoAll (Tx.of_ex x5) _ _ tk))) (.lst (SqL.of upd_same) .nil) (hints_shaped fun y hy => J.ok y (wrongs_mem hs is y hy)) (by decide) ?_
        have xF : Ex H (upd H3 e (.lst [])) := (xe.trans xe3).trans x5
        generalize upd H3 e (.lst []) = H4 at *
        have hev : PyData.eqv (.list ((wrongs hs is).map hintD)) (.list []) = (wrongs hs is).isEmpty := by cases wrongs hs is <;> rfl
        rw [hev, ← wrongs_iff hs is hlen2]
        repeat walk_at "go1"
        refine Gk.iteQ (fun h8 => ?_) (fun h8 => ?_)
        · repeat walk_at "go1"
          exact k0 (bnot h8) _ xF
        have hby := bnotF h8
        have hfit : fits (hs.map hintD) (.tuple [.int si, .tuple (is.map .int)]) = true := by rw [ef]; exact hby
        have si_ := shows_iff (ns := ns) (f := f) hfit
        obtain ⟨sms, smm⟩ := J.sm si is rfl
        have hd4 := Dp.ex xF _ _ hd
        repeat walk_at "go1"
        refine ixD (n := 0) hd4 rfl fun v5 g5 => ?_
        cases Dp.int_inv g5
        repeat walk_at "go1"
        refine ixD (n := 1) hd4 rfl fun v6 g6 => ?_
        cases g6 with
        | tup hm6 ha6 =>
        rename_i am6 xm6
        have exm : xm6 = is.map V.int := by
          have go : ∀ (l : List Int) (xs : List V), DpAll K H4 xs (l.map .int) → xs = l.map V.int := by
            intro l
            induction l with
            | nil =>
              intro xs h
              cases h
              rfl
            | cons z l ih =>
              intro xs h
              cases h with
              | cons a b =>
                cases a
                rw [ih _ b]
                rfl
          exact go is xm6 ha6
        subst exm
        repeat walk_at "go1"
        refine ⟨vg, ah, am6, xh, f, hs, si, is, rfl, ⟨Tk.mono (Tx.of_ex xF) _ _ J.g, .inl ⟨SqT.of (xF _ _ hvh), hm6⟩, Tk.monoAll (Tx.of_ex xF) _ _ hva, hlen2, J.fb.1, J.fb.2, sms, smm, hnd, J.nt⟩, fun H5 l tb m hl5 hm5 nd5 len5 tv5 x6 _ => ?_⟩
        have xG := xF.trans x6
        refine ⟨l, _, rfl, SqL.of hl5, rfl, ?_⟩
        repeat walk_at "go1"
        have hd5 := Dp.ex xG _ _ hd
        refine ixD (n := 0) hd5 rfl fun v7 g7 => ?_
        cases Dp.int_inv g7
        repeat walk_at "go1"
        obtain ⟨pt, hpt⟩ : ∃ pt, pt = partsOf f si hs is := ⟨_, rfl⟩
        have eC : si * f.1 + sumC (List.zipWith (fun (h : Hint) (m : Int) => (h.1, -m)) hs is) = sumC pt := by rw [hpt]; rfl
        have eA : ∀ a, tv m a = sumA pt a := fun a => by rw [tv5 a, hpt]; rfl
        rw [← hpt] at si_
        rw [eC]
        have no : ∀ H', Ex H H' → ¬ Good ns si pt → Q (.bl false) H' := fun H' xx hg => k _ _ xx ⟨fun e => (by cases e), fun g => absurd (si_.mp g) hg⟩
        refine Gk.iteQ (fun h9 => ?_) (fun h9 => ?_)
        · repeat walk_at "go1"
          refine no _ xG fun G => ?_
          have g0 := G.c0
          have g1 := G.c1
          have h9 := of_decide_eq_true h9
          by_cases z : si = 0
          · have := g1 z
            rw [decide_eq_true z, if_pos rfl] at h9
            omega
          · rw [decide_eq_false z, if_neg Bool.false_ne_true] at h9
            omega
        have c0 : 0 ≤ sumC pt ∧ (si = 0 → 1 ≤ sumC pt) := by
          have h9 := of_decide_eq_false h9
          by_cases z : si = 0
          · rw [decide_eq_true z, if_pos rfl] at h9
            exact ⟨by omega, fun _ => by omega⟩
          · rw [decide_eq_false z, if_neg Bool.false_ne_true] at h9
            exact ⟨by omega, fun e => absurd e z⟩
        repeat walk_at "go1"
        refine ⟨tb, .dT (encT m), hm5, True.intro, fun od => ?_⟩
        obtain ⟨an, rfl, hn⟩ := J.n
        have hn5 := xG _ _ hn
        have hm6 : upd H5 tb (.frz od (.dT (encT m))) tb = some (.frz od (.dT (encT m))) := upd_same
        have back : ∀ H', Ex (upd H5 tb (.frz od (.dT (encT m)))) H' → Ex H5 (upd H' tb (.dT (encT m))) := fun H' x b o e => by
          by_cases z : b = tb
          · subst z
            rw [hm5] at e
            cases e
            exact upd_same
          · rw [upd_ne z]
            exact x _ _ (by rw [upd_ne z]; exact e)
        have hnt : an ≠ tb := fun z => by
          subst z
          rw [hm5] at hn5
          cases hn5
        have hn6 : upd H5 tb (.frz od (.dT (encT m))) an = some (.tup (ns.map V.int)) := by rw [upd_ne hnt]; exact hn5
        generalize upd H5 tb (.frz od (.dT (encT m))) = H6 at *
        refine Gk.forS ?_
        have dn6 : Ex H5 (upd H6 tb (.dT (encT m))) := back H6 (Ex.refl H6)
        refine ⟨_, rfl, tb, od, encT m, rfl, hm6, forItT (m := m) (fun i σ' H' => (∃ u v : Option V, σ' = [some (.ref an), some vg, some (.ref ah), some x, some (.int (sumC pt)), some (.ref tb), u, v, none, none]) ∧ Ex H6 H' ∧ ∀ (j : Nat) (t : Tri × Int), j < i → m[j]? = some t → ¬ t.2 < 0 ∧ (0 < t.2 → t.1.1 = 0 → inV (.int t.1.2.2) (ns.map V.int) = true)) ?_ (fun i σ' H' q => q.2.1 _ _ hm6) ?_ ?_⟩
        · exact ⟨⟨none, none, rfl⟩, Ex.refl H6, fun j t hj => by omega⟩
        · rintro i a c T q σ' H' hi hq ⟨⟨u, v, rfl⟩, x7, hall⟩ hT
          have x8 : Ex H6 (upd H' T (.tup [.ref q, .int c])) := x7.trans (Ex.new hT)
          have hq8 := Ex.new (o := .tup [V.ref q, V.int c]) hT _ _ hq
          have hT8 : upd H' T (.tup [V.ref q, V.int c]) T = some (.tup [V.ref q, V.int c]) := upd_same
          generalize upd H' T (.tup [V.ref q, V.int c]) = H8 at *
          refine Gk.gtup (SqT.of hT8) rfl ?_
          have hac : tv m a = c := by
            have := (tget_mem nd5 a c).mp (List.mem_of_getElem? hi)
            unfold tv
            rw [this]
            rfl
          have hsc : sumA pt a = c := by rw [← eA, hac]
          have bad : ¬ Good ns si pt → H8 tb = some (.frz od (.dT (encT m))) ∧ Q (.bl false) (upd H8 tb (.dT (encT m))) := fun g => ⟨x8 _ _ hm6, no _ (xG.trans (back _ x8)) g⟩
          have good : ¬ c < 0 → (0 < c → a.1 = 0 → inV (.int a.2.2) (ns.map V.int) = true) → ∀ (j : Nat) (t : Tri × Int), j < i + 1 → m[j]? = some t → ¬ t.2 < 0 ∧ (0 < t.2 → t.1.1 = 0 → inV (.int t.1.2.2) (ns.map V.int) = true) := fun h1 h2 j t hj ht => by
            by_cases z : j = i
            · subst z
              rw [hi] at ht
              cases ht
              exact ⟨h1, h2⟩
            · exact hall j t (by omega) ht
          repeat walk_at "go1"
          refine Gk.iteQ (fun hc => ?_) (fun hc => ?_)
          · repeat walk_at "go1"
            have hc := of_decide_eq_true hc
            exact bad fun G => by
              have := G.at_ a (by omega)
              omega
          have hc := of_decide_eq_false hc
          repeat walk_at "go1"
          refine Gk.iteQ (fun hc2 => ?_) (fun hc2 => ?_)
          · have hc2 := of_decide_eq_true hc2
            repeat walk_at "go1"
            refine Gk.iteQ (fun ha0 => ?_) (fun ha0 => ?_)
            · have ha0 := of_decide_eq_true ha0
              repeat walk_at "go1"
              refine Gk.inT (SqT.of (x8 _ _ hn6)) rfl (flat_ints ns) ?_
              rw [if_pos rfl]
              repeat walk_at "go1"
              refine Gk.iteQ (fun hi0 => ?_) (fun hi0 => ?_)
              · repeat walk_at "go1"
                exact bad fun G => by
                  have h5 := (G.at_ a (by omega)).2
                  unfold floorB at h5
                  rw [bnot hi0, decide_eq_false (by omega)] at h5
                  cases h5
              · repeat walk_at "go1"
                exact ⟨⟨_, _, rfl⟩, x8, good hc fun _ _ => bnotF hi0⟩
            · have ha0 := of_decide_eq_false ha0
              repeat walk_at "go1"
              exact ⟨⟨_, _, rfl⟩, x8, good hc fun _ z => absurd z ha0⟩
          · have hc2 := of_decide_eq_false hc2
            repeat walk_at "go1"
            exact ⟨⟨_, _, rfl⟩, x8, good hc fun z _ => absurd z hc2⟩
        · rintro σ' H' ⟨⟨u, v, rfl⟩, x7, hall⟩
          refine ⟨x7 _ _ hm6, ?_⟩
          repeat walk_at "go1"
          refine k _ _ (xG.trans (back _ x7)) ⟨fun _ => si_.mpr ⟨c0.1, c0.2, fun a ha => ?_⟩, fun _ => rfl⟩
          have hk : a ∈ m.map (·.1) := by
            by_cases z : a ∈ m.map (·.1)
            · exact z
            · have e0 := eA a
              unfold tv at e0
              rw [tget_nokey z] at e0
              exact absurd e0.symm ha
          obtain ⟨⟨b, c⟩, hm, e⟩ := List.mem_map.mp hk
          have e : b = a := e
          subst e
          obtain ⟨j, hj⟩ := List.getElem?_of_mem hm
          have hj2 := (List.getElem?_eq_some_iff.mp hj).1
          obtain ⟨h1, h2⟩ := hall j _ hj2 hj
          have hac : tv m b = c := by
            have := (tget_mem nd5 b c).mp hm
            unfold tv
            rw [this]
            rfl
          rw [eA] at hac
          rw [hac] at ha ⊢
          dsimp only at h1 h2 ha
          refine ⟨by omega, ?_⟩
          have h01 : b.1 = 0 ∨ b.1 = 1 := parts_atoms hfo J.ok (by rw [← hpt, hac]; exact ha)
          unfold floorB
          rcases h01 with z | z
          · rw [h2 (by omega) z, Bool.or_true]
          · rw [decide_eq_true z, Bool.true_or]
end
end K60
namespace K60
open PySem L2 TriS
open Evl (Ex)
theorem op_isBo {X : Cx} : OpR X (compareOp .Is) (fun x y H Q => ∃ a b, x = .bl a ∧ y = .bl b ∧ Q (.bl (decide (a = b))) H) := by
  intro pins s σ H x y v u Q I rx ry h
  obtain ⟨a, b, rfl, rfl, q⟩ := h
  cases (show v = Value.bool a from rx)
  cases (show u = Value.bool b from ry)
  exact wpAny_is_plain rfl (fin_bl I q (by cases a <;> cases b <;> rfl))
theorem op_notBo {X : Cx} : OpR X (compareOp .IsNot) (fun x y H Q => ∃ a b, x = .bl a ∧ y = .bl b ∧ Q (.bl (!decide (a = b))) H) := by
  intro pins s σ H x y v u Q I rx ry h
  obtain ⟨a, b, rfl, rfl, q⟩ := h
  cases (show v = Value.bool a from rx)
  cases (show u = Value.bool b from ry)
  exact wpAny_isNot_plain rfl (fin_bl I q (by cases a <;> cases b <;> rfl))
theorem un65 {k : Nat} {A : Around} (r : Room k A) : A.units + 65 < cLine := by have := r.un; omega
theorem eNotInD {X : Cx} (K : PySem.W.Frag) (hu : X.A.units + 65 < cLine) (h : X.K = K := by rfl) : OpR X (compareOp .NotIn) (rNotInD K) := h ▸ op_notInD hu
theorem eCatA {X : Cx} (K : PySem.W.Frag) (h : X.K = K := by rfl) : OpR X (binaryOp .Add) (rCatA K) := h ▸ op_catA
theorem eSlA {X : Cx} (K : PySem.W.Frag) (h : X.K = K := by rfl) : SlR X (rSlA K) := h ▸ sl_tupA
def spWell (K : PySem.W.Frag) : Sp := fun vs H Q _ => ∃ (a : Addr) (ns : List Int), vs = [.ref a] ∧ SqL K H a (ns.map V.int) ∧ ns.length ≤ 63 ∧ ∀ (H' : Hp) (p q : Addr), WellAt H' p q 0 → Ex H H' → Q (.ref p) H'
theorem cut63 {ns : List Int} (h : ns.length ≤ 63) : cutV (ns.map V.int) none (some 63) = ns.map V.int := by
  have h2 : (ns.map V.int).length ≤ 63 := by rw [List.length_map]; exact h
  unfold cutV HT.sIx
  dsimp only
  rw [if_neg (by decide), List.drop_zero, List.take_of_length_le (by omega)]
local macro_rules | `(tactic| walk_at "sq") => `(tactic| first | assumption | exact SqL.of (by assumption) | exact SqT.of (by assumption) | exact SqL.of upd_same | exact SqT.of upd_same)
local macro_rules | `(tactic| walk_at "go1") => `(tactic| first
  | (with_reducible refine' Gk.seq ?_)
  | ((with_reducible refine' Gk.var ?hgo ?_); (case hgo => exact rfl))
  | (with_reducible refine' Gk.con ?_)
  | (with_reducible refine' Gk.op ?_)
  | (with_reducible refine' Gk.i0 ?_)
  | (with_reducible refine' Gk.un ?_)
  | ((with_reducible refine' Gk.i1 (C := CMul) ?hgo ?_); (case hgo => first | exact .inl ⟨by decide, by decide⟩ | exact .inr ⟨by decide, by decide⟩ | exact .inl ⟨by omega, by omega⟩ | exact .inr ⟨by omega, by omega⟩))
  | ((with_reducible refine' Gk.i1 (C := CDiv) ?hgo ?_); (case hgo => exact ⟨by omega, by omega⟩))
  | ((with_reducible refine' Gk.i1 (C := CPow) ?hgo ?_); (case hgo => exact ⟨by decide, by decide, by decide⟩))
  | ((with_reducible refine' Gk.i1 (C := fun _ j => 0 < j) ?hgo ?_); (case hgo => show (0 : Int) < _; omega))
  | (with_reducible refine' Gk.u1 ?_)
  | (with_reducible refine' Gk.test ?_)
  | (with_reducible refine' Gk.testB ?_)
  | (with_reducible refine' Gk.asB ?_)
  | (with_reducible refine' K60.eqI ?_)
  | (with_reducible refine' K60.neI ?_)
  | ((with_reducible refine' Gk.eqv ?hgo ?_); (case hgo => exact rfl))
  | ((with_reducible refine' Gk.nev ?hgo ?_); (case hgo => exact rfl))
  | ((with_reducible refine' Gk.ixL ?hgo ?hga ?_); (case hgo => walk_at "sq"); (case hga => first | exact rfl | assumption))
  | ((with_reducible refine' Gk.ixT ?hgo ?hga ?_); (case hgo => walk_at "sq"); (case hga => first | exact rfl | assumption))
  | (with_reducible refine' Gk.aNil ?_)
  | (with_reducible refine' Gk.aCons ?_)
  | (with_reducible refine' Gk.cb ?_)
  | (with_reducible refine' Gk.call ?_)
  | (with_reducible refine' Gk.tup ?_)
  | (with_reducible refine' Gk.lst ?_)
  | (with_reducible refine' Gk.ifE ?_)
  | (with_reducible refine' Gk.ifS ?_)
  | (with_reducible refine' Gk.next ?_)
  | (with_reducible refine' Gk.asg ?_)
  | ((with_reducible refine' Gk.gname ?hgo ?_); (case hgo => exact rfl))
  | (with_reducible refine' Gk.gsub ?_)
  | ((with_reducible refine' Gk.setL ?hgo ?hga ?_); (case hgo => first | assumption | exact upd_same); (case hga => first | exact rfl | assumption))
  | (with_reducible refine' Gk.ret ?_)
  | (with_reducible refine' Gk.drop ?_)
  | (with_reducible refine' Gk.par ?_)
  | (with_reducible refine' Gk.andT ?_)
  | (with_reducible refine' Gk.orT ?_)
  | (with_reducible refine' Gk.notT ?_)
  | (with_reducible refine' Gk.abs ?_)
  | (with_reducible refine' Gk.intI ?_)
  | (with_reducible refine' Gk.intB ?_)
  | ((with_reducible refine' Gk.lenL ?hgo ?_); (case hgo => walk_at "sq"))
  | ((with_reducible refine' Gk.lenT ?hgo ?_); (case hgo => walk_at "sq"))
  | ((with_reducible refine' K60.lenD ?hgo ?_); (case hgo => assumption))
  | (with_reducible refine' K60.zipA ?_)
  | (with_reducible refine' K60.listI ?_)
  | (with_reducible refine' K60.tupI ?_)
  | (with_reducible refine' K60.dget2 ?_)
  | (with_reducible refine' K60.dget ?_)
  | (with_reducible refine' K60.dput ?_)
  | ((with_reducible refine' K60.aug ?hgo ?_); (case hgo => exact rfl))
  | (with_reducible refine' K60.ipI ?_)
  | (with_reducible refine' K60.newT ?_)
  | (with_reducible refine' Gk.bm ?_)
  | ((with_reducible refine' Gk.tyL ?hgo ?_); (case hgo => first | assumption | exact upd_same))
  | ((with_reducible refine' Gk.gtup ?hgo ?hga ?_); (case hgo => walk_at "sq"); (case hga => exact rfl))
  | (with_reducible refine' Gk.gcons ?_)
  | (with_reducible refine' Gk.gnil ?_)
  | (with_reducible refine' Gk.sl ?_)
  | (with_reducible refine' Gk.noPart ?_)
  | (with_reducible refine' Gk.part ?_)
  | (with_reducible refine' Gk.partI ?_)
  | (with_reducible refine' Gk.lc ?_)
  | (with_reducible refine' Gk.rng1 ?_)
  | (with_reducible refine' Gk.forS ?_)
  | (with_reducible refine' Gk.isN ?_)
  | (with_reducible refine' Gk.notN ?_)
  | (with_reducible refine' Gk.andV ?_)
  | (with_reducible refine' Gk.orV ?_)
  | (with_reducible refine' Gk.notV ?_)
  | (with_reducible refine' K60.chain ?_)
  | ((with_reducible refine' K60.isiI ?hgo ?_); (case hgo => assumption))
  | ((with_reducible refine' K60.isiBo ?hgo ?_); (case hgo => assumption))
  | ((with_reducible refine' K60.isiT ?hgo ?_); (case hgo => assumption))
  | ((with_reducible refine' Gk.isiB ?hgo ?hga ?_); (case hgo => exact .base (.non)); (case hga => first | exact (show kitB _ _ = some true by decide +kernel) | exact (show kitB _ _ = some false by decide +kernel)))
  | ((with_reducible refine' Gk.isiB ?hgo ?hga ?_); (case hgo => exact .base (.int _)); (case hga => first | exact (show kitB _ _ = some true by decide +kernel) | exact (show kitB _ _ = some false by decide +kernel)))
  | ((with_reducible refine' Gk.isiB ?hgo ?hga ?_); (case hgo => exact .base (.str _)); (case hga => first | exact (show kitB _ _ = some true by decide +kernel) | exact (show kitB _ _ = some false by decide +kernel)))
  | ((with_reducible refine' Gk.isiB ?hgo ?hga ?_); (case hgo => exact .base (.bl _)); (case hga => first | exact (show kitB _ _ = some true by decide +kernel) | exact (show kitB _ _ = some false by decide +kernel)))
  | ((with_reducible refine' Gk.isiB ?hgo ?hga ?_); (case hgo => exact .base (.tup (by assumption))); (case hga => first | exact (show kitB _ _ = some true by decide +kernel) | exact (show kitB _ _ = some false by decide +kernel)))
  | ((with_reducible refine' Gk.isiB ?hgo ?hga ?_); (case hgo => exact .base (.lst (by assumption))); (case hga => first | exact (show kitB _ _ = some true by decide +kernel) | exact (show kitB _ _ = some false by decide +kernel)))
  | ((with_reducible refine' Gk.iteT ?hgo ?_); (case hgo => exact rfl))
  | ((with_reducible refine' Gk.iteF ?hgo ?_); (case hgo => exact rfl))
  | (with_reducible refine' Gk.yes ?_)
  | (dsimp only))

abbrev sLawWell : Stmt := top 29
theorem scLawWell : FnScope ["script", "mix", "cell"] ["script"] (defScope sLawWell) := ⟨rfl, rfl, rfl, by decide +kernel, rfl, by decide +kernel, by decide +kernel⟩
section
variable {P : Program} {w : World} {K : PySem.W.Frag} {mg : Str → Option Value} {base : Heap}
theorem cl_law_well (T : Glo mg) (h : Has K mg "_law_well" sLawWell) : Cl P w K mg base "_law_well" ["script"] 1 (spWell K) := by
  obtain ⟨f, fd, m_, F⟩ := h
  refine ⟨f, fd, m_, F.kp, F.binds (ps := ["script"]) fun _ _ _ _ _ _ us hl => match us, hl with | [_], _ => rfl, ?_⟩
  refine F.ok scLawWell (fun vs H Q E h => ?_) (fun cdv A outer s H vs Q E hr h => ?_)
  · obtain ⟨a, ns, rfl, _⟩ := h
    rfl
  · obtain ⟨a, ns, rfl, hs, hl, k⟩ := h
    refine ⟨_, (pss_cons (ps_set (i := 1) scLawWell.nd rfl (Or.inl rfl) pe_int)
  (pss_cons (ps_for PassesOwn.never rfl (Gk.ePiL K (pe_slice (Gk.eSlL K) (pv 0) po_none (po_some pe_int))) (pg_name (i := 2) scLawWell.nd rfl (Or.inl rfl))
    (pss_one (ps_set (i := 1) scLawWell.nd rfl (Or.inl rfl) (pe_op op_mod (pe_callTy Gk.cInt1 (by rfl) T.int (by decide +kernel) (pa_cons (pe_op op_add (pe_op op_add (pe_op op_mul (pv 1) pe_int) (pe_op op_mod (pe_callTy Gk.cInt1 (by rfl) T.int (by decide +kernel) (pa_cons (pv 2) pa_nil)) pe_int)) pe_int) pa_nil)) pe_int))))
  (pss_one (ps_ret (pe_disp (pps_cons pe_str (pe_lc (own := [("cell", 2)]) (g := gName 2) (tt := _) rfl scLawWell.nd (Gk.ePiL K (pe_slice (Gk.eSlL K) (pv 0) po_none (po_some pe_int))) (blkOk_by (N := ["script", "mix", "cell"]) (sc := defScope sLawWell) (by decide +kernel)) (fun _ _ _ _ _ => pg_name (i := 2) scLawWell.nd rfl (Or.inl rfl)) (fun _ _ _ _ _ => (pts_one (pt_cmpR op_ge (pv 2) (pe_op op_pow pe_int pe_int) (nomark _)))) (fun _ _ _ _ _ => (pe_callTy Gk.cInt1 (by rfl) T.int (by decide +kernel) (pa_cons (pv 2) pa_nil)))) (pps_cons pe_str (pv 1) (pps_cons pe_str pe_int pps_nil))) (by rfl) (by rfl) (by simp) (by decide)))))), ?_⟩
    repeat walk_at "go1"
    refine ⟨a, _, rfl, hs, fun l1 hl1 => ?_⟩
    rw [cut63 hl]
    have xe1 : Ex H (upd H l1 (.lst (ns.map V.int))) := Ex.new hl1
    have hk1 : upd H l1 (.lst (ns.map V.int)) l1 = some (.lst (ns.map V.int)) := upd_same
    generalize upd H l1 (.lst (ns.map V.int)) = H1 at *
    refine ⟨l1, rfl, ⟨_, SqL.of hk1⟩, Gk.forL (xs := ns.map V.int) (fun i σ' H' => (∃ (m : Int) (y : Option V), σ' = [some (.ref a), some (.int m), y] ∧ 0 ≤ m ∧ m < 2147483647) ∧ H' = H1) ⟨⟨5, none, rfl, by decide, by decide⟩, rfl⟩ (fun i σ' H' _ q => by rw [q.2]; exact SqL.of hk1) ?_ ?_⟩
    · rintro i x σ' H' hx ⟨⟨m, y, rfl, m0, m1⟩, rfl⟩
      rw [List.getElem?_map] at hx
      obtain ⟨c, hc, rfl⟩ := Option.map_eq_some_iff.mp hx
      repeat walk_at "go1"
      exact ⟨⟨_, _, rfl, Int.emod_nonneg _ (by decide), Int.emod_lt_of_pos _ (by decide)⟩, rfl⟩
    · rintro σ' H' ⟨⟨m, y, rfl, m0, m1⟩, rfl⟩
      repeat walk_at "go1"
      intro p hp
      have x2 : Ex H' (upd H' p (.dK [])) := Ex.new hp
      have hp2 : upd H' p (.dK []) p = some (.dK []) := upd_same
      generalize upd H' p (.dK []) = H2 at *
      unfold tPairs
      repeat walk_at "go1"
      have hs2 : SqL K H2 a (ns.map V.int) := SqL.ex (xe1.trans x2) hs
      refine ⟨a, _, rfl, hs2, fun l2 hl2 => ?_⟩
      rw [cut63 hl]
      have x3 : Ex H2 (upd H2 l2 (.lst (ns.map V.int))) := Ex.new hl2
      have hk2 : upd H2 l2 (.lst (ns.map V.int)) l2 = some (.lst (ns.map V.int)) := upd_same
      generalize upd H2 l2 (.lst (ns.map V.int)) = H3 at *
      refine ⟨l2, rfl, ⟨_, SqL.of hk2⟩, fun q hq => lc_list (xs := ns.map V.int) (fun i H' => ∃ gs : List Int, H' q = some (.lst (gs.map V.int)) ∧ Ex H3 H' ∧ (∀ g ∈ gs, 0 ≤ g) ∧ gs.length ≤ i) ⟨[], upd_same, Ex.new hq, fun g hg => (by cases hg), Nat.le_refl 0⟩ (fun i H' _ h => by
        obtain ⟨_, _, x, _⟩ := h
        exact SqL.of (x _ _ hk2)) ?_ ?_⟩
      · rintro i x H' hx ⟨gs, hgs, xe4, hg0, hgl⟩
        have hi := (List.getElem?_eq_some_iff.mp hx).1
        rw [List.length_map] at hi
        rw [List.getElem?_map] at hx
        obtain ⟨c, hc, rfl⟩ := Option.map_eq_some_iff.mp hx
        repeat walk_at "go1"
        refine ⟨rfl, ?_⟩
        repeat walk_at "go1"
        refine Gk.iteQ (fun hb => ?_) (fun hb => ?_)
        · have hb := of_decide_eq_true hb
          have hc0 : 0 ≤ c := by
            have : (0 : Int) ≤ 10 ^ Int.toNat 18 := by decide
            omega
          repeat walk_at "go1"
          refine ⟨gs.map V.int, hgs, by rw [List.length_map, sizeLine_eq]; omega, gs ++ [c], ?_, Ex.mut xe4 hq, fun g hg => ?_, ?_⟩
          · rw [upd_same, List.map_append]
            rfl
          · rcases List.mem_append.mp hg with e | e
            · exact hg0 g e
            · rw [List.mem_singleton.mp e]
              exact hc0
          · rw [List.length_append]
            show gs.length + 1 ≤ i + 1
            omega
        · exact ⟨gs, hgs, xe4, hg0, by omega⟩
      · rintro H4 ⟨gs, hgs, xe4, hg0, hgl⟩
        rw [List.length_map] at hgl
        repeat walk_at "go1"
        unfold tPairs
        repeat walk_at "go1"
        unfold tPairs
        repeat walk_at "go1"
        unfold tPairs
        have x5 := x3.trans xe4
        have hp5 := x5 _ _ hp2
        refine ⟨hp5, [(.inr "great", .ref q), (.inr "mix", .int m), (.inr "turn", .int 0)], rfl, by show 3 ≤ 15; decide, ?_⟩
        have hqp : q ≠ p := fun z => by
          subst z
          rw [hgs] at hp5
          cases hp5
        refine k _ p q ⟨gs, m, 0, upd_same, by rw [upd_ne hqp]; exact hgs, hg0, by omega, m0, m1, Int.le_refl 0, Int.le_refl 0⟩ (Ex.mut (xe1.trans (x2.trans x5)) ?_)
        by_cases z : H p = none
        · exact z
        · obtain ⟨o, ho⟩ := Option.ne_none_iff_exists'.mp z
          rw [xe1 _ _ ho] at hp
          cases hp
end
end K60
namespace K60
open PySem L2 TriS
open Evl (Ex)
section
variable {K : PySem.W.Frag} {σ : L2.St} {H H' H1 : Hp} {Q : VK} {p q l : Addr} {t : Nat} {o : HO}
theorem exGet {a : Addr} (x : Ex H H') (h : H a = some o) : H' a = some o := x _ _ h
theorem txGet {a : Addr} {xs : List V} (x : Tx H H') (h : H a = some (.tup xs)) : H' a = some (.tup xs) := x _ _ h
theorem newAt (hp : H p = none) (e : upd H p o = H') : Ex H H' ∧ H' p = some o := by
  subst e
  exact ⟨Ex.new hp, upd_same⟩
theorem But.mut (b : But p q H H1) (h : H l = none) : But p q H (upd H1 l o) := fun c oc n1 n2 e => by
  by_cases z : c = l
  · subst z
    rw [h] at e
    cases e
  · rw [upd_ne z]
    exact b c oc n1 n2 e
theorem WellAt.neNew (W : WellAt H p q t) (h : H l = none) : l ≠ p ∧ l ≠ q := by
  obtain ⟨_, _, _, h1, h2, _⟩ := W.ex
  refine ⟨fun z => ?_, fun z => ?_⟩
  · subst z
    rw [h] at h1
    cases h1
  · subst z
    rw [h] at h2
    cases h2
theorem WellAt.mut (W : WellAt H p q t) (h1 : l ≠ p) (h2 : l ≠ q) : WellAt (upd H l o) p q t := by
  obtain ⟨gs, m, n, a, b, c⟩ := W.ex
  exact ⟨gs, m, n, by rw [upd_ne h1.symm]; exact a, by rw [upd_ne h2.symm]; exact b, c⟩
theorem But.none (b : But p q H H1) (h1 : l ≠ p) (h2 : l ≠ q) (h : H1 l = none) : H l = none := by
  cases z : H l with
  | none => rfl
  | some o =>
    rw [b l o h1 h2 z] at h
    cases h
theorem Tx.dct {kvs : List (List Key × V)} (h : H l = some (.dT kvs)) : Tx H (upd H l o) := fun a ys e => by
  by_cases z : a = l
  · subst z
    rw [h] at e
    cases e
  · rw [upd_ne z]
    exact e
structure AtomsAt (H : Hp) (p q l : Addr) (L : List (Addr × Tri)) : Prop where
  hl : H l = some (.lst (L.map fun z => V.ref z.1))
  lp : l ≠ p
  lq : l ≠ q
  ha : ∀ z ∈ L, H z.1 = some (.tup (triV z.2))
  up : (L.map (·.2)).Pairwise fun x y => ltT x y = true
  ok : ∀ z ∈ L, isAtom (triD z.2) = true
  len : L.length ≤ 9
theorem AtomsAt.but {L : List (Addr × Tri)} (a : AtomsAt H p q l L) (W : WellAt H p q t) (b : But p q H H') : AtomsAt H' p q l L :=
  ⟨b _ _ a.lp a.lq a.hl, a.lp, a.lq, fun z hz => W.tx b _ _ (a.ha z hz), a.up, a.ok, a.len⟩
def spAtoms : Sp := fun vs H Q _ => ∃ (p q : Addr) (t : Nat), vs = [.ref p] ∧ WellAt H p q t ∧ t ≤ 8000000 ∧ ∀ (H' : Hp) (l : Addr) (L : List (Addr × Tri)), AtomsAt H' p q l L → 1 ≤ L.length → WellAt H' p q (t + 100) → But p q H H' → Q (.ref l) H'
theorem eqv_tri (a b : Tri) : PyData.eqv (triD a) (triD b) = decide (a = b) := by
  obtain ⟨a1, a2, a3⟩ := a
  obtain ⟨b1, b2, b3⟩ := b
  show (decide (a1 = b1) && (decide (a2 = b2) && (decide (a3 = b3) && true))) = _
  simp [Prod.mk.injEq, Bool.decide_and]
theorem atom_v {b c : Int} (h1 : -1 ≤ b) (h2 : b ≤ 399) (h3 : 0 ≤ c) (h4 : c ≤ 12) : isAtom (triD (0, b, c)) = true := by
  show (within (.int 0) 0 1 && (if isZero (.int 0) = true then within (.int b) (-1) 399 && within (.int c) 0 12 else within (.int b) 0 239 && within (.int c) 0 3)) = true
  rw [if_pos (by decide)]
  show (true && ((decide (-1 ≤ b) && decide (b ≤ 399)) && (decide (0 ≤ c) && decide (c ≤ 12)))) = true
  rw [decide_eq_true h1, decide_eq_true h2, decide_eq_true h3, decide_eq_true h4]
  rfl
theorem atom_s {b c : Int} (h1 : 0 ≤ b) (h2 : b ≤ 239) (h3 : 0 ≤ c) (h4 : c ≤ 3) : isAtom (triD (1, b, c)) = true := by
  show (within (.int 1) 0 1 && (if isZero (.int 1) = true then within (.int b) (-1) 399 && within (.int c) 0 12 else within (.int b) 0 239 && within (.int c) 0 3)) = true
  rw [if_neg (by decide)]
  show (true && ((decide (0 ≤ b) && decide (b ≤ 239)) && (decide (0 ≤ c) && decide (c ≤ 3)))) = true
  rw [decide_eq_true h1, decide_eq_true h2, decide_eq_true h3, decide_eq_true h4]
  rfl
theorem shaped_tri (a : Tri) : SeqAt.shaped (triD a) = true := rfl
theorem lay_tris : ∀ l : List Tri, PyData.canLayAll0 (l.map triD) = true
  | [] => rfl
  | t :: r => by
    show (true && PyData.canLayAll0 (r.map triD)) = true
    rw [lay_tris r]
    rfl
theorem dep_tris : ∀ l : List Tri, PyData.depthAll (l.map triD) ≤ 1
  | [] => by decide
  | t :: r => by
    have := dep_tris r
    show max 1 (PyData.depthAll (r.map triD)) ≤ 1
    omega
theorem shaped_tris (l : List Tri) : SeqAt.shaped (.list (l.map triD)) = true := by
  unfold SeqAt.shaped
  have h1 : PyData.canLay0 (.list (l.map triD)) = true := lay_tris l
  have h2 : PyData.depth (.list (l.map triD)) ≤ 64 := by
    have := dep_tris l
    show PyData.depthAll (l.map triD) + 1 ≤ 64
    omega
  rw [h1, decide_eq_true h2]
  rfl
end
local macro_rules | `(tactic| walk_at "ex") => `(tactic| first | assumption | exact Evl.Ex.refl _ | (refine' Evl.Ex.trans (by assumption) ?_; walk_at "ex"))
local macro_rules | `(tactic| walk_at "tx") => `(tactic| first | assumption | exact K60.Tx.of_ex (by assumption) | (refine' K60.Tx.trans (by assumption) ?_; walk_at "tx") | (refine' K60.Tx.trans (K60.Tx.of_ex (by assumption)) ?_; walk_at "tx"))
local macro_rules | `(tactic| walk_at "lf") => `(tactic| first | assumption | (refine' K60.exGet ?hx9 ?hy9; (case hy9 => assumption); (case hx9 => walk_at "ex")) | (refine' K60.txGet ?hx9 ?hy9; (case hy9 => assumption); (case hx9 => walk_at "tx")))
local macro_rules | `(tactic| walk_at "sq2") => `(tactic| first | assumption | (refine' SqL.of ?hq9; (case hq9 => walk_at "lf")) | (refine' SqT.of ?hq9; (case hq9 => walk_at "lf")))
local macro_rules | `(tactic| walk_at "gn") => `(tactic| (generalize hh : upd _ _ _ = H9 at *; obtain ⟨xe9, h9⟩ := K60.newAt (by assumption) hh; clear hh))
local macro_rules | `(tactic| walk_at "nw") => `(tactic| (refine' ⟨by show _ ≤ sizeLine; first | decide | (simp only [List.length_cons, List.length_nil, List.length_map, List.length_append, sizeLine_eq]; omega), fun a9 ha9 => ?_⟩; walk_at "gn"))
local macro_rules | `(tactic| walk_at "go2") => `(tactic| first
  | (with_reducible refine' Gk.seq ?_)
  | ((with_reducible refine' Gk.var ?hgo ?_); (case hgo => exact rfl))
  | (with_reducible refine' Gk.con ?_)
  | (with_reducible refine' Gk.op ?_)
  | (with_reducible refine' Gk.i0 ?_)
  | (with_reducible refine' Gk.un ?_)
  | ((with_reducible refine' Gk.i1 (C := CMul) ?hgo ?_); (case hgo => first | exact .inl ⟨by decide, by decide⟩ | exact .inr ⟨by decide, by decide⟩ | exact .inl ⟨by omega, by omega⟩ | exact .inr ⟨by omega, by omega⟩))
  | ((with_reducible refine' Gk.i1 (C := CDiv) ?hgo ?_); (case hgo => exact ⟨by omega, by omega⟩))
  | ((with_reducible refine' Gk.i1 (C := CPow) ?hgo ?_); (case hgo => exact ⟨by decide, by decide, by decide⟩))
  | ((with_reducible refine' Gk.i1 (C := fun _ j => 0 < j) ?hgo ?_); (case hgo => show (0 : Int) < _; omega))
  | (with_reducible refine' Gk.u1 ?_)
  | (with_reducible refine' Gk.test ?_)
  | (with_reducible refine' Gk.testB ?_)
  | (with_reducible refine' Gk.asB ?_)
  | (with_reducible refine' K60.eqI ?_)
  | (with_reducible refine' K60.neI ?_)
  | ((with_reducible refine' Gk.eqv ?hgo ?_); (case hgo => exact rfl))
  | ((with_reducible refine' Gk.nev ?hgo ?_); (case hgo => exact rfl))
  | ((with_reducible refine' Gk.ixL ?hgo ?hga ?_); (case hgo => walk_at "sq2"); (case hga => first | exact rfl | assumption))
  | ((with_reducible refine' Gk.ixT ?hgo ?hga ?_); (case hgo => walk_at "sq2"); (case hga => first | exact rfl | assumption))
  | (with_reducible refine' Gk.aNil ?_)
  | (with_reducible refine' Gk.aCons ?_)
  | (with_reducible refine' Gk.cb ?_)
  | (with_reducible refine' Gk.call ?_)
  | (with_reducible refine' Gk.tup ?_)
  | (with_reducible refine' Gk.lst ?_)
  | (with_reducible refine' Gk.ifE ?_)
  | (with_reducible refine' Gk.ifS ?_)
  | (with_reducible refine' Gk.next ?_)
  | (with_reducible refine' Gk.asg ?_)
  | ((with_reducible refine' Gk.gname ?hgo ?_); (case hgo => exact rfl))
  | (with_reducible refine' Gk.gsub ?_)
  | ((with_reducible refine' Gk.setL ?hgo ?hga ?_); (case hgo => first | assumption | exact upd_same); (case hga => first | exact rfl | assumption))
  | (with_reducible refine' Gk.ret ?_)
  | (with_reducible refine' Gk.drop ?_)
  | (with_reducible refine' Gk.par ?_)
  | (with_reducible refine' Gk.andT ?_)
  | (with_reducible refine' Gk.orT ?_)
  | (with_reducible refine' Gk.notT ?_)
  | (with_reducible refine' Gk.abs ?_)
  | (with_reducible refine' Gk.intI ?_)
  | (with_reducible refine' Gk.intB ?_)
  | ((with_reducible refine' Gk.lenL ?hgo ?_); (case hgo => walk_at "sq2"))
  | ((with_reducible refine' Gk.lenT ?hgo ?_); (case hgo => walk_at "sq2"))
  | ((with_reducible refine' K60.lenD ?hgo ?_); (case hgo => assumption))
  | (with_reducible refine' K60.zipA ?_)
  | (with_reducible refine' K60.listI ?_)
  | (with_reducible refine' K60.tupI ?_)
  | (with_reducible refine' K60.dget2 ?_)
  | (with_reducible refine' K60.dget ?_)
  | (with_reducible refine' K60.dput ?_)
  | ((with_reducible refine' K60.aug ?hgo ?_); (case hgo => exact rfl))
  | (with_reducible refine' K60.ipI ?_)
  | (with_reducible refine' K60.newT ?_)
  | (with_reducible refine' Gk.bm ?_)
  | ((with_reducible refine' Gk.tyL ?hgo ?_); (case hgo => first | assumption | exact upd_same))
  | ((with_reducible refine' Gk.gtup ?hgo ?hga ?_); (case hgo => walk_at "sq2"); (case hga => exact rfl))
  | (with_reducible refine' Gk.gcons ?_)
  | (with_reducible refine' Gk.gnil ?_)
  | (with_reducible refine' Gk.sl ?_)
  | (with_reducible refine' Gk.noPart ?_)
  | (with_reducible refine' Gk.part ?_)
  | (with_reducible refine' Gk.partI ?_)
  | (with_reducible refine' Gk.lc ?_)
  | (with_reducible refine' Gk.rng1 ?_)
  | (with_reducible refine' Gk.forS ?_)
  | (with_reducible refine' Gk.isN ?_)
  | (with_reducible refine' Gk.notN ?_)
  | (with_reducible refine' Gk.andV ?_)
  | (with_reducible refine' Gk.orV ?_)
  | (with_reducible refine' Gk.notV ?_)
  | (with_reducible refine' K60.chain ?_)
  | ((with_reducible refine' K60.isiI ?hgo ?_); (case hgo => assumption))
  | ((with_reducible refine' K60.isiBo ?hgo ?_); (case hgo => assumption))
  | ((with_reducible refine' K60.isiT ?hgo ?_); (case hgo => assumption))
  | ((with_reducible refine' Gk.isiB ?hgo ?hga ?_); (case hgo => exact .base (.non)); (case hga => first | exact (show kitB _ _ = some true by decide +kernel) | exact (show kitB _ _ = some false by decide +kernel)))
  | ((with_reducible refine' Gk.isiB ?hgo ?hga ?_); (case hgo => exact .base (.int _)); (case hga => first | exact (show kitB _ _ = some true by decide +kernel) | exact (show kitB _ _ = some false by decide +kernel)))
  | ((with_reducible refine' Gk.isiB ?hgo ?hga ?_); (case hgo => exact .base (.str _)); (case hga => first | exact (show kitB _ _ = some true by decide +kernel) | exact (show kitB _ _ = some false by decide +kernel)))
  | ((with_reducible refine' Gk.isiB ?hgo ?hga ?_); (case hgo => exact .base (.bl _)); (case hga => first | exact (show kitB _ _ = some true by decide +kernel) | exact (show kitB _ _ = some false by decide +kernel)))
  | ((with_reducible refine' Gk.isiB ?hgo ?hga ?_); (case hgo => exact .base (.tup (by assumption))); (case hga => first | exact (show kitB _ _ = some true by decide +kernel) | exact (show kitB _ _ = some false by decide +kernel)))
  | ((with_reducible refine' Gk.isiB ?hgo ?hga ?_); (case hgo => exact .base (.lst (by assumption))); (case hga => first | exact (show kitB _ _ = some true by decide +kernel) | exact (show kitB _ _ = some false by decide +kernel)))
  | ((with_reducible refine' Gk.iteT ?hgo ?_); (case hgo => exact rfl))
  | ((with_reducible refine' Gk.iteF ?hgo ?_); (case hgo => exact rfl))
  | (with_reducible refine' Gk.yes ?_)
  | (dsimp only))

abbrev sLawAtoms : Stmt := top 36
theorem scLawAtoms : FnScope ["well", "found", "k", "pick", "atom"] ["well"] (defScope sLawAtoms) := ⟨rfl, rfl, rfl, by decide +kernel, rfl, by decide +kernel, by decide +kernel⟩
section
variable {P : Program} {w : World} {K : PySem.W.Frag} {mg : Str → Option Value} {base : Heap}
theorem cl_law_atoms (T : Glo mg) (h : Has K mg "_law_atoms" sLawAtoms) (c_LawDraw : Cl P w K mg base "_law_draw" ["well", "many"] 1 spDraw) (c_LawOne : Cl P w K mg base "_law_one" ["well", "some"] 2 spOne) : Cl P w K mg base "_law_atoms" ["well"] 3 spAtoms := by
  obtain ⟨f_LawDraw, fd_LawDraw, m_LawDraw, k_LawDraw, b_LawDraw, G_LawDraw⟩ := c_LawDraw
  obtain ⟨f_LawOne, fd_LawOne, m_LawOne, k_LawOne, b_LawOne, G_LawOne⟩ := c_LawOne
  obtain ⟨f, fd, m_, F⟩ := h
  refine ⟨f, fd, m_, F.kp, F.binds (ps := ["well"]) fun _ _ _ _ _ _ us hl => match us, hl with | [_], _ => rfl, ?_⟩
  refine F.ok scLawAtoms (fun vs H Q E h => ?_) (fun cdv A outer s H vs Q E hr h => ?_)
  · obtain ⟨p, q, t, rfl, _⟩ := h
    rfl
  · obtain ⟨p, q, t, rfl, W, ht, k⟩ := h
    have W0 := W.ex
    refine ⟨_, (pss_cons (ps_set (i := 1) scLawAtoms.nd rfl (Or.inl rfl) (pe_lst pa_nil))
  (pss_cons (ps_for PassesOwn.never rfl (pi_range1 (by rfl) T.range (pa_cons (pe_op op_add pe_int (pe_call G_LawDraw (hr.mono (by omega)) rfl m_LawDraw k_LawDraw b_LawDraw .nil pass0 (pa_cons (pv 0) (pa_cons pe_int pa_nil)))) pa_nil)) (pg_name (i := 2) scLawAtoms.nd rfl (Or.inl rfl))
    (pss_cons (ps_set (i := 3) scLawAtoms.nd rfl (Or.inl rfl) (pe_call G_LawDraw (hr.mono (by omega)) rfl m_LawDraw k_LawDraw b_LawDraw .nil pass0 (pa_cons (pv 0) (pa_cons pe_int pa_nil))))
    (pss_cons (ps_set (i := 4) scLawAtoms.nd rfl (Or.inl rfl) (pe_tup (pa_cons pe_int (pa_cons (pe_op op_sub (pe_call G_LawDraw (hr.mono (by omega)) rfl m_LawDraw k_LawDraw b_LawDraw .nil pass0 (pa_cons (pv 0) (pa_cons pe_int pa_nil))) pe_int) (pa_cons (pe_call G_LawDraw (hr.mono (by omega)) rfl m_LawDraw k_LawDraw b_LawDraw .nil pass0 (pa_cons (pv 0) (pa_cons pe_int pa_nil))) pa_nil)))))
    (Evl.pss_cut (ps_if (pt_cmpR op_eq (pv 3) pe_int (nomark _))
      (pss_one (ps_set (i := 4) scLawAtoms.nd rfl (Or.inl rfl) (pe_tup (pa_cons pe_int (pa_cons (pe_call G_LawDraw (hr.mono (by omega)) rfl m_LawDraw k_LawDraw b_LawDraw .nil pass0 (pa_cons (pv 0) (pa_cons pe_int pa_nil))) (pa_cons (pe_call G_LawDraw (hr.mono (by omega)) rfl m_LawDraw k_LawDraw b_LawDraw .nil pass0 (pa_cons (pv 0) (pa_cons pe_int pa_nil))) pa_nil))))))
      (pss_one (ps_if (pt_cmpR op_eq (pv 3) pe_int (nomark _))
        (pss_one (ps_set (i := 4) scLawAtoms.nd rfl (Or.inl rfl) (pe_call G_LawOne (hr.mono (by omega)) rfl m_LawOne k_LawOne b_LawOne .nil pass0 (pa_cons (pv 0) (pa_cons (pe_lst (pa_cons (pe_tup (pa_cons pe_int (pa_cons (pe_un un_neg pe_int) (pa_cons pe_int pa_nil)))) (pa_cons (pe_tup (pa_cons pe_int (pa_cons pe_int (pa_cons pe_int pa_nil)))) (pa_cons (pe_tup (pa_cons pe_int (pa_cons pe_int (pa_cons pe_int pa_nil)))) (pa_cons (pe_tup (pa_cons pe_int (pa_cons pe_int (pa_cons pe_int pa_nil)))) (pa_cons (pe_tup (pa_cons pe_int (pa_cons pe_int (pa_cons pe_int pa_nil)))) (pa_cons (pe_tup (pa_cons pe_int (pa_cons pe_int (pa_cons pe_int pa_nil)))) pa_nil))))))) pa_nil)))))
        pss_nil)))
    (pss_one (ps_if (pt_cmpR (K60.eNotInD K (K60.un65 hr)) (pv 4) (pv 1) (by rfl))
      (pss_one (ps_expr (Gk.eBm K PySem.F.plainAttrs_list PySem.F.slot_list_append PySem.F.type_list_append mt_append (pv 1) (pa_cons (pv 4) pa_nil))))
      pss_nil))))))
  (pss_one (ps_ret (pe_callB (TriS.cr_sortLT K) (by rfl) T.sorted (by decide +kernel) (pa_cons (pv 1) pa_nil)))))), ?_⟩
    repeat walk_at "go2"
    walk_at "nw"
    rename_i f hf H1 x1 f1
    have W1 : WellAt H1 p q t := W.ex_ x1
    repeat walk_at "go2"
    refine ⟨p, q, 8, t, rfl, W1, by decide, by decide, by omega, fun H2 n n0 n1 W2 b2 => ?_⟩
    repeat walk_at "go2"
    have fp : f ≠ p := fun z => by
      subst z
      obtain ⟨_, _, _, h, _⟩ := W0
      rw [hf] at h
      cases h
    have fq : f ≠ q := fun z => by
      subst z
      obtain ⟨_, _, _, _, h, _⟩ := W0
      rw [hf] at h
      cases h
    have hn1 : (((2 + n).toNat : Nat) : Int) = 2 + n := by omega
    refine ⟨2 + n, rfl, by omega, by omega, Gk.forR (lo := 0) (n := (2 + n).toNat) (fun i σ' H' => (∃ (u v y : Option V), σ' = [some (.ref p), some (.ref f), u, v, y]) ∧ WellAt H' p q (t + 1 + 6 * i) ∧ But p q H H' ∧
      ∃ L : List (Addr × Tri), H' f = some (.lst (L.map fun z => V.ref z.1)) ∧ (∀ z ∈ L, H' z.1 = some (.tup (triV z.2))) ∧ (L.map (·.2)).Nodup ∧ (∀ z ∈ L, isAtom (triD z.2) = true) ∧ L.length ≤ i ∧ (0 < i → 1 ≤ L.length)) ?_ ?_ ?_⟩
    · exact ⟨⟨none, none, none, rfl⟩, W2, (But.ex x1).trans b2, [], b2 _ _ fp fq f1, fun z hz => (by cases hz), List.nodup_nil, fun z hz => (by cases hz), Nat.le_refl 0, fun h => absurd h (Nat.lt_irrefl 0)⟩
    · rintro i σ' H3 hi ⟨⟨u, v, y, rfl⟩, W3, b3, L, hL, htu, hnd, hok, hle, hpo⟩
      repeat walk_at "go2"
      refine ⟨p, q, 5, _, rfl, W3, by decide, by decide, by omega, fun H4 pick p0 p1 W4 b4 => ?_⟩
      repeat walk_at "go2"
      refine ⟨p, q, 401, _, rfl, W4, by decide, by decide, by omega, fun H5 va va0 va1 W5 b5 => ?_⟩
      repeat walk_at "go2"
      refine ⟨p, q, 13, _, rfl, W5, by decide, by decide, by omega, fun H6 vb vb0 vb1 W6 b6 => ?_⟩
      repeat walk_at "go2"
      walk_at "nw"
      rename_i a1 ha1 H7 x7 g7
      repeat walk_at "go2"
      have b7 : But p q H3 H7 := b4.trans (b5.trans (b6.trans (But.ex x7)))
      have W7 : WellAt H7 p q (t + 1 + 6 * i + 3) := W6.ex_ x7
      refine ⟨fun σ1 H1 => ∃ (u v : Option V) (a : Addr) (c : Tri), σ1 = [some (.ref p), some (.ref f), u, v, some (.ref a)] ∧ H1 a = some (.tup (triV c)) ∧ isAtom (triD c) = true ∧ WellAt H1 p q (t + 1 + 6 * (i + 1)) ∧ But p q H3 H1, ?_, ?_⟩
      · repeat walk_at "go2"
        refine Gk.iteQ (fun h1 => ?_) (fun h1 => ?_)
        · repeat walk_at "go2"
          refine ⟨p, q, 240, _, rfl, W7, by decide, by decide, by omega, fun H8 vc vc0 vc1 W8 b8 => ?_⟩
          repeat walk_at "go2"
          refine ⟨p, q, 4, _, rfl, W8, by decide, by decide, by omega, fun H9 vd vd0 vd1 W9 b9 => ?_⟩
          repeat walk_at "go2"
          walk_at "nw"
          rename_i a2 ha2 H10 x10 g10
          repeat walk_at "go2"
          exact ⟨_, _, a2, (1, vc, vd), rfl, g10, atom_s vc0 (by omega) vd0 (by omega), (W9.ex_ x10).le (by omega), b7.trans (b8.trans (b9.trans (But.ex x10)))⟩
        repeat walk_at "go2"
        refine Gk.iteQ (fun h2 => ?_) (fun h2 => ?_)
        · repeat walk_at "go2"
          walk_at "nw"
          rename_i c0 hc0 G0 y0 e0
          repeat walk_at "go2"
          walk_at "nw"
          rename_i c1 hc1 G1 y1 e1
          repeat walk_at "go2"
          walk_at "nw"
          rename_i c2 hc2 G2 y2 e2
          repeat walk_at "go2"
          walk_at "nw"
          rename_i c3 hc3 G3 y3 e3
          repeat walk_at "go2"
          walk_at "nw"
          rename_i c4 hc4 G4 y4 e4
          repeat walk_at "go2"
          walk_at "nw"
          rename_i c5 hc5 G5 y5 e5
          repeat walk_at "go2"
          walk_at "nw"
          rename_i c6 hc6 G6 y6 e6
          repeat walk_at "go2"
          have xG : Ex H7 G6 := y0.trans (y1.trans (y2.trans (y3.trans (y4.trans (y5.trans y6)))))
          have WG := W7.ex_ xG
          obtain ⟨n1_, n2_⟩ := (W7.ex_ (y0.trans (y1.trans (y2.trans (y3.trans (y4.trans y5)))))).neNew hc6
          refine ⟨p, q, c6, _, _, rfl, WG, by omega, e6, n1_, n2_, by show 1 ≤ 6; decide, by show 6 ≤ 1000; decide, fun H8 j v hv W8 b8 => ?_⟩
          have t8 := WG.tx b8
          repeat walk_at "go2"
          have bb : But p q H3 H8 := b7.trans ((But.ex xG).trans b8)
          match j, hv with
          | 0, hv =>
            cases hv
            exact ⟨_, _, c0, (0, -1, 12), rfl, by walk_at "lf", by decide, W8.le (by omega), bb⟩
          | 1, hv =>
            cases hv
            exact ⟨_, _, c1, (0, 399, 1), rfl, by walk_at "lf", by decide, W8.le (by omega), bb⟩
          | 2, hv =>
            cases hv
            exact ⟨_, _, c2, (0, 0, 0), rfl, by walk_at "lf", by decide, W8.le (by omega), bb⟩
          | 3, hv =>
            cases hv
            exact ⟨_, _, c3, (1, 0, 3), rfl, by walk_at "lf", by decide, W8.le (by omega), bb⟩
          | 4, hv =>
            cases hv
            exact ⟨_, _, c4, (1, 239, 0), rfl, by walk_at "lf", by decide, W8.le (by omega), bb⟩
          | 5, hv =>
            cases hv
            exact ⟨_, _, c5, (0, 399, 12), rfl, by walk_at "lf", by decide, W8.le (by omega), bb⟩
          | j + 6, hv => cases hv
        · repeat walk_at "go2"
          exact ⟨_, _, a1, (0, va - 1, vb), rfl, g7, atom_v (by omega) (by omega) vb0 (by omega), W7.le (by omega), b7⟩
      · rintro σ1 H8 ⟨u, v, a, c, rfl, ha, hc, W8, b8⟩
        repeat walk_at "go2"
        have hf8 := b8 _ _ fp fq hL
        have T8 := W3.tx b8
        have hall : DpAll K H8 (L.map fun z => V.ref z.1) ((L.map (·.2)).map triD) := by
          have go : ∀ M : List (Addr × Tri), (∀ z ∈ M, H3 z.1 = some (.tup (triV z.2))) → DpAll K H8 (M.map fun z => V.ref z.1) ((M.map (·.2)).map triD) := by
            intro M
            induction M with
            | nil => exact fun _ => .nil
            | cons z M ih => exact fun hM => .cons (Tk.dp _ _ (Tk.mkTri (T8 _ _ (hM z List.mem_cons_self)))) (ih fun y hy => hM y (List.mem_cons_of_mem _ hy))
          exact go L htu
        refine ⟨triD c, (L.map (·.2)).map triD, Tk.dp _ _ (Tk.mkTri ha), .lst (SqL.of hf8) hall, shaped_tri c, shaped_tris _, ?_⟩
        have hev : (((L.map (·.2)).map triD).any fun z => PyData.eqv z (triD c)) = decide (c ∈ L.map (·.2)) := by
          rw [List.any_map]
          by_cases z : c ∈ L.map (·.2)
          · rw [decide_eq_true z]
            exact List.any_eq_true.mpr ⟨c, z, by show PyData.eqv (triD c) (triD c) = true; rw [eqv_tri]; simp⟩
          · rw [decide_eq_false z]
            refine List.any_eq_false.mpr fun y hy e => z ?_
            have e2 : PyData.eqv (triD y) (triD c) = true := e
            rw [eqv_tri] at e2
            rw [← of_decide_eq_true e2]
            exact hy
        rw [hev]
        repeat walk_at "go2"
        refine Gk.iteQ (fun h3 => ?_) (fun h3 => ?_)
        · have hm : c ∉ L.map (·.2) := of_decide_eq_false (bnot h3)
          repeat walk_at "go2"
          refine Gk.app hf8 (by rw [List.length_map, sizeLine_eq]; omega) ?_
          have tt := Tx.lst (o := .lst (L.map (fun z => V.ref z.1) ++ [V.ref a])) hf8
          refine ⟨⟨_, _, _, rfl⟩, W8.mut fp fq, (b3.trans b8).mut hf, L ++ [(a, c)], ?_, fun z hz => ?_, ?_, fun z hz => ?_, ?_, fun _ => ?_⟩
          · rw [upd_same, List.map_append]
            rfl
          · rcases List.mem_append.mp hz with e | e
            · exact tt _ _ (T8 _ _ (htu z e))
            · rw [List.mem_singleton.mp e]
              exact tt _ _ ha
          · rw [List.map_append]
            refine List.nodup_append.mpr ⟨hnd, List.pairwise_singleton _ _, fun x hx y hy => ?_⟩
            have hy : y = c := List.mem_singleton.mp hy
            rw [hy]
            exact fun e => hm (e ▸ hx)
          · rcases List.mem_append.mp hz with e | e
            · exact hok z e
            · rw [List.mem_singleton.mp e]
              exact hc
          · rw [List.length_append]
            show L.length + 1 ≤ i + 1
            omega
          · rw [List.length_append]
            show 1 ≤ L.length + 1
            omega
        · have hm : c ∈ L.map (·.2) := of_decide_eq_true (bnotF h3)
          repeat walk_at "go2"
          refine ⟨⟨_, _, _, rfl⟩, W8, b3.trans b8, L, hf8, fun z hz => T8 _ _ (htu z hz), hnd, hok, by omega, fun _ => ?_⟩
          have := List.length_pos_of_mem hm
          rw [List.length_map] at this
          exact this
    · rintro σ' H3 ⟨⟨u, v, y, rfl⟩, W3, b3, L, hL, htu, hnd, hok, hle, hpo⟩
      repeat walk_at "go2"
      refine ⟨f, L, rfl, SqL.of hL, htu, fun r M hM hs hr => ?_⟩
      have hmem : ∀ z ∈ M, z ∈ L := fun z hz => hM.mem_iff.mp hz
      have xr : Ex H3 (upd H3 r (.lst (M.map fun z => V.ref z.1))) := Ex.new hr
      obtain ⟨r1, r2⟩ := W3.neNew hr
      have hl2 := hM.length_eq
      refine k _ r M ⟨upd_same, r1, r2, fun z hz => xr _ _ (htu z (hmem z hz)), ?_, fun z hz => hok z (hmem z hz), by omega⟩ (by have := hpo (by omega); omega) ((W3.ex_ xr).le (by omega)) (b3.trans (But.ex xr))
      have nd : (M.map (·.2)).Nodup := (hM.map (·.2)).nodup_iff.mpr hnd
      exact (hs.and nd).imp fun {x y} h => ltT_strict h.1 h.2
end
end K60
namespace K60
open PySem L2 TriS
open Evl (Ex)
def bigN : Nat := 6000000000000000000000000000000
structure FormOk (l : List Tri) (f : Form) : Prop where
  c : f.1.natAbs ≤ bigN
  ks : (f.2.map (·.1)).Sublist l
  t : ∀ t ∈ f.2, t.2 ≠ 0 ∧ t.2.natAbs ≤ bigN
def spForm : Sp := fun vs H Q _ => ∃ (p q l : Addr) (t : Nat) (L : List (Addr × Tri)), vs = [.ref p, .ref l] ∧ WellAt H p q t ∧ AtomsAt H p q l L ∧ t ≤ 8000000 ∧
  ∀ (H' : Hp) (v : V) (f : Form), Tk H' v (formD f) → FormOk (L.map (·.2)) f → WellAt H' p q (t + 50) → But p q H H' → Q v H'
theorem big_abs {x : Int} (h1 : -big ≤ x) (h2 : x ≤ big) : x.natAbs ≤ bigN := by
  unfold big at h1 h2
  unfold bigN
  omega
theorem Tk.mkTerm {H : Hp} {b c : Addr} {t : Tri × Int} (h : H b = some (.tup [.ref c, .int t.2])) (h2 : H c = some (.tup (triV t.1))) : Tk H (.ref b) (termD t) := .tup h (.cons (Tk.mkTri h2) (.cons (.int _) .nil))
local macro_rules | `(tactic| walk_at "ex") => `(tactic| first | assumption | exact Evl.Ex.refl _ | (refine' Evl.Ex.trans (by assumption) ?_; walk_at "ex"))
local macro_rules | `(tactic| walk_at "tx") => `(tactic| first | assumption | exact K60.Tx.of_ex (by assumption) | (refine' K60.Tx.trans (by assumption) ?_; walk_at "tx") | (refine' K60.Tx.trans (K60.Tx.of_ex (by assumption)) ?_; walk_at "tx"))
local macro_rules | `(tactic| walk_at "lf") => `(tactic| first | assumption | (refine' K60.exGet ?hx9 ?hy9; (case hy9 => assumption); (case hx9 => walk_at "ex")) | (refine' K60.txGet ?hx9 ?hy9; (case hy9 => assumption); (case hx9 => walk_at "tx")))
local macro_rules | `(tactic| walk_at "sq2") => `(tactic| first | assumption | (refine' SqL.of ?hq9; (case hq9 => walk_at "lf")) | (refine' SqT.of ?hq9; (case hq9 => walk_at "lf")))
local macro_rules | `(tactic| walk_at "gn") => `(tactic| (generalize hh : upd _ _ _ = H9 at *; obtain ⟨xe9, h9⟩ := K60.newAt (by assumption) hh; clear hh))
local macro_rules | `(tactic| walk_at "nw") => `(tactic| (refine' ⟨by show _ ≤ sizeLine; first | decide | (simp only [List.length_cons, List.length_nil, List.length_map, List.length_append, sizeLine_eq]; omega), fun a9 ha9 => ?_⟩; walk_at "gn"))
local macro_rules | `(tactic| walk_at "go2") => `(tactic| first
  | (with_reducible refine' Gk.seq ?_)
  | ((with_reducible refine' Gk.var ?hgo ?_); (case hgo => exact rfl))
  | (with_reducible refine' Gk.con ?_)
  | (with_reducible refine' Gk.op ?_)
  | (with_reducible refine' Gk.i0 ?_)
  | (with_reducible refine' Gk.un ?_)
  | ((with_reducible refine' Gk.i1 (C := CMul) ?hgo ?_); (case hgo => first | exact .inl ⟨by decide, by decide⟩ | exact .inr ⟨by decide, by decide⟩ | exact .inl ⟨by omega, by omega⟩ | exact .inr ⟨by omega, by omega⟩))
  | ((with_reducible refine' Gk.i1 (C := CDiv) ?hgo ?_); (case hgo => exact ⟨by omega, by omega⟩))
  | ((with_reducible refine' Gk.i1 (C := CPow) ?hgo ?_); (case hgo => exact ⟨by decide, by decide, by decide⟩))
  | ((with_reducible refine' Gk.i1 (C := fun _ j => 0 < j) ?hgo ?_); (case hgo => show (0 : Int) < _; omega))
  | (with_reducible refine' Gk.u1 ?_)
  | (with_reducible refine' Gk.test ?_)
  | (with_reducible refine' Gk.testB ?_)
  | (with_reducible refine' Gk.asB ?_)
  | (with_reducible refine' K60.eqI ?_)
  | (with_reducible refine' K60.neI ?_)
  | ((with_reducible refine' Gk.eqv ?hgo ?_); (case hgo => exact rfl))
  | ((with_reducible refine' Gk.nev ?hgo ?_); (case hgo => exact rfl))
  | ((with_reducible refine' Gk.ixL ?hgo ?hga ?_); (case hgo => walk_at "sq2"); (case hga => first | exact rfl | assumption))
  | ((with_reducible refine' Gk.ixT ?hgo ?hga ?_); (case hgo => walk_at "sq2"); (case hga => first | exact rfl | assumption))
  | (with_reducible refine' Gk.aNil ?_)
  | (with_reducible refine' Gk.aCons ?_)
  | (with_reducible refine' Gk.cb ?_)
  | (with_reducible refine' Gk.call ?_)
  | (with_reducible refine' Gk.tup ?_)
  | (with_reducible refine' Gk.lst ?_)
  | (with_reducible refine' Gk.ifE ?_)
  | (with_reducible refine' Gk.ifS ?_)
  | (with_reducible refine' Gk.next ?_)
  | (with_reducible refine' Gk.asg ?_)
  | ((with_reducible refine' Gk.gname ?hgo ?_); (case hgo => exact rfl))
  | (with_reducible refine' Gk.gsub ?_)
  | ((with_reducible refine' Gk.setL ?hgo ?hga ?_); (case hgo => first | assumption | exact upd_same); (case hga => first | exact rfl | assumption))
  | (with_reducible refine' Gk.ret ?_)
  | (with_reducible refine' Gk.drop ?_)
  | (with_reducible refine' Gk.par ?_)
  | (with_reducible refine' Gk.andT ?_)
  | (with_reducible refine' Gk.orT ?_)
  | (with_reducible refine' Gk.notT ?_)
  | (with_reducible refine' Gk.abs ?_)
  | (with_reducible refine' Gk.intI ?_)
  | (with_reducible refine' Gk.intB ?_)
  | ((with_reducible refine' Gk.lenL ?hgo ?_); (case hgo => walk_at "sq2"))
  | ((with_reducible refine' Gk.lenT ?hgo ?_); (case hgo => walk_at "sq2"))
  | ((with_reducible refine' K60.lenD ?hgo ?_); (case hgo => assumption))
  | (with_reducible refine' K60.zipA ?_)
  | (with_reducible refine' K60.listI ?_)
  | (with_reducible refine' K60.tupI ?_)
  | (with_reducible refine' K60.dget2 ?_)
  | (with_reducible refine' K60.dget ?_)
  | (with_reducible refine' K60.dput ?_)
  | ((with_reducible refine' K60.aug ?hgo ?_); (case hgo => exact rfl))
  | (with_reducible refine' K60.ipI ?_)
  | (with_reducible refine' K60.newT ?_)
  | (with_reducible refine' Gk.bm ?_)
  | ((with_reducible refine' Gk.tyL ?hgo ?_); (case hgo => first | assumption | exact upd_same))
  | ((with_reducible refine' Gk.gtup ?hgo ?hga ?_); (case hgo => walk_at "sq2"); (case hga => exact rfl))
  | (with_reducible refine' Gk.gcons ?_)
  | (with_reducible refine' Gk.gnil ?_)
  | (with_reducible refine' Gk.sl ?_)
  | (with_reducible refine' Gk.noPart ?_)
  | (with_reducible refine' Gk.part ?_)
  | (with_reducible refine' Gk.partI ?_)
  | (with_reducible refine' Gk.lc ?_)
  | (with_reducible refine' Gk.rng1 ?_)
  | (with_reducible refine' Gk.forS ?_)
  | (with_reducible refine' Gk.isN ?_)
  | (with_reducible refine' Gk.notN ?_)
  | (with_reducible refine' Gk.andV ?_)
  | (with_reducible refine' Gk.orV ?_)
  | (with_reducible refine' Gk.notV ?_)
  | (with_reducible refine' K60.chain ?_)
  | ((with_reducible refine' K60.isiI ?hgo ?_); (case hgo => assumption))
  | ((with_reducible refine' K60.isiBo ?hgo ?_); (case hgo => assumption))
  | ((with_reducible refine' K60.isiT ?hgo ?_); (case hgo => assumption))
  | ((with_reducible refine' Gk.isiB ?hgo ?hga ?_); (case hgo => exact .base (.non)); (case hga => first | exact (show kitB _ _ = some true by decide +kernel) | exact (show kitB _ _ = some false by decide +kernel)))
  | ((with_reducible refine' Gk.isiB ?hgo ?hga ?_); (case hgo => exact .base (.int _)); (case hga => first | exact (show kitB _ _ = some true by decide +kernel) | exact (show kitB _ _ = some false by decide +kernel)))
  | ((with_reducible refine' Gk.isiB ?hgo ?hga ?_); (case hgo => exact .base (.str _)); (case hga => first | exact (show kitB _ _ = some true by decide +kernel) | exact (show kitB _ _ = some false by decide +kernel)))
  | ((with_reducible refine' Gk.isiB ?hgo ?hga ?_); (case hgo => exact .base (.bl _)); (case hga => first | exact (show kitB _ _ = some true by decide +kernel) | exact (show kitB _ _ = some false by decide +kernel)))
  | ((with_reducible refine' Gk.isiB ?hgo ?hga ?_); (case hgo => exact .base (.tup (by assumption))); (case hga => first | exact (show kitB _ _ = some true by decide +kernel) | exact (show kitB _ _ = some false by decide +kernel)))
  | ((with_reducible refine' Gk.isiB ?hgo ?hga ?_); (case hgo => exact .base (.lst (by assumption))); (case hga => first | exact (show kitB _ _ = some true by decide +kernel) | exact (show kitB _ _ = some false by decide +kernel)))
  | ((with_reducible refine' Gk.iteT ?hgo ?_); (case hgo => exact rfl))
  | ((with_reducible refine' Gk.iteF ?hgo ?_); (case hgo => exact rfl))
  | (with_reducible refine' Gk.yes ?_)
  | (dsimp only))

abbrev sLawDrawnForm : Stmt := top 37
theorem scLawDrawnForm : FnScope ["well", "atoms", "terms", "atom", "term"] ["well", "atoms"] (defScope sLawDrawnForm) := ⟨rfl, rfl, rfl, by decide +kernel, rfl, by decide +kernel, by decide +kernel⟩
section
variable {P : Program} {w : World} {K : PySem.W.Frag} {mg : Str → Option Value} {base : Heap}
theorem cl_law_drawn_form (T : Glo mg) (h : Has K mg "_law_drawn_form" sLawDrawnForm) (c_LawDraw : Cl P w K mg base "_law_draw" ["well", "many"] 1 spDraw) (c_LawBy : Cl P w K mg base "_law_by" ["well"] 2 spBy) : Cl P w K mg base "_law_drawn_form" ["well", "atoms"] 3 spForm := by
  obtain ⟨f_LawDraw, fd_LawDraw, m_LawDraw, k_LawDraw, b_LawDraw, G_LawDraw⟩ := c_LawDraw
  obtain ⟨f_LawBy, fd_LawBy, m_LawBy, k_LawBy, b_LawBy, G_LawBy⟩ := c_LawBy
  obtain ⟨f, fd, m_, F⟩ := h
  refine ⟨f, fd, m_, F.kp, F.binds (ps := ["well", "atoms"]) fun _ _ _ _ _ _ us hl => match us, hl with | [_, _], _ => rfl, ?_⟩
  refine F.ok scLawDrawnForm (fun vs H Q E h => ?_) (fun cdv A outer s H vs Q E hr h => ?_)
  · obtain ⟨p, q, l, t, L, rfl, _⟩ := h
    rfl
  · obtain ⟨p, q, l, t, L, rfl, W, A_, ht, k⟩ := h
    refine ⟨_, (pss_cons (ps_setLc (i := 2) (own := [("atom", 3)]) (g := gName 3) (tt := _) rfl scLawDrawnForm.nd rfl rfl (sw_true rfl rfl rfl (by decide +kernel)) (Gk.ePiL K (pv 1)) (blkOk_by (N := ["well", "atoms", "terms", "atom", "term"]) (sc := defScope sLawDrawnForm) (by decide +kernel)) (fun _ _ _ _ _ => pg_name (i := 3) scLawDrawnForm.nd rfl (Or.inl rfl)) (fun _ _ _ _ _ => (pts_one (pt_cmpR op_eq (pe_call G_LawDraw (hr.mono (by omega)) rfl m_LawDraw k_LawDraw b_LawDraw .nil pass0 (pa_cons (pv 0) (pa_cons pe_int pa_nil))) pe_int (nomark _)))) (fun _ _ _ _ _ => (pe_tup (pa_cons (pv 3) (pa_cons (pe_call G_LawBy (hr.mono (by omega)) rfl m_LawBy k_LawBy b_LawBy .nil pass0 (pa_cons (pv 0) pa_nil)) pa_nil)))))
  (pss_one (ps_ret (pe_tup (pa_cons (pe_call G_LawBy (hr.mono (by omega)) rfl m_LawBy k_LawBy b_LawBy .nil pass0 (pa_cons (pv 0) pa_nil)) (pa_cons (pe_callTy (K60.eTupOf K) (by rfl) T.tuple (by decide +kernel) (pa_cons (pe_lc (own := [("term", 4)]) (g := gName 4) (tt := _) rfl scLawDrawnForm.nd (Gk.ePiL K (pv 2)) (blkOk_by (N := ["well", "atoms", "terms", "atom", "term"]) (sc := defScope sLawDrawnForm) (by decide +kernel)) (fun _ _ _ _ _ => pg_name (i := 4) scLawDrawnForm.nd rfl (Or.inl rfl)) (fun _ _ _ _ _ => (pts_one (pt_cmpR op_ne (pe_ix (Gk.eIxT K) (pv 4) pe_int (fun _ _ => rfl)) pe_int (nomark _)))) (fun _ _ _ _ _ => (pv 4))) pa_nil)) pa_nil)))))), ?_⟩
    repeat walk_at "go2"
    refine ⟨l, rfl, ⟨_, SqL.of A_.hl⟩, fun D hD => lc_list (xs := L.map fun z => V.ref z.1) (fun i H' => ∃ (acc : List V) (ts : Tab), H' D = some (.lst acc) ∧ TkAll H' acc (ts.map termD) ∧ (ts.map (·.1)).Sublist ((L.map (·.2)).take i) ∧
      (∀ z ∈ ts, z.2.natAbs ≤ bigN) ∧ WellAt H' p q (t + 4 * i) ∧ But p q H H') ?_ (fun i H' _ h => by
        obtain ⟨_, _, _, _, _, _, _, b⟩ := h
        exact SqL.of (A_.but W b).hl) ?_ ?_⟩
    · exact ⟨[], [], upd_same, .nil, List.nil_sublist _, fun z hz => (by cases hz), W.ex_ (Ex.new hD), But.ex (Ex.new hD)⟩
    · rintro i x H1 hx ⟨acc, ts, hacc, tk, hsub, hb, W1, b1⟩
      rw [List.getElem?_map] at hx
      obtain ⟨⟨a, c⟩, hc, rfl⟩ := Option.map_eq_some_iff.mp hx
      have hi := (List.getElem?_eq_some_iff.mp hc).1
      have hlen := A_.len
      have A1 := A_.but W b1
      have ha := A1.ha _ (List.mem_of_getElem? hc)
      obtain ⟨dp, dq⟩ := W.neNew hD
      have hac : acc.length ≤ 9 := by
        have e1 := TkAll.len tk
        have e2 := hsub.length_le
        rw [List.length_map] at e1 e2
        rw [List.length_take, List.length_map] at e2
        omega
      repeat walk_at "go2"
      refine ⟨rfl, ?_⟩
      repeat walk_at "go2"
      refine ⟨p, q, 2, _, rfl, W1, by decide, by decide, by omega, fun H2 n n0 n1 W2 b2 => ?_⟩
      have t2 := W1.tx b2
      have et : (L.map (·.2)).take (i + 1) = (L.map (·.2)).take i ++ [c] := take_one (by rw [List.getElem?_map, hc]; rfl)
      repeat walk_at "go2"
      refine Gk.iteQ (fun h1 => ?_) (fun h1 => ?_)
      · repeat walk_at "go2"
        refine ⟨p, q, _, rfl, W2, by omega, fun H3 y y0 y1 W3 b3 => ?_⟩
        have t3 := W2.tx b3
        repeat walk_at "go2"
        walk_at "nw"
        rename_i r hr H4 x4 g4
        have hacc4 := x4 _ _ (b3 _ _ dp dq (b2 _ _ dp dq hacc))
        have tt := Tx.lst (o := .lst (acc ++ [V.ref r])) hacc4
        have ha4 : H4 a = some (.tup (triV c)) := by walk_at "lf"
        refine ⟨acc, hacc4, by rw [sizeLine_eq]; omega, acc ++ [V.ref r], ts ++ [(c, y)], upd_same, ?_, ?_, ?_, ((W3.ex_ x4).mut dp dq).le (by omega), (b1.trans (b2.trans (b3.trans (But.ex x4)))).mut hD⟩
        · rw [List.map_append]
          refine TkAll.snoc (Tk.monoAll (Tx.trans t2 (Tx.trans t3 (Tx.trans (Tx.of_ex x4) tt))) _ _ tk) ?_
          exact Tk.mkTerm (tt _ _ g4) (tt _ _ ha4)
        · rw [List.map_append, et]
          exact hsub.append (List.Sublist.refl _)
        · intro z hz
          rcases List.mem_append.mp hz with e | e
          · exact hb z e
          · rw [List.mem_singleton.mp e]
            exact big_abs y0 y1
      · refine ⟨acc, ts, b2 _ _ dp dq hacc, Tk.monoAll t2 _ _ tk, ?_, hb, W2.le (by omega), b1.trans b2⟩
        rw [et]
        exact hsub.trans (List.sublist_append_left _ _)
    · rintro H1 ⟨acc, ts, hacc, tk, hsub, hb, W1, b1⟩
      rw [List.length_map] at hsub W1
      have el : (L.map (·.2)).take L.length = L.map (·.2) := List.take_of_length_le (by rw [List.length_map]; omega)
      rw [el] at hsub
      have hlen := A_.len
      obtain ⟨dp, dq⟩ := W.neNew hD
      have lts : ts.length ≤ 9 := by
        have := hsub.length_le
        rw [List.length_map, List.length_map] at this
        omega
      have lac : acc.length = ts.length := by
        have := TkAll.len tk
        rw [List.length_map] at this
        exact this
      repeat walk_at "go2"
      refine ⟨p, q, _, rfl, W1, by omega, fun H2 y y0 y1 W2 b2 => ?_⟩
      have t2 := W1.tx b2
      have hacc2 := b2 _ _ dp dq hacc
      have tk2 := Tk.monoAll t2 _ _ tk
      repeat walk_at "go2"
      refine ⟨D, rfl, ⟨_, SqL.of hacc2⟩, fun D2 hD2 => lc_list (xs := acc) (fun i H' => ∃ (out : List V) (ps : Tab), H' D2 = some (.lst out) ∧ TkAll H' out (ps.map termD) ∧ ps.Sublist (ts.take i) ∧ (∀ z ∈ ps, z.2 ≠ 0) ∧ Ex H2 H') ?_ (fun i H' _ h => by
        obtain ⟨_, _, _, _, _, _, b⟩ := h
        exact SqL.of (b _ _ hacc2)) ?_ ?_⟩
      · exact ⟨[], [], upd_same, .nil, List.nil_sublist _, fun z hz => (by cases hz), Ex.new hD2⟩
      · rintro i x H3 hx ⟨out, ps, hout, tko, hs2, hz2, x3⟩
        have hi := (List.getElem?_eq_some_iff.mp hx).1
        obtain ⟨tm, htm⟩ : ∃ tm, ts[i]? = some tm := ⟨ts[i], List.getElem?_eq_getElem (by omega)⟩
        obtain ⟨v, q1, g1⟩ := TkAll.get tk2 i (termD tm) (by rw [List.getElem?_map, htm]; rfl)
        rw [hx] at q1
        cases q1
        obtain ⟨b, c, rfl, hb2, hc2⟩ := Tk.term g1
        have hb3 := x3 _ _ hb2
        have hc3 := x3 _ _ hc2
        have lo : out.length ≤ 9 := by
          have e1 := TkAll.len tko
          have e2 := hs2.length_le
          rw [List.length_map] at e1
          rw [List.length_take] at e2
          omega
        repeat walk_at "go2"
        refine ⟨rfl, ?_⟩
        repeat walk_at "go2"
        have et := take_one htm
        refine Gk.iteQ (fun h1 => ?_) (fun h1 => ?_)
        · repeat walk_at "go2"
          have tt := Tx.lst (o := .lst (out ++ [V.ref b])) hout
          refine ⟨out, hout, by rw [sizeLine_eq]; omega, out ++ [V.ref b], ps ++ [tm], upd_same, ?_, ?_, ?_, Ex.mut x3 hD2⟩
          · rw [List.map_append]
            exact TkAll.snoc (Tk.monoAll tt _ _ tko) (Tk.mkTerm (tt _ _ hb3) (tt _ _ hc3))
          · rw [et]
            exact hs2.append (List.Sublist.refl _)
          · intro z hz
            rcases List.mem_append.mp hz with e | e
            · exact hz2 z e
            · rw [List.mem_singleton.mp e]
              exact fun z0 => by rw [z0] at h1; cases h1
        · refine ⟨out, ps, hout, tko, ?_, hz2, x3⟩
          rw [et]
          exact hs2.trans (List.sublist_append_left _ _)
      · rintro H3 ⟨out, ps, hout, tko, hs2, hz2, x3⟩
        have hs3 : ps.Sublist ts := hs2.trans (List.take_sublist _ _)
        repeat walk_at "go2"
        refine ⟨D2, out, rfl, .inl ⟨SqL.of hout, fun u hu => ?_⟩⟩
        walk_at "gn"
        rename_i H4 x4 g4
        repeat walk_at "go2"
        walk_at "nw"
        rename_i r hr H5 x5 g5
        repeat walk_at "go2"
        refine k H5 _ (y, ps) ?_ ⟨big_abs y0 y1, (hs3.map _).trans hsub, fun z hz => ⟨hz2 z hz, hb z (hs3.mem hz)⟩⟩ ((W2.ex_ (x3.trans (x4.trans x5))).le (by omega)) (b1.trans (b2.trans (But.ex (x3.trans (x4.trans x5)))))
        exact .tup g5 (.cons (.int _) (.cons (.tup (x5 _ _ g4) (Tk.monoAll (Tx.of_ex (x4.trans x5)) _ _ tko)) .nil))
end
end K60
/-! plain: forms over atoms, their bounds -/
namespace K60
open PySem L2 TriS
structure FormIn (l : List Tri) (N : Nat) (f : Form) : Prop where
  c : f.1.natAbs ≤ N
  t : ∀ t ∈ f.2, t.1 ∈ l ∧ t.2 ≠ 0 ∧ t.2.natAbs ≤ N
  up : (f.2.map (·.1)).Pairwise fun x y => ltT x y = true
theorem FormOk.inn {l : List Tri} {f : Form} (h : FormOk l f) (hl : l.Pairwise fun x y => ltT x y = true) : FormIn l bigN f :=
  ⟨h.c, fun t ht => ⟨h.ks.mem (List.mem_map_of_mem ht), h.t t ht⟩, hl.sublist h.ks⟩
theorem FormIn.form {l : List Tri} {N : Nat} {f : Form} (h : FormIn l N f) (hl : ∀ a ∈ l, isAtom (triD a) = true) : isForm (formD f) = true :=
  form_ok (fun t ht => ⟨hl _ (h.t t ht).1, (h.t t ht).2.1⟩) h.up
theorem nodup_sub : ∀ {l m : List Tri}, l.Nodup → (∀ x ∈ l, x ∈ m) → l.length ≤ m.length
  | [], _, _, _ => Nat.zero_le _
  | x :: l, m, hn, hs => by
    obtain ⟨h1, h2⟩ := List.nodup_cons.mp hn
    have hx := hs x List.mem_cons_self
    have ih := nodup_sub (m := m.erase x) h2 fun y hy => by
      have hne : y ≠ x := fun e => h1 (e ▸ hy)
      exact (List.mem_erase_of_ne hne).mpr (hs y (List.mem_cons_of_mem _ hy))
    rw [List.length_erase_of_mem hx] at ih
    have := List.length_pos_of_mem hx
    show l.length + 1 ≤ m.length
    omega
theorem FormIn.len {l : List Tri} {N : Nat} {f : Form} (h : FormIn l N f) : f.2.length ≤ l.length := by
  have := nodup_sub (up_nodup h.up) (m := l) fun x hx => by
    obtain ⟨t, ht, e⟩ := List.mem_map.mp hx
    rw [← e]
    exact (h.t t ht).1
  rw [List.length_map] at this
  exact this
theorem FormIn.nd {l : List Tri} {N : Nat} {f : Form} (h : FormIn l N f) : (f.2.map (·.1)).Nodup := up_nodup h.up
theorem FormIn.mono {l m : List Tri} {N M : Nat} {f : Form} (h : FormIn l N f) (hl : ∀ a ∈ l, a ∈ m) (hN : N ≤ M) : FormIn m M f :=
  ⟨Nat.le_trans h.c hN, fun t ht => ⟨hl _ (h.t t ht).1, (h.t t ht).2.1, Nat.le_trans (h.t t ht).2.2 hN⟩, h.up⟩
theorem FormIn.coef {l : List Tri} {N : Nat} {f : Form} (h : FormIn l N f) (a : Tri) : (coef f.2 a).natAbs ≤ N := coef_le h.nd (fun t ht => (h.t t ht).2.2) a
theorem FormIn.no {l : List Tri} {N : Nat} {f : Form} (h : FormIn l N f) {a : Tri} (ha : a ∉ l) : a ∉ f.2.map (·.1) := fun hm => by
  obtain ⟨t, ht, e⟩ := List.mem_map.mp hm
  exact ha (e ▸ (h.t t ht).1)
theorem FormIn.of {l : List Tri} {N : Nat} {c : Int} {S : Tri → Int} {out : Tab} (hc : c.natAbs ≤ N) (ht : TermsOf S out) (hl : ∀ a, S a ≠ 0 → a ∈ l) (hb : ∀ a, (S a).natAbs ≤ N) : FormIn l N (c, out) :=
  ⟨hc, fun t h => by
    have := (ht.mem t.1 t.2).mp h
    exact ⟨hl _ (by rw [this.1]; exact this.2), this.2, by rw [← this.1]; exact hb _⟩, ht.upK⟩
/-- the hints and multipliers of _law_made, so far -/
structure Made (l : List Tri) (s : Int) (fr : Bool) (hs : List Hint) (ms : List Int) : Prop where
  ln : ms.length = hs.length
  hl : hs.length ≤ 300
  f : ∀ y ∈ hs, FormIn l bigN y.1 ∧ isOrigin y.2.2 = true
  m : ∀ m ∈ ms, m.natAbs ≤ 5 * bigN
  x : ∀ (i : Nat) (y : Hint) (m : Int), hs[i]? = some y → ms[i]? = some m → m < 0 → y.2.1 = true
  d : fr = true → 1 < s → ∀ m ∈ ms, s ∣ m
def bound1 : Nat := 300 * (5 * bigN * bigN)
theorem Made.sumC {l : List Tri} {s : Int} {fr : Bool} {hs : List Hint} {ms : List Int} (h : Made l s fr hs ms) : (sumC (negz hs ms)).natAbs ≤ bound1 := by
  have h1 := sumC_le (M := 5 * bigN) (N := bigN) (negz hs ms) fun p hp => by
    obtain ⟨y, m, hy, hm, rfl⟩ := negz_mem hp
    exact ⟨by show (-m).natAbs ≤ _; rw [Int.natAbs_neg]; exact h.m m hm, (h.f y hy).1.c⟩
  rw [negz_len h.ln] at h1
  exact Nat.le_trans h1 (Nat.mul_le_mul_right _ h.hl)
theorem Made.sumA {l : List Tri} {s : Int} {fr : Bool} {hs : List Hint} {ms : List Int} (h : Made l s fr hs ms) (a : Tri) : (sumA (negz hs ms) a).natAbs ≤ bound1 := by
  have h1 := sumA_le (M := 5 * bigN) (N := bigN) (a := a) (negz hs ms) fun p hp => by
    obtain ⟨y, m, hy, hm, rfl⟩ := negz_mem hp
    exact ⟨by show (-m).natAbs ≤ _; rw [Int.natAbs_neg]; exact h.m m hm, (h.f y hy).1.coef a⟩
  rw [negz_len h.ln] at h1
  exact Nat.le_trans h1 (Nat.mul_le_mul_right _ h.hl)
theorem Made.no {l : List Tri} {s : Int} {fr : Bool} {hs : List Hint} {ms : List Int} (h : Made l s fr hs ms) {a : Tri} (ha : a ∉ l) : K60.sumA (negz hs ms) a = 0 :=
  sumA_no _ fun p hp => by
    obtain ⟨y, m, hy, hm, rfl⟩ := negz_mem hp
    exact (h.f y hy).1.no ha
theorem Made.dvd {l : List Tri} {s : Int} {fr : Bool} {hs : List Hint} {ms : List Int} (h : Made l s fr hs ms) (hf : fr = true) (s0 : 0 < s) (a : Tri) : s ∣ K60.sumA (negz hs ms) a := by
  by_cases z : 1 < s
  · refine sumA_dvd _ fun p hp => ?_
    obtain ⟨y, m, hy, hm, rfl⟩ := negz_mem hp
    exact Int.dvd_neg.mpr (h.d hf z m hm)
  · have : s = 1 := by omega
    rw [this]
    exact Int.one_dvd _
def boundB : Nat := 2 ^ 300
theorem b1_le : bound1 + 100 * bigN + 100 ≤ boundB := by decide +kernel
structure MadeOk (ns : List Int) (l : List Tri) (f : Form) (hs : List Hint) (s : Int) (ms : List Int) : Prop where
  ln : ms.length = hs.length
  hl : hs.length ≤ 301
  ff : FormIn l boundB f
  fh : ∀ y ∈ hs, FormIn l boundB y.1 ∧ isOrigin y.2.2 = true
  s0 : 0 ≤ s
  s5 : s ≤ 5
  m : ∀ m ∈ ms, m.natAbs ≤ boundB
  x : ∀ (i : Nat) (y : Hint) (m : Int), hs[i]? = some y → ms[i]? = some m → m < 0 → y.2.1 = true
  g : Good ns s (partsOf f s hs ms)
theorem byAll_of {hs : List Hint} {ms : List Int} (ln : ms.length = hs.length) (x : ∀ (i : Nat) (y : Hint) (m : Int), hs[i]? = some y → ms[i]? = some m → m < 0 → y.2.1 = true) : byAll (hs.map hintD) (ms.map .int) = true := by
  refine (byAll_at (by rw [List.length_map, List.length_map, ln])).mpr fun i h m e1 e2 => ?_
  rw [List.getElem?_map] at e1 e2
  obtain ⟨y, h1, rfl⟩ := Option.map_eq_some_iff.mp e1
  obtain ⟨k, h2, rfl⟩ := Option.map_eq_some_iff.mp e2
  show (true && !(decide (k < 0) && !y.2.1)) = true
  by_cases z : k < 0
  · rw [x i y k h1 h2 z, decide_eq_true z]
    rfl
  · rw [decide_eq_false z]
    rfl
theorem MadeOk.fits {ns : List Int} {l : List Tri} {f : Form} {hs : List Hint} {s : Int} {ms : List Int} (h : MadeOk ns l f hs s ms) : fits (hs.map hintD) (.tuple [.int s, .tuple (ms.map .int)]) = true := by
  show (true && (!decide (s < 0) && byAll (hs.map hintD) (ms.map .int))) = true
  rw [byAll_of h.ln h.x, decide_eq_false (by have := h.s0; omega)]
  rfl
theorem MadeOk.shows {ns : List Int} {l : List Tri} {f : Form} {hs : List Hint} {s : Int} {ms : List Int} (h : MadeOk ns l f hs s ms) : ShowsP ns f hs (.tuple [.int s, .tuple (ms.map .int)]) := ⟨s, ms, rfl, h.fits, h.g⟩
theorem natAbs_sub {a b : Int} {m n : Nat} (h1 : a.natAbs ≤ m) (h2 : b.natAbs ≤ n) : (a - b).natAbs ≤ m + n := by omega
/-- the end of _law_made, scale 0 -/
theorem made_zero {ns : List Int} {l fl : List Tri} {hs : List Hint} {ms : List Int} {f : Form} {out : Tab} {b : Int} {e : Bool} {o : D} {low S : Tri → Int} (h : Made l 0 true hs ms) (hf : FormIn l boundB f) (ho : isOrigin o = true)
    (hb : 0 ≤ b) (hb2 : b.natAbs ≤ bigN) (ht : TermsOf S out) (hS : ∀ a, S a = sumA (negz hs ms) a - low a) (h0 : ∀ a, 0 ≤ low a) (h1 : ∀ a, (low a).natAbs ≤ bigN) (hlow : ∀ a, a ∉ fl → low a = 0)
    (hfl : ∀ a ∈ fl, a ∈ l ∧ floorB ns a = true) : MadeOk ns l f (hs ++ [((sumC (negz hs ms) - 1 - b, out), e, o)]) 0 (ms ++ [1]) := by
  have hlo : ∀ a, low a ≠ 0 → a ∈ fl := fun a ha => by
    by_cases z : a ∈ fl
    · exact z
    · exact absurd (hlow a z) ha
  have b1 := b1_le
  refine ⟨by rw [List.length_append, List.length_append, h.ln]; rfl, by rw [List.length_append]; have := h.hl; show _ + 1 ≤ _; omega, hf, fun y hy => ?_, Int.le_refl 0, by decide, fun m hm => ?_, fun i y m hi hm hneg => ?_, ?_⟩
  · rcases List.mem_append.mp hy with q | q
    · exact ⟨(h.f y q).1.mono (fun _ z => z) (by omega), (h.f y q).2⟩
    · rw [List.mem_singleton.mp q]
      refine ⟨FormIn.of ?_ ht (fun a ha => ?_) fun a => ?_, ho⟩
      · have := h.sumC
        omega
      · by_cases z : low a = 0
        · by_cases q2 : a ∈ l
          · exact q2
          · rw [hS, z, h.no q2] at ha
            exact absurd rfl ha
        · exact (hfl a (hlo a z)).1
      · rw [hS]
        have := natAbs_sub (h.sumA a) (h1 a)
        omega
  · rcases List.mem_append.mp hm with q | q
    · have := h.m m q
      omega
    · rw [List.mem_singleton.mp q]
      decide
  · rcases Nat.lt_or_ge i hs.length with z | z
    · rw [List.getElem?_append_left z] at hi
      rw [List.getElem?_append_left (by rw [h.ln]; exact z)] at hm
      exact h.x i y m hi hm hneg
    · rw [List.getElem?_append_right (by rw [h.ln]; exact z)] at hm
      have : m = 1 := by
        have := List.mem_of_getElem? hm
        exact List.mem_singleton.mp this
      omega
  · exact good_zero h.ln rfl hb ht hS h0 fun a ha => (hfl a (hlo a ha)).2
/-- the end of _law_made, a scale above 0 -/
theorem made_some {ns : List Int} {l l2 fl : List Tri} {hs : List Hint} {ms : List Int} {s : Int} {fr : Bool} {out : Tab} {c' u : Int} {low S : Tri → Int} (h : Made l2 s fr hs ms) (h2 : ∀ a ∈ l2, a ∈ l) (s0 : 0 < s) (s5 : s ≤ 5)
    (hc : c' = sumC (negz hs ms) - u) (hu : 0 ≤ u) (hu2 : u.natAbs ≤ 50 * bigN) (hd : s ∣ c') (ht : TermsOf S out) (hS : ∀ a, S a = -(sumA (negz hs ms) a - low a) / s) (h0 : ∀ a, 0 ≤ low a) (h1 : ∀ a, (low a).natAbs ≤ 50 * bigN) (hlow : ∀ a, a ∉ fl → low a = 0)
    (hda : ∀ a ∈ fl, s ∣ sumA (negz hs ms) a - low a) (hfr : fr = false → l2 = fl) (hfl : ∀ a ∈ fl, a ∈ l ∧ floorB ns a = true) : MadeOk ns l (-c' / s, out) hs s ms := by
  have hlo : ∀ a, low a ≠ 0 → a ∈ fl := fun a ha => by
    by_cases z : a ∈ fl
    · exact z
    · exact absurd (hlow a z) ha
  have b1 := b1_le
  have q1 : ∀ x : Int, (-x / s).natAbs ≤ x.natAbs := fun x => by
    rcases (by omega : s = 1 ∨ s = 2 ∨ s = 3 ∨ s = 4 ∨ s = 5) with e | e | e | e | e <;> subst e <;> omega
  have hall : ∀ a, s ∣ sumA (negz hs ms) a - low a := fun a => by
    by_cases z : a ∈ fl
    · exact hda a z
    · rw [hlow a z, Int.sub_zero]
      cases hfr2 : fr with
      | true => exact h.dvd hfr2 s0 a
      | false =>
        rw [h.no (by rw [hfr hfr2]; exact z)]
        exact Int.dvd_zero s
  refine ⟨h.ln, by have := h.hl; omega, FormIn.of ?_ ht (fun a ha => ?_) fun a => ?_, fun y hy => ⟨(h.f y hy).1.mono h2 (by omega), (h.f y hy).2⟩, by omega, s5, fun m hm => ?_, h.x, ?_⟩
  · have := q1 c'
    have h3 := h.sumC
    rw [hc] at this ⊢
    have := natAbs_sub h3 hu2
    omega
  · by_cases z : low a = 0
    · by_cases q2 : a ∈ l2
      · exact h2 a q2
      · rw [hS, z, h.no q2] at ha
        exact absurd (by simp) ha
    · exact (hfl a (hlo a z)).1
  · rw [hS]
    have := q1 (sumA (negz hs ms) a - low a)
    have := natAbs_sub (h.sumA a) (h1 a)
    omega
  · have := h.m m hm
    omega
  · exact good_some s0 (by show -c' / s = _; rw [hc]) hu (by rw [← hc]; exact hd) ht hS hall h0 fun a ha => (hfl a (hlo a ha)).2
end K60
namespace K60
open PySem L2 TriS
open Evl (Ex)
def spMade : Sp := fun vs H Q _ => ∃ (p q n l : Addr) (t : Nat) (ns : List Int) (L : List (Addr × Tri)), vs = [.ref p, .ref n, .ref l] ∧ WellAt H p q t ∧ H n = some (.tup (ns.map V.int)) ∧ AtomsAt H p q l L ∧ t ≤ 100000 ∧
  ∀ (H' : Hp) (r : Addr) (vg vh vs : V) (f : Form) (hs : List Hint) (s : Int) (ms : List Int), H' r = some (.lst [vg, vh, vs]) → Tk H' vg (formD f) → Tk H' vh (.tuple (hs.map hintD)) → Tk H' vs (.tuple [.int s, .tuple (ms.map .int)]) →
    MadeOk ns (L.map (·.2)) f hs s ms → WellAt H' p q (t + 200000) → But p q H H' → Q (.ref r) H'
theorem tab_getF {H : Hp} {t b : Addr} {o : Obj} {m : Tab} {a : Tri} (h : H t = some (.frz o (.dT (encT m)))) (hb : H b = some (.tup (triV a))) : DGet H t (.ref b) ((tget m a).map V.int) := by
  have : DGet H t (.ref b) (valV (encT m) (triK a)) := .inr ⟨encT m, triK a, b, .inr ⟨o, h⟩, rfl, hb, rfl⟩
  rw [val_enc] at this
  exact this
theorem forKT {d : Addr} {o : Obj} {m : Tab} {g : TG} {ts : TS} {σ : L2.St} {H : Hp} {A : L2.St → Hp → Prop} {R : V → Hp → Prop} (Pv : Nat → L2.St → Hp → Prop) (h0 : Pv 0 σ H) (hq : ∀ i σ H, Pv i σ H → H d = some (.frz o (.dT (encT m))))
    (hs : ∀ (i : Nat) (a : Tri) (c : Int) (q : Addr) (σ : L2.St) (H : Hp), m[i]? = some (a, c) → H q = some (.tup (triV a)) → Pv i σ H → g (.ref q) σ H fun σ2 H2 => ts { nx := Pv (i + 1), rt := R, bk := A, ct := Pv (i + 1) } σ2 H2) (hd : ∀ σ H, Pv m.length σ H → A σ H) :
    ∃ W : Nat → Nat → L2.St → Hp → Prop, (∃ k, W 0 k σ H) ∧ ∀ i k σ H, W i k σ H →
      ((Itkt d o (encT m)).stop i H ∧ A σ H) ∨ ((Itkt d o (encT m)).go i H ∧ ∃ N : L2.St → Hp → Prop, (∀ σ' H', N σ' H' → ∃ k', k' < k ∧ W (i + 1) k' σ' H') ∧ ∀ v H', (Itkt d o (encT m)).yld i H v H' → g v σ H' fun σ2 H2 => ts { nx := N, rt := R, bk := A, ct := N } σ2 H2) := by
  have le : (encT m).length = m.length := List.length_map _
  refine ⟨fun i k σ H => k = m.length - i ∧ i ≤ m.length ∧ Pv i σ H, ⟨m.length, rfl, Nat.zero_le _, h0⟩, ?_⟩
  rintro i k σ H ⟨rfl, hi, p⟩
  rcases Nat.lt_or_ge i m.length with hlt | hge
  · refine .inr ⟨⟨hq i σ H p, by omega⟩, Pv (i + 1), fun σ' H' p' => ⟨m.length - (i + 1), by omega, rfl, hlt, p'⟩, ?_⟩
    rintro v H' ⟨rfl, k, w, q, hk, rfl, hqq⟩
    have hm : m[i]? = some m[i] := List.getElem?_eq_getElem hlt
    unfold encT at hk
    rw [List.getElem?_map, hm] at hk
    cases hk
    exact hs i m[i].1 m[i].2 q σ H' hm hqq p
  · have e : i = m.length := by omega
    subst e
    exact .inl ⟨⟨hq _ σ H p, by omega⟩, hd σ H p⟩
local macro_rules | `(tactic| walk_at "ex") => `(tactic| first | assumption | exact Evl.Ex.refl _ | (refine' Evl.Ex.trans (by assumption) ?_; walk_at "ex"))
local macro_rules | `(tactic| walk_at "tx") => `(tactic| first | assumption | exact K60.Tx.of_ex (by assumption) | (refine' K60.Tx.trans (by assumption) ?_; walk_at "tx") | (refine' K60.Tx.trans (K60.Tx.of_ex (by assumption)) ?_; walk_at "tx"))
local macro_rules | `(tactic| walk_at "lf") => `(tactic| first | assumption | (refine' K60.exGet ?hx9 ?hy9; (case hy9 => assumption); (case hx9 => walk_at "ex")) | (refine' K60.txGet ?hx9 ?hy9; (case hy9 => assumption); (case hx9 => walk_at "tx")))
local macro_rules | `(tactic| walk_at "sq2") => `(tactic| first | assumption | (refine' SqL.of ?hq9; (case hq9 => walk_at "lf")) | (refine' SqT.of ?hq9; (case hq9 => walk_at "lf")))
local macro_rules | `(tactic| walk_at "gn") => `(tactic| (generalize hh : upd _ _ _ = H9 at *; obtain ⟨xe9, h9⟩ := K60.newAt (by assumption) hh; clear hh))
local macro_rules | `(tactic| walk_at "nw") => `(tactic| (refine' ⟨by show _ ≤ sizeLine; first | decide | (simp only [List.length_cons, List.length_nil, List.length_map, List.length_append, sizeLine_eq]; omega), fun a9 ha9 => ?_⟩; walk_at "gn"))
local macro_rules | `(tactic| walk_at "go2") => `(tactic| first
  | (with_reducible refine' Gk.seq ?_)
  | ((with_reducible refine' Gk.var ?hgo ?_); (case hgo => exact rfl))
  | (with_reducible refine' Gk.con ?_)
  | (with_reducible refine' Gk.op ?_)
  | (with_reducible refine' Gk.i0 ?_)
  | (with_reducible refine' Gk.un ?_)
  | ((with_reducible refine' Gk.i1 (C := CMul) ?hgo ?_); (case hgo => first | exact .inl ⟨by decide, by decide⟩ | exact .inr ⟨by decide, by decide⟩ | exact .inl ⟨by omega, by omega⟩ | exact .inr ⟨by omega, by omega⟩))
  | ((with_reducible refine' Gk.i1 (C := CDiv) ?hgo ?_); (case hgo => exact ⟨by omega, by omega⟩))
  | ((with_reducible refine' Gk.i1 (C := CPow) ?hgo ?_); (case hgo => exact ⟨by decide, by decide, by decide⟩))
  | ((with_reducible refine' Gk.i1 (C := fun _ j => 0 < j) ?hgo ?_); (case hgo => show (0 : Int) < _; omega))
  | (with_reducible refine' Gk.u1 ?_)
  | (with_reducible refine' Gk.test ?_)
  | (with_reducible refine' Gk.testB ?_)
  | (with_reducible refine' Gk.asB ?_)
  | (with_reducible refine' K60.eqI ?_)
  | (with_reducible refine' K60.neI ?_)
  | ((with_reducible refine' Gk.eqv ?hgo ?_); (case hgo => exact rfl))
  | ((with_reducible refine' Gk.nev ?hgo ?_); (case hgo => exact rfl))
  | ((with_reducible refine' Gk.ixL ?hgo ?hga ?_); (case hgo => walk_at "sq2"); (case hga => first | exact rfl | assumption))
  | ((with_reducible refine' Gk.ixT ?hgo ?hga ?_); (case hgo => walk_at "sq2"); (case hga => first | exact rfl | assumption))
  | (with_reducible refine' Gk.aNil ?_)
  | (with_reducible refine' Gk.aCons ?_)
  | (with_reducible refine' Gk.cb ?_)
  | (with_reducible refine' Gk.call ?_)
  | (with_reducible refine' Gk.tup ?_)
  | (with_reducible refine' Gk.lst ?_)
  | (with_reducible refine' Gk.ifE ?_)
  | (with_reducible refine' Gk.ifS ?_)
  | (with_reducible refine' Gk.next ?_)
  | (with_reducible refine' Gk.asg ?_)
  | ((with_reducible refine' Gk.gname ?hgo ?_); (case hgo => exact rfl))
  | (with_reducible refine' Gk.gsub ?_)
  | ((with_reducible refine' Gk.setL ?hgo ?hga ?_); (case hgo => first | assumption | exact upd_same); (case hga => first | exact rfl | assumption))
  | (with_reducible refine' Gk.ret ?_)
  | (with_reducible refine' Gk.drop ?_)
  | (with_reducible refine' Gk.par ?_)
  | (with_reducible refine' Gk.andT ?_)
  | (with_reducible refine' Gk.orT ?_)
  | (with_reducible refine' Gk.notT ?_)
  | (with_reducible refine' Gk.abs ?_)
  | (with_reducible refine' Gk.intI ?_)
  | (with_reducible refine' Gk.intB ?_)
  | ((with_reducible refine' Gk.lenL ?hgo ?_); (case hgo => walk_at "sq2"))
  | ((with_reducible refine' Gk.lenT ?hgo ?_); (case hgo => walk_at "sq2"))
  | ((with_reducible refine' K60.lenD ?hgo ?_); (case hgo => assumption))
  | (with_reducible refine' K60.zipA ?_)
  | (with_reducible refine' K60.listI ?_)
  | (with_reducible refine' K60.tupI ?_)
  | (with_reducible refine' K60.dget2 ?_)
  | (with_reducible refine' K60.dget ?_)
  | (with_reducible refine' K60.dput ?_)
  | ((with_reducible refine' K60.aug ?hgo ?_); (case hgo => exact rfl))
  | (with_reducible refine' K60.ipI ?_)
  | (with_reducible refine' K60.newT ?_)
  | (with_reducible refine' Gk.bm ?_)
  | ((with_reducible refine' Gk.tyL ?hgo ?_); (case hgo => first | assumption | exact upd_same))
  | ((with_reducible refine' Gk.gtup ?hgo ?hga ?_); (case hgo => walk_at "sq2"); (case hga => exact rfl))
  | (with_reducible refine' Gk.gcons ?_)
  | (with_reducible refine' Gk.gnil ?_)
  | (with_reducible refine' Gk.sl ?_)
  | (with_reducible refine' Gk.noPart ?_)
  | (with_reducible refine' Gk.part ?_)
  | (with_reducible refine' Gk.partI ?_)
  | (with_reducible refine' Gk.lc ?_)
  | (with_reducible refine' Gk.rng1 ?_)
  | (with_reducible refine' Gk.forS ?_)
  | (with_reducible refine' Gk.isN ?_)
  | (with_reducible refine' Gk.notN ?_)
  | (with_reducible refine' Gk.andV ?_)
  | (with_reducible refine' Gk.orV ?_)
  | (with_reducible refine' Gk.notV ?_)
  | (with_reducible refine' K60.chain ?_)
  | ((with_reducible refine' K60.isiI ?hgo ?_); (case hgo => assumption))
  | ((with_reducible refine' K60.isiBo ?hgo ?_); (case hgo => assumption))
  | ((with_reducible refine' K60.isiT ?hgo ?_); (case hgo => assumption))
  | ((with_reducible refine' Gk.isiB ?hgo ?hga ?_); (case hgo => exact .base (.non)); (case hga => first | exact (show kitB _ _ = some true by decide +kernel) | exact (show kitB _ _ = some false by decide +kernel)))
  | ((with_reducible refine' Gk.isiB ?hgo ?hga ?_); (case hgo => exact .base (.int _)); (case hga => first | exact (show kitB _ _ = some true by decide +kernel) | exact (show kitB _ _ = some false by decide +kernel)))
  | ((with_reducible refine' Gk.isiB ?hgo ?hga ?_); (case hgo => exact .base (.str _)); (case hga => first | exact (show kitB _ _ = some true by decide +kernel) | exact (show kitB _ _ = some false by decide +kernel)))
  | ((with_reducible refine' Gk.isiB ?hgo ?hga ?_); (case hgo => exact .base (.bl _)); (case hga => first | exact (show kitB _ _ = some true by decide +kernel) | exact (show kitB _ _ = some false by decide +kernel)))
  | ((with_reducible refine' Gk.isiB ?hgo ?hga ?_); (case hgo => exact .base (.tup (by assumption))); (case hga => first | exact (show kitB _ _ = some true by decide +kernel) | exact (show kitB _ _ = some false by decide +kernel)))
  | ((with_reducible refine' Gk.isiB ?hgo ?hga ?_); (case hgo => exact .base (.lst (by assumption))); (case hga => first | exact (show kitB _ _ = some true by decide +kernel) | exact (show kitB _ _ = some false by decide +kernel)))
  | ((with_reducible refine' Gk.iteT ?hgo ?_); (case hgo => exact rfl))
  | ((with_reducible refine' Gk.iteF ?hgo ?_); (case hgo => exact rfl))
  | (with_reducible refine' Gk.yes ?_)
  | (dsimp only))

abbrev sLawMade : Stmt := top 40
theorem scLawMade : FnScope ["well", "never", "atoms", "atom", "floors", "scale", "free", "some", "size", "many", "hints", "times", "form", "exact", "origin", "by", "const", "sums", "at", "inner", "k"] ["well", "never", "atoms"] (defScope sLawMade) := ⟨rfl, rfl, rfl, by decide +kernel, rfl, by decide +kernel, by decide +kernel⟩
section
variable {P : Program} {w : World} {K : PySem.W.Frag} {mg : Str → Option Value} {base : Heap}
set_option maxHeartbeats 0 in
theorem cl_law_made (T : Glo mg) (h : Has K mg "_law_made" sLawMade) (c_LawDraw : Cl P w K mg base "_law_draw" ["well", "many"] 1 spDraw) (c_LawBy : Cl P w K mg base "_law_by" ["well"] 2 spBy) (c_LawOrigin : Cl P w K mg base "_law_origin" ["well"] 2 spOrg) (c_LawSumOf : Cl P w K mg base "_law_sum_of" ["const", "sums"] 1 spSumOf)
    (c_LawRest : Cl P w K mg base "_law_rest" ["goal", "hints", "scale", "multipliers"] 1 (spRest K)) (c_LawDrawnForm : Cl P w K mg base "_law_drawn_form" ["well", "atoms"] 3 spForm) : Cl P w K mg base "_law_made" ["well", "never", "atoms"] 4 spMade := by
  obtain ⟨f_LawDraw, fd_LawDraw, m_LawDraw, k_LawDraw, b_LawDraw, G_LawDraw⟩ := c_LawDraw
  obtain ⟨f_LawBy, fd_LawBy, m_LawBy, k_LawBy, b_LawBy, G_LawBy⟩ := c_LawBy
  obtain ⟨f_LawOrigin, fd_LawOrigin, m_LawOrigin, k_LawOrigin, b_LawOrigin, G_LawOrigin⟩ := c_LawOrigin
  obtain ⟨f_LawSumOf, fd_LawSumOf, m_LawSumOf, k_LawSumOf, b_LawSumOf, G_LawSumOf⟩ := c_LawSumOf
  obtain ⟨f_LawRest, fd_LawRest, m_LawRest, k_LawRest, b_LawRest, G_LawRest⟩ := c_LawRest
  obtain ⟨f_LawDrawnForm, fd_LawDrawnForm, m_LawDrawnForm, k_LawDrawnForm, b_LawDrawnForm, G_LawDrawnForm⟩ := c_LawDrawnForm
  obtain ⟨f, fd, m_, F⟩ := h
  refine ⟨f, fd, m_, F.kp, F.binds (ps := ["well", "never", "atoms"]) fun _ _ _ _ _ _ us hl => match us, hl with | [_, _, _], _ => rfl, ?_⟩
  refine F.ok scLawMade (fun vs H Q E h => ?_) (fun cdv A outer s H vs Q E hr h => ?_)
  · obtain ⟨p, q, n, l, t, ns, L, rfl, _⟩ := h
    rfl
  · obtain ⟨p, q, n, l, t, ns, L, rfl, W, hn, A_, ht, k⟩ := h
    refine ⟨_, (pss_cons (ps_setLc (i := 4) (own := [("atom", 3)]) (g := gName 3) (tt := _) rfl scLawMade.nd rfl rfl (sw_true rfl rfl rfl (by decide +kernel)) (Gk.ePiL K (pv 2)) (blkOk_by (N := ["well", "never", "atoms", "atom", "floors", "scale", "free", "some", "size", "many", "hints", "times", "form", "exact", "origin", "by", "const", "sums", "at", "inner", "k"]) (sc := defScope sLawMade) (by decide +kernel)) (fun _ _ _ _ _ => pg_name (i := 3) scLawMade.nd rfl (Or.inl rfl)) (fun _ _ _ _ _ => (pts_one (PW.pt (pw_or (pt_cmpR op_eq (pe_ix (Gk.eIxT K) (pv 3) pe_int (fun _ _ => rfl)) pe_int (nomark _)) (pw_or1 (pt_cmpR (Gk.eIn K) (pe_ix (Gk.eIxT K) (pv 3) pe_int (fun _ _ => rfl)) (pv 1) (by rfl))))))) (fun _ _ _ _ _ => (pv 3)))
  (pss_cons (ps_set (i := 5) scLawMade.nd rfl (Or.inl rfl) (pe_call G_LawDraw (hr.mono (by omega)) rfl m_LawDraw k_LawDraw b_LawDraw .nil pass0 (pa_cons (pv 0) (pa_cons pe_int pa_nil))))
  (Evl.pss_cut (ps_set (i := 6) scLawMade.nd rfl (Or.inl rfl) (pe_or (pe_cmpR op_eq (pv 5) pe_int (nomark _)) (pe_one (pe_cmpR op_eq (pe_call G_LawDraw (hr.mono (by omega)) rfl m_LawDraw k_LawDraw b_LawDraw .nil pass0 (pa_cons (pv 0) (pa_cons pe_int pa_nil))) pe_int (nomark _)))))
  (pss_cons (ps_set (i := 7) scLawMade.nd rfl (Or.inr rfl) (pe_ix (Gk.eIxL K) (pe_lst (pa_cons (pv 4) (pa_cons (pv 2) pa_nil))) (pe_callTy Gk.cInt1 (by rfl) T.int (by decide +kernel) (pa_cons (pv 6) pa_nil)) (fun _ _ => rfl)))
  (pss_cons (ps_set (i := 8) scLawMade.nd rfl (Or.inl rfl) (pe_call G_LawDraw (hr.mono (by omega)) rfl m_LawDraw k_LawDraw b_LawDraw .nil pass0 (pa_cons (pv 0) (pa_cons pe_int pa_nil))))
  (pss_cons (ps_set (i := 9) scLawMade.nd rfl (Or.inl rfl) (pe_op op_add (pe_call G_LawDraw (hr.mono (by omega)) rfl m_LawDraw k_LawDraw b_LawDraw .nil pass0 (pa_cons (pv 0) (pa_cons pe_int pa_nil))) (pe_ix (Gk.eIxL K) (pe_lst (pa_cons pe_int (pa_cons pe_int (pa_cons pe_int pa_nil)))) (pe_callB (call_min2 rfl) (by rfl) T.min (by decide +kernel) (pa_cons (pv 8) (pa_cons pe_int pa_nil))) (fun _ _ => rfl))))
  (Evl.pss_cut (ps_if (pt_cmpR op_eq (pv 8) pe_int (nomark _))
    (pss_one (ps_set (i := 9) scLawMade.nd rfl (Or.inl rfl) (pe_op op_add (pv 9) (pe_call G_LawDraw (hr.mono (by omega)) rfl m_LawDraw k_LawDraw b_LawDraw .nil pass0 (pa_cons (pv 0) (pa_cons pe_int pa_nil))))))
    pss_nil)
  (pss_cons (ps_setLc (i := 10) (own := [("k", 20)]) (g := gName 20) (tt := tYes) rfl scLawMade.nd rfl rfl (sw_true rfl rfl rfl (by decide +kernel)) (pi_range1 (by rfl) T.range (pa_cons (pv 9) pa_nil)) (blkOk_by (N := ["well", "never", "atoms", "atom", "floors", "scale", "free", "some", "size", "many", "hints", "times", "form", "exact", "origin", "by", "const", "sums", "at", "inner", "k"]) (sc := defScope sLawMade) (by decide +kernel)) (fun _ _ _ _ _ => pg_name (i := 20) scLawMade.nd rfl (Or.inl rfl)) (fun _ _ _ _ _ => pts_nil) (fun _ _ _ _ _ => (pe_tup (pa_cons (pe_call G_LawDrawnForm (hr.mono (by omega)) rfl m_LawDrawnForm k_LawDrawnForm b_LawDrawnForm .nil pass0 (pa_cons (pv 0) (pa_cons (pv 7) pa_nil))) (pa_cons (pe_cmpR op_eq (pe_call G_LawDraw (hr.mono (by omega)) rfl m_LawDraw k_LawDraw b_LawDraw .nil pass0 (pa_cons (pv 0) (pa_cons pe_int pa_nil))) pe_int (nomark _)) (pa_cons (pe_call G_LawOrigin (hr.mono (by omega)) rfl m_LawOrigin k_LawOrigin b_LawOrigin .nil pass0 (pa_cons (pv 0) pa_nil)) pa_nil))))))
  (pss_cons (ps_set (i := 11) scLawMade.nd rfl (Or.inl rfl) (pe_lst pa_nil))
  (pss_cons (ps_for PassesOwn.never rfl (Gk.ePiL K (pv 10)) (Gk.ePgT K rfl (pgs_cons (pg_name (i := 12) scLawMade.nd rfl (Or.inl rfl)) (pgs_cons (pg_name (i := 13) scLawMade.nd rfl (Or.inl rfl)) (pgs_cons (pg_name (i := 14) scLawMade.nd rfl (Or.inl rfl)) pgs_nil))))
    (pss_cons (ps_set (i := 15) scLawMade.nd rfl (Or.inl rfl) (pe_op op_mul (pe_call G_LawBy (hr.mono (by omega)) rfl m_LawBy k_LawBy b_LawBy .nil pass0 (pa_cons (pv 0) pa_nil)) (pe_callTy Gk.cInt1 (by rfl) T.int (by decide +kernel) (pa_cons (pe_cmpR op_gt (pe_call G_LawDraw (hr.mono (by omega)) rfl m_LawDraw k_LawDraw b_LawDraw .nil pass0 (pa_cons (pv 0) (pa_cons pe_int pa_nil))) pe_int (nomark _)) pa_nil))))
    (Evl.pss_cut (ps_if (PW.pt (pw_and (pt_val (pv 6)) (pw_and1 (pt_cmpR op_gt (pv 5) pe_int (nomark _)))))
      (pss_one (ps_set (i := 15) scLawMade.nd rfl (Or.inl rfl) (pe_op op_mul (pv 15) (pv 5))))
      pss_nil)
    (Evl.pss_cut (ps_if (pt_not (pt_val (pv 13)))
      (pss_one (ps_set (i := 15) scLawMade.nd rfl (Or.inl rfl) (pe_callB Gk.cAbs (by rfl) T.abs (by decide +kernel) (pa_cons (pv 15) pa_nil))))
      pss_nil)
    (pss_one (ps_expr (Gk.eBm K PySem.F.plainAttrs_list PySem.F.slot_list_append PySem.F.type_list_append mt_append (pv 11) (pa_cons (pv 15) pa_nil))))))))
  (pss_cons (ps_asg (pe_call G_LawRest (hr.mono (by omega)) rfl m_LawRest k_LawRest b_LawRest .nil pass0 (pa_cons (pe_tup (pa_cons pe_int (pa_cons (pe_tup pa_nil) pa_nil))) (pa_cons (pv 10) (pa_cons pe_int (pa_cons (pv 11) pa_nil))))) (K60.ePgU K rfl (pgs_cons (pg_name (i := 16) scLawMade.nd rfl (Or.inl rfl)) (pgs_cons (pg_name (i := 17) scLawMade.nd rfl (Or.inl rfl)) pgs_nil))))
  (pss_cons (ps_if (pt_cmpR op_eq (pv 5) pe_int (nomark _))
    (pss_cons (ps_for PassesOwn.never rfl (Gk.ePiL K (pv 4)) (pg_name (i := 3) scLawMade.nd rfl (Or.inl rfl))
      (pss_one (ps_dput (hu_of hr) (pv 17) (pv 3) (pe_op op_sub (pe_dget2 (hu_of hr) (pv 17) (pv 3) pe_int ⟨by rfl, by rfl, by rfl, by rfl⟩) (pe_callB Gk.cAbs (by rfl) T.abs (by decide +kernel) (pa_cons (pe_call G_LawBy (hr.mono (by omega)) rfl m_LawBy k_LawBy b_LawBy .nil pass0 (pa_cons (pv 0) pa_nil)) pa_nil))) (by rfl))))
    (pss_cons (ps_expr (Gk.eBm K PySem.F.plainAttrs_list PySem.F.slot_list_append PySem.F.type_list_append mt_append (pv 10) (pa_cons (pe_tup (pa_cons (pe_call G_LawSumOf (hr.mono (by omega)) rfl m_LawSumOf k_LawSumOf b_LawSumOf .nil pass0 (pa_cons (pe_op op_sub (pe_op op_sub (pv 16) pe_int) (pe_callB Gk.cAbs (by rfl) T.abs (by decide +kernel) (pa_cons (pe_call G_LawBy (hr.mono (by omega)) rfl m_LawBy k_LawBy b_LawBy .nil pass0 (pa_cons (pv 0) pa_nil)) pa_nil))) (pa_cons (pv 17) pa_nil))) (pa_cons (pe_cmpR op_eq (pe_call G_LawDraw (hr.mono (by omega)) rfl m_LawDraw k_LawDraw b_LawDraw .nil pass0 (pa_cons (pv 0) (pa_cons pe_int pa_nil))) pe_int (nomark _)) (pa_cons (pe_call G_LawOrigin (hr.mono (by omega)) rfl m_LawOrigin k_LawOrigin b_LawOrigin .nil pass0 (pa_cons (pv 0) pa_nil)) pa_nil)))) pa_nil)))
    (pss_one (ps_ret (pe_lst (pa_cons (pe_call G_LawDrawnForm (hr.mono (by omega)) rfl m_LawDrawnForm k_LawDrawnForm b_LawDrawnForm .nil pass0 (pa_cons (pv 0) (pa_cons (pv 2) pa_nil))) (pa_cons (pe_callTy (K60.eTupOf K) (by rfl) T.tuple (by decide +kernel) (pa_cons (pv 10) pa_nil)) (pa_cons (pe_tup (pa_cons pe_int (pa_cons (pe_callTy (K60.eTupOf K) (by rfl) T.tuple (by decide +kernel) (pa_cons (pe_op op_cat (pv 11) (pe_lst (pa_cons pe_int pa_nil))) pa_nil)) pa_nil))) pa_nil))))))))
    pss_nil)
  (pss_cons (ps_for PassesOwn.never rfl (Gk.ePiL K (pv 4)) (pg_name (i := 3) scLawMade.nd rfl (Or.inl rfl))
    (pss_cons (ps_set (i := 18) scLawMade.nd rfl (Or.inl rfl) (pe_dget2 (hu_of hr) (pv 17) (pv 3) pe_int ⟨by rfl, by rfl, by rfl, by rfl⟩))
    (pss_one (ps_dput (hu_of hr) (pv 17) (pv 3) (pe_op op_sub (pe_op op_sub (pv 18) (pe_op op_mod (pe_callTy Gk.cInt1 (by rfl) T.int (by decide +kernel) (pa_cons (pv 18) pa_nil)) (pv 5))) (pe_op op_mul (pv 5) (pe_callB Gk.cAbs (by rfl) T.abs (by decide +kernel) (pa_cons (pe_call G_LawBy (hr.mono (by omega)) rfl m_LawBy k_LawBy b_LawBy .nil pass0 (pa_cons (pv 0) pa_nil)) pa_nil)))) (by rfl)))))
  (pss_cons (ps_set (i := 16) scLawMade.nd rfl (Or.inl rfl) (pe_op op_sub (pe_op op_sub (pv 16) (pe_op op_mod (pe_callTy Gk.cInt1 (by rfl) T.int (by decide +kernel) (pa_cons (pv 16) pa_nil)) (pv 5))) (pe_op op_mul (pe_op op_mul (pv 5) (pe_callB Gk.cAbs (by rfl) T.abs (by decide +kernel) (pa_cons (pe_call G_LawBy (hr.mono (by omega)) rfl m_LawBy k_LawBy b_LawBy .nil pass0 (pa_cons (pv 0) pa_nil)) pa_nil))) (pe_call G_LawDraw (hr.mono (by omega)) rfl m_LawDraw k_LawDraw b_LawDraw .nil pass0 (pa_cons (pv 0) (pa_cons pe_int pa_nil))))))
  (pss_cons (ps_set (i := 19) scLawMade.nd rfl (Or.inl rfl) pe_dnewT)
  (pss_cons (ps_lock (ps_for PassesOwn.never rfl (pi_keys (pv 17)) (pg_name (i := 3) scLawMade.nd rfl (Or.inl rfl))
    (pss_one (ps_dput (hu_of hr) (pv 19) (pv 3) (pe_op op_fdiv (pe_un un_neg (pe_dget (hu_of hr) (pv 17) (pv 3) (fun _ _ => rfl))) (pv 5)) (by rfl)))))
  (pss_one (ps_ret (pe_lst (pa_cons (pe_call G_LawSumOf (hr.mono (by omega)) rfl m_LawSumOf k_LawSumOf b_LawSumOf .nil pass0 (pa_cons (pe_op op_fdiv (pe_un un_neg (pv 16)) (pv 5)) (pa_cons (pv 19) pa_nil))) (pa_cons (pe_callTy (K60.eTupOf K) (by rfl) T.tuple (by decide +kernel) (pa_cons (pv 10) pa_nil)) (pa_cons (pe_tup (pa_cons (pv 5) (pa_cons (pe_callTy (K60.eTupOf K) (by rfl) T.tuple (by decide +kernel) (pa_cons (pv 11) pa_nil)) pa_nil))) pa_nil)))))))))))))))))))))), ?_⟩
    repeat walk_at "go2"
    refine ⟨l, rfl, ⟨_, SqL.of A_.hl⟩, fun D hD => lc_list (xs := L.map fun z => V.ref z.1) (fun i H' => H' D = some (.lst (((L.take i).filter fun z => floorB ns z.2).map fun z => V.ref z.1)) ∧ Ex H H') ?_ (fun i H' _ h => SqL.of (h.2 _ _ A_.hl)) ?_ ?_⟩
    · exact ⟨upd_same, Ex.new hD⟩
    · rintro i x H1 hx ⟨hacc, x1⟩
      rw [List.getElem?_map] at hx
      obtain ⟨⟨a, c⟩, hc, rfl⟩ := Option.map_eq_some_iff.mp hx
      have ha : H1 a = some (.tup (triV c)) := x1 _ _ (A_.ha _ (List.mem_of_getElem? hc))
      have hn1 := x1 _ _ hn
      have hlen := A_.len
      have et : (L.take (i + 1)).filter (fun z => floorB ns z.2) = (L.take i).filter (fun z => floorB ns z.2) ++ (if floorB ns c = true then [(a, c)] else []) := by
        rw [take_one hc, List.filter_append]
        congr 1
        by_cases z : floorB ns c = true
        · rw [if_pos z]
          simp [List.filter, z]
        · rw [if_neg z]
          simp [List.filter, z]
      have lacc : (((L.take i).filter fun z => floorB ns z.2).map fun z => V.ref z.1).length ≤ 9 := by
        rw [List.length_map]
        have := (List.filter_sublist (l := L.take i) (p := fun z => floorB ns z.2)).length_le
        rw [List.length_take] at this
        omega
      have yes : floorB ns c = true → ∃ acc, H1 D = some (.lst acc) ∧ acc.length < sizeLine ∧ upd H1 D (.lst (acc ++ [V.ref a])) D = some (.lst (((L.take (i + 1)).filter fun z => floorB ns z.2).map fun z => V.ref z.1)) ∧ Ex H (upd H1 D (.lst (acc ++ [V.ref a]))) := fun e => by
        refine ⟨_, hacc, by rw [sizeLine_eq]; omega, ?_, Ex.mut x1 hD⟩
        rw [upd_same, et, if_pos e, List.map_append]
        rfl
      repeat walk_at "go2"
      refine ⟨rfl, ?_⟩
      repeat walk_at "go2"
      refine Gk.iteQ (fun h1 => ?_) (fun h1 => ?_)
      · repeat walk_at "go2"
        exact yes (by unfold floorB; rw [h1, Bool.true_or])
      · repeat walk_at "go2"
        refine Gk.inT (SqT.of hn1) rfl (flat_ints ns) ?_
        rw [if_neg Bool.false_ne_true]
        repeat walk_at "go2"
        refine Gk.iteQ (fun h2 => ?_) (fun h2 => ?_)
        · repeat walk_at "go2"
          exact yes (by unfold floorB; rw [h2, Bool.or_true])
        · refine ⟨?_, x1⟩
          rw [et, if_neg (by unfold floorB; rw [h1, h2]; decide), List.append_nil]
          exact hacc
    · rintro H1 ⟨hfl, x1⟩
      have el : L.take (L.map fun z => V.ref z.1).length = L := List.take_of_length_le (by rw [List.length_map]; omega)
      rw [el] at hfl
      obtain ⟨dp, dq⟩ := W.neNew hD
      have W1 := W.ex_ x1
      have A1 : AtomsAt H1 p q l L := A_.but W (But.ex x1)
      have F1 : AtomsAt H1 p q D (L.filter fun z => floorB ns z.2) := ⟨hfl, dp, dq, fun z hz => A1.ha z (List.mem_filter.mp hz).1, A1.up.sublist (List.filter_sublist.map _), fun z hz => A1.ok z (List.mem_filter.mp hz).1, by
        have := (List.filter_sublist (l := L) (p := fun z => floorB ns z.2)).length_le
        have := A1.len
        omega⟩
      have hfloor : ∀ z ∈ L.filter (fun z => floorB ns z.2), floorB ns z.2 = true := fun z hz => (List.mem_filter.mp hz).2
      have hfin : ∀ z ∈ L.filter (fun z => floorB ns z.2), z ∈ L := fun z hz => (List.mem_filter.mp hz).1
      generalize L.filter (fun z => floorB ns z.2) = Lf at *
      repeat walk_at "go2"
      refine ⟨p, q, 6, _, rfl, W1, by decide, by decide, by omega, fun H2 s s0 s1 W2 b2 => ?_⟩
      repeat walk_at "go2"
      have n1 := x1 _ _ hn
      have n2 := W1.tx b2 _ _ n1
      refine ⟨fun σ3 H3 => ∃ fr : Bool, σ3 = [some (.ref p), some (.ref n), some (.ref l), none, some (.ref D), some (.int s), some (.bl fr), none, none, none, none, none, none, none, none, none, none, none, none, none, none] ∧ (s = 0 → fr = true) ∧ WellAt H3 p q (t + 2) ∧ But p q H1 H3, ?_, ?_⟩
      · repeat walk_at "go2"
        refine Gk.iteQ (fun h1 => ?_) (fun h1 => ?_)
        · repeat walk_at "go2"
          exact ⟨_, rfl, fun _ => rfl, W2.le (by omega), b2⟩
        · repeat walk_at "go2"
          refine ⟨p, q, 2, _, rfl, W2, by decide, by decide, by omega, fun H3 y y0 y1 W3 b3 => ?_⟩
          repeat walk_at "go2"
          exact ⟨_, rfl, fun z => absurd z (of_decide_eq_false h1), W3, b2.trans b3⟩
      · rintro σ3 H3 ⟨fr, rfl, hfr, W3, b3⟩
        repeat walk_at "go2"
        walk_at "nw"
        rename_i r3 hr3 H4 x4 g4
        repeat walk_at "go2"
        have bH4 : But p q H H4 := (But.ex x1).trans (b3.trans (But.ex x4))
        have A4 : AtomsAt H4 p q l L := A_.but W bH4
        have F4 : AtomsAt H4 p q D Lf := F1.but W1 (b3.trans (But.ex x4))
        have n4 : H4 n = some (.tup (ns.map V.int)) := W.tx bH4 _ _ hn
        have W4 : WellAt H4 p q (t + 2) := W3.ex_ x4
        obtain ⟨ls, Ls, hix, hA4, hLt, hLf⟩ : ∃ (ls : Addr) (Ls : List (Addr × Tri)), atI [V.ref D, V.ref l] (if fr = true then 1 else 0) = some (.ref ls) ∧ AtomsAt H4 p q ls Ls ∧ (fr = true → Ls = L) ∧ (fr = false → Ls = Lf) := by
          cases fr with
          | true => exact ⟨l, L, rfl, A4, fun _ => rfl, fun z => (by cases z)⟩
          | false => exact ⟨D, Lf, rfl, F4, fun z => (by cases z), fun _ => rfl⟩
        refine Gk.ixL (SqL.of g4) hix ?_
        repeat walk_at "go2"
        refine ⟨p, q, 8, _, rfl, W4, by decide, by decide, by omega, fun H5 sz sz0 sz1 W5 b5 => ?_⟩
        repeat walk_at "go2"
        refine ⟨p, q, 8, _, rfl, W5, by decide, by decide, by omega, fun H6 many many0 many1 W6 b6 => ?_⟩
        repeat walk_at "go2"
        walk_at "nw"
        rename_i r7 hr7 H7 x7 g7
        repeat walk_at "go2"
        refine ⟨sz, 2, rfl, ?_⟩
        obtain ⟨vv, hvv, vv0, vv1⟩ : ∃ vv : Int, atI [V.int 53, V.int 101, V.int 0] (if 2 < sz then 2 else sz) = some (.int vv) ∧ 0 ≤ vv ∧ vv ≤ 101 := by
          by_cases z : 2 < sz
          · rw [if_pos z]
            exact ⟨0, rfl, by decide, by decide⟩
          · rw [if_neg z]
            rcases (by omega : sz = 0 ∨ sz = 1 ∨ sz = 2) with e | e | e <;> subst e
            · exact ⟨53, rfl, by decide, by decide⟩
            · exact ⟨101, rfl, by decide, by decide⟩
            · exact ⟨0, rfl, by decide, by decide⟩
        refine Gk.ixL (SqL.of g7) hvv ?_
        repeat walk_at "go2"
        have b7 : But p q H4 H7 := b5.trans (b6.trans (But.ex x7))
        have W7 := W6.ex_ x7
        refine ⟨fun σ3 H3 => ∃ mn : Int, σ3 = [some (.ref p), some (.ref n), some (.ref l), none, some (.ref D), some (.int s), some (.bl fr), some (.ref ls), some (.int sz), some (.int mn), none, none, none, none, none, none, none, none, none, none, none] ∧ 0 ≤ mn ∧ mn ≤ 300 ∧ WellAt H3 p q (t + 5) ∧ But p q H4 H3, ?_, ?_⟩
        · repeat walk_at "go2"
          refine Gk.iteQ (fun h1 => ?_) (fun h1 => ?_)
          · repeat walk_at "go2"
            refine ⟨p, q, 193, _, rfl, W7, by decide, by decide, by omega, fun H8 y y0 y1 W8 b8 => ?_⟩
            repeat walk_at "go2"
            exact ⟨_, rfl, by omega, by omega, W8.le (by omega), b7.trans b8⟩
          · repeat walk_at "go2"
            exact ⟨_, rfl, by omega, by omega, W7.le (by omega), b7⟩
        · rintro σ4 H8 ⟨mn, rfl, mn0, mn1, W8, b8⟩
          have A8 := hA4.but W4 b8
          repeat walk_at "go2"
          refine ⟨mn, rfl, by omega, by omega, fun D2 hD2 => lc_range (lo := 0) (n := mn.toNat) (fun i H' => ∃ (xh : List V) (hs : List Hint), H' D2 = some (.lst xh) ∧ TkAll H' xh (hs.map hintD) ∧ hs.length = i ∧ (∀ y ∈ hs, FormIn (Ls.map (·.2)) bigN y.1 ∧ isOrigin y.2.2 = true) ∧ WellAt H' p q (t + 5 + 60 * i) ∧ But p q H8 H') ?_ ?_ ?_⟩
          · exact ⟨[], [], upd_same, .nil, rfl, fun z hz => (by cases hz), W8.ex_ (Ex.new hD2), But.ex (Ex.new hD2)⟩
          · rintro i H9 hi ⟨xh, hs, hxh, tk, hsl, hok, W9, b9⟩
            obtain ⟨ep, eq⟩ := W8.neNew hD2
            repeat walk_at "go2"
            refine ⟨rfl, ?_⟩
            repeat walk_at "go2"
            refine ⟨p, q, ls, _, Ls, rfl, W9, A8.but W8 b9, by omega, fun H10 vf f tf of W10 b10 => ?_⟩
            have t10 := W9.tx b10
            repeat walk_at "go2"
            refine ⟨p, q, 3, _, rfl, W10, by decide, by decide, by omega, fun H11 y y0 y1 W11 b11 => ?_⟩
            have t11 := W10.tx b11
            repeat walk_at "go2"
            refine ⟨p, q, _, rfl, W11, by omega, fun H12 vo o to oo W12 b12 => ?_⟩
            have t12 := W11.tx b12
            repeat walk_at "go2"
            walk_at "nw"
            rename_i r13 hr13 H13 x13 g13
            repeat walk_at "go2"
            have hxh13 := x13 _ _ (b12 _ _ ep eq (b11 _ _ ep eq (b10 _ _ ep eq hxh)))
            have lx : xh.length ≤ 300 := by
              have := TkAll.len tk
              rw [List.length_map] at this
              omega
            have tt := Tx.lst (o := .lst (xh ++ [V.ref r13])) hxh13
            refine ⟨xh, hxh13, by rw [sizeLine_eq]; omega, xh ++ [V.ref r13], hs ++ [(f, decide (y = 0), o)], upd_same, ?_, by rw [List.length_append, hsl]; rfl, fun z hz => ?_, ((W12.ex_ x13).mut ep eq).le (by omega), (b9.trans (b10.trans (b11.trans (b12.trans (But.ex x13))))).mut hD2⟩
            · rw [List.map_append]
              refine TkAll.snoc (Tk.monoAll (Tx.trans t10 (Tx.trans t11 (Tx.trans t12 (Tx.trans (Tx.of_ex x13) tt)))) _ _ tk) ?_
              exact .tup (tt _ _ g13) (.cons (Tk.mono (Tx.trans t11 (Tx.trans t12 (Tx.trans (Tx.of_ex x13) tt))) _ _ tf) (.cons (.bl _) (.cons (Tk.mono (Tx.trans (Tx.of_ex x13) tt) _ _ to) .nil)))
            · rcases List.mem_append.mp hz with e | e
              · exact hok z e
              · rw [List.mem_singleton.mp e]
                exact ⟨of.inn hA4.up, oo⟩
          · rintro H9 ⟨xh, hs, hxh, tk, hsl, hok, W9, b9⟩
            repeat walk_at "go2"
            walk_at "nw"
            rename_i tl htl H10 x10 g10
            repeat walk_at "go2"
            have W10 : WellAt H10 p q (t + 20000) := (W9.ex_ x10).le (by omega)
            obtain ⟨ep, eq⟩ := W8.neNew hD2
            obtain ⟨tp, tq⟩ := W9.neNew htl
            have hxh10 := x10 _ _ hxh
            have tk10 := Tk.monoAll (Tx.of_ex x10) _ _ tk
            have lx : xh.length = hs.length := by
              have := TkAll.len tk
              rw [List.length_map] at this
              exact this
            have bH10 : But p q H H10 := bH4.trans (b8.trans (b9.trans (But.ex x10)))
            have hne : D2 ≠ tl := fun z => by
              subst z
              rw [hxh] at htl
              cases htl
            refine ⟨D2, rfl, ⟨xh, SqL.of hxh10⟩, Gk.forL (xs := xh) (fun i σ' H' => ∃ (u1 u2 u3 u4 : Option V) (ms : List Int), σ' = [some (.ref p), some (.ref n), some (.ref l), none, some (.ref D), some (.int s), some (.bl fr), some (.ref ls), some (.int sz), some (.int mn), some (.ref D2), some (.ref tl), u1, u2, u3, u4, none, none, none, none, none] ∧
              H' tl = some (.lst (ms.map V.int)) ∧ H' D2 = some (.lst xh) ∧ WellAt H' p q (t + 20000 + 5 * i) ∧ But p q H9 H' ∧ Tx H10 H' ∧ ms.length = i ∧ (∀ m ∈ ms, m.natAbs ≤ 5 * bigN) ∧ (∀ (j : Nat) (y : Hint) (m : Int), hs[j]? = some y → ms[j]? = some m → m < 0 → y.2.1 = true) ∧ (fr = true → 1 < s → ∀ m ∈ ms, s ∣ m)) ?_ (fun i σ' H' _ h => by
                obtain ⟨_, _, _, _, _, _, _, h, _⟩ := h
                exact SqL.of h) ?_ ?_⟩
            · exact ⟨none, none, none, none, [], rfl, g10, hxh10, W10, But.ex x10, fun _ _ h => h, rfl, fun m hm => (by cases hm), fun j y m _ h => (by cases h), fun _ _ m hm => (by cases hm)⟩
            · rintro i x σ' H11 hx ⟨u1, u2, u3, u4, ms, rfl, hms, hxh11, W11, b11, t11, hml, hmb, hmx, hmd⟩
              have hi := (List.getElem?_eq_some_iff.mp hx).1
              obtain ⟨y, hy⟩ : ∃ y, hs[i]? = some y := ⟨hs[i], List.getElem?_eq_getElem (by omega)⟩
              obtain ⟨v, q1, g1⟩ := TkAll.get tk10 i (hintD y) (by rw [List.getElem?_map, hy]; rfl)
              rw [hx] at q1
              cases q1
              have g11 := Tk.mono t11 _ _ g1
              cases g11 with
              | tup hth hta =>
              cases hta with
              | cons z1 hta =>
              cases hta with
              | cons z2 hta =>
              cases hta with
              | cons z3 hta =>
              cases hta
              cases z2
              rename_i ay vf vo
              refine Gk.gtup (SqT.of hth) rfl ?_
              repeat walk_at "go2"
              refine ⟨p, q, _, rfl, W11, by omega, fun H12 by1 y0 y1 W12 b12 => ?_⟩
              have t12 := W11.tx b12
              repeat walk_at "go2"
              refine ⟨p, q, 3, _, rfl, W12, by decide, by decide, by omega, fun H13 yy yy0 yy1 W13 b13 => ?_⟩
              have t13 := W12.tx b13
              repeat walk_at "go2"
              have hif : ∀ c : Bool, ∃ z : Int, (if c = true then (1 : Int) else 0) = z ∧ 0 ≤ z ∧ z ≤ 1 := fun c => by
                cases c
                · exact ⟨0, rfl, by decide, by decide⟩
                · exact ⟨1, rfl, by decide, by decide⟩
              obtain ⟨zz, hzz, zz0, zz1⟩ := hif (decide (yy > 0))
              have hb0 : (by1 * zz).natAbs ≤ bigN := by
                have := big_abs y0 y1
                rcases (by omega : zz = 0 ∨ zz = 1) with e | e <;> subst e <;> omega
              refine ⟨fun σ1 H1 => ∃ bb : Int, σ1 = [some (.ref p), some (.ref n), some (.ref l), none, some (.ref D), some (.int s), some (.bl fr), some (.ref ls), some (.int sz), some (.int mn), some (.ref D2), some (.ref tl), some vf, some (.bl y.2.1), some vo, some (.int bb), none, none, none, none, none] ∧ H1 = H13 ∧ bb.natAbs ≤ 5 * bigN ∧ (fr = true → 1 < s → s ∣ bb), ?_, ?_⟩
              · repeat walk_at "go2"
                rw [hzz]
                generalize by1 * zz = b0 at *
                refine Gk.iteQ (fun h1 => ?_) (fun h1 => ?_)
                · repeat walk_at "go2"
                  refine Gk.iteQ (fun h2 => ?_) (fun h2 => ?_)
                  · repeat walk_at "go2"
                    refine ⟨_, rfl, rfl, ?_, fun _ _ => Int.dvd_mul_left _ _⟩
                    rw [Int.natAbs_mul, Nat.mul_comm]
                    exact Nat.mul_le_mul (by omega) hb0
                  · repeat walk_at "go2"
                    exact ⟨_, rfl, rfl, by omega, fun _ z => absurd z (of_decide_eq_false h2)⟩
                · repeat walk_at "go2"
                  exact ⟨_, rfl, rfl, by omega, fun z _ => by rw [h1] at z; cases z⟩
              · rintro σ1 H1 ⟨b1, rfl, rfl, hb1, hd1⟩
                repeat walk_at "go2"
                refine ⟨fun σ1 H2 => ∃ bb : Int, σ1 = [some (.ref p), some (.ref n), some (.ref l), none, some (.ref D), some (.int s), some (.bl fr), some (.ref ls), some (.int sz), some (.int mn), some (.ref D2), some (.ref tl), some vf, some (.bl y.2.1), some vo, some (.int bb), none, none, none, none, none] ∧ H2 = H1 ∧ bb.natAbs ≤ 5 * bigN ∧ (fr = true → 1 < s → s ∣ bb) ∧ (bb < 0 → y.2.1 = true), ?_, ?_⟩
                · repeat walk_at "go2"
                  refine Gk.iteQ (fun h1 => ?_) (fun h1 => ?_)
                  · repeat walk_at "go2"
                    refine ⟨_, rfl, rfl, ?_, fun z1 z2 => ?_, fun z => ?_⟩
                    · split <;> omega
                    · have := hd1 z1 z2
                      split
                      · exact Int.dvd_neg.mpr this
                      · exact this
                    · split at z <;> omega
                  · repeat walk_at "go2"
                    exact ⟨_, rfl, rfl, hb1, hd1, fun _ => bnotF h1⟩
                · rintro σ2 H2 ⟨b2, rfl, rfl, hb2, hd2, hx2⟩
                  have hms2 := b13 _ _ tp tq (b12 _ _ tp tq hms)
                  repeat walk_at "go2"
                  refine Gk.app hms2 (by rw [List.length_map, sizeLine_eq]; omega) ?_
                  have tt := Tx.lst (o := .lst (ms.map V.int ++ [V.int b2])) hms2
                  refine ⟨_, _, _, _, ms ++ [b2], rfl, ?_, ?_, (W13.mut tp tq).le (by omega), (b11.trans (b12.trans b13)).mut htl, Tx.trans t11 (Tx.trans t12 (Tx.trans t13 tt)), by rw [List.length_append, hml]; rfl, fun m hm => ?_, fun j y' m hj hm hneg => ?_, fun z1 z2 m hm => ?_⟩
                  · rw [upd_same, List.map_append]
                    rfl
                  · rw [upd_ne hne]
                    exact b13 _ _ ep eq (b12 _ _ ep eq hxh11)
                  · rcases List.mem_append.mp hm with e | e
                    · exact hmb m e
                    · rw [List.mem_singleton.mp e]
                      exact hb2
                  · rcases Nat.lt_or_ge j ms.length with z | z
                    · rw [List.getElem?_append_left z] at hm
                      exact hmx j y' m hj hm hneg
                    · have hj2 : j = i := by
                        have := (List.getElem?_eq_some_iff.mp hm).1
                        rw [List.length_append] at this
                        have : j < ms.length + 1 := this
                        omega
                      subst hj2
                      rw [List.getElem?_append_right z, hml, Nat.sub_self] at hm
                      cases hm
                      rw [hy] at hj
                      cases hj
                      exact hx2 hneg
                  · rcases List.mem_append.mp hm with e | e
                    · exact hmd z1 z2 m e
                    · rw [List.mem_singleton.mp e]
                      exact hd2 z1 z2
            · rintro σ' H11 ⟨u1, u2, u3, u4, ms, rfl, hms, hxh11, W11, b11, t11, hml, hmb, hmx, hmd⟩
              have hMade : Made (Ls.map (·.2)) s fr hs ms := ⟨by omega, by omega, hok, hmb, hmx, hmd⟩
              repeat walk_at "go2"
              walk_at "nw"
              rename_i e1 he1 H12 x12 g12
              repeat walk_at "go2"
              walk_at "nw"
              rename_i e2 he2 H13 x13 g13
              repeat walk_at "go2"
              have hms13 := x13 _ _ (x12 _ _ hms)
              have hxh13 := x13 _ _ (x12 _ _ hxh11)
              have t13 : Tx H10 H13 := Tx.trans t11 (Tx.of_ex (x12.trans x13))
              have W13 := W11.ex_ (x12.trans x13)
              have b13 : But p q H9 H13 := b11.trans (But.ex (x12.trans x13))
              have tk13 := Tk.monoAll t13 _ _ tk10
              have lens : ∀ l : List Hint, (∀ y ∈ l, y.1.2.length ≤ 9) → (l.map fun y => y.1.2.length).sum ≤ 9 * l.length := by
                intro l
                induction l with
                | nil => exact fun _ => Nat.le_refl 0
                | cons y l ih =>
                  intro h
                  have h1 := h y List.mem_cons_self
                  have h2 := ih fun z hz => h z (List.mem_cons_of_mem _ hz)
                  rw [List.map_cons, List.sum_cons, List.length_cons]
                  omega
              have hlen : (hs.map fun y => y.1.2.length).sum ≤ 2700 := by
                have h1 := lens hs fun y hy => by
                  have := (hok y hy).1.len
                  rw [List.length_map] at this
                  have := hA4.len
                  omega
                omega
              have smB : ∀ x : Int, x.natAbs ≤ 5 * bigN → small x := fun x hx => by
                unfold small
                exact Nat.lt_of_le_of_lt hx (by decide +kernel)
              refine ⟨.ref e2, D2, tl, xh, (0, []), hs, 0, ms, rfl, ⟨?_, .inr ⟨SqL.of hxh13, SqL.of hms13⟩, tk13, by omega, ⟨smB 0 (by decide), fun t ht => (by cases ht)⟩, fun y hy => ⟨smB _ (by have := (hok y hy).1.c; omega), fun t ht => smB _ (by have := ((hok y hy).1.t t ht).2.2; omega)⟩, smB 0 (by decide), fun m hm => smB _ (hmb m hm), List.nodup_nil, ?_⟩, fun H14 r tb m hr hm hnd hml2 htv x14 htb => ?_⟩
              · exact .tup g13 (.cons (.int _) (.cons (.tup (x13 _ _ g12) .nil) .nil))
              · show 0 + _ ≤ 90000
                omega
              refine ⟨r, _, rfl, SqL.of hr, rfl, ?_⟩
              repeat walk_at "go2"
              have eC : (0 : Int) * (0, ([] : Tab)).1 + sumC (List.zipWith (fun (h : Hint) (m : Int) => (h.1, -m)) hs ms) = sumC (negz hs ms) := by
                show 0 * 0 + sumC (negz hs ms) = _
                omega
              have eA : ∀ a, tv m a = sumA (negz hs ms) a := fun a => by
                rw [htv]
                show 0 * 0 + sumA (negz hs ms) a = _
                omega
              rw [eC]
              obtain ⟨tbp, tbq⟩ := W13.neNew htb
              have W14 := W13.ex_ x14
              have b14 := b13.trans (But.ex x14)
              have t14 : Tx H10 H14 := Tx.trans t13 (Tx.of_ex x14)
              have bH9 : But p q H H9 := bH4.trans (b8.trans b9)
              have bH14 : But p q H H14 := bH9.trans b14
              have tbH : H tb = none := (bH9.trans b13).none tbp tbq htb
              have A14 : AtomsAt H14 p q l L := A_.but W bH14
              have F14 : AtomsAt H14 p q D Lf := F4.but W4 (b8.trans (b9.trans b14))
              have hms14 := x14 _ _ hms13
              have hxh14 := x14 _ _ hxh13
              have ned2 : tb ≠ D2 := fun z => by
                subst z
                rw [hxh13] at htb
                cases htb
              have netl : tb ≠ tl := fun z => by
                subst z
                rw [hms13] at htb
                cases htb
              have neD : tb ≠ D := fun z => by
                subst z
                have := (F4.but W4 (b8.trans (b9.trans b13))).hl
                rw [htb] at this
                cases this
              have ndF : (Lf.map (·.2)).Nodup := up_nodup F4.up
              clear hr g12 g13 he1 he2 x12 x13 x14 hms13 hxh13 b13 t13 W13 tk13 htb hms hxh11 W11 b11 t11 hxh10 g10 W10 x10 W9 b9 hxh tk
              refine Gk.iteQ (fun hs0 => ?_) (fun hs0 => ?_)
              · have hs0 : s = 0 := of_decide_eq_true hs0
                repeat walk_at "go2"
                refine ⟨D, rfl, ⟨_, SqL.of F14.hl⟩, Gk.forL (xs := Lf.map fun z => V.ref z.1) (fun i σ' H' => ∃ (u0 u5 : Option V) (m : Tab) (low : Tri → Int), σ' = [some (.ref p), some (.ref n), some (.ref l), u0, some (.ref D), some (.int s), some (.bl fr), some (.ref ls), some (.int sz), some (.int mn), some (.ref D2), some (.ref tl), u1, u2, u3, u4, some (.int (sumC (negz hs ms))), some (.ref tb), u5, none, none] ∧ H' tb = some (.dT (encT m)) ∧ (m.map (·.1)).Nodup ∧ m.length ≤ 90000 + i ∧
                  (∀ a, tv m a = sumA (negz hs ms) a - low a) ∧ (∀ a, 0 ≤ low a) ∧ (∀ a, (low a).natAbs ≤ bigN) ∧ (∀ a, a ∉ (Lf.map (·.2)).take i → low a = 0) ∧ WellAt H' p q (t + 30000 + 5 * i) ∧ But p q H H' ∧ Tx H14 H' ∧ H' D2 = some (.lst xh) ∧ H' tl = some (.lst (ms.map V.int)) ∧ H' D = some (.lst (Lf.map fun z => V.ref z.1))) ?_ (fun i σ' H' _ h => by
                    obtain ⟨_, _, _, _, _, _, _, _, _, _, _, _, _, _, _, _, _, h⟩ := h
                    exact SqL.of h) ?_ ?_⟩
                · exact ⟨_, _, m, fun _ => 0, rfl, hm, hnd, by omega, fun a => by rw [eA, Int.sub_zero], fun _ => Int.le_refl 0, fun _ => Nat.zero_le _, fun _ _ => rfl, W14.le (by omega), bH14, fun _ _ h => h, hxh14, hms14, F14.hl⟩
                · rintro i x σ' H15 hx ⟨u0, u5, m1, low, rfl, hm1, nd1, ln1, ev1, lw0, lw1, lw2, W15, b15, t15, d15, tl15, f15⟩
                  rw [List.getElem?_map] at hx
                  obtain ⟨⟨a, c⟩, hc, rfl⟩ := Option.map_eq_some_iff.mp hx
                  have hi := (List.getElem?_eq_some_iff.mp hc).1
                  have hFl := F4.len
                  have ha : H15 a = some (.tup (triV c)) := t15 _ _ (F14.ha _ (List.mem_of_getElem? hc))
                  have eti : (Lf.map (·.2)).take (i + 1) = (Lf.map (·.2)).take i ++ [c] := take_one (by rw [List.getElem?_map, hc]; rfl)
                  have cni : c ∉ (Lf.map (·.2)).take i := fun hmem => by
                    have nd := (List.take_sublist (i + 1) (Lf.map (·.2))).nodup ndF
                    rw [eti] at nd
                    exact (List.nodup_append.mp nd).2.2 c hmem c (List.mem_singleton.mpr rfl) rfl
                  repeat walk_at "go2"
                  refine ⟨tb, rfl, tab_is hm1, ?_⟩
                  repeat walk_at "go2"
                  refine ⟨_, tab_get hm1 ha, ?_⟩
                  rw [tab_getD]
                  repeat walk_at "go2"
                  refine ⟨p, q, _, rfl, W15, by omega, fun H16 by1 y0 y1 W16 b16 => ?_⟩
                  have t16 := W15.tx b16
                  repeat walk_at "go2"
                  have hm16 := b16 _ _ tbp tbq hm1
                  have ha16 := t16 _ _ ha
                  refine ⟨tb, _, rfl, tab_put hm16 ha16 (by omega), ?_⟩
                  obtain ⟨av, hav, av0, av1⟩ : ∃ av : Int, (if by1 < 0 then -by1 else by1) = av ∧ 0 ≤ av ∧ av.natAbs ≤ bigN := ⟨_, rfl, by split <;> omega, by have := big_abs y0 y1; split <;> omega⟩
                  rw [hav]
                  refine ⟨_, _, tput m1 c (tv m1 c - av), fun a => if a = c then av else low a, rfl, upd_same, tput_nodup _ _ nd1, ?_, fun a => ?_, fun a => ?_, fun a => ?_, fun a hni => ?_, (W16.mut tbp tbq).le (by omega), (b15.trans b16).mut tbH, Tx.trans t15 (Tx.trans t16 (Tx.dct hm16)), by rw [upd_ne ned2.symm]; exact b16 _ _ ep eq d15, by rw [upd_ne netl.symm]; exact b16 _ _ tp tq tl15, by rw [upd_ne neD.symm]; exact b16 _ _ dp dq f15⟩
                  · have := tput_len m1 c (tv m1 c - av)
                    omega
                  · rw [tv_put]
                    dsimp only
                    by_cases z : a = c
                    · rw [if_pos z, if_pos z, ev1, lw2 c cni, z]
                      omega
                    · rw [if_neg z, if_neg z, ev1]
                  · show 0 ≤ if a = c then av else low a
                    split
                    · exact av0
                    · exact lw0 a
                  · show (if a = c then av else low a).natAbs ≤ bigN
                    split
                    · exact av1
                    · exact lw1 a
                  · rw [eti] at hni
                    have n1 : a ≠ c := fun z => hni (List.mem_append.mpr (.inr (List.mem_singleton.mpr z)))
                    show (if a = c then av else low a) = 0
                    rw [if_neg n1]
                    exact lw2 a fun z => hni (List.mem_append.mpr (.inl z))
                · rintro σ' H15 ⟨u0, u5, m1, low, rfl, hm1, nd1, ln1, ev1, lw0, lw1, lw2, W15, b15, t15, d15, tl15, f15⟩
                  rw [List.length_map] at ln1 lw2 W15
                  have hFl := F4.len
                  have elf : (Lf.map (·.2)).take Lf.length = Lf.map (·.2) := List.take_of_length_le (by rw [List.length_map]; omega)
                  rw [elf] at lw2
                  repeat walk_at "go2"
                  refine ⟨p, q, _, rfl, W15, by omega, fun H16 by1 y0 y1 W16 b16 => ?_⟩
                  have t16 := W15.tx b16
                  repeat walk_at "go2"
                  obtain ⟨av, hav, av0, av1⟩ : ∃ av : Int, (if by1 < 0 then -by1 else by1) = av ∧ 0 ≤ av ∧ av.natAbs ≤ bigN := ⟨_, rfl, by split <;> omega, by have := big_abs y0 y1; split <;> omega⟩
                  rw [hav]
                  refine ⟨_, tb, m1, rfl, b16 _ _ tbp tbq hm1, nd1, by omega, fun H17 vf out x17 tf to => ?_⟩
                  repeat walk_at "go2"
                  have W17 := W16.ex_ x17
                  refine ⟨p, q, 2, _, rfl, W17, by decide, by decide, by omega, fun H18 yy yy0 yy1 W18 b18 => ?_⟩
                  have t18 := W17.tx b18
                  repeat walk_at "go2"
                  refine ⟨p, q, _, rfl, W18, by omega, fun H19 vo o tko oo W19 b19 => ?_⟩
                  have t19 := W18.tx b19
                  repeat walk_at "go2"
                  walk_at "nw"
                  rename_i r20 hr20 H20 x20 g20
                  repeat walk_at "go2"
                  have d20 := x20 _ _ (b19 _ _ ep eq (b18 _ _ ep eq (x17 _ _ (b16 _ _ ep eq d15))))
                  have tl20 := x20 _ _ (b19 _ _ tp tq (b18 _ _ tp tq (x17 _ _ (b16 _ _ tp tq tl15))))
                  have W20 := W19.ex_ x20
                  have t20 : Tx H14 H20 := Tx.trans t15 (Tx.trans t16 (Tx.trans (Tx.of_ex x17) (Tx.trans t18 (Tx.trans t19 (Tx.of_ex x20)))))
                  have b20 : But p q H H20 := b15.trans (b16.trans ((But.ex x17).trans (b18.trans (b19.trans (But.ex x20)))))
                  have tf20 := Tk.mono (Tx.trans t18 (Tx.trans t19 (Tx.of_ex x20))) _ _ tf
                  have to20 := Tk.mono (Tx.of_ex x20) _ _ tko
                  have tk20 := Tk.monoAll (Tx.trans t14 t20) _ _ tk10
                  refine Gk.app d20 (by rw [sizeLine_eq]; omega) ?_
                  have dH : H D2 = none := (bH4.trans b8).none ep eq hD2
                  have tt := Tx.lst (o := .lst (xh ++ [V.ref r20])) d20
                  have d21 : upd H20 D2 (.lst (xh ++ [V.ref r20])) D2 = some (.lst (xh ++ [V.ref r20])) := upd_same
                  have tl21 : upd H20 D2 (.lst (xh ++ [V.ref r20])) tl = some (.lst (ms.map V.int)) := by rw [upd_ne hne.symm]; exact tl20
                  have W21 : WellAt (upd H20 D2 (.lst (xh ++ [V.ref r20]))) p q _ := W20.mut ep eq
                  have b21 : But p q H (upd H20 D2 (.lst (xh ++ [V.ref r20]))) := b20.mut dH
                  have tk21 : TkAll (upd H20 D2 (.lst (xh ++ [V.ref r20]))) (xh ++ [V.ref r20]) ((hs ++ [((sumC (negz hs ms) - 1 - av, out), decide (yy = 0), o)]).map hintD) := by
                    rw [List.map_append]
                    exact TkAll.snoc (Tk.monoAll tt _ _ tk20) (.tup (tt _ _ g20) (.cons (Tk.mono tt _ _ tf20) (.cons (.bl _) (.cons (Tk.mono tt _ _ to20) .nil))))
                  generalize upd H20 D2 (.lst (xh ++ [V.ref r20])) = H21 at *
                  repeat walk_at "go2"
                  refine ⟨p, q, l, _, L, rfl, W21, A_.but W b21, by omega, fun H22 vf2 f2 tf2 of2 W22 b22 => ?_⟩
                  have t22 := W21.tx b22
                  have d22 := b22 _ _ ep eq d21
                  have tl22 := b22 _ _ tp tq tl21
                  have tk22 := Tk.monoAll t22 _ _ tk21
                  repeat walk_at "go2"
                  refine ⟨D2, _, rfl, .inl ⟨SqL.of d22, fun r23 hr23 => ?_⟩⟩
                  walk_at "gn"
                  rename_i H23 x23 g23
                  repeat walk_at "go2"
                  walk_at "nw"
                  rename_i r24 hr24 H24 x24 g24
                  repeat walk_at "go2"
                  refine ⟨tl, r24, _, _, rfl, rfl, x24 _ _ (x23 _ _ tl22), g24, by rw [List.length_map, sizeLine_eq]; show ms.length + 1 ≤ _; omega, fun r25 hr25 => ?_⟩
                  walk_at "gn"
                  rename_i H25 x25 g25
                  repeat walk_at "go2"
                  refine ⟨r25, _, rfl, .inl ⟨SqL.of g25, fun r26 hr26 => ?_⟩⟩
                  walk_at "gn"
                  rename_i H26 x26 g26
                  repeat walk_at "go2"
                  walk_at "nw"
                  rename_i r27 hr27 H27 x27 g27
                  repeat walk_at "go2"
                  walk_at "nw"
                  rename_i r28 hr28 H28 x28 g28
                  repeat walk_at "go2"
                  have xF : Ex H22 H28 := x23.trans (x24.trans (x25.trans (x26.trans (x27.trans x28))))
                  have hi1 : ∀ ks : List Int, TkAll H28 (ks.map V.int) (ks.map .int) := by
                    intro ks
                    induction ks with
                    | nil => exact .nil
                    | cons k ks ih => exact .cons (.int k) ih
                  have mk := made_zero (ns := ns) (l := L.map (·.2)) (fl := Lf.map (·.2)) (f := f2) (e := decide (yy = 0)) (o := o) (b := av) (low := low) (S := tv m1) (by
                    have := hMade
                    rw [hs0, hfr hs0, hLt (hfr hs0)] at this
                    exact this) ((of2.inn A_.up).mono (fun _ z => z) (by have := b1_le; omega)) oo av0 av1 to ev1 lw0 lw1 lw2 (fun a ha => by
                      obtain ⟨z, hz, rfl⟩ := List.mem_map.mp ha
                      exact ⟨List.mem_map_of_mem (hfin z hz), hfloor z hz⟩)
                  refine k H28 r28 vf2 (.ref r23) (.ref r27) f2 _ 0 (ms ++ [1]) g28 (Tk.mono (Tx.of_ex xF) _ _ tf2) ?_ ?_ mk ((W22.ex_ xF).le (by omega)) (b21.trans (b22.trans (But.ex xF)))
                  · exact .tup (by walk_at "lf") (Tk.monoAll (Tx.of_ex xF) _ _ tk22)
                  · refine .tup (by walk_at "lf") (.cons (.int _) (.cons (.tup (x28 _ _ (x27 _ _ g26)) ?_) .nil))
                    have := hi1 (ms ++ [1])
                    rw [List.map_append] at this
                    exact this
              · have hs0 : s ≠ 0 := of_decide_eq_false hs0
                have hsp : 0 < s := by omega
                repeat walk_at "go2"
                refine ⟨D, rfl, ⟨_, SqL.of F14.hl⟩, Gk.forL (xs := Lf.map fun z => V.ref z.1) (fun i σ' H' => ∃ (u0 u5 : Option V) (m : Tab) (low : Tri → Int), σ' = [some (.ref p), some (.ref n), some (.ref l), u0, some (.ref D), some (.int s), some (.bl fr), some (.ref ls), some (.int sz), some (.int mn), some (.ref D2), some (.ref tl), u1, u2, u3, u4, some (.int (sumC (negz hs ms))), some (.ref tb), u5, none, none] ∧ H' tb = some (.dT (encT m)) ∧ (m.map (·.1)).Nodup ∧ m.length ≤ 90000 + i ∧
                  (∀ a, tv m a = sumA (negz hs ms) a - low a) ∧ (∀ a, 0 ≤ low a) ∧ (∀ a, (low a).natAbs ≤ 50 * bigN) ∧ (∀ a, a ∉ (Lf.map (·.2)).take i → low a = 0) ∧ (∀ a ∈ (Lf.map (·.2)).take i, s ∣ sumA (negz hs ms) a - low a) ∧ WellAt H' p q (t + 30000 + 5 * i) ∧ But p q H H' ∧ Tx H14 H' ∧ H' D2 = some (.lst xh) ∧ H' tl = some (.lst (ms.map V.int)) ∧ H' D = some (.lst (Lf.map fun z => V.ref z.1))) ?_ (fun i σ' H' _ h => by
                    obtain ⟨_, _, _, _, _, _, _, _, _, _, _, _, _, _, _, _, _, _, h⟩ := h
                    exact SqL.of h) ?_ ?_⟩
                · exact ⟨_, _, m, fun _ => 0, rfl, hm, hnd, by omega, fun a => by rw [eA, Int.sub_zero], fun _ => Int.le_refl 0, fun _ => Nat.zero_le _, fun _ _ => rfl, fun a ha => (by cases ha), W14.le (by omega), bH14, fun _ _ h => h, hxh14, hms14, F14.hl⟩
                · rintro i x σ' H15 hx ⟨u0, u5, m1, low, rfl, hm1, nd1, ln1, ev1, lw0, lw1, lw2, lw3, W15, b15, t15, d15, tl15, f15⟩
                  rw [List.getElem?_map] at hx
                  obtain ⟨⟨a, c⟩, hc, rfl⟩ := Option.map_eq_some_iff.mp hx
                  have hi := (List.getElem?_eq_some_iff.mp hc).1
                  have hFl := F4.len
                  have ha : H15 a = some (.tup (triV c)) := t15 _ _ (F14.ha _ (List.mem_of_getElem? hc))
                  have eti : (Lf.map (·.2)).take (i + 1) = (Lf.map (·.2)).take i ++ [c] := take_one (by rw [List.getElem?_map, hc]; rfl)
                  have cni : c ∉ (Lf.map (·.2)).take i := fun hmem => by
                    have nd := (List.take_sublist (i + 1) (Lf.map (·.2))).nodup ndF
                    rw [eti] at nd
                    exact (List.nodup_append.mp nd).2.2 c hmem c (List.mem_singleton.mpr rfl) rfl
                  repeat walk_at "go2"
                  refine ⟨tb, rfl, tab_is hm1, ?_⟩
                  repeat walk_at "go2"
                  refine ⟨_, tab_get hm1 ha, ?_⟩
                  rw [tab_getD]
                  repeat walk_at "go2"
                  refine ⟨p, q, _, rfl, W15, by omega, fun H16 by1 y0 y1 W16 b16 => ?_⟩
                  have t16 := W15.tx b16
                  repeat walk_at "go2"
                  obtain ⟨av, hav, av0, av1⟩ : ∃ av : Int, (if by1 < 0 then -by1 else by1) = av ∧ 0 ≤ av ∧ av.natAbs ≤ bigN := ⟨_, rfl, by split <;> omega, by have := big_abs y0 y1; split <;> omega⟩
                  rw [hav]
                  have hsa : 0 ≤ s * av ∧ (s * av).natAbs ≤ 5 * bigN := by
                    rcases (by omega : s = 1 ∨ s = 2 ∨ s = 3 ∨ s = 4 ∨ s = 5) with e | e | e | e | e <;> subst e <;> omega
                  repeat walk_at "go2"
                  have hm16 := b16 _ _ tbp tbq hm1
                  have ha16 := t16 _ _ ha
                  have hc0 := lw2 c cni
                  have evc := ev1 c
                  rw [hc0, Int.sub_zero] at evc
                  have hmod : 0 ≤ tv m1 c % s := Int.emod_nonneg _ hs0
                  have hmod2 : tv m1 c % s < s := Int.emod_lt_of_pos _ hsp
                  have hdm := Int.mul_ediv_add_emod (tv m1 c) s
                  refine ⟨tb, _, rfl, tab_put hm16 ha16 (by omega), ?_⟩
                  refine ⟨_, _, tput m1 c (tv m1 c - tv m1 c % s - s * av), fun a => if a = c then tv m1 c % s + s * av else low a, rfl, upd_same, tput_nodup _ _ nd1, ?_, fun a => ?_, fun a => ?_, fun a => ?_, fun a hni => ?_, fun a hni => ?_, (W16.mut tbp tbq).le (by omega), (b15.trans b16).mut tbH, Tx.trans t15 (Tx.trans t16 (Tx.dct hm16)), by rw [upd_ne ned2.symm]; exact b16 _ _ ep eq d15, by rw [upd_ne netl.symm]; exact b16 _ _ tp tq tl15, by rw [upd_ne neD.symm]; exact b16 _ _ dp dq f15⟩
                  · have := tput_len m1 c (tv m1 c - tv m1 c % s - s * av)
                    omega
                  · rw [tv_put]
                    dsimp only
                    by_cases z : a = c
                    · rw [if_pos z, if_pos z, z, ← evc]
                      omega
                    · rw [if_neg z, if_neg z, ev1]
                  · show 0 ≤ if a = c then tv m1 c % s + s * av else low a
                    split
                    · omega
                    · exact lw0 a
                  · show (if a = c then tv m1 c % s + s * av else low a).natAbs ≤ 50 * bigN
                    have hbN : 1 ≤ bigN := by decide
                    split
                    · omega
                    · exact lw1 a
                  · rw [eti] at hni
                    have n1 : a ≠ c := fun z => hni (List.mem_append.mpr (.inr (List.mem_singleton.mpr z)))
                    show (if a = c then tv m1 c % s + s * av else low a) = 0
                    rw [if_neg n1]
                    exact lw2 a fun z => hni (List.mem_append.mpr (.inl z))
                  · rw [eti] at hni
                    dsimp only
                    by_cases z : a = c
                    · rw [if_pos z, z, ← evc]
                      exact ⟨tv m1 c / s - av, by rw [Int.mul_sub]; omega⟩
                    · rw [if_neg z]
                      rcases List.mem_append.mp hni with e | e
                      · exact lw3 a e
                      · exact absurd (List.mem_singleton.mp e) z
                · rintro σ' H15 ⟨u0, u5, m1, low, rfl, hm1, nd1, ln1, ev1, lw0, lw1, lw2, lw3, W15, b15, t15, d15, tl15, f15⟩
                  rw [List.length_map] at ln1 lw2 lw3 W15
                  have hFl := F4.len
                  have elf : (Lf.map (·.2)).take Lf.length = Lf.map (·.2) := List.take_of_length_le (by rw [List.length_map]; omega)
                  rw [elf] at lw2 lw3
                  repeat walk_at "go2"
                  refine ⟨p, q, _, rfl, W15, by omega, fun H16 by1 y0 y1 W16 b16 => ?_⟩
                  have t16 := W15.tx b16
                  repeat walk_at "go2"
                  obtain ⟨av, hav, av0, av1⟩ : ∃ av : Int, (if by1 < 0 then -by1 else by1) = av ∧ 0 ≤ av ∧ av.natAbs ≤ bigN := ⟨_, rfl, by split <;> omega, by have := big_abs y0 y1; split <;> omega⟩
                  rw [hav]
                  have hsa : 0 ≤ s * av ∧ (s * av).natAbs ≤ 5 * bigN := by
                    rcases (by omega : s = 1 ∨ s = 2 ∨ s = 3 ∨ s = 4 ∨ s = 5) with e | e | e | e | e <;> subst e <;> omega
                  repeat walk_at "go2"
                  refine ⟨p, q, 2, _, rfl, W16, by decide, by decide, by omega, fun H17 yy yy0 yy1 W17 b17 => ?_⟩
                  have t17 := W16.tx b17
                  repeat walk_at "go2"
                  intro ti hti
                  walk_at "gn"
                  rename_i H18 x18 g18
                  repeat walk_at "go2"
                  have hm17 := b17 _ _ tbp tbq (b16 _ _ tbp tbq hm1)
                  have hm18 := x18 _ _ hm17
                  have d18 := x18 _ _ (b17 _ _ ep eq (b16 _ _ ep eq d15))
                  have tl18 := x18 _ _ (b17 _ _ tp tq (b16 _ _ tp tq tl15))
                  have W18 := W17.ex_ x18
                  obtain ⟨tip, tiq⟩ := W17.neNew hti
                  have b18 : But p q H H18 := b15.trans (b16.trans (b17.trans (But.ex x18)))
                  have t18 : Tx H14 H18 := Tx.trans t15 (Tx.trans t16 (Tx.trans t17 (Tx.of_ex x18)))
                  have tiH : H ti = none := (b15.trans (b16.trans b17)).none tip tiq hti
                  have neti : ti ≠ tb := fun z => by
                    subst z
                    rw [hti] at hm17
                    cases hm17
                  have neti2 : ti ≠ D2 := fun z => by
                    subst z
                    rw [b17 _ _ ep eq (b16 _ _ ep eq d15)] at hti
                    cases hti
                  have neti3 : ti ≠ tl := fun z => by
                    subst z
                    rw [b17 _ _ tp tq (b16 _ _ tp tq tl15)] at hti
                    cases hti
                  refine ⟨tb, .dT (encT m1), hm18, True.intro, fun od => ?_⟩
                  refine Gk.forS ?_
                  have hfz : upd H18 tb (.frz od (.dT (encT m1))) tb = some (.frz od (.dT (encT m1))) := upd_same
                  have Wf : WellAt (upd H18 tb (.frz od (.dT (encT m1)))) p q _ := W18.mut tbp tbq
                  have bf : But p q H (upd H18 tb (.frz od (.dT (encT m1)))) := b18.mut tbH
                  have tF : Tx H14 (upd H18 tb (.frz od (.dT (encT m1)))) := Tx.trans t18 (Tx.dct hm18)
                  have df : upd H18 tb (.frz od (.dT (encT m1))) D2 = some (.lst xh) := by rw [upd_ne ned2.symm]; exact d18
                  have tlf : upd H18 tb (.frz od (.dT (encT m1))) tl = some (.lst (ms.map V.int)) := by rw [upd_ne netl.symm]; exact tl18
                  have gf : upd H18 tb (.frz od (.dT (encT m1))) ti = some (.dT []) := by rw [upd_ne neti]; exact g18
                  generalize upd H18 tb (.frz od (.dT (encT m1))) = Hf at *
                  refine ⟨_, rfl, tb, od, rfl, .inr ⟨encT m1, hfz, forKT (m := m1) (fun i σ' H' => ∃ (u0 u5 : Option V) (mi : Tab), σ' = [some (.ref p), some (.ref n), some (.ref l), u0, some (.ref D), some (.int s), some (.bl fr), some (.ref ls), some (.int sz), some (.int mn), some (.ref D2), some (.ref tl), u1, u2, u3, u4, some (.int (sumC (negz hs ms) - sumC (negz hs ms) % s - s * av * yy)), some (.ref tb), u5, some (.ref ti), none] ∧
                    H' ti = some (.dT (encT mi)) ∧ (mi.map (·.1)).Nodup ∧ mi.length ≤ i ∧ (∀ a, tv mi a = if a ∈ (m1.map (·.1)).take i then -tv m1 a / s else 0) ∧ WellAt H' p q (t + 31000) ∧ But p q H H' ∧ Tx H14 H' ∧ H' D2 = some (.lst xh) ∧ H' tl = some (.lst (ms.map V.int)) ∧ H' tb = some (.frz od (.dT (encT m1)))) ?_ (fun i σ' H' h => by
                      obtain ⟨_, _, _, _, _, _, _, _, _, _, _, _, _, h⟩ := h
                      exact h) ?_ ?_⟩⟩
                  · refine ⟨_, _, [], rfl, gf, List.nodup_nil, Nat.le_refl 0, fun a => ?_, Wf.le (by omega), bf, tF, df, tlf, hfz⟩
                    rw [if_neg (by simp)]
                    rfl
                  · rintro i a c qq σ' H19 hc hqq ⟨u0, u5, mi, rfl, hmi, ndi, lni, evi, W19, b19, t19, d19, tl19, f19⟩
                    have hi := (List.getElem?_eq_some_iff.mp hc).1
                    have hget : tget m1 a = some c := (tget_mem nd1 a c).mp (List.mem_of_getElem? hc)
                    have htv1 : tv m1 a = c := by
                      unfold tv
                      rw [hget]
                      rfl
                    have dg := tab_getF f19 hqq
                    rw [hget] at dg
                    have eti : (m1.map (·.1)).take (i + 1) = (m1.map (·.1)).take i ++ [a] := take_one (by rw [List.getElem?_map, hc]; rfl)
                    repeat walk_at "go2"
                    refine ⟨tb, _, rfl, dg, ?_⟩
                    repeat walk_at "go2"
                    refine ⟨ti, _, rfl, tab_put hmi hqq (by omega), ?_⟩
                    refine ⟨_, _, tput mi a (-c / s), rfl, upd_same, tput_nodup _ _ ndi, ?_, fun a' => ?_, W19.mut tip tiq, b19.mut tiH, Tx.trans t19 (Tx.dct hmi), by rw [upd_ne neti2.symm]; exact d19, by rw [upd_ne neti3.symm]; exact tl19, by rw [upd_ne neti.symm]; exact f19⟩
                    · have := tput_len mi a (-c / s)
                      omega
                    · rw [tv_put, eti]
                      by_cases z : a' = a
                      · subst z
                        rw [if_pos rfl, if_pos (List.mem_append.mpr (.inr (List.mem_singleton.mpr rfl))), htv1]
                      · rw [if_neg z, evi]
                        by_cases z2 : a' ∈ (m1.map (·.1)).take i
                        · rw [if_pos z2, if_pos (List.mem_append.mpr (.inl z2))]
                        · rw [if_neg z2, if_neg fun e => (List.mem_append.mp e).elim z2 fun e => z (List.mem_singleton.mp e)]
                  · rintro σ' H19 ⟨u0, u5, mi, rfl, hmi, ndi, lni, evi, W19, b19, t19, d19, tl19, f19⟩
                    refine ⟨f19, ?_⟩
                    have tu : Tx H19 (upd H19 tb (.dT (encT m1))) := fun a ys e => by
                      by_cases z : a = tb
                      · subst z
                        rw [f19] at e
                        cases e
                      · rw [upd_ne z]
                        exact e
                    have hmi2 : upd H19 tb (.dT (encT m1)) ti = some (.dT (encT mi)) := by rw [upd_ne neti]; exact hmi
                    have d20 : upd H19 tb (.dT (encT m1)) D2 = some (.lst xh) := by rw [upd_ne ned2.symm]; exact d19
                    have tl20 : upd H19 tb (.dT (encT m1)) tl = some (.lst (ms.map V.int)) := by rw [upd_ne netl.symm]; exact tl19
                    have W20 : WellAt (upd H19 tb (.dT (encT m1))) p q (t + 31000) := W19.mut tbp tbq
                    have b20 : But p q H (upd H19 tb (.dT (encT m1))) := b19.mut tbH
                    have t20 := Tx.trans t19 tu
                    generalize upd H19 tb (.dT (encT m1)) = H20 at *
                    have evS : ∀ a, tv mi a = -(sumA (negz hs ms) a - low a) / s := fun a => by
                      rw [evi, ← ev1]
                      by_cases z : a ∈ (m1.map (·.1)).take m1.length
                      · rw [if_pos z]
                      · rw [if_neg z]
                        rw [List.take_of_length_le (by rw [List.length_map]; omega)] at z
                        have : tv m1 a = 0 := by
                          unfold tv
                          rw [tget_nokey z]
                          rfl
                        rw [this]
                        simp
                    repeat walk_at "go2"
                    refine ⟨_, ti, mi, rfl, hmi2, ndi, by omega, fun H21 vf out x21 tf to => ?_⟩
                    repeat walk_at "go2"
                    have d21 := x21 _ _ d20
                    have tl21 := x21 _ _ tl20
                    refine ⟨D2, _, rfl, .inl ⟨SqL.of d21, fun r22 hr22 => ?_⟩⟩
                    walk_at "gn"
                    rename_i H22 x22 g22
                    repeat walk_at "go2"
                    refine ⟨tl, _, rfl, .inl ⟨SqL.of (x22 _ _ tl21), fun r23 hr23 => ?_⟩⟩
                    walk_at "gn"
                    rename_i H23 x23 g23
                    repeat walk_at "go2"
                    walk_at "nw"
                    rename_i r24 hr24 H24 x24 g24
                    repeat walk_at "go2"
                    walk_at "nw"
                    rename_i r25 hr25 H25 x25 g25
                    repeat walk_at "go2"
                    have xF : Ex H21 H25 := x22.trans (x23.trans (x24.trans x25))
                    have hi1 : ∀ ks : List Int, TkAll H25 (ks.map V.int) (ks.map .int) := by
                      intro ks
                      induction ks with
                      | nil => exact .nil
                      | cons k ks ih => exact .cons (.int k) ih
                    have hcm := Int.mul_ediv_add_emod (sumC (negz hs ms)) s
                    have hcm0 : 0 ≤ sumC (negz hs ms) % s := Int.emod_nonneg _ hs0
                    have hcm1 : sumC (negz hs ms) % s < s := Int.emod_lt_of_pos _ hsp
                    have hsy : 0 ≤ s * av * yy ∧ (s * av * yy).natAbs ≤ 5 * bigN := by
                      rcases (by omega : yy = 0 ∨ yy = 1) with e | e <;> subst e <;> omega
                    have mk := made_some (ns := ns) (l := L.map (·.2)) (fl := Lf.map (·.2)) (c' := sumC (negz hs ms) - sumC (negz hs ms) % s - s * av * yy) (u := sumC (negz hs ms) % s + s * av * yy) (low := low) (S := tv mi) hMade (fun a ha => by
                      obtain ⟨z, hz, rfl⟩ := List.mem_map.mp ha
                      refine List.mem_map_of_mem ?_
                      cases hfq : fr with
                      | true => rw [← hLt hfq]; exact hz
                      | false => exact hfin z (by rw [← hLf hfq]; exact hz)) hsp (by omega) (by omega) (by omega) (by have : 1 ≤ bigN := (by decide); omega) ⟨sumC (negz hs ms) / s - av * yy, by rw [Int.mul_sub, ← Int.mul_assoc]; omega⟩ to evS lw0 lw1 lw2 lw3 (fun e => by rw [hLf e]) (fun a ha => by
                        obtain ⟨z, hz, rfl⟩ := List.mem_map.mp ha
                        exact ⟨List.mem_map_of_mem (hfin z hz), hfloor z hz⟩)
                    refine k H25 r25 vf (.ref r22) (.ref r24) _ hs s ms g25 (Tk.mono (Tx.of_ex xF) _ _ tf) ?_ ?_ mk ((W20.ex_ (x21.trans xF)).le (by omega)) (b20.trans (But.ex (x21.trans xF)))
                    · exact .tup (by walk_at "lf") (Tk.monoAll (Tx.trans t14 (Tx.trans t20 (Tx.of_ex (x21.trans xF)))) _ _ tk10)
                    · exact .tup (by walk_at "lf") (.cons (.int _) (.cons (.tup (x25 _ _ (x24 _ _ g23)) (hi1 ms)) .nil))
end
end K60
namespace K60
open PySem L2 TriS
open PySem.Spec PyProof.Rows
open Evl (Ex)
section
variable {X : Cx} {CX : CXT} {k : Nat} {f : Addr} {fd : FuncData} {sp : Sp} {E : L2.St → XK} {x : Str} {p pos : Pos} {kws : List Keyword} {tk : TA}
def tCallKS (sp : Sp) (E : L2.St → XK) (tk : TA) : TE := fun σ H Q => tk σ H fun zs H2 => ∃ t h g n, zs = [t, h, g, n] ∧ sp [n, g, h, t] H2 Q (E σ)
theorem pe_callKS {nm : Str} (F : FnOk X.prog X.w X.K X.mg X.base CX k f fd ["never", "goal", "hints", "thing"] sp) (hr : Room k X.A) (hg : Gl X nm) (hm : X.mg nm = some (.ref f)) (hk : PySem.W.keepIn X.K (.ref f) = true)
    (hb : ∀ (s : Shared) (t h g n : Value), BindsTo s fd ⟨[], [("thing", t), ("hints", h), ("goal", g), ("never", n)]⟩ [("never", n), ("goal", g), ("hints", h), ("thing", t)]) (hx : ∀ σ, PassesAt CX X σ (E σ)) (hkw : PK X kws tk)
    (hall : (backToKw pos (keywordEach kws X.env)).all (·.1.isSome) = true := by rfl) (hks : (backToKw pos (keywordEach kws X.env)).filterMap (·.1) = (["thing", "hints", "goal", "never"] : List Str) := by rfl) (hdb : (nm == ("__debug__" : Str)) = false := by decide)
    (hpl : ((backTo pos (starEach [] X.env)).any (·.1) || (backToKw pos (keywordEach kws X.env)).any (·.1.isNone)) = false := by rfl) : PE X (.Call (.Name nm p) [] kws pos) (tCallKS sp E tk) := by
  refine ⟨fun pins s σ H Q I h => ?_⟩
  refine wpAny_Call_Name_kw (ld_glob I hg hm ?_ hdb)
  refine PySem.W.callWith_KW0 (h₀ := X.base) I.ok.mod.kin hk hall (thn (hkw.run pos pins s σ H _ I h) fun ws s1 ⟨zs, H1, I1, r, t, h, g, n, e, q⟩ => ⟨I1.kIn, ?_⟩) hpl
  subst e
  rw [hks]
  cases r with
  | cons r1 r =>
  cases r with
  | cons r2 r =>
  cases r with
  | cons r3 r =>
  cases r with
  | cons r4 r =>
  cases r
  rename_i wt wh wg wn _hp
  show wpAny (model X.prog X.w) X.A (call (.ref f) [] [("thing", wt), ("hints", wh), ("goal", wg), ("never", wn)]) (EP X pins σ Q) X.xe s1
  refine wpAny_call (codeAny_mono (F.run X.A X.stack s1 H1 ⟨[], [("thing", wt), ("hints", wh), ("goal", wg), ("never", wn)]⟩ [wn, wg, wh, wt] [n, g, h, t] Q (E σ) hr I1.env0 (hb s1 wt wh wg wn) (.cons r4 (.cons r3 (.cons r2 (.cons r1 .nil)))) q) fun r s' hq => ?_)
  cases r with
  | error e => exact hx σ pins H1 s1 e s' I1 hq
  | ok fl =>
    cases fl with
    | ret u => exact I1.after hq
    | next => exact False.elim hq
    | brk => exact False.elim hq
    | cont => exact False.elim hq
end
/-- what the clauses take -/
structure ExF (K : PySem.W.Frag) (CN CG CH : Addr) : Prop where
  nn : PySem.W.exmOne K (.ref CN) (.ref CN) = some true
  gn : PySem.W.exmOne K (.ref CG) (.ref CN) = some false
  gg : PySem.W.exmOne K (.ref CG) (.ref CG) = some true
  hn : PySem.W.exmOne K (.ref CH) (.ref CN) = some false
  hg : PySem.W.exmOne K (.ref CH) (.ref CG) = some false
  hh : PySem.W.exmOne K (.ref CH) (.ref CH) = some true
/-- the word of _law_error -/
def errWord (dn dg dh : D) : Str := if isNever dn = true then (if isForm dg = true then (if isHints dh = true then "none" else "hints") else "goal") else "never"
def spLawError (K : PySem.W.Frag) : Sp := fun vs H Q _ => ∃ (vn vg vh : V) (dn dg dh : D), vs = [vn, vg, vh] ∧ Dp K H vn dn ∧ Dp K H vg dg ∧ Dp K H vh dh ∧ fitF dg = true ∧ fitHs dh = true ∧
  (isNever dn = true → isForm dg = true → isHints dh = true → ∃ (ns : List Int) (f : Form) (hs : List Hint), ShowsIn H K vn vg vh .non ns f hs .none) ∧ ∀ H', Ex H H' → Q (.str (errWord dn dg dh)) H'
local macro_rules | `(tactic| walk_at "ex") => `(tactic| first | assumption | exact Evl.Ex.refl _ | (refine' Evl.Ex.trans (by assumption) ?_; walk_at "ex"))
local macro_rules | `(tactic| walk_at "tx") => `(tactic| first | assumption | exact K60.Tx.of_ex (by assumption) | (refine' K60.Tx.trans (by assumption) ?_; walk_at "tx") | (refine' K60.Tx.trans (K60.Tx.of_ex (by assumption)) ?_; walk_at "tx"))
local macro_rules | `(tactic| walk_at "lf") => `(tactic| first | assumption | (refine' K60.exGet ?hx9 ?hy9; (case hy9 => assumption); (case hx9 => walk_at "ex")) | (refine' K60.txGet ?hx9 ?hy9; (case hy9 => assumption); (case hx9 => walk_at "tx")))
local macro_rules | `(tactic| walk_at "sq2") => `(tactic| first | assumption | (refine' SqL.of ?hq9; (case hq9 => walk_at "lf")) | (refine' SqT.of ?hq9; (case hq9 => walk_at "lf")))
local macro_rules | `(tactic| walk_at "gn") => `(tactic| (generalize hh : upd _ _ _ = H9 at *; obtain ⟨xe9, h9⟩ := K60.newAt (by assumption) hh; clear hh))
local macro_rules | `(tactic| walk_at "nw") => `(tactic| (refine' ⟨by show _ ≤ sizeLine; first | decide | (simp only [List.length_cons, List.length_nil, List.length_map, List.length_append, sizeLine_eq]; omega), fun a9 ha9 => ?_⟩; walk_at "gn"))
local macro_rules | `(tactic| walk_at "go2") => `(tactic| first
  | (with_reducible refine' Gk.seq ?_)
  | ((with_reducible refine' Gk.var ?hgo ?_); (case hgo => exact rfl))
  | (with_reducible refine' Gk.con ?_)
  | (with_reducible refine' Gk.op ?_)
  | (with_reducible refine' Gk.i0 ?_)
  | (with_reducible refine' Gk.un ?_)
  | ((with_reducible refine' Gk.i1 (C := CMul) ?hgo ?_); (case hgo => first | exact .inl ⟨by decide, by decide⟩ | exact .inr ⟨by decide, by decide⟩ | exact .inl ⟨by omega, by omega⟩ | exact .inr ⟨by omega, by omega⟩))
  | ((with_reducible refine' Gk.i1 (C := CDiv) ?hgo ?_); (case hgo => exact ⟨by omega, by omega⟩))
  | ((with_reducible refine' Gk.i1 (C := CPow) ?hgo ?_); (case hgo => exact ⟨by decide, by decide, by decide⟩))
  | ((with_reducible refine' Gk.i1 (C := fun _ j => 0 < j) ?hgo ?_); (case hgo => show (0 : Int) < _; omega))
  | (with_reducible refine' Gk.u1 ?_)
  | (with_reducible refine' Gk.test ?_)
  | (with_reducible refine' Gk.testB ?_)
  | (with_reducible refine' Gk.asB ?_)
  | (with_reducible refine' K60.eqI ?_)
  | (with_reducible refine' K60.neI ?_)
  | ((with_reducible refine' Gk.eqv ?hgo ?_); (case hgo => exact rfl))
  | ((with_reducible refine' Gk.nev ?hgo ?_); (case hgo => exact rfl))
  | ((with_reducible refine' Gk.ixL ?hgo ?hga ?_); (case hgo => walk_at "sq2"); (case hga => first | exact rfl | assumption))
  | ((with_reducible refine' Gk.ixT ?hgo ?hga ?_); (case hgo => walk_at "sq2"); (case hga => first | exact rfl | assumption))
  | (with_reducible refine' Gk.aNil ?_)
  | (with_reducible refine' Gk.aCons ?_)
  | (with_reducible refine' Gk.cb ?_)
  | (with_reducible refine' Gk.call ?_)
  | (with_reducible refine' Gk.tup ?_)
  | (with_reducible refine' Gk.lst ?_)
  | (with_reducible refine' Gk.ifE ?_)
  | (with_reducible refine' Gk.ifS ?_)
  | (with_reducible refine' Gk.next ?_)
  | (with_reducible refine' Gk.asg ?_)
  | ((with_reducible refine' Gk.gname ?hgo ?_); (case hgo => exact rfl))
  | (with_reducible refine' Gk.gsub ?_)
  | ((with_reducible refine' Gk.setL ?hgo ?hga ?_); (case hgo => first | assumption | exact upd_same); (case hga => first | exact rfl | assumption))
  | (with_reducible refine' Gk.ret ?_)
  | (with_reducible refine' Gk.drop ?_)
  | (with_reducible refine' Gk.par ?_)
  | (with_reducible refine' Gk.andT ?_)
  | (with_reducible refine' Gk.orT ?_)
  | (with_reducible refine' Gk.notT ?_)
  | (with_reducible refine' Gk.abs ?_)
  | (with_reducible refine' Gk.intI ?_)
  | (with_reducible refine' Gk.intB ?_)
  | ((with_reducible refine' Gk.lenL ?hgo ?_); (case hgo => walk_at "sq2"))
  | ((with_reducible refine' Gk.lenT ?hgo ?_); (case hgo => walk_at "sq2"))
  | ((with_reducible refine' K60.lenD ?hgo ?_); (case hgo => assumption))
  | (with_reducible refine' K60.zipA ?_)
  | (with_reducible refine' K60.listI ?_)
  | (with_reducible refine' K60.tupI ?_)
  | (with_reducible refine' K60.dget2 ?_)
  | (with_reducible refine' K60.dget ?_)
  | (with_reducible refine' K60.dput ?_)
  | ((with_reducible refine' K60.aug ?hgo ?_); (case hgo => exact rfl))
  | (with_reducible refine' K60.ipI ?_)
  | (with_reducible refine' K60.newT ?_)
  | (with_reducible refine' Gk.bm ?_)
  | ((with_reducible refine' Gk.tyL ?hgo ?_); (case hgo => first | assumption | exact upd_same))
  | ((with_reducible refine' Gk.gtup ?hgo ?hga ?_); (case hgo => walk_at "sq2"); (case hga => exact rfl))
  | (with_reducible refine' Gk.gcons ?_)
  | (with_reducible refine' Gk.gnil ?_)
  | (with_reducible refine' Gk.sl ?_)
  | (with_reducible refine' Gk.noPart ?_)
  | (with_reducible refine' Gk.part ?_)
  | (with_reducible refine' Gk.partI ?_)
  | (with_reducible refine' Gk.lc ?_)
  | (with_reducible refine' Gk.rng1 ?_)
  | (with_reducible refine' Gk.forS ?_)
  | (with_reducible refine' Gk.isN ?_)
  | (with_reducible refine' Gk.notN ?_)
  | (with_reducible refine' Gk.andV ?_)
  | (with_reducible refine' Gk.orV ?_)
  | (with_reducible refine' Gk.notV ?_)
  | (with_reducible refine' K60.chain ?_)
  | ((with_reducible refine' K60.isiI ?hgo ?_); (case hgo => assumption))
  | ((with_reducible refine' K60.isiBo ?hgo ?_); (case hgo => assumption))
  | ((with_reducible refine' K60.isiT ?hgo ?_); (case hgo => assumption))
  | ((with_reducible refine' Gk.isiB ?hgo ?hga ?_); (case hgo => exact .base (.non)); (case hga => first | exact (show kitB _ _ = some true by decide +kernel) | exact (show kitB _ _ = some false by decide +kernel)))
  | ((with_reducible refine' Gk.isiB ?hgo ?hga ?_); (case hgo => exact .base (.int _)); (case hga => first | exact (show kitB _ _ = some true by decide +kernel) | exact (show kitB _ _ = some false by decide +kernel)))
  | ((with_reducible refine' Gk.isiB ?hgo ?hga ?_); (case hgo => exact .base (.str _)); (case hga => first | exact (show kitB _ _ = some true by decide +kernel) | exact (show kitB _ _ = some false by decide +kernel)))
  | ((with_reducible refine' Gk.isiB ?hgo ?hga ?_); (case hgo => exact .base (.bl _)); (case hga => first | exact (show kitB _ _ = some true by decide +kernel) | exact (show kitB _ _ = some false by decide +kernel)))
  | ((with_reducible refine' Gk.isiB ?hgo ?hga ?_); (case hgo => exact .base (.tup (by assumption))); (case hga => first | exact (show kitB _ _ = some true by decide +kernel) | exact (show kitB _ _ = some false by decide +kernel)))
  | ((with_reducible refine' Gk.isiB ?hgo ?hga ?_); (case hgo => exact .base (.lst (by assumption))); (case hga => first | exact (show kitB _ _ = some true by decide +kernel) | exact (show kitB _ _ = some false by decide +kernel)))
  | ((with_reducible refine' Gk.iteT ?hgo ?_); (case hgo => exact rfl))
  | ((with_reducible refine' Gk.iteF ?hgo ?_); (case hgo => exact rfl))
  | (with_reducible refine' Gk.yes ?_)
  | (dsimp only))

abbrev sLawError : Stmt := top 43
theorem scLawError : FnScope ["never", "goal", "hints", "found"] ["never", "goal", "hints"] (defScope sLawError) := ⟨rfl, rfl, rfl, by decide +kernel, rfl, by decide +kernel, by decide +kernel⟩
section
variable {P : Program} {w : World} {K : PySem.W.Frag} {mg : Str → Option Value} {base : Heap} {CN CG CH CP : Addr}
theorem cl_law_error (T : Glo mg) (h : Has K mg "_law_error" sLawError) (e_BadNever : ErC K mg "BadNever" CN) (e_BadGoal : ErC K mg "BadGoal" CG) (e_BadHints : ErC K mg "BadHints" CH) (e_PaidError : ErC K mg "PaidError" CP) (Z : ExF K CN CG CH)
    (c_IsShown : ClS P w K mg base 7 (spShown K CN CG CH)) : Cl P w K mg base "_law_error" ["never", "goal", "hints"] 8 (spLawError K) := by
  obtain ⟨f_IsShown, fd_IsShown, m_IsShown, k_IsShown, b_IsShown, kb_IsShown, G_IsShown⟩ := c_IsShown
  obtain ⟨f, fd, m_, F⟩ := h
  refine ⟨f, fd, m_, F.kp, F.binds (ps := ["never", "goal", "hints"]) fun _ _ _ _ _ _ us hl => match us, hl with | [_, _, _], _ => rfl, ?_⟩
  refine F.ok scLawError (fun vs H Q E h => ?_) (fun cdv A outer s H vs Q E hr h => ?_)
  · obtain ⟨vn, vg, vh, dn, dg, dh, rfl, _⟩ := h
    rfl
  · obtain ⟨vn, vg, vh, dn, dg, dh, rfl, h1, h2, h3, h4, h5, h6, k⟩ := h
    refine ⟨_, (pss_cons (ps_set (i := 3) scLawError.nd rfl (Or.inl rfl) pe_str)
  (pss_cons (ps_try_many rfl rfl takes0 (fun W pn xe tk _ => (pss_one (ps_expr (K60.pe_callKS G_IsShown (hr.mono (by omega)) (by rfl) m_IsShown k_IsShown kb_IsShown (fun σ => passAt tk σ) (pk_cons pe_non (pk_cons (pv 2) (pk_cons (pv 1) (pk_cons (pv 0) pk_nil)))))))) (.cons ⟨rfl, by decide, .inl e_BadNever.g⟩ (fun _ _ _ _ _ _ _ => (pss_one (ps_set (i := 3) scLawError.nd rfl (Or.inl rfl) pe_str))) (.cons ⟨rfl, by decide, .inl e_BadGoal.g⟩ (fun _ _ _ _ _ _ _ => (pss_one (ps_set (i := 3) scLawError.nd rfl (Or.inl rfl) pe_str))) (.cons ⟨rfl, by decide, .inl e_BadHints.g⟩ (fun _ _ _ _ _ _ _ => (pss_one (ps_set (i := 3) scLawError.nd rfl (Or.inl rfl) pe_str))) (.cons ⟨rfl, by decide, .inl e_PaidError.g⟩ (fun _ _ _ _ _ _ _ => (pss_one (ps_set (i := 3) scLawError.nd rfl (Or.inl rfl) pe_str))) .nil)))))
  (pss_one (ps_ret (pv 3))))), ?_⟩
    repeat walk_at "go2"
    unfold tCallKS
    repeat walk_at "go2"
    have fin : ∀ (H' : Hp) (w : Str), Ex H H' → errWord dn dg dh = w → Q (.str w) H' := fun H' w x e => e ▸ k H' x
    refine ⟨.non, vh, vg, vn, rfl, vn, vg, vh, .non, dn, dg, dh, rfl, h1, h2, h3, h4, h5, fun g1 => ?_, fun g1 g2 => ?_, fun g1 g2 g3 => ?_, fun g1 g2 g3 => ?_⟩
    · refine ⟨true, Z.nn, fun _ a ha => ?_, fun e => (by cases e)⟩
      repeat walk_at "go2"
      exact fin _ _ (Ex.refl H) (by unfold errWord; rw [if_neg (by rw [g1]; decide)])
    · refine ⟨false, Z.gn, fun e => (by cases e), fun _ => ⟨true, Z.gg, fun _ a ha => ?_, fun e => (by cases e)⟩⟩
      repeat walk_at "go2"
      exact fin _ _ (Ex.refl H) (by unfold errWord; rw [if_pos g1, if_neg (by rw [g2]; decide)])
    · refine ⟨false, Z.hn, fun e => (by cases e), fun _ => ⟨false, Z.hg, fun e => (by cases e), fun _ => ⟨true, Z.hh, fun _ a ha => ?_, fun e => (by cases e)⟩⟩⟩
      repeat walk_at "go2"
      exact fin _ _ (Ex.refl H) (by unfold errWord; rw [if_pos g1, if_pos g2, if_neg (by rw [g3]; decide)])
    · obtain ⟨ns, ff, hs, J⟩ := h6 g1 g2 g3
      refine ⟨ns, ff, hs, .none, J, fun H' b x _ => ?_⟩
      repeat walk_at "go2"
      exact fin _ _ x (by unfold errWord; rw [if_pos g1, if_pos g2, if_pos g3])
end
end K60
/-! data with lists: what displays give -/
namespace K60
open PySem L2 TriS
open Evl (Ex)
mutual
inductive Tl (q : Addr → Prop) (H : Hp) : V → D → Prop
  | non : Tl q H .non .none
  | bl (b : Bool) : Tl q H (.bl b) (.bool b)
  | int (i : Int) : Tl q H (.int i) (.int i)
  | str (x : Str) : Tl q H (.str x) (.str x)
  | tup {a : Addr} {xs : List V} {ds : List D} : H a = some (.tup xs) → TlAll q H xs ds → Tl q H (.ref a) (.tuple ds)
  | lst {a : Addr} {xs : List V} {ds : List D} : H a = some (.lst xs) → ¬ q a → TlAll q H xs ds → Tl q H (.ref a) (.list ds)
inductive TlAll (q : Addr → Prop) (H : Hp) : List V → List D → Prop
  | nil : TlAll q H [] []
  | cons {v : V} {vs : List V} {d : D} {ds : List D} : Tl q H v d → TlAll q H vs ds → TlAll q H (v :: vs) (d :: ds)
end
section
variable {K : PySem.W.Frag} {p : Addr} {q : Addr → Prop} {H H' : Hp}
/-- tuples and lists but the one at q stay -/
def Ty (q : Addr → Prop) (H H' : Hp) : Prop := ∀ a o, ¬ q a → (match o with | .tup _ => True | .lst _ => True | _ => False) → H a = some o → H' a = some o
theorem Ty.ex (x : Ex H H') : Ty q H H' := fun a o _ _ h => x a o h
theorem Ty.trans {H1 : Hp} (a : Ty q H H1) (b : Ty q H1 H') : Ty q H H' := fun c o h1 h2 h => b c o h1 h2 (a c o h1 h2 h)
theorem Ty.tx {c : Addr} {t : Nat} (W : WellAt H p c t) (b : But p c H H') : Ty (Eq c) H H' := fun a o h1 h2 h => b a o (fun z => by
  obtain ⟨gs, m, n, g1, _⟩ := W.ex
  subst z
  rw [g1] at h
  have := Option.some.inj h
  unfold wellO at this
  subst this
  exact h2) (fun z => h1 z.symm) h
mutual
theorem Tl.mono (hq : ∀ c xs, q c → H c ≠ some (.tup xs)) (x : Ty q H H') : ∀ (d : D) (v : V), Tl q H v d → Tl q H' v d
  | .none, _, h => by
    cases h
    exact .non
  | .bool b, _, h => by
    cases h
    exact .bl b
  | .int i, _, h => by
    cases h
    exact .int i
  | .str z, _, h => by
    cases h
    exact .str z
  | .list ds, _, h => by
    cases h with
    | lst hs hn ha => exact .lst (x _ _ hn True.intro hs) hn (Tl.monoAll hq x ds _ ha)
  | .tuple ds, _, h => by
    cases h with
    | tup hs ha => exact .tup (x _ _ (fun z => hq _ _ z hs) True.intro hs) (Tl.monoAll hq x ds _ ha)
  | .dict _, _, h => by cases h
theorem Tl.monoAll (hq : ∀ c xs, q c → H c ≠ some (.tup xs)) (x : Ty q H H') : ∀ (ds : List D) (vs : List V), TlAll q H vs ds → TlAll q H' vs ds
  | [], _, h => by
    cases h
    exact .nil
  | d :: ds, _, h => by
    cases h with
    | cons h1 h2 => exact .cons (Tl.mono hq x d _ h1) (Tl.monoAll hq x ds _ h2)
end
mutual
theorem Tl.dp : ∀ (d : D) (v : V), Tl q H v d → Dp K H v d
  | .none, _, h => by
    cases h
    exact .non
  | .bool b, _, h => by
    cases h
    exact .bl b
  | .int i, _, h => by
    cases h
    exact .int i
  | .str z, _, h => by
    cases h
    exact .str z
  | .list ds, _, h => by
    cases h with
    | lst hs hn ha => exact .lst (SqL.of hs) (Tl.dpAll ds _ ha)
  | .tuple ds, _, h => by
    cases h with
    | tup hs ha => exact .tup (SqT.of hs) (Tl.dpAll ds _ ha)
  | .dict _, _, h => by cases h
theorem Tl.dpAll : ∀ (ds : List D) (vs : List V), TlAll q H vs ds → DpAll K H vs ds
  | [], _, h => by
    cases h
    exact .nil
  | d :: ds, _, h => by
    cases h with
    | cons h1 h2 => exact .cons (Tl.dp d _ h1) (Tl.dpAll ds _ h2)
end
mutual
theorem Tk.tl : ∀ (d : D) (v : V), Tk H v d → Tl q H v d
  | .none, _, h => by
    cases h
    exact .non
  | .bool b, _, h => by
    cases h
    exact .bl b
  | .int i, _, h => by
    cases h
    exact .int i
  | .str z, _, h => by
    cases h
    exact .str z
  | .list ds, _, h => by cases h
  | .tuple ds, _, h => by
    cases h with
    | tup hs ha => exact .tup hs (Tk.tlAll ds _ ha)
  | .dict _, _, h => by cases h
theorem Tk.tlAll : ∀ (ds : List D) (vs : List V), TkAll H vs ds → TlAll q H vs ds
  | [], _, h => by
    cases h
    exact .nil
  | d :: ds, _, h => by
    cases h with
    | cons h1 h2 => exact .cons (Tk.tl d _ h1) (Tk.tlAll ds _ h2)
end
mutual
def noList : D → Bool
  | .list _ => false
  | .tuple ds => noLists ds
  | _ => true
def noLists : List D → Bool
  | [] => true
  | d :: ds => noList d && noLists ds
end
mutual
theorem Tl.tk : ∀ (d : D) (v : V), noList d = true → Tl q H v d → Tk H v d
  | .none, _, _, h => by
    cases h
    exact .non
  | .bool b, _, _, h => by
    cases h
    exact .bl b
  | .int i, _, _, h => by
    cases h
    exact .int i
  | .str z, _, _, h => by
    cases h
    exact .str z
  | .list ds, _, n, h => by
    unfold noList at n
    cases n
  | .tuple ds, _, n, h => by
    cases h with
    | tup hs ha => exact .tup hs (Tl.tkAll ds _ (by unfold noList at n; exact n) ha)
  | .dict _, _, _, h => by cases h
theorem Tl.tkAll : ∀ (ds : List D) (vs : List V), noLists ds = true → TlAll q H vs ds → TkAll H vs ds
  | [], _, _, h => by
    cases h
    exact .nil
  | d :: ds, _, n, h => by
    cases h with
    | cons h1 h2 =>
      unfold noLists at n
      have := Bool.and_eq_true_iff.mp n
      exact .cons (Tl.tk d _ this.1 h1) (Tl.tkAll ds _ this.2 h2)
end
theorem TlAll.len : ∀ {xs : List V} {ds : List D}, TlAll q H xs ds → xs.length = ds.length
  | _, _, .nil => rfl
  | _, _, .cons _ b => congrArg Nat.succ (TlAll.len b)
theorem TlAll.get : ∀ {xs : List V} {ds : List D}, TlAll q H xs ds → ∀ (n : Nat) (v : V), xs[n]? = some v → ∃ d, ds[n]? = some d ∧ Tl q H v d
  | _, _, .nil, n, v, h => (by cases h)
  | _, _, .cons a b, 0, v, h => by
    cases h
    exact ⟨_, rfl, a⟩
  | _, _, .cons a b, n + 1, v, h => TlAll.get b n v h
theorem TlAll.app : ∀ {xs ys : List V} {ds es : List D}, TlAll q H xs ds → TlAll q H ys es → TlAll q H (xs ++ ys) (ds ++ es)
  | _, _, _, _, .nil, h => h
  | _, _, _, _, .cons a b, h => .cons a (TlAll.app b h)
theorem TlAll.rep {v : V} {d : D} (h : Tl q H v d) : ∀ n, TlAll q H (List.replicate n v) (List.replicate n d)
  | 0 => .nil
  | n + 1 => .cons h (TlAll.rep h n)
theorem TlAll.take : ∀ {xs : List V} {ds : List D} (n : Nat), TlAll q H xs ds → TlAll q H (xs.take n) (ds.take n)
  | _, _, 0, _ => by simp only [List.take_zero]; exact .nil
  | _, _, _ + 1, .nil => .nil
  | _, _, n + 1, .cons a b => .cons a (TlAll.take n b)
theorem TlAll.drop : ∀ {xs : List V} {ds : List D} (n : Nat), TlAll q H xs ds → TlAll q H (xs.drop n) (ds.drop n)
  | _, _, 0, h => h
  | _, _, _ + 1, .nil => .nil
  | _, _, n + 1, .cons a b => TlAll.drop n b
end
/-! what a display gives -/
/-- lists stand at these addresses -/
def QAt (q : Addr → Prop) (H : Hp) : Prop := ∀ c, q c → ∃ xs, H c = some (.lst xs)
theorem QAt.ex {q : Addr → Prop} {H H' : Hp} (h : QAt q H) (x : Ex H H') : QAt q H' := fun c z => let ⟨xs, e⟩ := h c z; ⟨xs, x _ _ e⟩
theorem QAt.no {q : Addr → Prop} {H : Hp} (h : QAt q H) : ∀ c xs, q c → H c ≠ some (.tup xs) := fun c xs z e => by
  obtain ⟨ys, h⟩ := h c z
  rw [h] at e
  cases e
theorem QAt.ne {q : Addr → Prop} {a : Addr} {H : Hp} (h : QAt q H) (n : H a = none) : ¬ q a := fun e => by
  obtain ⟨ys, h⟩ := h a e
  rw [h] at n
  cases n
theorem WellAt.qat {H : Hp} {p q : Addr} {t : Nat} (W : WellAt H p q t) : QAt (Eq q) H := fun c z => by
  obtain ⟨gs, _, _, _, h, _⟩ := W.ex
  subst z
  exact ⟨_, h⟩
mutual
theorem Tl.more {q q2 : Addr → Prop} {H : Hp} (m : ∀ c, q2 c → q c ∨ H c = none) : ∀ (d : D) (v : V), Tl q H v d → Tl q2 H v d
  | .none, _, h => by
    cases h
    exact .non
  | .bool b, _, h => by
    cases h
    exact .bl b
  | .int i, _, h => by
    cases h
    exact .int i
  | .str z, _, h => by
    cases h
    exact .str z
  | .list ds, _, h => by
    cases h with
    | lst hs hn ha => exact .lst hs (fun z => (m _ z).elim hn fun e => by rw [hs] at e; cases e) (Tl.moreAll m ds _ ha)
  | .tuple ds, _, h => by
    cases h with
    | tup hs ha => exact .tup hs (Tl.moreAll m ds _ ha)
  | .dict _, _, h => by cases h
theorem Tl.moreAll {q q2 : Addr → Prop} {H : Hp} (m : ∀ c, q2 c → q c ∨ H c = none) : ∀ (ds : List D) (vs : List V), TlAll q H vs ds → TlAll q2 H vs ds
  | [], _, h => by
    cases h
    exact .nil
  | d :: ds, _, h => by
    cases h with
    | cons h1 h2 => exact .cons (Tl.more m d _ h1) (Tl.moreAll m ds _ h2)
end
def Ds (q : Addr → Prop) (t : TE) (σ : L2.St) (H : Hp) (d : D) : Prop := ∀ H1, Ex H H1 → ∀ Q : VK, (∀ H' v, Ex H1 H' → Tl q H' v d → Q v H') → t σ H1 Q
def DsA (q : Addr → Prop) (t : TA) (σ : L2.St) (H : Hp) (ds : List D) : Prop := ∀ H1, Ex H H1 → ∀ Q : List V → Hp → Prop, (∀ H' vs, Ex H1 H' → TlAll q H' vs ds → Q vs H') → t σ H1 Q
section
variable {q : Addr → Prop} {σ : L2.St} {H : Hp} {t : TE} {ta : TA} {d : D} {ds : List D}
theorem Ds.i {i : Int} : Ds q (tC (.int i)) σ H (.int i) := fun H1 _ Q k => k H1 _ (Ex.refl H1) (.int i)
theorem Ds.s {x : Str} : Ds q (tC (.str x)) σ H (.str x) := fun H1 _ Q k => k H1 _ (Ex.refl H1) (.str x)
theorem Ds.b {x : Bool} : Ds q (tC (.bl x)) σ H (.bool x) := fun H1 _ Q k => k H1 _ (Ex.refl H1) (.bl x)
theorem Ds.n : Ds q (tC .non) σ H .none := fun H1 _ Q k => k H1 _ (Ex.refl H1) .non
theorem Ds.neg {i : Int} : Ds q (tUn (rU fun i => V.int (-i)) (tC (.int i))) σ H (.int (-i)) := fun H1 _ Q k => Gk.un (Gk.con (Gk.u1 (k H1 _ (Ex.refl H1) (.int _))))
theorem Ds.v {i : Nat} {v : V} (hq : QAt q H) (h : σ[i]? = some (some v)) (g : Tl q H v d) : Ds q (tVar i) σ H d := fun H1 x Q k => Gk.var h (k H1 _ (Ex.refl H1) (Tl.mono hq.no (Ty.ex x) _ _ g))
theorem DsA.nil : DsA q tNil σ H [] := fun H1 _ Q k => Gk.aNil (k H1 _ (Ex.refl H1) .nil)
theorem DsA.cons (hq : QAt q H) (h1 : Ds q t σ H d) (h2 : DsA q ta σ H ds) : DsA q (tCons t ta) σ H (d :: ds) := fun H1 x Q k => Gk.aCons (h1 H1 x _ fun H2 v x2 g => h2 H2 (x.trans x2) _ fun H3 vs x3 gs =>
  k H3 _ (x2.trans x3) (.cons (Tl.mono (hq.ex (x.trans x2)).no (Ty.ex x3) _ _ g) gs))
theorem Ds.tup (hq : QAt q H) (hl : ds.length ≤ 10000) (h : DsA q ta σ H ds) : Ds q (tTup ta) σ H (.tuple ds) := fun H1 x Q k => Gk.tup (h H1 x _ fun H2 vs x2 g => ⟨by rw [g.len, sizeLine_eq]; omega, fun p hp =>
  k _ _ (x2.trans (Ex.new hp)) (.tup upd_same (Tl.monoAll (hq.ex (x.trans x2)).no (Ty.ex (Ex.new hp)) _ _ g))⟩)
theorem Ds.lst (hq : QAt q H) (hl : ds.length ≤ 10000) (h : DsA q ta σ H ds) : Ds q (tLst ta) σ H (.list ds) := fun H1 x Q k => Gk.lst (h H1 x _ fun H2 vs x2 g => ⟨by rw [g.len, sizeLine_eq]; omega, fun p hp =>
  k _ _ (x2.trans (Ex.new hp)) (.lst upd_same ((hq.ex (x.trans x2)).ne hp) (Tl.monoAll (hq.ex (x.trans x2)).no (Ty.ex (Ex.new hp)) _ _ g))⟩)
theorem Ds.cat {u : TE} {es : List D} (hq : QAt q H) (hl : ds.length + es.length ≤ 10000) (h1 : Ds q t σ H (.list ds)) (h2 : Ds q u σ H (.list es)) : Ds q (tOp rCat t u) σ H (.list (ds ++ es)) := fun H1 x Q k => Gk.op (h1 H1 x _ fun H2 v x2 g => h2 H2 (x.trans x2) _ fun H3 w x3 g2 => by
  have g' := Tl.mono (hq.ex (x.trans x2)).no (Ty.ex x3) _ _ g
  cases g' with
  | lst a1 a2 a3 =>
  cases g2 with
  | lst b1 b2 b3 =>
  refine ⟨_, _, _, _, rfl, rfl, a1, b1, by rw [a3.len, b3.len, sizeLine_eq]; omega, fun p hp => ?_⟩
  have hq3 := hq.ex (x.trans (x2.trans x3))
  exact k _ _ (x2.trans (x3.trans (Ex.new hp))) (.lst upd_same (hq3.ne hp) (Tl.monoAll hq3.no (Ty.ex (Ex.new hp)) _ _ (a3.app b3))))
/-- a slice of a tuple, t + u of tuples -/
def cutD (ds : List D) (lo hi : Option Int) : List D := (ds.drop (HT.sIx ds.length 0 lo)).take (HT.sIx ds.length ds.length hi - HT.sIx ds.length 0 lo)
theorem slA {K : PySem.W.Frag} {v : V} {lo hi : Option Int} {Q : VK} (hq : QAt q H) (g : Tl q H v (.tuple ds)) (k : ∀ H' w, Ex H H' → Tl q H' w (.tuple (cutD ds lo hi)) → Q w H') : rSlA K v lo hi H Q := by
  cases g with
  | tup a1 a2 =>
  rename_i a xs
  have hl := a2.len
  have hc : TlAll q H (cutV xs lo hi) (cutD ds lo hi) := by
    unfold cutV cutD
    rw [hl]
    exact (a2.drop _).take _
  refine ⟨a, xs, rfl, SqT.of a1, fun e => k H _ (Ex.refl H) ?_, fun _ r hr => k _ _ (Ex.new hr) (.tup upd_same (Tl.monoAll hq.no (Ty.ex (Ex.new hr)) _ _ hc))⟩
  have e2 : cutV xs lo hi = xs := by
    unfold cutV
    rw [e.1, e.2, List.drop_zero, Nat.sub_zero, List.take_length]
  rw [e2] at hc
  exact .tup a1 hc
theorem catA {K : PySem.W.Frag} {v w : V} {es : List D} {Q : VK} (hq : QAt q H) (g : Tl q H v (.tuple ds)) (g2 : Tl q H w (.tuple es)) (hl : ds.length + es.length ≤ 10000) (k : ∀ H' u, Ex H H' → Tl q H' u (.tuple (ds ++ es)) → Q u H') : rCatA K v w H Q := by
  cases g with
  | tup a1 a2 =>
  cases g2 with
  | tup b1 b2 =>
  rename_i a xs b ys
  have h1 := a2.len
  have h2 := b2.len
  have hc := a2.app b2
  refine ⟨a, b, xs, ys, rfl, rfl, SqT.of a1, SqT.of b1, by rw [sizeLine_eq]; omega, fun e => ?_, fun _ e => ?_, fun _ _ r hr => k _ _ (Ex.new hr) (.tup upd_same (Tl.monoAll hq.no (Ty.ex (Ex.new hr)) _ _ hc))⟩
  · subst e
    exact k H _ (Ex.refl H) (.tup b1 hc)
  · subst e
    rw [List.append_nil] at hc
    exact k H _ (Ex.refl H) (.tup a1 hc)
theorem cutD_to {n : Int} (h0 : 0 ≤ n) (hn : n ≤ ds.length) : cutD ds none (some n) = ds.take n.toNat := by
  unfold cutD HT.sIx
  dsimp only
  rw [if_neg (by omega), List.drop_zero, Nat.sub_zero, Nat.min_eq_left (by omega)]
theorem cutD_from {n : Int} (h0 : 0 ≤ n) (hn : n ≤ ds.length) : cutD ds (some n) none = ds.drop n.toNat := by
  unfold cutD HT.sIx
  dsimp only
  rw [if_neg (by omega), Nat.min_eq_left (by omega), List.take_of_length_le (by rw [List.length_drop]; omega)]
theorem Ds.use {Q : VK} (h : Ds q t σ H d) (k : ∀ H' v, Ex H H' → Tl q H' v d → Q v H') : t σ H Q := h H (Ex.refl H) Q k
theorem DsA.use {Q : List V → Hp → Prop} (h : DsA q ta σ H ds) (k : ∀ H' vs, Ex H H' → TlAll q H' vs ds → Q vs H') : ta σ H Q := h H (Ex.refl H) Q k
end
end K60
namespace K60
open PySem L2 TriS
open PySem.Spec PyProof.Rows
open Evl (Ex)
theorem flat_one {α : Type} (v : α) : ∀ n : Nat, (List.replicate n [v]).flatten = List.replicate n v
  | 0 => rfl
  | n + 1 => by
    show [v] ++ (List.replicate n [v]).flatten = v :: List.replicate n v
    rw [flat_one v n]
    rfl
/-- (x,) * k -/
def rRepB (K : PySem.W.Frag) : R2 := fun x y H Q => ∃ (l : Addr) (k : Int) (v : V), x = .ref l ∧ y = .int k ∧ SqT K H l [v] ∧ 2 ≤ k ∧ k ≤ 10000 ∧ ∀ p, H p = none → Q (.ref p) (upd H p (.tup (List.replicate k.toNat v)))
theorem op_repB {X : Cx} (K : PySem.W.Frag) (hK : X.K = K := by rfl) : OpR X (binaryOp .Mult) (rRepB K) := by
  subst hK
  intro pins s σ H x y vx vy Q I rx ry h
  obtain ⟨l, k, v, ex, ey, ht, k2, k4, q⟩ := h
  subst ex ey
  cases rx
  obtain ⟨tk, rfl⟩ := ry
  obtain ⟨its, rv, ⟨ob, ho, hc, n, hd⟩, _⟩ := I.tuple ht
  obtain ⟨cl, di, da, so⟩ := ob
  simp only at hc hd
  subst hc hd
  obtain ⟨u, e1, ru⟩ := vals1 rv
  subst e1
  have one : (((([u] : List Value).toArray).size : Nat) : Int) * k = k := by
    show (1 : Int) * k = k
    omega
  have many : (List.replicate k.toNat ([u] : List Value)).flatten.length = k.toNat := by rw [flat_one, List.length_replicate]
  have g1 : (decide (k < -(2 ^ 63)) || decide (k ≥ 2 ^ 63)) = false := by simp only [Bool.or_eq_false_iff, decide_eq_false_iff_not]; omega
  have g2 : (([u] : List Value).toArray.isEmpty || k == 1) = false := by
    show (false || k == 1) = false
    rw [Bool.false_or, beq_eq_false_iff_ne]
    omega
  have g3 : (decide (k ≤ 0) || ([u] : List Value).toArray.isEmpty) = false := by
    show (decide (k ≤ 0) || false) = false
    rw [Bool.or_false, decide_eq_false_iff_not]
    omega
  have g4 : Builtin.Tuple.tupleTooMany (((([u] : List Value).toArray.size : Nat) : Int) * k) = false := by
    rw [one]
    unfold Builtin.Tuple.tupleTooMany
    rw [sizeLine_eq, decide_eq_false_iff_not]
    omega
  have g5 : ¬ (((([u] : List Value).toArray).size : Nat) : Int) * k > (2 ^ 63 - 1) / 8 := by
    rw [one]
    omega
  have g6 : (List.foldl (fun a b => a ++ b) #[] (List.replicate k.toNat ([u] : List Value).toArray)).size ≤ sizeLine := by
    rw [size_rep, List.size_toArray, many, sizeLine_eq]
    omega
  have low := tuple_mulW l ([u] : List Value).toArray n di so k tk g1 g2 g3 g5 g4 g6
  have up := int_rmul_tuple k tk l ([u] : List Value).toArray n di so
  have he : s.TypeIs (.ref l) "tuple" := ⟨_, ho, rfl⟩
  refine wpAny_binaryOp_repeat_ref (T := "tuple") (U := "int") (by decide) he (fun z => typeIs_int z k tk) noFill_tuple_mul
    F.fills_int_mul F.slot_int_rmul repeat_tuple F.slot_int_index.lookup ?_
  refine call_meets F.slot_int_rmul (typeIs_int s k tk) F.entry_int_rmul (F.args_int_rmul_2 _ _) up ⟨ho, rfl, he, ?_⟩
  refine call_meets F.slot_tuple_mul he F.entry_tuple_mul (F.args_tuple_mul_2 _ _) low ⟨ho, ?_⟩
  rw [size_rep, flat_one]
  have new := I.hok.fresh (Nat.le_refl s.heap.objs.size)
  refine ⟨.ref s.heap.objs.size, _, I.laid (t' := s.toks) (o := .tup (List.replicate k.toNat v)) (fun b z e => Heap.get?_push_of_some _ e) (Nat.le_refl _) ⟨?_, _, ?_, IsTup.new _ _⟩, rfl, q _ new⟩
  · rw [List.length_replicate, sizeLine_eq]
    omega
  · have := rv.rep k.toNat
    rw [flat_one, flat_one] at this
    exact this
theorem Ds.rep {q : Addr → Prop} {K : PySem.W.Frag} {σ : L2.St} {H : Hp} {t : TE} {d : D} {k : Int} {n : Nat} (hq : QAt q H) (k2 : 2 ≤ k) (k4 : k ≤ 10000) (e : k.toNat = n) (h : Ds q t σ H (.tuple [d])) : Ds q (tOp (rRepB K) t (tC (.int k))) σ H (.tuple (List.replicate n d)) := fun H1 x Q c => Gk.op (h H1 x _ fun H2 v x2 g => Gk.con (by
  cases g with
  | tup a1 a2 =>
  cases a2 with
  | cons b1 b2 =>
  cases b2
  refine ⟨_, k, _, rfl, rfl, SqT.of a1, k2, k4, fun p hp => ?_⟩
  rw [e]
  have hq2 := hq.ex (x.trans x2)
  exact c _ _ (x2.trans (Ex.new hp)) (.tup upd_same (TlAll.rep (Tl.mono hq2.no (Ty.ex (Ex.new hp)) _ _ b1) _))))
end K60
namespace K60
open PySem L2 TriS
open Evl (Ex)
theorem eIndex {X : Cx} (K : PySem.W.Frag) (h : X.K = K := by rfl) : MtR X "list.index" (rIndex K) := h ▸ mt_index
def nevD : List D := [.none, .list [.int 1], .tuple [.int 0], .tuple [.int 13], .tuple [.int 1, .int 1], .tuple [.int 2, .int 1], .tuple [.bool true], .tuple [.str "1"], .int 1, .tuple [.int 1, .int 2, .int 3, .none]]
def atmD : List D := [.tuple [.int 0, .int 400, .int 1], .tuple [.int 0, .int (-2), .int 1], .tuple [.int 0, .int 1, .int 13], .tuple [.int 1, .int 240, .int 0], .tuple [.int 1, .int 1, .int 4], .tuple [.int 2, .int 1, .int 1], .tuple [.int 1, .int (-1), .int 0],
  .tuple [.int 0, .int 1], .list [.int 0, .int 1, .int 1], .tuple [.int 0, .bool true, .int 1]]
def golD (bad : D) : List D := [.none, .int 5, .tuple [.int 0, .tuple [.tuple [bad, .int 1]]], .tuple [.int 0, .tuple [.tuple [.tuple [.int 0, .int 1, .int 1], .int 0]]],
  .tuple [.int 0, .tuple [.tuple [.tuple [.int 0, .int 2, .int 1], .int 1], .tuple [.tuple [.int 0, .int 1, .int 1], .int 1]]], .tuple [.bool true, .tuple []], .list [.int 0, .tuple []]] ++
  [.tuple [.int 0, .tuple [.tuple [.tuple [.int 0, .int 1, .int 1], .int 1], .tuple [.tuple [.int 0, .int 1, .int 1], .int 2]]], .tuple [.int 0, .list [.tuple [.tuple [.int 0, .int 1, .int 1], .int 1]]], .tuple [.int 0], .tuple [.str "0", .tuple []], .tuple [.int 0, .tuple [.tuple [.tuple [.int 0, .int 1, .int 1], .bool true]]]]
def orgD : List D := [.tuple [.int 240, .int 0], .tuple [.int 0, .int 30], .tuple [.int (-1), .int 0], .tuple [.int 0], .tuple [.bool true, .int 0], .str "x", .tuple [.int 0, .int 0, .int 0], .list [.int 0, .int 0]]
def frmD : D := .tuple [.int 0, .tuple []]
def wrgD (bad org : D) : List D := [.tuple [frmD, .int 0, .none], .tuple [frmD, .none, .none], .tuple [frmD, .bool true, org], .tuple [frmD, .bool true], .list [frmD, .bool true, .none], .tuple [.none, .bool true, .none]] ++
  [.tuple [.tuple [.int 0, .tuple [.tuple [bad, .int 1]]], .bool false, .none], frmD, .none]
theorem nev_bad : ∀ d ∈ nevD, isNever d = false := by
  have : nevD.all (fun d => !isNever d) = true := by decide +kernel
  exact fun d hd => bnot (List.all_eq_true.mp this d hd)
theorem atm_bad : ∀ d ∈ atmD, isAtom d = false := by
  have : atmD.all (fun d => !isAtom d) = true := by decide +kernel
  exact fun d hd => bnot (List.all_eq_true.mp this d hd)
theorem org_bad : ∀ d ∈ orgD, isOrigin d = false := by
  have : orgD.all (fun d => !isOrigin d) = true := by decide +kernel
  exact fun d hd => bnot (List.all_eq_true.mp this d hd)
theorem bad_form {bad : D} (h : isAtom bad = false) : isForm (.tuple [.int 0, .tuple [.tuple [bad, .int 1]]]) = false := by
  show (true && ((isAtom bad && _) && _)) = false
  rw [h]
  rfl
theorem gol_bad {bad : D} (h : isAtom bad = false) : ∀ d ∈ golD bad, isForm d = false ∧ fitF d = true := by
  intro d hd
  unfold golD at hd
  simp only [List.cons_append, List.nil_append, List.mem_cons, List.not_mem_nil, or_false] at hd
  rcases hd with e | e | e | e | e | e | e | e | e | e | e | e <;> subst e
  all_goals first | exact ⟨bad_form h, rfl⟩ | exact ⟨by decide +kernel, by decide +kernel⟩
theorem wrg_bad {bad org : D} (h : isAtom bad = false) (ho : isOrigin org = false) : ∀ d ∈ wrgD bad org, isHint d = false ∧ fitH d = true := by
  intro d hd
  unfold wrgD at hd
  simp only [List.cons_append, List.nil_append, List.mem_cons, List.not_mem_nil, or_false] at hd
  rcases hd with e | e | e | e | e | e | e | e | e <;> subst e
  all_goals first
    | exact ⟨by decide +kernel, by decide +kernel⟩
    | (refine ⟨?_, rfl⟩; show (isForm frmD && (true && isOrigin org)) = false; rw [ho]; rfl)
    | (refine ⟨?_, rfl⟩; show (isForm (.tuple [.int 0, .tuple [.tuple [bad, .int 1]]]) && _) = false; rw [bad_form h]; rfl)
def manD (hs : List D) (bad org : D) : List D := [.list hs, .none, .tuple (List.replicate 8001 (.tuple [frmD, .bool true, .none])), .str "h"]
theorem man_bad {hs : List D} {bad org : D} : ∀ d ∈ manD hs bad org, isHints d = false ∧ fitHs d = true := by
  intro d hd
  unfold manD at hd
  simp only [List.mem_cons, List.not_mem_nil, or_false] at hd
  rcases hd with e | e | e | e <;> subst e
  · exact ⟨rfl, rfl⟩
  · exact ⟨rfl, rfl⟩
  · refine ⟨?_, ?_⟩
    · show (decide ((List.replicate 8001 (PyData.tuple [frmD, .bool true, .none])).length ≤ 8000) && (List.replicate 8001 (PyData.tuple [frmD, .bool true, .none])).all isHint) = false
      rw [List.length_replicate]
      rfl
    · show (List.replicate 8001 (PyData.tuple [frmD, .bool true, .none])).all fitH = true
      exact List.all_eq_true.mpr fun x hx => by rw [(List.mem_replicate.mp hx).2]; decide
  · exact ⟨rfl, rfl⟩
theorem ins_bad {hs : List D} {n : Nat} {wr : D} (h : isHint wr = false ∧ fitH wr = true) (hf : hs.all fitH = true) : isHints (.tuple (hs.take n ++ [wr] ++ hs.drop n)) = false ∧ fitHs (.tuple (hs.take n ++ [wr] ++ hs.drop n)) = true := by
  have e : ∀ g : D → Bool, (hs.take n ++ [wr] ++ hs.drop n).all g = ((hs.take n).all g && g wr && (hs.drop n).all g) := fun g => by simp [List.all_append, List.all_cons, Bool.and_assoc]
  constructor
  · show (decide _ && (hs.take n ++ [wr] ++ hs.drop n).all isHint) = false
    rw [e, h.1]
    simp
  · show (hs.take n ++ [wr] ++ hs.drop n).all fitH = true
    rw [e, h.2, List.all_eq_true.mpr fun x hx => List.all_eq_true.mp hf x (List.mem_of_mem_take hx), List.all_eq_true.mpr fun x hx => List.all_eq_true.mp hf x (List.mem_of_mem_drop hx)]
    rfl
theorem oneL {H : Hp} {p q : Addr} {t : Nat} {v : V} {ds : List D} {Q : VK} {E : XK} (W : WellAt H p q t) (ht : t ≤ 9000000) (g : Tl (Eq q) H v (.list ds)) (h1 : 1 ≤ ds.length) (h2 : ds.length ≤ 1000)
    (k : ∀ H' v d, d ∈ ds → Tl (Eq q) H' v d → WellAt H' p q (t + 1) → But p q H H' → Q v H') : spOne ([.ref p, v] ++ []) H Q E := by
  cases g with
  | lst a1 a2' a3 =>
  rename_i l xs
  have a2 : l ≠ q := fun z => a2' z.symm
  have lp : l ≠ p := fun z => by
    obtain ⟨gs, m, n, g1, _⟩ := W.ex
    subst z
    rw [g1] at a1
    have := Option.some.inj a1
    unfold wellO at this
    cases this
  refine ⟨p, q, l, t, xs, rfl, W, ht, a1, lp, a2, by rw [a3.len]; exact h1, by rw [a3.len]; exact h2, fun H' i v hv W' b => ?_⟩
  obtain ⟨d, hd, gd⟩ := a3.get i v hv
  exact k H' v d (List.mem_of_getElem? hd) (Tl.mono W.qat.no (Ty.tx W b) _ _ gd) W' b
theorem Ty.txs {q : Addr → Prop} {H H' : Hp} (x : Ty q H H') (hq : QAt q H) : Tx H H' := fun a xs e => x a _ (fun z => hq.no _ _ z e) True.intro e
theorem Ds.listOf {q : Addr → Prop} {K : PySem.W.Frag} {σ : L2.St} {H : Hp} {t : TE} {ds : List D} (hq : QAt q H) (h : Ds q t σ H (.tuple ds)) : Ds q (tCB (Gk.rListOf K) (tCons t tNil)) σ H (.list ds) := fun H1 x Q k => Gk.cb (Gk.aCons (h H1 x _ fun H2 v x2 g => Gk.aNil (by
  cases g with
  | tup a1 a2 =>
  have hq2 := hq.ex (x.trans x2)
  exact Gk.listOfT (SqT.of a1) fun p hp => k _ _ (x2.trans (Ex.new hp)) (.lst upd_same (hq2.ne hp) (Tl.monoAll hq2.no (Ty.ex (Ex.new hp)) _ _ a2)))))
local macro_rules | `(tactic| walk_at "ds") => `(tactic| first
  | exact Ds.i | exact Ds.s | exact Ds.b | exact Ds.n | exact Ds.neg | exact DsA.nil
  | (refine' DsA.cons (by assumption) ?h91 ?h92; (case h91 => walk_at "ds"); (case h92 => walk_at "ds"))
  | (refine' Ds.tup (by assumption) ?h93 ?h94; (case h94 => walk_at "ds"); (case h93 => first | decide | (simp only [List.length_cons, List.length_nil]; omega)))
  | (refine' Ds.lst (by assumption) ?h95 ?h96; (case h96 => walk_at "ds"); (case h95 => first | decide | (simp only [List.length_cons, List.length_nil]; omega)))
  | (refine' Ds.cat (by assumption) ?h97 ?h98 ?h99; (case h98 => walk_at "ds"); (case h99 => walk_at "ds"); (case h97 => first | decide | (simp only [List.length_cons, List.length_nil]; omega)))
  | (refine' Ds.listOf (by assumption) ?h90; (case h90 => walk_at "ds"))
  | (refine' Ds.rep (by assumption) (by decide) (by decide) rfl ?h89; (case h89 => walk_at "ds"))
  | exact Ds.v (by assumption) rfl (by assumption))
/-- what _law_errors_right holds while it draws -/
structure ES (q : Addr) (H : Hp) (vg vh vnev vgol vform vwr vmany : V) (f : Form) (hs : List Hint) (bad org wr : D) : Prop where
  g : Tk H vg (formD f)
  h : Tk H vh (.tuple (hs.map hintD))
  nev : Tl (Eq q) H vnev (.list nevD)
  gol : Tl (Eq q) H vgol (.list (golD bad))
  frm : Tl (Eq q) H vform frmD
  wr : Tl (Eq q) H vwr wr
  many : Tl (Eq q) H vmany (.list (manD (hs.map hintD) bad org))
theorem ES.mono {q : Addr} {H H' : Hp} {vg vh vnev vgol vform vwr vmany : V} {f : Form} {hs : List Hint} {bad org wr : D} (e : ES q H vg vh vnev vgol vform vwr vmany f hs bad org wr) (hq : QAt (Eq q) H) (x : Ty (Eq q) H H') :
    ES q H' vg vh vnev vgol vform vwr vmany f hs bad org wr :=
  ⟨Tk.mono (x.txs hq) _ _ e.g, Tk.mono (x.txs hq) _ _ e.h, Tl.mono hq.no x _ _ e.nev, Tl.mono hq.no x _ _ e.gol, Tl.mono hq.no x _ _ e.frm, Tl.mono hq.no x _ _ e.wr, Tl.mono hq.no x _ _ e.many⟩
theorem oneN {N : Addr → Prop} {H : Hp} {p q : Addr} {t : Nat} {v : V} {ds : List D} {Q : VK} {E : XK} (hN : N q) (W : WellAt H p q t) (hq : QAt N H) (ht : t ≤ 9000000) (g : Tl N H v (.list ds)) (h1 : 1 ≤ ds.length) (h2 : ds.length ≤ 1000)
    (k : ∀ H' v d, d ∈ ds → Tl N H' v d → WellAt H' p q (t + 1) → But p q H H' → Q v H') : spOne ([.ref p, v] ++ []) H Q E := by
  cases g with
  | lst a1 a2' a3 =>
  rename_i l xs
  have a2 : l ≠ q := fun z => a2' (z ▸ hN)
  have lp : l ≠ p := fun z => by
    obtain ⟨gs, m, n, g1, _⟩ := W.ex
    subst z
    rw [g1] at a1
    have := Option.some.inj a1
    unfold wellO at this
    cases this
  refine ⟨p, q, l, t, xs, rfl, W, ht, a1, lp, a2, by rw [a3.len]; exact h1, by rw [a3.len]; exact h2, fun H' i v hv W' b => ?_⟩
  obtain ⟨d, hd, gd⟩ := a3.get i v hv
  have y : Ty N H H' := fun c o n1 n2 e => Ty.tx W b c o (fun z => n1 (z ▸ hN)) n2 e
  exact k H' v d (List.mem_of_getElem? hd) (Tl.mono hq.no y _ _ gd) W' b
theorem oneB {H H0 : Hp} {p q : Addr} {t0 t : Nat} {v : V} {ds : List D} {Q : VK} {E : XK} (W0 : WellAt H0 p q t0) (W : WellAt H p q t) (ht : t ≤ 9000000) (b : But p q H0 H) (g : Tl (Eq q) H0 v (.list ds)) (h1 : 1 ≤ ds.length) (h2 : ds.length ≤ 1000)
    (k : ∀ H' v d, d ∈ ds → Tl (Eq q) H0 v d → WellAt H' p q (t + 1) → But p q H H' → Q v H') : spOne ([.ref p, v] ++ []) H Q E := by
  cases g with
  | lst a1 a2' a3 =>
  rename_i l xs
  have a2 : l ≠ q := fun z => a2' z.symm
  have lp : l ≠ p := fun z => by
    obtain ⟨gs, m, n, g1, _⟩ := W0.ex
    subst z
    rw [g1] at a1
    have := Option.some.inj a1
    unfold wellO at this
    cases this
  refine ⟨p, q, l, t, xs, rfl, W, ht, b _ _ lp a2 a1, lp, a2, by rw [a3.len]; exact h1, by rw [a3.len]; exact h2, fun H' i v hv W' b' => ?_⟩
  obtain ⟨d, hd, gd⟩ := a3.get i v hv
  exact k H' v d (List.mem_of_getElem? hd) gd W' b'
/-- goal and hints as the law makes them -/
structure GH (f : Form) (hs : List Hint) : Prop where
  ff : isForm (formD f) = true
  h : ∀ y ∈ hs, isHint (hintD y) = true
  fb : Fb f
  hb : ∀ y ∈ hs, Fb y.1
  fl : f.2.length ≤ 20
  hl : ∀ y ∈ hs, y.1.2.length ≤ 20
  n : hs.length ≤ 400
theorem GH.sum {f : Form} {hs : List Hint} (G : GH f hs) : (hs.map fun y => y.1.2.length).sum ≤ 20 * hs.length := by
  have go : ∀ l : List Hint, (∀ y ∈ l, y.1.2.length ≤ 20) → (l.map fun y => y.1.2.length).sum ≤ 20 * l.length := by
    intro l
    induction l with
    | nil => exact fun _ => Nat.le_refl 0
    | cons y l ih =>
      intro h
      have h1 := h y List.mem_cons_self
      have h2 := ih fun z hz => h z (List.mem_cons_of_mem _ hz)
      rw [List.map_cons, List.sum_cons, List.length_cons]
      omega
  exact go hs G.hl
theorem GH.ok {f : Form} {hs : List Hint} (G : GH f hs) : isHints (.tuple (hs.map hintD)) = true := by
  show (decide ((hs.map hintD).length ≤ 8000) && (hs.map hintD).all isHint) = true
  rw [decide_eq_true (by rw [List.length_map]; have := G.n; omega), Bool.true_and]
  refine List.all_eq_true.mpr fun x hx => ?_
  obtain ⟨y, hy, rfl⟩ := List.mem_map.mp hx
  exact G.h y hy
theorem GH.shows {f : Form} {hs : List Hint} (G : GH f hs) {K : PySem.W.Frag} {H : Hp} {vn vg vh : V} {ns : List Int} (hn : ∃ a, vn = .ref a ∧ H a = some (.tup (ns.map V.int))) (hg : Tk H vg (formD f)) (hh : Tk H vh (.tuple (hs.map hintD))) : ShowsIn H K vn vg vh .non ns f hs .none :=
  ⟨hn, hg, hh, .non, G.h, ⟨G.fb, G.hb⟩, fun s ms e => (by cases e), by have := G.sum; have := G.n; have := G.fl; omega, by have := G.n; omega⟩
def spErrs : Sp := fun vs H Q _ => ∃ (p q : Addr) (vg vh : V) (t : Nat) (f : Form) (hs : List Hint), vs = [.ref p, vg, vh] ∧ WellAt H p q t ∧ t ≤ 1000000 ∧ Tk H vg (formD f) ∧ Tk H vh (.tuple (hs.map hintD)) ∧ GH f hs ∧ ∀ H', Q (.bl true) H'
local macro_rules | `(tactic| walk_at "ex") => `(tactic| first | assumption | exact Evl.Ex.refl _ | (refine' Evl.Ex.trans (by assumption) ?_; walk_at "ex"))
local macro_rules | `(tactic| walk_at "tx") => `(tactic| first | assumption | exact K60.Tx.of_ex (by assumption) | (refine' K60.Tx.trans (by assumption) ?_; walk_at "tx") | (refine' K60.Tx.trans (K60.Tx.of_ex (by assumption)) ?_; walk_at "tx"))
local macro_rules | `(tactic| walk_at "lf") => `(tactic| first | assumption | (refine' K60.exGet ?hx9 ?hy9; (case hy9 => assumption); (case hx9 => walk_at "ex")) | (refine' K60.txGet ?hx9 ?hy9; (case hy9 => assumption); (case hx9 => walk_at "tx")))
local macro_rules | `(tactic| walk_at "sq2") => `(tactic| first | assumption | (refine' SqL.of ?hq9; (case hq9 => walk_at "lf")) | (refine' SqT.of ?hq9; (case hq9 => walk_at "lf")))
local macro_rules | `(tactic| walk_at "gn") => `(tactic| (generalize hh : upd _ _ _ = H9 at *; obtain ⟨xe9, h9⟩ := K60.newAt (by assumption) hh; clear hh))
local macro_rules | `(tactic| walk_at "nw") => `(tactic| (refine' ⟨by show _ ≤ sizeLine; first | decide | (simp only [List.length_cons, List.length_nil, List.length_map, List.length_append, sizeLine_eq]; omega), fun a9 ha9 => ?_⟩; walk_at "gn"))
local macro_rules | `(tactic| walk_at "go2") => `(tactic| first
  | (with_reducible refine' Gk.seq ?_)
  | ((with_reducible refine' Gk.var ?hgo ?_); (case hgo => exact rfl))
  | (with_reducible refine' Gk.con ?_)
  | (with_reducible refine' Gk.op ?_)
  | (with_reducible refine' Gk.i0 ?_)
  | (with_reducible refine' Gk.un ?_)
  | ((with_reducible refine' Gk.i1 (C := CMul) ?hgo ?_); (case hgo => first | exact .inl ⟨by decide, by decide⟩ | exact .inr ⟨by decide, by decide⟩ | exact .inl ⟨by omega, by omega⟩ | exact .inr ⟨by omega, by omega⟩))
  | ((with_reducible refine' Gk.i1 (C := CDiv) ?hgo ?_); (case hgo => exact ⟨by omega, by omega⟩))
  | ((with_reducible refine' Gk.i1 (C := CPow) ?hgo ?_); (case hgo => exact ⟨by decide, by decide, by decide⟩))
  | ((with_reducible refine' Gk.i1 (C := fun _ j => 0 < j) ?hgo ?_); (case hgo => show (0 : Int) < _; omega))
  | (with_reducible refine' Gk.u1 ?_)
  | (with_reducible refine' Gk.test ?_)
  | (with_reducible refine' Gk.testB ?_)
  | (with_reducible refine' Gk.asB ?_)
  | (with_reducible refine' K60.eqI ?_)
  | (with_reducible refine' K60.neI ?_)
  | ((with_reducible refine' Gk.eqv ?hgo ?_); (case hgo => exact rfl))
  | ((with_reducible refine' Gk.nev ?hgo ?_); (case hgo => exact rfl))
  | ((with_reducible refine' Gk.ixL ?hgo ?hga ?_); (case hgo => walk_at "sq2"); (case hga => first | exact rfl | assumption))
  | ((with_reducible refine' Gk.ixT ?hgo ?hga ?_); (case hgo => walk_at "sq2"); (case hga => first | exact rfl | assumption))
  | (with_reducible refine' Gk.aNil ?_)
  | (with_reducible refine' Gk.aCons ?_)
  | (with_reducible refine' Gk.cb ?_)
  | (with_reducible refine' Gk.call ?_)
  | (with_reducible refine' Gk.tup ?_)
  | (with_reducible refine' Gk.lst ?_)
  | (with_reducible refine' Gk.ifE ?_)
  | (with_reducible refine' Gk.ifS ?_)
  | (with_reducible refine' Gk.next ?_)
  | (with_reducible refine' Gk.asg ?_)
  | ((with_reducible refine' Gk.gname ?hgo ?_); (case hgo => exact rfl))
  | (with_reducible refine' Gk.gsub ?_)
  | ((with_reducible refine' Gk.setL ?hgo ?hga ?_); (case hgo => first | assumption | exact upd_same); (case hga => first | exact rfl | assumption))
  | (with_reducible refine' Gk.ret ?_)
  | (with_reducible refine' Gk.drop ?_)
  | (with_reducible refine' Gk.par ?_)
  | (with_reducible refine' Gk.andT ?_)
  | (with_reducible refine' Gk.orT ?_)
  | (with_reducible refine' Gk.notT ?_)
  | (with_reducible refine' Gk.abs ?_)
  | (with_reducible refine' Gk.intI ?_)
  | (with_reducible refine' Gk.intB ?_)
  | ((with_reducible refine' Gk.lenL ?hgo ?_); (case hgo => walk_at "sq2"))
  | ((with_reducible refine' Gk.lenT ?hgo ?_); (case hgo => walk_at "sq2"))
  | ((with_reducible refine' K60.lenD ?hgo ?_); (case hgo => assumption))
  | (with_reducible refine' K60.zipA ?_)
  | (with_reducible refine' K60.listI ?_)
  | (with_reducible refine' K60.tupI ?_)
  | (with_reducible refine' K60.dget2 ?_)
  | (with_reducible refine' K60.dget ?_)
  | (with_reducible refine' K60.dput ?_)
  | ((with_reducible refine' K60.aug ?hgo ?_); (case hgo => exact rfl))
  | (with_reducible refine' K60.ipI ?_)
  | (with_reducible refine' K60.newT ?_)
  | (with_reducible refine' Gk.bm ?_)
  | ((with_reducible refine' Gk.tyL ?hgo ?_); (case hgo => first | assumption | exact upd_same))
  | ((with_reducible refine' Gk.gtup ?hgo ?hga ?_); (case hgo => walk_at "sq2"); (case hga => exact rfl))
  | (with_reducible refine' Gk.gcons ?_)
  | (with_reducible refine' Gk.gnil ?_)
  | (with_reducible refine' Gk.sl ?_)
  | (with_reducible refine' Gk.noPart ?_)
  | (with_reducible refine' Gk.part ?_)
  | (with_reducible refine' Gk.partI ?_)
  | (with_reducible refine' Gk.lc ?_)
  | (with_reducible refine' Gk.rng1 ?_)
  | (with_reducible refine' Gk.forS ?_)
  | (with_reducible refine' Gk.isN ?_)
  | (with_reducible refine' Gk.notN ?_)
  | (with_reducible refine' Gk.andV ?_)
  | (with_reducible refine' Gk.orV ?_)
  | (with_reducible refine' Gk.notV ?_)
  | (with_reducible refine' K60.chain ?_)
  | ((with_reducible refine' K60.isiI ?hgo ?_); (case hgo => assumption))
  | ((with_reducible refine' K60.isiBo ?hgo ?_); (case hgo => assumption))
  | ((with_reducible refine' K60.isiT ?hgo ?_); (case hgo => assumption))
  | ((with_reducible refine' Gk.isiB ?hgo ?hga ?_); (case hgo => exact .base (.non)); (case hga => first | exact (show kitB _ _ = some true by decide +kernel) | exact (show kitB _ _ = some false by decide +kernel)))
  | ((with_reducible refine' Gk.isiB ?hgo ?hga ?_); (case hgo => exact .base (.int _)); (case hga => first | exact (show kitB _ _ = some true by decide +kernel) | exact (show kitB _ _ = some false by decide +kernel)))
  | ((with_reducible refine' Gk.isiB ?hgo ?hga ?_); (case hgo => exact .base (.str _)); (case hga => first | exact (show kitB _ _ = some true by decide +kernel) | exact (show kitB _ _ = some false by decide +kernel)))
  | ((with_reducible refine' Gk.isiB ?hgo ?hga ?_); (case hgo => exact .base (.bl _)); (case hga => first | exact (show kitB _ _ = some true by decide +kernel) | exact (show kitB _ _ = some false by decide +kernel)))
  | ((with_reducible refine' Gk.isiB ?hgo ?hga ?_); (case hgo => exact .base (.tup (by assumption))); (case hga => first | exact (show kitB _ _ = some true by decide +kernel) | exact (show kitB _ _ = some false by decide +kernel)))
  | ((with_reducible refine' Gk.isiB ?hgo ?hga ?_); (case hgo => exact .base (.lst (by assumption))); (case hga => first | exact (show kitB _ _ = some true by decide +kernel) | exact (show kitB _ _ = some false by decide +kernel)))
  | ((with_reducible refine' Gk.iteT ?hgo ?_); (case hgo => exact rfl))
  | ((with_reducible refine' Gk.iteF ?hgo ?_); (case hgo => exact rfl))
  | (with_reducible refine' Gk.yes ?_)
  | (dsimp only))

local macro_rules | `(tactic| walk_at "st") => `(tactic| first
  | ((with_reducible refine' Gk.gname ?hgo ?_); (case hgo => exact rfl))
  | (with_reducible refine' Gk.seq ?_)
  | (with_reducible refine' Gk.asg ?_)
  | (with_reducible refine' Gk.next ?_)
  | (dsimp only))
abbrev sLawErrorsRight : Stmt := top 44
theorem scLawErrorsRight : FnScope ["well", "goal", "hints", "nevers", "atoms", "bad", "goals", "form", "origin", "wrong", "many", "at", "turn", "which", "asked", "due", "k"] ["well", "goal", "hints"] (defScope sLawErrorsRight) := ⟨rfl, rfl, rfl, by decide +kernel, rfl, by decide +kernel, by decide +kernel⟩
section
variable {P : Program} {w : World} {K : PySem.W.Frag} {mg : Str → Option Value} {base : Heap}
set_option maxHeartbeats 0 in
theorem cl_law_errors_right (T : Glo mg) (h : Has K mg "_law_errors_right" sLawErrorsRight) (c_LawDraw : Cl P w K mg base "_law_draw" ["well", "many"] 1 spDraw) (c_LawOne : Cl P w K mg base "_law_one" ["well", "some"] 2 spOne) (c_LawError : Cl P w K mg base "_law_error" ["never", "goal", "hints"] 8 (spLawError K)) : Cl P w K mg base "_law_errors_right" ["well", "goal", "hints"] 9 spErrs := by
  obtain ⟨f_LawDraw, fd_LawDraw, m_LawDraw, k_LawDraw, b_LawDraw, G_LawDraw⟩ := c_LawDraw
  obtain ⟨f_LawOne, fd_LawOne, m_LawOne, k_LawOne, b_LawOne, G_LawOne⟩ := c_LawOne
  obtain ⟨f_LawError, fd_LawError, m_LawError, k_LawError, b_LawError, G_LawError⟩ := c_LawError
  obtain ⟨f, fd, m_, F⟩ := h
  refine ⟨f, fd, m_, F.kp, F.binds (ps := ["well", "goal", "hints"]) fun _ _ _ _ _ _ us hl => match us, hl with | [_, _, _], _ => rfl, ?_⟩
  refine F.ok scLawErrorsRight (fun vs H Q E h => ?_) (fun cdv A outer s H vs Q E hr h => ?_)
  · obtain ⟨p, q, vg, vh, t, f, hs, rfl, _⟩ := h
    rfl
  · obtain ⟨p, q, vg, vh, t, f, hs, rfl, W, ht, tg, th, G, k⟩ := h
    refine ⟨_, (pss_cons (ps_set (i := 3) scLawErrorsRight.nd rfl (Or.inl rfl) (pe_lst (pa_cons pe_non (pa_cons (pe_lst (pa_cons pe_int pa_nil)) (pa_cons (pe_tup (pa_cons pe_int pa_nil)) (pa_cons (pe_tup (pa_cons pe_int pa_nil)) (pa_cons (pe_tup (pa_cons pe_int (pa_cons pe_int pa_nil))) (pa_cons (pe_tup (pa_cons pe_int (pa_cons pe_int pa_nil))) (pa_cons (pe_tup (pa_cons pe_bl pa_nil)) (pa_cons (pe_tup (pa_cons pe_str pa_nil)) (pa_cons pe_int (pa_cons (pe_tup (pa_cons pe_int (pa_cons pe_int (pa_cons pe_int (pa_cons pe_non pa_nil))))) pa_nil))))))))))))
  (pss_cons (ps_set (i := 4) scLawErrorsRight.nd rfl (Or.inl rfl) (pe_lst (pa_cons (pe_tup (pa_cons pe_int (pa_cons pe_int (pa_cons pe_int pa_nil)))) (pa_cons (pe_tup (pa_cons pe_int (pa_cons (pe_un un_neg pe_int) (pa_cons pe_int pa_nil)))) (pa_cons (pe_tup (pa_cons pe_int (pa_cons pe_int (pa_cons pe_int pa_nil)))) (pa_cons (pe_tup (pa_cons pe_int (pa_cons pe_int (pa_cons pe_int pa_nil)))) (pa_cons (pe_tup (pa_cons pe_int (pa_cons pe_int (pa_cons pe_int pa_nil)))) (pa_cons (pe_tup (pa_cons pe_int (pa_cons pe_int (pa_cons pe_int pa_nil)))) (pa_cons (pe_tup (pa_cons pe_int (pa_cons (pe_un un_neg pe_int) (pa_cons pe_int pa_nil)))) (pa_cons (pe_tup (pa_cons pe_int (pa_cons pe_int pa_nil))) (pa_cons (pe_lst (pa_cons pe_int (pa_cons pe_int (pa_cons pe_int pa_nil)))) (pa_cons (pe_tup (pa_cons pe_int (pa_cons pe_bl (pa_cons pe_int pa_nil)))) pa_nil))))))))))))
  (pss_cons (ps_set (i := 5) scLawErrorsRight.nd rfl (Or.inl rfl) (pe_call G_LawOne (hr.mono (by omega)) rfl m_LawOne k_LawOne b_LawOne .nil pass0 (pa_cons (pv 0) (pa_cons (pv 4) pa_nil))))
  (pss_cons (ps_set (i := 6) scLawErrorsRight.nd rfl (Or.inl rfl) (pe_lst (pa_cons pe_non (pa_cons pe_int (pa_cons (pe_tup (pa_cons pe_int (pa_cons (pe_tup (pa_cons (pe_tup (pa_cons (pv 5) (pa_cons pe_int pa_nil))) pa_nil)) pa_nil))) (pa_cons (pe_tup (pa_cons pe_int (pa_cons (pe_tup (pa_cons (pe_tup (pa_cons (pe_tup (pa_cons pe_int (pa_cons pe_int (pa_cons pe_int pa_nil)))) (pa_cons pe_int pa_nil))) pa_nil)) pa_nil))) (pa_cons (pe_tup (pa_cons pe_int (pa_cons (pe_tup (pa_cons (pe_tup (pa_cons (pe_tup (pa_cons pe_int (pa_cons pe_int (pa_cons pe_int pa_nil)))) (pa_cons pe_int pa_nil))) (pa_cons (pe_tup (pa_cons (pe_tup (pa_cons pe_int (pa_cons pe_int (pa_cons pe_int pa_nil)))) (pa_cons pe_int pa_nil))) pa_nil))) pa_nil))) (pa_cons (pe_tup (pa_cons pe_bl (pa_cons (pe_tup pa_nil) pa_nil))) (pa_cons (pe_lst (pa_cons pe_int (pa_cons (pe_tup pa_nil) pa_nil))) pa_nil)))))))))
  (pss_cons (ps_set (i := 6) scLawErrorsRight.nd rfl (Or.inl rfl) (pe_op op_cat (pv 6) (pe_lst (pa_cons (pe_tup (pa_cons pe_int (pa_cons (pe_tup (pa_cons (pe_tup (pa_cons (pe_tup (pa_cons pe_int (pa_cons pe_int (pa_cons pe_int pa_nil)))) (pa_cons pe_int pa_nil))) (pa_cons (pe_tup (pa_cons (pe_tup (pa_cons pe_int (pa_cons pe_int (pa_cons pe_int pa_nil)))) (pa_cons pe_int pa_nil))) pa_nil))) pa_nil))) (pa_cons (pe_tup (pa_cons pe_int (pa_cons (pe_lst (pa_cons (pe_tup (pa_cons (pe_tup (pa_cons pe_int (pa_cons pe_int (pa_cons pe_int pa_nil)))) (pa_cons pe_int pa_nil))) pa_nil)) pa_nil))) (pa_cons (pe_tup (pa_cons pe_int pa_nil)) (pa_cons (pe_tup (pa_cons pe_str (pa_cons (pe_tup pa_nil) pa_nil))) (pa_cons (pe_tup (pa_cons pe_int (pa_cons (pe_tup (pa_cons (pe_tup (pa_cons (pe_tup (pa_cons pe_int (pa_cons pe_int (pa_cons pe_int pa_nil)))) (pa_cons pe_bl pa_nil))) pa_nil)) pa_nil))) pa_nil))))))))
  (pss_cons (ps_par (i := 7) (j := 8) (by rfl) scLawErrorsRight.nd rfl rfl (by decide) rfl rfl (pa_cons (pe_tup (pa_cons pe_int (pa_cons (pe_tup pa_nil) pa_nil))) (pa_cons (pe_call G_LawOne (hr.mono (by omega)) rfl m_LawOne k_LawOne b_LawOne .nil pass0 (pa_cons (pv 0) (pa_cons (pe_lst (pa_cons (pe_tup (pa_cons pe_int (pa_cons pe_int pa_nil))) (pa_cons (pe_tup (pa_cons pe_int (pa_cons pe_int pa_nil))) (pa_cons (pe_tup (pa_cons (pe_un un_neg pe_int) (pa_cons pe_int pa_nil))) (pa_cons (pe_tup (pa_cons pe_int pa_nil)) (pa_cons (pe_tup (pa_cons pe_bl (pa_cons pe_int pa_nil))) (pa_cons pe_str (pa_cons (pe_tup (pa_cons pe_int (pa_cons pe_int (pa_cons pe_int pa_nil)))) (pa_cons (pe_lst (pa_cons pe_int (pa_cons pe_int pa_nil))) pa_nil))))))))) pa_nil))) pa_nil)) (by rfl))
  (pss_cons (ps_set (i := 9) scLawErrorsRight.nd rfl (Or.inl rfl) (pe_lst (pa_cons (pe_tup (pa_cons (pv 7) (pa_cons pe_int (pa_cons pe_non pa_nil)))) (pa_cons (pe_tup (pa_cons (pv 7) (pa_cons pe_non (pa_cons pe_non pa_nil)))) (pa_cons (pe_tup (pa_cons (pv 7) (pa_cons pe_bl (pa_cons (pv 8) pa_nil)))) (pa_cons (pe_tup (pa_cons (pv 7) (pa_cons pe_bl pa_nil))) (pa_cons (pe_lst (pa_cons (pv 7) (pa_cons pe_bl (pa_cons pe_non pa_nil)))) (pa_cons (pe_tup (pa_cons pe_non (pa_cons pe_bl (pa_cons pe_non pa_nil)))) pa_nil))))))))
  (pss_cons (ps_set (i := 9) scLawErrorsRight.nd rfl (Or.inl rfl) (pe_call G_LawOne (hr.mono (by omega)) rfl m_LawOne k_LawOne b_LawOne .nil pass0 (pa_cons (pv 0) (pa_cons (pe_op op_cat (pv 9) (pe_lst (pa_cons (pe_tup (pa_cons (pe_tup (pa_cons pe_int (pa_cons (pe_tup (pa_cons (pe_tup (pa_cons (pv 5) (pa_cons pe_int pa_nil))) pa_nil)) pa_nil))) (pa_cons pe_bl (pa_cons pe_non pa_nil)))) (pa_cons (pv 7) (pa_cons pe_non pa_nil))))) pa_nil))))
  (pss_cons (ps_set (i := 10) scLawErrorsRight.nd rfl (Or.inl rfl) (pe_lst (pa_cons (pe_callTy (Gk.eListOf K) (by rfl) T.list (by decide +kernel) (pa_cons (pv 2) pa_nil)) (pa_cons pe_non (pa_cons (pe_op (K60.op_repB K) (pe_tup (pa_cons (pe_tup (pa_cons (pv 7) (pa_cons pe_bl (pa_cons pe_non pa_nil)))) pa_nil)) pe_int) (pa_cons pe_str pa_nil))))))
  (pss_cons (ps_set (i := 11) scLawErrorsRight.nd rfl (Or.inl rfl) (pe_call G_LawDraw (hr.mono (by omega)) rfl m_LawDraw k_LawDraw b_LawDraw .nil pass0 (pa_cons (pv 0) (pa_cons (pe_op op_add (pe_callB (Gk.eLen K) (by rfl) T.len PySem.boot_len (pa_cons (pv 2) pa_nil)) pe_int) pa_nil))))
  (pss_cons (ps_for PassesOwn.never rfl (pi_range1 (by rfl) T.range (pa_cons pe_int pa_nil)) (pg_name (i := 12) scLawErrorsRight.nd rfl (Or.inl rfl))
    (pss_cons (ps_setLc (i := 13) (own := [("k", 16)]) (g := gName 16) (tt := tYes) rfl scLawErrorsRight.nd rfl rfl (sw_true rfl rfl rfl (by decide +kernel)) (pi_range1 (by rfl) T.range (pa_cons pe_int pa_nil)) (blkOk_by (N := ["well", "goal", "hints", "nevers", "atoms", "bad", "goals", "form", "origin", "wrong", "many", "at", "turn", "which", "asked", "due", "k"]) (sc := defScope sLawErrorsRight) (by decide +kernel)) (fun _ _ _ _ _ => pg_name (i := 16) scLawErrorsRight.nd rfl (Or.inl rfl)) (fun _ _ _ _ _ => pts_nil) (fun _ _ _ _ _ => (pe_cmpR op_eq (pe_call G_LawDraw (hr.mono (by omega)) rfl m_LawDraw k_LawDraw b_LawDraw .nil pass0 (pa_cons (pv 0) (pa_cons pe_int pa_nil))) pe_int (nomark _))))
    (pss_cons (ps_set (i := 14) scLawErrorsRight.nd rfl (Or.inl rfl) (pe_lst (pa_cons (pe_tup (pa_cons pe_int (pa_cons pe_int pa_nil))) (pa_cons (pv 1) (pa_cons (pv 2) pa_nil)))))
    (Evl.pss_cut (ps_if (pt_val (pe_ix (Gk.eIxL K) (pv 13) pe_int (fun _ _ => rfl)))
      (pss_one (ps_asg (pe_call G_LawOne (hr.mono (by omega)) rfl m_LawOne k_LawOne b_LawOne .nil pass0 (pa_cons (pv 0) (pa_cons (pv 3) pa_nil))) (pg_sub (pv 14) pe_int set_list)))
      pss_nil)
    (Evl.pss_cut (ps_if (pt_val (pe_ix (Gk.eIxL K) (pv 13) pe_int (fun _ _ => rfl)))
      (pss_one (ps_asg (pe_call G_LawOne (hr.mono (by omega)) rfl m_LawOne k_LawOne b_LawOne .nil pass0 (pa_cons (pv 0) (pa_cons (pv 6) pa_nil))) (pg_sub (pv 14) pe_int set_list)))
      pss_nil)
    (Evl.pss_cut (ps_if (pt_val (pe_ix (Gk.eIxL K) (pv 13) pe_int (fun _ _ => rfl)))
      (pss_one (ps_asg (pe_call G_LawOne (hr.mono (by omega)) rfl m_LawOne k_LawOne b_LawOne .nil pass0 (pa_cons (pv 0) (pa_cons (pe_op op_cat (pv 10) (pe_op op_rep (pe_lst (pa_cons (pe_op (K60.eCatA K) (pe_op (K60.eCatA K) (pe_slice (K60.eSlA K) (pv 2) po_none (po_some (pv 11))) (pe_tup (pa_cons (pv 9) pa_nil))) (pe_slice (K60.eSlA K) (pv 2) (po_some (pv 11)) po_none)) pa_nil)) pe_int)) pa_nil))) (pg_sub (pv 14) pe_int set_list)))
      pss_nil)
    (pss_cons (ps_set (i := 15) scLawErrorsRight.nd rfl (Or.inl rfl) (pe_ix (Gk.eIxL K) (pe_lst (pa_cons pe_str (pa_cons pe_str (pa_cons pe_str (pa_cons pe_str pa_nil))))) (Gk.eBm K PySem.F.plainAttrs_list PySem.F.slot_list_index PySem.F.type_list_index (K60.eIndex K) (pe_op op_cat (pv 13) (pe_lst (pa_cons pe_bl pa_nil))) (pa_cons pe_bl pa_nil)) (fun _ _ => rfl)))
    (pss_one (ps_if (pt_cmpR op_ne (pe_call G_LawError (hr.mono (by omega)) rfl m_LawError k_LawError b_LawError .nil pass0 (pa_cons (pe_ix (Gk.eIxL K) (pv 14) pe_int (fun _ _ => rfl)) (pa_cons (pe_ix (Gk.eIxL K) (pv 14) pe_int (fun _ _ => rfl)) (pa_cons (pe_ix (Gk.eIxL K) (pv 14) pe_int (fun _ _ => rfl)) pa_nil)))) (pv 15) (nomark _))
      (pss_one (ps_ret pe_bl))
      pss_nil)))))))))
  (pss_one (ps_ret (pe_cmpR op_eq (pe_call G_LawError (hr.mono (by omega)) rfl m_LawError k_LawError b_LawError .nil pass0 (pa_cons (pe_tup pa_nil) (pa_cons (pv 1) (pa_cons (pe_op (K60.op_repB K) (pe_tup (pa_cons (pe_tup (pa_cons (pv 7) (pa_cons pe_bl (pa_cons (pe_tup (pa_cons pe_int (pa_cons pe_int pa_nil))) pa_nil)))) pa_nil)) pe_int) pa_nil)))) pe_str (nomark _))))))))))))))), ?_⟩
    have Q0 := W.qat
    repeat walk_at "st"
    refine Ds.use (q := Eq q) (d := .list nevD) (by walk_at "ds") fun H1 vnev x1 gnev => ?_
    have W1 := W.ex_ x1
    have Q1 := W1.qat
    have tg1 : Tl (Eq q) H1 vg _ := Tk.tl _ _ (Tk.mono (Tx.of_ex x1) _ _ tg)
    have th1 : Tl (Eq q) H1 vh _ := Tk.tl _ _ (Tk.mono (Tx.of_ex x1) _ _ th)
    repeat walk_at "st"
    refine Ds.use (q := Eq q) (d := .list atmD) (by walk_at "ds") fun H2 vatm x2 gatm => ?_
    have W2 := W1.ex_ x2
    have y2 : Ty (Eq q) H1 H2 := Ty.ex x2
    repeat walk_at "go2"
    refine oneL W2 (by omega) gatm (by decide) (by decide) fun H3 vbad bad hbad gbad W3 b3 => ?_
    have hb := atm_bad _ hbad
    have Q3 := W3.qat
    have y3 : Ty (Eq q) H2 H3 := Ty.tx W2 b3
    repeat walk_at "st"
    refine Ds.use (q := Eq q) (by walk_at "ds") fun H4 vgl x4 ggl => ?_
    have W4 := W3.ex_ x4
    have Q4 := W4.qat
    have gbad4 := Tl.mono Q3.no (Ty.ex x4) _ _ gbad
    repeat walk_at "st"
    refine Ds.use (q := Eq q) (d := .list (golD bad)) (by walk_at "ds") fun H5 vgol x5 ggol => ?_
    have W5 := W4.ex_ x5
    have Q5 := W5.qat
    have y5 : Ty (Eq q) H3 H5 := Ty.ex (x4.trans x5)
    repeat walk_at "st"
    refine Gk.par (Gk.aCons (Ds.use (q := Eq q) (d := frmD) (by walk_at "ds") fun H6 vfrm x6 gfrm => ?_))
    have W6 := W5.ex_ x6
    have Q6 := W6.qat
    refine Gk.aCons (Gk.call (Gk.aCons (Gk.var rfl (Gk.aCons (Ds.use (q := Eq q) (d := .list orgD) (by walk_at "ds") fun H7 vorg x7 gorg => ?_)))))
    have W7 := W6.ex_ x7
    refine Gk.aNil ?_
    refine oneL W7 (by omega) gorg (by decide) (by decide) fun H8 vor org hor gor W8 b8 => ?_
    have ho := org_bad _ hor
    have Q8 := W8.qat
    have y8 : Ty (Eq q) H7 H8 := Ty.tx W7 b8
    refine Gk.aNil ⟨_, _, rfl, ?_⟩
    have Q7 := W7.qat
    have y68 : Ty (Eq q) H6 H8 := Ty.trans (Ty.ex x7) y8
    have y58 : Ty (Eq q) H5 H8 := Ty.trans (Ty.ex x6) y68
    have y38 : Ty (Eq q) H3 H8 := Ty.trans y5 y58
    have y18 : Ty (Eq q) H1 H8 := Ty.trans y2 (Ty.trans y3 y38)
    have gfrm8 := Tl.mono Q6.no y68 _ _ gfrm
    have gbad8 := Tl.mono Q3.no y38 _ _ gbad
    repeat walk_at "st"
    refine Ds.use (q := Eq q) (by walk_at "ds") fun H9 vw1 x9 gw1 => ?_
    have W9 := W8.ex_ x9
    have Q9 := W9.qat
    have gfrm9 := Tl.mono Q8.no (Ty.ex x9) _ _ gfrm8
    have gbad9 := Tl.mono Q8.no (Ty.ex x9) _ _ gbad8
    have gor9 := Tl.mono Q8.no (Ty.ex x9) _ _ gor
    repeat walk_at "st"
    refine Gk.call (Gk.aCons (Gk.var rfl (Gk.aCons (Ds.use (q := Eq q) (d := .list (wrgD bad org)) (by walk_at "ds") fun H10 vw2 x10 gw2 => ?_))))
    have W10 := W9.ex_ x10
    have Q10 := W10.qat
    refine Gk.aNil ?_
    refine oneL W10 (by omega) gw2 (by show 1 ≤ 9; decide) (by show 9 ≤ 1000; decide) fun H11 vwr wr hwr gwr W11 b11 => ?_
    have hw := wrg_bad hb ho _ hwr
    have Q11 := W11.qat
    have y11 : Ty (Eq q) H8 H11 := Ty.trans (Ty.ex (x9.trans x10)) (Ty.tx W10 b11)
    have gfrm11 := Tl.mono Q8.no y11 _ _ gfrm8
    have th11 : Tl (Eq q) H11 vh _ := Tl.mono Q1.no (Ty.trans y18 y11) _ _ th1
    repeat walk_at "st"
    refine Ds.use (q := Eq q) (d := .list (manD (hs.map hintD) bad org)) (by
      refine Ds.lst (by assumption) (by show 4 ≤ 10000; decide) ?_
      refine DsA.cons (by assumption) (by walk_at "ds") ?_
      refine DsA.cons (by assumption) (by walk_at "ds") ?_
      refine DsA.cons (by assumption) ?_ ?_
      · refine Ds.rep (by assumption) (by decide) (by decide) rfl ?_
        walk_at "ds"
      · walk_at "ds") fun H12 vmany x12 gmany => ?_
    have W12 := W11.ex_ x12
    have Q12 := W12.qat
    have y12 : Ty (Eq q) H11 H12 := Ty.ex x12
    have yF : Ty (Eq q) H1 H12 := Ty.trans y18 (Ty.trans y11 y12)
    have S12 : ES q H12 vg vh vnev vgol vfrm vwr vmany f hs bad org wr := ⟨Tk.mono (yF.txs Q1) _ _ (Tk.mono (Tx.of_ex x1) _ _ tg), Tk.mono (yF.txs Q1) _ _ (Tk.mono (Tx.of_ex x1) _ _ th), Tl.mono Q1.no yF _ _ gnev,
      Tl.mono Q5.no (Ty.trans y58 (Ty.trans y11 y12)) _ _ ggol, Tl.mono Q11.no y12 _ _ gfrm11, Tl.mono Q11.no y12 _ _ gwr, gmany⟩
    have Th := S12.h
    repeat walk_at "st"
    cases Th with
    | tup hvh hva =>
    rename_i ah xh
    have lh : xh.length = hs.length := by
      have := TkAll.len hva
      rw [List.length_map] at this
      exact this
    repeat walk_at "go2"
    rw [lh]
    refine ⟨p, q, hs.length + 1, _, rfl, W12, by omega, by have := G.n; omega, by omega, fun H13 at_ at0 at1 W13 b13 => ?_⟩
    have S13 := S12.mono Q12 (Ty.tx W12 b13)
    repeat walk_at "go2"
    refine ⟨3, rfl, by decide, by decide, Gk.forR (lo := 0) (n := 3) (fun i σ' H' => (∃ u1 u2 u3 u4 u5 : Option V, σ' = [some (.ref p), some vg, some (.ref ah), some vnev, some vatm, some vbad, some vgol, some vfrm, some vor, some vwr, some vmany, some (.int at_), u1, u2, u3, u4, u5]) ∧ WellAt H' p q (t + 10 + 20 * i) ∧ ES q H' vg (.ref ah) vnev vgol vfrm vwr vmany f hs bad org wr) ?_ ?_ ?_⟩
    · exact ⟨⟨_, _, _, _, _, rfl⟩, W13.le (by omega), S13⟩
    · rintro i σ' H14 hi ⟨⟨u1, u2, u3, u4, u5, rfl⟩, W14, S14⟩
      repeat walk_at "go2"
      refine ⟨3, rfl, by decide, by decide, fun Dw hD => lc_range (lo := 0) (n := 3) (fun j H' => ∃ bs : List Bool, H' Dw = some (.lst (bs.map V.bl)) ∧ bs.length = j ∧ WellAt H' p q (t + 10 + 20 * i + j) ∧ But p q H14 H') ?_ ?_ ?_⟩
      · exact ⟨[], upd_same, rfl, W14.ex_ (Ex.new hD), But.ex (Ex.new hD)⟩
      · rintro j H15 hj ⟨bs, hbs, hbl, W15, b15⟩
        obtain ⟨dp, dq⟩ := W14.neNew hD
        repeat walk_at "go2"
        refine ⟨rfl, ?_⟩
        repeat walk_at "go2"
        refine ⟨p, q, 2, _, rfl, W15, by decide, by decide, by omega, fun H16 y y0 y1 W16 b16 => ?_⟩
        repeat walk_at "go2"
        refine ⟨_, b16 _ _ dp dq hbs, by rw [List.length_map, sizeLine_eq]; omega, bs ++ [decide (y = 0)], ?_, by rw [List.length_append, hbl]; rfl, (W16.mut dp dq).le (by omega), (b15.trans b16).mut hD⟩
        rw [upd_same, List.map_append]
        rfl
      · rintro H15 ⟨bs, hbs, hbl, W15, b15⟩
        obtain ⟨dp, dq⟩ := W14.neNew hD
        obtain ⟨b0, b1, b2, rfl⟩ : ∃ b0 b1 b2, bs = [b0, b1, b2] := by
          match bs, hbl with
          | [b0, b1, b2], _ => exact ⟨b0, b1, b2, rfl⟩
        have S15 := S14.mono W14.qat (Ty.tx W14 b15)
        repeat walk_at "go2"
        walk_at "nw"
        rename_i a0 ha0 H16 x16 g16
        repeat walk_at "go2"
        walk_at "nw"
        rename_i la hla H17 x17 g17
        have W16 := W15.ex_ x16
        have S16 := S15.mono W15.qat (Ty.ex x16)
        have W17 := W16.ex_ x17
        have D17 := x17 _ _ (x16 _ _ hbs)
        obtain ⟨lp, lq⟩ := W16.neNew hla
        have nD : Dw ≠ la := fun z => by
          subst z
          rw [x16 _ _ hbs] at hla
          cases hla
        have Tn : Tl (Eq q) H16 (.ref a0) (.tuple [.int 1, .int 12]) := .tup g16 (.cons (.int 1) (.cons (.int 12) .nil))
        repeat walk_at "go2"
        refine ⟨fun σ1 H1 => ∃ (v0 : V) (d0 : D), σ1 = [some (.ref p), some vg, some (.ref ah), some vnev, some vatm, some vbad, some vgol, some vfrm, some vor, some vwr, some vmany, some (.int at_), some (.int (0 + (i : Int))), some (.ref Dw), some (.ref la), u4, u5] ∧ H1 la = some (.lst [v0, vg, .ref ah]) ∧ H1 Dw = some (.lst ([b0, b1, b2].map V.bl)) ∧ Tl (Eq q) H16 v0 d0 ∧ (b0 = true → isNever d0 = false) ∧ (b0 = false → v0 = .ref a0 ∧ d0 = .tuple [.int 1, .int 12]) ∧ WellAt H1 p q (t + 10 + 20 * i + 5) ∧ But p q H16 H1, ?_, ?_⟩
        · repeat walk_at "go2"
          refine Gk.iteQ (fun e0 => ?_) (fun e0 => ?_)
          · repeat walk_at "st"
            repeat walk_at "go2"
            refine oneB W16 W17 (by omega) (But.ex x17) S16.nev (by decide) (by decide) fun H18 v d hd gd W18 b18 => ?_
            repeat walk_at "go2"
            have l18 := b18 _ _ lp lq g17
            refine Gk.setL l18 rfl ?_
            exact ⟨v, d, rfl, upd_same, by rw [upd_ne nD]; exact b18 _ _ dp dq D17, gd, fun _ => nev_bad d hd, fun z => (by rw [e0] at z; cases z), (W18.mut lp lq).le (by omega), ((But.ex x17).trans b18).mut hla⟩
          · repeat walk_at "go2"
            exact ⟨_, _, rfl, g17, D17, Tn, fun z => (by rw [e0] at z; cases z), fun _ => ⟨rfl, rfl⟩, W17.le (by omega), But.ex x17⟩
        · rintro σ1 H18 ⟨v0, d0, rfl, l18, D18, T0, hb0, hb0', W18, b18⟩
          repeat walk_at "go2"
          refine ⟨fun σ1 H1 => ∃ (v1 : V) (d1 : K60.D), σ1 = [some (.ref p), some vg, some (.ref ah), some vnev, some vatm, some vbad, some vgol, some vfrm, some vor, some vwr, some vmany, some (.int at_), some (.int (0 + (i : Int))), some (.ref Dw), some (.ref la), u4, u5] ∧ H1 la = some (.lst [v0, v1, .ref ah]) ∧ H1 Dw = some (.lst ([b0, b1, b2].map V.bl)) ∧ Tl (Eq q) H16 v1 d1 ∧ fitF d1 = true ∧ (b1 = true → isForm d1 = false) ∧ (b1 = false → v1 = vg ∧ d1 = formD f) ∧ WellAt H1 p q (t + 10 + 20 * i + 6) ∧ But p q H16 H1, ?_, ?_⟩
          · repeat walk_at "go2"
            refine Gk.iteQ (fun e0 => ?_) (fun e0 => ?_)
            · repeat walk_at "st"
              repeat walk_at "go2"
              refine oneB W16 W18 (by omega) b18 S16.gol (by show 1 ≤ 12; decide) (by show 12 ≤ 1000; decide) fun H19 v d hd gd W19 b19 => ?_
              repeat walk_at "go2"
              have l19 := b19 _ _ lp lq l18
              refine Gk.setL l19 rfl ?_
              exact ⟨v, d, rfl, upd_same, by rw [upd_ne nD]; exact b19 _ _ dp dq D18, gd, (gol_bad hb d hd).2, fun _ => (gol_bad hb d hd).1, fun z => (by rw [e0] at z; cases z), (W19.mut lp lq).le (by omega), (b18.trans b19).mut hla⟩
            · repeat walk_at "go2"
              refine ⟨vg, formD f, rfl, l18, D18, Tk.tl _ _ S16.g, ?_, fun z => (by rw [e0] at z; cases z), fun _ => ⟨rfl, rfl⟩, W18.le (by omega), b18⟩
              show decide ((f.2.map termD).length ≤ 1000) = true
              rw [List.length_map]
              exact decide_eq_true (by have := G.fl; omega)
          · rintro σ2 H19 ⟨v1, d1, rfl, l19, D19, T1, f1, hb1, hb1', W19, b19⟩
            repeat walk_at "go2"
            have fitH0 : fitHs (.tuple (hs.map hintD)) = true := List.all_eq_true.mpr fun x hx => by
              obtain ⟨y, hy, rfl⟩ := List.mem_map.mp hx
              show decide ((y.1.2.map termD).length ≤ 1000) = true
              rw [List.length_map]
              exact decide_eq_true (by have := G.hl y hy; omega)
            refine ⟨fun σ1 H1 => ∃ (v2 : V) (d2 : K60.D), σ1 = [some (.ref p), some vg, some (.ref ah), some vnev, some vatm, some vbad, some vgol, some vfrm, some vor, some vwr, some vmany, some (.int at_), some (.int (0 + (i : Int))), some (.ref Dw), some (.ref la), u4, u5] ∧ H1 la = some (.lst [v0, v1, v2]) ∧ H1 Dw = some (.lst ([b0, b1, b2].map V.bl)) ∧ Tl (Eq q) H1 v2 d2 ∧ fitHs d2 = true ∧ (b2 = true → isHints d2 = false) ∧ (b2 = false → v2 = .ref ah ∧ d2 = .tuple (hs.map hintD)) ∧ WellAt H1 p q (t + 10 + 20 * i + 7) ∧ But p q H16 H1, ?_, ?_⟩
            · repeat walk_at "go2"
              refine Gk.iteQ (fun e0 => ?_) (fun e0 => ?_)
              · repeat walk_at "st"
                repeat walk_at "go2"
                have hNq : (fun c => q = c ∨ la = c) q := Or.inl rfl
                have noN : ∀ c xs, (q = c ∨ la = c) → H16 c ≠ some (.tup xs) := fun c xs z e => by
                  rcases z with z | z
                  · exact W16.qat.no c xs z e
                  · rw [← z, hla] at e
                    cases e
                have yN : Ty (fun c => q = c ∨ la = c) H16 H19 := fun c o n1 n2 e => Ty.tx W16 b19 c o (fun z => n1 (.inl z)) n2 e
                have mN : ∀ c, (q = c ∨ la = c) → q = c ∨ H16 c = none := fun c z => z.imp id fun z => by rw [← z]; exact hla
                have QN : QAt (fun c => q = c ∨ la = c) H19 := fun c z => by
                  rcases z with z | z
                  · exact W19.qat c z
                  · exact ⟨_, by rw [← z]; exact l19⟩
                have ghs : Tl (fun c => q = c ∨ la = c) H19 (.ref ah) (.tuple (hs.map hintD)) := Tl.mono noN yN _ _ (Tl.more mN _ _ (Tk.tl _ _ S16.h))
                have gwr9 : Tl (fun c => q = c ∨ la = c) H19 vwr wr := Tl.mono noN yN _ _ (Tl.more mN _ _ S16.wr)
                have gmn9 : Tl (fun c => q = c ∨ la = c) H19 vmany (.list (manD (hs.map hintD) bad org)) := Tl.mono noN yN _ _ (Tl.more mN _ _ S16.many)
                generalize hNN : (fun c => q = c ∨ la = c) = N at *
                refine slA QN ghs fun H20 w1 x20 gw1 => ?_
                have Q20 := QN.ex x20
                have gwr20 := Tl.mono QN.no (Ty.ex x20) _ _ gwr9
                refine Ds.use (q := N) (d := .tuple [wr]) (by walk_at "ds") fun H21 w2 x21 gw2' => ?_
                have Q21 := Q20.ex x21
                have lhs : (hs.map hintD).length ≤ 400 := by rw [List.length_map]; exact G.n
                have la1 : (cutD (hs.map hintD) none (some at_)) = (hs.map hintD).take at_.toNat := cutD_to at0 (by rw [List.length_map]; omega)
                have la2 : (cutD (hs.map hintD) (some at_) none) = (hs.map hintD).drop at_.toNat := cutD_from at0 (by rw [List.length_map]; omega)
                rw [la1] at gw1
                refine catA Q21 (Tl.mono Q20.no (Ty.ex x21) _ _ gw1) gw2' (by rw [List.length_take]; show _ + 1 ≤ _; omega) fun H22 w3 x22 gw3 => ?_
                have Q22 := Q21.ex x22
                have x1922 : Ex H19 H22 := x20.trans (x21.trans x22)
                repeat walk_at "go2"
                refine slA Q22 (Tl.mono QN.no (Ty.ex x1922) _ _ ghs) fun H23 w4 x23 gw4 => ?_
                have Q23 := Q22.ex x23
                rw [la2] at gw4
                refine catA Q23 (Tl.mono Q22.no (Ty.ex x23) _ _ gw3) gw4 (by rw [List.length_append, List.length_take, List.length_drop]; show _ + 1 + _ ≤ _; omega) fun H24 w5 x24 gw5 => ?_
                have Q24 := Q23.ex x24
                repeat walk_at "go2"
                walk_at "nw"
                rename_i l5 hl5 H25 x25 g25
                repeat walk_at "go2"
                refine ⟨l5, 4, _, rfl, rfl, g25, by decide, by decide, by show 1 * 4 ≤ _; rw [sizeLine_eq]; decide, fun l6 hl6 => ?_⟩
                walk_at "gn"
                rename_i H26 x26 g26
                have x1926 : Ex H19 H26 := x1922.trans (x23.trans (x24.trans (x25.trans x26)))
                have gmn26 := Tl.mono QN.no (Ty.ex x1926) _ _ gmn9
                have gw26 := Tl.mono Q24.no (Ty.ex (x25.trans x26)) _ _ gw5
                have Q26 := QN.ex x1926
                cases gmn26 with
                | lst m1 m2 m3 =>
                rename_i am xm
                have lm := m3.len
                refine ⟨am, l6, xm, _, rfl, rfl, m1, g26, by rw [lm]; show 4 + 4 ≤ _; rw [sizeLine_eq]; decide, fun l7 hl7 => ?_⟩
                walk_at "gn"
                rename_i H27 x27 g27
                have W27 := W19.ex_ (x1926.trans x27)
                have Q27 := Q26.ex x27
                have m27 := Tl.monoAll Q26.no (Ty.ex x27) _ _ m3
                have gw27 := Tl.mono Q26.no (Ty.ex x27) _ _ gw26
                refine Gk.aNil ?_
                obtain ⟨ins, hins⟩ : ∃ ins, PyData.tuple (List.take at_.toNat (List.map hintD hs) ++ [wr] ++ List.drop at_.toNat (List.map hintD hs)) = ins := ⟨_, rfl⟩
                have hib : isHints ins = false ∧ fitHs ins = true := by
                  rw [← hins]
                  exact ins_bad hw fitH0
                rw [hins] at gw27
                have gl : Tl N H27 (.ref l7) (.list (manD (hs.map hintD) bad org ++ [ins, ins, ins, ins])) := .lst g27 (Q26.ne hl7) (m27.app (.cons gw27 (.cons gw27 (.cons gw27 (.cons gw27 .nil)))))
                have hNl : ∀ c, q = c → N c := fun c z => by rw [← hNN]; exact Or.inl z
                have hNa : N la := by rw [← hNN]; exact Or.inr rfl
                refine oneN (hNl q rfl) W27 Q27 (by omega) gl (by show 1 ≤ 8; decide) (by show 8 ≤ 1000; decide) fun H28 v d hd gd W28 b28 => ?_
                have hdb : isHints d = false ∧ fitHs d = true := by
                  rcases List.mem_append.mp hd with e | e
                  · exact man_bad d e
                  · have : d = ins := by
                      simp only [List.mem_cons, List.not_mem_nil, or_false, or_self] at e
                      exact e
                    rw [this]
                    exact hib
                repeat walk_at "go2"
                have xl : Ex H19 H27 := x1926.trans x27
                have l28 := b28 _ _ lp lq (xl _ _ l19)
                refine Gk.setL l28 rfl ?_
                have yU : Ty N H28 (upd H28 la (.lst ([v0, v1, .ref ah].set (Int.toNat 2) v))) := fun c o n1 _ e => by
                  rw [upd_ne (fun z => n1 (by rw [z]; exact hNa))]
                  exact e
                have no28 : ∀ c xs, N c → H28 c ≠ some (.tup xs) := fun c xs z => by
                  rw [← hNN] at z
                  rcases z with z | z
                  · exact W28.qat.no c xs z
                  · rw [← z, l28]
                    exact fun e => by cases e
                refine ⟨v, d, rfl, upd_same, by rw [upd_ne nD]; exact b28 _ _ dp dq (xl _ _ D19), Tl.more (fun c z => .inl (hNl c z)) _ _ (Tl.mono no28 yU _ _ gd), hdb.2, fun _ => hdb.1, fun z => (by rw [e0] at z; cases z), (W28.mut lp lq).le (by omega), ((b19.trans (But.ex xl)).trans b28).mut hla⟩
              · repeat walk_at "go2"
                exact ⟨_, _, rfl, l19, D19, Tl.mono W16.qat.no (Ty.tx W16 b19) _ _ (Tk.tl _ _ S16.h), fitH0, fun z => (by rw [e0] at z; cases z), fun _ => ⟨rfl, rfl⟩, W19.le (by omega), b19⟩
            · rintro σ3 H20 ⟨v2, d2, rfl, l20, D20, T2, f2, hb2, hb2', W20, b20⟩
              repeat walk_at "go2"
              walk_at "nw"
              rename_i r1 hr1 H21 x21 g21
              repeat walk_at "go2"
              walk_at "nw"
              rename_i r2 hr2 H22 x22 g22
              repeat walk_at "go2"
              refine ⟨Dw, r2, _, _, rfl, rfl, x22 _ _ (x21 _ _ D20), g22, by show 3 + 1 ≤ _; rw [sizeLine_eq]; decide, fun r3 hr3 => ?_⟩
              walk_at "gn"
              rename_i H23 x23 g23
              repeat walk_at "go2"
              have nv : isNever (.tuple [.int 1, .int 12]) = true := by decide +kernel
              obtain ⟨j, hj1, hj2, hj3⟩ : ∃ j : Nat, ([V.bl b0, .bl b1, .bl b2] ++ [V.bl true])[j]? = some (.bl true) ∧ (∀ (m : Nat) (z' : V), m < j → ([V.bl b0, .bl b1, .bl b2] ++ [V.bl true])[m]? = some z' → eqV z' (.bl true) = false) ∧
                  [V.str "never", V.str "goal", V.str "hints", V.str "none"][j]? = some (.str (errWord d0 d1 d2)) := by
                cases hc0 : b0 with
                | true => exact ⟨0, rfl, fun m z h => absurd h (Nat.not_lt_zero _), by unfold errWord; rw [if_neg (by rw [hb0 hc0]; decide)]; rfl⟩
                | false =>
                  have e0 : isNever d0 = true := by rw [(hb0' hc0).2]; exact nv
                  cases hc1 : b1 with
                  | true =>
                    refine ⟨1, rfl, fun m z h e => ?_, by unfold errWord; rw [if_pos e0, if_neg (by rw [hb1 hc1]; decide)]; rfl⟩
                    match m, h, e with
                    | 0, _, e => cases e; decide
                  | false =>
                    have e1 : isForm d1 = true := by rw [(hb1' hc1).2]; exact G.ff
                    cases hc2 : b2 with
                    | true =>
                      refine ⟨2, rfl, fun m z h e => ?_, by unfold errWord; rw [if_pos e0, if_pos e1, if_neg (by rw [hb2 hc2]; decide)]; rfl⟩
                      match m, h, e with
                      | 0, _, e => cases e; decide
                      | 1, _, e => cases e; decide
                    | false =>
                      have e2 : isHints d2 = true := by rw [(hb2' hc2).2]; exact G.ok
                      refine ⟨3, rfl, fun m z h e => ?_, by unfold errWord; rw [if_pos e0, if_pos e1, if_pos e2]; rfl⟩
                      match m, h, e with
                      | 0, _, e => cases e; decide
                      | 1, _, e => cases e; decide
                      | 2, _, e => cases e; decide
              refine ⟨r3, _, _, j, _, rfl, rfl, SqL.of g23, rfl, rfl, hj1, rfl, hj2, ?_⟩
              refine Gk.ixL (by walk_at "sq2") (atI_nat hj3) ?_
              have x2023 : Ex H20 H23 := x21.trans (x22.trans x23)
              have l23 := x2023 _ _ l20
              have y20 : Ty (Eq q) H16 H20 := Ty.tx W16 b20
              have y23 : Ty (Eq q) H16 H23 := Ty.trans y20 (Ty.ex x2023)
              have T0' := Tl.mono W16.qat.no y23 _ _ T0
              have T1' := Tl.mono W16.qat.no y23 _ _ T1
              have T2' := Tl.mono W20.qat.no (Ty.ex x2023) _ _ T2
              have S23 := S16.mono W16.qat y23
              repeat walk_at "go2"
              refine ⟨v0, v1, v2, d0, d1, d2, rfl, Tl.dp _ _ T0', Tl.dp _ _ T1', Tl.dp _ _ T2', f1, f2, fun g0 g1 g2 => ?_, fun H24 x24 => ?_⟩
              · have z0 : b0 = false := by cases e : b0 with | false => rfl | true => rw [hb0 e] at g0; cases g0
                have z1 : b1 = false := by cases e : b1 with | false => rfl | true => rw [hb1 e] at g1; cases g1
                have z2 : b2 = false := by cases e : b2 with | false => rfl | true => rw [hb2 e] at g2; cases g2
                rw [(hb0' z0).1, (hb1' z1).1, (hb2' z2).1]
                exact ⟨[1, 12], f, hs, G.shows ⟨a0, rfl, (y23.txs W16.qat) _ _ g16⟩ S23.g S23.h⟩
              · repeat walk_at "go2"
                refine Gk.iteQ (fun e => ?_) (fun e => ?_)
                · rw [decide_eq_true rfl] at e
                  cases e
                · repeat walk_at "go2"
                  exact ⟨⟨_, _, _, _, _, rfl⟩, ((W20.ex_ x2023).ex_ x24).le (by omega), S23.mono (W20.ex_ x2023).qat (Ty.ex x24)⟩
    · rintro σ' H14 ⟨⟨u1, u2, u3, u4, u5, rfl⟩, W14, S14⟩
      have Q14 := W14.qat
      have gfr := S14.frm
      refine Gk.ret (Gk.op (Gk.call (Gk.aCons (Gk.tup (Gk.aNil ?_)))))
      walk_at "nw"
      rename_i r1 hr1 H15 x15 g15
      have Q15 := Q14.ex x15
      have gfr15 := Tl.mono Q14.no (Ty.ex x15) _ _ gfr
      obtain ⟨oh, hoh⟩ : ∃ oh : Hint, oh = ((0, []), true, .tuple [.int 239, .int 29]) := ⟨_, rfl⟩
      have eoh : hintD oh = .tuple [frmD, .bool true, .tuple [.int 239, .int 29]] := by rw [hoh]; rfl
      have hoh1 : isHint (hintD oh) = true := by rw [eoh]; decide +kernel
      refine Gk.aCons (Gk.var rfl (Gk.aCons (Ds.use (q := Eq q) (d := .tuple (List.replicate 8000 (.tuple [frmD, .bool true, .tuple [.int 239, .int 29]]))) (by
        refine Ds.rep (by assumption) (by decide) (by decide) rfl ?_
        walk_at "ds") fun H16 v8 x16 g8 => ?_)))
      refine Gk.aNil ?_
      rw [← eoh] at g8
      have hnl : ∀ n, noLists (List.replicate n (hintD oh)) = true := by
        intro n
        induction n with
        | zero => rfl
        | succ n ih =>
          show (noList (hintD oh) && noLists (List.replicate n (hintD oh))) = true
          rw [ih, eoh]
          decide
      have k8 : Tk H16 v8 (.tuple ((List.replicate 8000 oh).map hintD)) := by
        rw [List.map_replicate]
        exact Tl.tk _ _ (by unfold noList; exact hnl 8000) g8
      have S16 := S14.mono W14.qat (Ty.ex (x15.trans x16))
      have e1 : isHints (.tuple (List.replicate 8000 (hintD oh))) = true := by
        show (decide ((List.replicate 8000 (hintD oh)).length ≤ 8000) && (List.replicate 8000 (hintD oh)).all isHint) = true
        rw [List.length_replicate, decide_eq_true (Nat.le_refl _), Bool.true_and]
        exact List.all_eq_true.mpr fun x hx => by rw [(List.mem_replicate.mp hx).2]; exact hoh1
      have f1 : fitHs (.tuple (List.replicate 8000 (hintD oh))) = true := by
        show (List.replicate 8000 (hintD oh)).all fitH = true
        exact List.all_eq_true.mpr fun x hx => by rw [(List.mem_replicate.mp hx).2, eoh]; decide +kernel
      have g16 := x16 _ _ g15
      have hsum : ∀ n, ((List.replicate n oh).map fun y => y.1.2.length).sum = 0 := by
        intro n
        induction n with
        | zero => rfl
        | succ n ih =>
          rw [List.replicate_succ, List.map_cons, List.sum_cons, ih, hoh]
          rfl
      have fg : fitF (formD f) = true := by
        show decide ((f.2.map termD).length ≤ 1000) = true
        rw [List.length_map]
        exact decide_eq_true (by have := G.fl; omega)
      have e0 : isNever (.tuple []) = true := by decide
      refine ⟨.ref r1, vg, v8, .tuple [], formD f, _, rfl, .tup (SqT.of g16) .nil, Tk.dp _ _ S16.g, Tl.dp _ _ g8, fg, f1, fun _ _ _ => ?_, fun H17 x17 => ?_⟩
      · refine ⟨[], f, List.replicate 8000 oh, ⟨r1, rfl, g16⟩, S16.g, k8, .non, fun y hy => by rw [(List.mem_replicate.mp hy).2]; exact hoh1, ⟨G.fb, fun y hy => ?_⟩, fun s ms e => (by cases e), by rw [hsum]; have := G.fl; omega, by rw [List.length_replicate]; decide⟩
        rw [(List.mem_replicate.mp hy).2, hoh]
        refine ⟨by show small 0; unfold small; decide +kernel, fun t ht => (by cases ht)⟩
      · repeat walk_at "go2"
        unfold errWord
        rw [if_pos e0, if_pos G.ff, if_pos e1]
        exact k H17
end
end K60
namespace K60
open PySem L2 TriS
open Evl (Ex)
theorem negz_setC : ∀ (hs : List Hint) (ms : List Int) (i : Nat) (y : Hint) (m m' : Int), hs[i]? = some y → ms[i]? = some m → sumC (negz hs (ms.set i m')) = sumC (negz hs ms) - (m' - m) * y.1.1
  | [], _, _, _, _, _, h, _ => by cases h
  | _ :: _, [], _, _, _, _, _, h => by cases h
  | h :: hs, k :: ms, 0, y, m, m', h1, h2 => by
    cases h1
    cases h2
    show -m' * h.1.1 + sumC (negz hs ms) = -k * h.1.1 + sumC (negz hs ms) - (m' - k) * h.1.1
    rw [Int.sub_mul, Int.neg_mul, Int.neg_mul]
    omega
  | h :: hs, k :: ms, i + 1, y, m, m', h1, h2 => by
    have := negz_setC hs ms i y m m' h1 h2
    show -k * h.1.1 + sumC (negz hs (ms.set i m')) = -k * h.1.1 + sumC (negz hs ms) - (m' - m) * y.1.1
    rw [this]
    omega
theorem negz_setA (a : Tri) : ∀ (hs : List Hint) (ms : List Int) (i : Nat) (y : Hint) (m m' : Int), hs[i]? = some y → ms[i]? = some m → sumA (negz hs (ms.set i m')) a = sumA (negz hs ms) a - (m' - m) * coef y.1.2 a
  | [], _, _, _, _, _, h, _ => by cases h
  | _ :: _, [], _, _, _, _, _, h => by cases h
  | h :: hs, k :: ms, 0, y, m, m', h1, h2 => by
    cases h1
    cases h2
    show -m' * coef h.1.2 a + sumA (negz hs ms) a = -k * coef h.1.2 a + sumA (negz hs ms) a - (m' - k) * coef h.1.2 a
    rw [Int.sub_mul, Int.neg_mul, Int.neg_mul]
    omega
  | h :: hs, k :: ms, i + 1, y, m, m', h1, h2 => by
    have := negz_setA a hs ms i y m m' h1 h2
    show -k * coef h.1.2 a + sumA (negz hs (ms.set i m')) a = -k * coef h.1.2 a + sumA (negz hs ms) a - (m' - m) * coef y.1.2 a
    rw [this]
    omega
theorem negz_0C : ∀ (hs : List Hint) (n : Nat), sumC (negz hs (List.replicate n 0)) = 0
  | [], n => by cases n <;> rfl
  | _ :: _, 0 => rfl
  | h :: hs, n + 1 => by
    show -0 * h.1.1 + sumC (negz hs (List.replicate n 0)) = 0
    rw [negz_0C hs n]
    omega
theorem negz_0A (a : Tri) : ∀ (hs : List Hint) (n : Nat), sumA (negz hs (List.replicate n 0)) a = 0
  | [], n => by cases n <;> rfl
  | _ :: _, 0 => rfl
  | h :: hs, n + 1 => by
    show -0 * coef h.1.2 a + sumA (negz hs (List.replicate n 0)) a = 0
    rw [negz_0A a hs n]
    omega
/-- a form of one atom -/
def oneF (a : Tri) (c u : Int) : Form := (c, [(a, u)])
theorem one_coef (a b : Tri) (c u : Int) : coef (oneF a c u).2 b = if a = b then u else 0 := by
  show (if a = b then u else 0) + 0 = _
  omega
/-- the many hints -/
def longH (a : Tri) (cs : List (Int × Int)) (n : Nat) : List Hint := (List.range n).map fun i => (oneF a (cs.getD (i % 7) (0, 1)).1 (cs.getD (i % 7) (0, 1)).2, false, .none)
theorem longH_len (a : Tri) (cs : List (Int × Int)) (n : Nat) : (longH a cs n).length = n := by
  unfold longH
  rw [List.length_map, List.length_range]
theorem longH_at {a : Tri} {cs : List (Int × Int)} {n i : Nat} (h : i < n) : (longH a cs n)[i]? = some (oneF a (cs.getD (i % 7) (0, 1)).1 (cs.getD (i % 7) (0, 1)).2, false, .none) := by
  unfold longH
  rw [List.getElem?_map, List.getElem?_range h]
  rfl
structure Long (a : Tri) (cs : List (Int × Int)) : Prop where
  a : isAtom (triD a) = true
  l : cs.length = 7
  b : ∀ p ∈ cs, -4 ≤ p.1 ∧ p.1 ≤ 4 ∧ 1 ≤ p.2 ∧ p.2 ≤ 9
theorem Long.at_ {a : Tri} {cs : List (Int × Int)} (L : Long a cs) (i : Nat) : -4 ≤ (cs.getD (i % 7) (0, 1)).1 ∧ (cs.getD (i % 7) (0, 1)).1 ≤ 4 ∧ 1 ≤ (cs.getD (i % 7) (0, 1)).2 ∧ (cs.getD (i % 7) (0, 1)).2 ≤ 9 := by
  have h : i % 7 < cs.length := by rw [L.l]; omega
  have e : cs.getD (i % 7) (0, 1) = cs[i % 7] := by
    rw [List.getD_eq_getElem?_getD, List.getElem?_eq_getElem h]
    rfl
  rw [e]
  exact L.b _ (List.getElem_mem h)
theorem one_ok {a : Tri} {c u : Int} (h : isAtom (triD a) = true) (hu : u ≠ 0) : isForm (formD (oneF a c u)) = true :=
  form_ok (fun t ht => by
    rw [List.mem_singleton.mp ht]
    exact ⟨h, hu⟩) (List.pairwise_singleton _ _)
theorem Long.hint {a : Tri} {cs : List (Int × Int)} (L : Long a cs) {n : Nat} : ∀ y ∈ longH a cs n, isHint (hintD y) = true ∧ Fb y.1 ∧ y.1.2.length = 1 := fun y hy => by
  unfold longH at hy
  obtain ⟨i, _, rfl⟩ := List.mem_map.mp hy
  have := L.at_ i
  refine ⟨?_, ⟨?_, fun t ht => ?_⟩, rfl⟩
  · show (isForm (formD (oneF _ _ _)) && (true && true)) = true
    rw [one_ok L.a (by omega)]
    rfl
  · show small (cs.getD (i % 7) (0, 1)).1
    unfold small
    exact Nat.lt_of_le_of_lt (show _ ≤ 9 by omega) (by decide +kernel)
  · rw [List.mem_singleton.mp ht]
    show small (cs.getD (i % 7) (0, 1)).2
    unfold small
    exact Nat.lt_of_le_of_lt (show _ ≤ 9 by omega) (by decide +kernel)
theorem Long.good {a : Tri} {cs : List (Int × Int)} (L : Long a cs) {n i : Nat} {by_ : Int} (hi : i < n) : Good [] 1 (partsOf (oneF a (by_ * (cs.getD (i % 7) (0, 1)).1) (by_ * (cs.getD (i % 7) (0, 1)).2)) 1 (longH a cs n) ((List.replicate n 0).set i by_)) := by
  have h0 : (List.replicate n (0 : Int))[i]? = some 0 := by rw [List.getElem?_replicate, if_pos hi]
  have hc := negz_setC (longH a cs n) (List.replicate n 0) i _ 0 by_ (longH_at hi) h0
  have ha := fun b => negz_setA b (longH a cs n) (List.replicate n 0) i _ 0 by_ (longH_at hi) h0
  generalize (cs.getD (i % 7) (0, 1)).1 = c at *
  generalize (cs.getD (i % 7) (0, 1)).2 = u at *
  rw [negz_0C] at hc
  have eC : sumC (partsOf (oneF a (by_ * c) (by_ * u)) 1 (longH a cs n) ((List.replicate n 0).set i by_)) = 0 := by
    show 1 * (by_ * c) + sumC (negz (longH a cs n) ((List.replicate n 0).set i by_)) = 0
    rw [hc]
    show 1 * (by_ * c) + (0 - (by_ - 0) * c) = 0
    rw [Int.sub_zero]
    omega
  have eA : ∀ b, sumA (partsOf (oneF a (by_ * c) (by_ * u)) 1 (longH a cs n) ((List.replicate n 0).set i by_)) b = 0 := fun b => by
    show 1 * coef (oneF a (by_ * c) (by_ * u)).2 b + sumA (negz (longH a cs n) ((List.replicate n 0).set i by_)) b = 0
    rw [ha b, negz_0A, one_coef, one_coef, Int.sub_zero]
    by_cases z : a = b
    · rw [if_pos z, if_pos z]
      omega
    · rw [if_neg z, if_neg z]
      omega
  exact ⟨by rw [eC]; decide, fun e => (by cases e), fun b h => absurd (eA b) h⟩
theorem Long.bad {a : Tri} {cs : List (Int × Int)} (L : Long a cs) {n i j : Nat} {by_ m : Int} (hi : i < n) (hj : j < n) (hm : ((List.replicate n 0).set i by_)[j]? = some m) :
    ¬ Good [] 1 (partsOf (oneF a (by_ * (cs.getD (i % 7) (0, 1)).1) (by_ * (cs.getD (i % 7) (0, 1)).2)) 1 (longH a cs n) (((List.replicate n 0).set i by_).set j (m + 1))) := fun G => by
  have h0 : (List.replicate n (0 : Int))[i]? = some 0 := by rw [List.getElem?_replicate, if_pos hi]
  have ha := negz_setA a (longH a cs n) (List.replicate n 0) i _ 0 by_ (longH_at hi) h0
  have hb := negz_setA a (longH a cs n) ((List.replicate n 0).set i by_) j _ m (m + 1) (longH_at hj) hm
  have hu := L.at_ j
  rw [ha, negz_0A, one_coef, one_coef, if_pos rfl, if_pos rfl] at hb
  have e : sumA (partsOf (oneF a (by_ * (cs.getD (i % 7) (0, 1)).1) (by_ * (cs.getD (i % 7) (0, 1)).2)) 1 (longH a cs n) (((List.replicate n 0).set i by_).set j (m + 1))) a = -(cs.getD (j % 7) (0, 1)).2 := by
    show 1 * coef (oneF a (by_ * (cs.getD (i % 7) (0, 1)).1) (by_ * (cs.getD (i % 7) (0, 1)).2)).2 a + sumA (negz (longH a cs n) (((List.replicate n 0).set i by_).set j (m + 1))) a = _
    rw [hb, one_coef, if_pos rfl, Int.sub_zero]
    have : m + 1 - m = 1 := by omega
    rw [this]
    omega
  have := (G.at_ a (by rw [e]; omega)).1
  rw [e] at this
  omega
theorem Long.hints {a : Tri} {cs : List (Int × Int)} (L : Long a cs) {n : Nat} (h : n ≤ 8000) : isHints (.tuple ((longH a cs n).map hintD)) = true ∧ fitHs (.tuple ((longH a cs n).map hintD)) = true := by
  constructor
  · show (decide (((longH a cs n).map hintD).length ≤ 8000) && ((longH a cs n).map hintD).all isHint) = true
    rw [List.length_map, longH_len, decide_eq_true h, Bool.true_and]
    refine List.all_eq_true.mpr fun x hx => ?_
    obtain ⟨y, hy, rfl⟩ := List.mem_map.mp hx
    exact (L.hint y hy).1
  · refine List.all_eq_true.mpr fun x hx => ?_
    obtain ⟨y, hy, rfl⟩ := List.mem_map.mp hx
    show decide ((y.1.2.map termD).length ≤ 1000) = true
    rw [List.length_map, (L.hint y hy).2.2]
    rfl
theorem Long.sum {a : Tri} {cs : List (Int × Int)} (L : Long a cs) {n : Nat} : ((longH a cs n).map fun y => y.1.2.length).sum = n := by
  have go : ∀ l : List Hint, (∀ y ∈ l, y.1.2.length = 1) → (l.map fun y => y.1.2.length).sum = l.length := by
    intro l
    induction l with
    | nil => exact fun _ => rfl
    | cons y l ih =>
      intro h
      rw [List.map_cons, List.sum_cons, h y List.mem_cons_self, ih fun z hz => h z (List.mem_cons_of_mem _ hz), List.length_cons]
      omega
  rw [go _ fun y hy => (L.hint y hy).2.2, longH_len]
theorem Long.shown {a : Tri} {cs : List (Int × Int)} (L : Long a cs) {n : Nat} (h : n ≤ 8000) {K : PySem.W.Frag} {CN CG CH : Addr} {H : Hp} {e : Addr} {vg vh vx : V} {c u : Int} {ms : List Int} {Q : VK} {E : XK} (he : H e = some (.tup [])) (hu : u ≠ 0) (hc : c.natAbs ≤ 100) (hu2 : u.natAbs ≤ 100)
    (hg : Tk H vg (formD (oneF a c u))) (hh : Tk H vh (.tuple ((longH a cs n).map hintD))) (hx : Tk H vx (.tuple [.int 1, .tuple (ms.map .int)])) (hl : ms.length = n) (h0 : ∀ m ∈ ms, 0 ≤ m ∧ m ≤ 100)
    (k : ∀ (H' : Hp) (b : Bool), Ex H H' → (b = true ↔ Good [] 1 (partsOf (oneF a c u) 1 (longH a cs n) ms)) → Q (.bl b) H') : spShown K CN CG CH ([.ref e, vg, vh, vx] ++ []) H Q E := by
  have e0 : isNever (.tuple []) = true := by decide
  have e1 : isForm (formD (oneF a c u)) = true := one_ok L.a hu
  have e2 := L.hints h
  have sm : ∀ x : Int, x.natAbs ≤ 100 → small x := fun x hx => by
    unfold small
    exact Nat.lt_of_le_of_lt hx (by decide +kernel)
  have hf : fits ((longH a cs n).map hintD) (.tuple [.int 1, .tuple (ms.map .int)]) = true := by
    show (true && (true && byAll ((longH a cs n).map hintD) (ms.map .int))) = true
    rw [byAll_of (by rw [longH_len]; exact hl) fun i y m _ hm hneg => by
      have := (h0 m (List.mem_of_getElem? hm)).1
      omega]
    rfl
  refine ⟨.ref e, vg, vh, vx, .tuple [], formD (oneF a c u), _, rfl, .tup (SqT.of he) .nil, Tk.dp _ _ hg, Tk.dp _ _ hh, rfl, e2.2, fun z => ?_, fun _ z => ?_, fun _ _ z => ?_, fun _ _ _ => ?_⟩
  · rw [e0] at z
    cases z
  · rw [e1] at z
    cases z
  · rw [e2.1] at z
    cases z
  · refine ⟨[], oneF a c u, longH a cs n, _, ⟨⟨e, rfl, he⟩, hg, hh, Tk.dp _ _ hx, fun y hy => (L.hint y hy).1, ⟨⟨sm _ hc, fun t ht => ?_⟩, fun y hy => (L.hint y hy).2.1⟩, fun s ms' e => ?_, ?_, ?_⟩, fun H' b x hb => k H' b x (hb.trans (shows_iff hf))⟩
    · rw [List.mem_singleton.mp ht]
      exact sm _ hu2
    · injection e with e
      injection e with e1 e
      injection e1 with e1
      injection e with e2 _
      injection e2 with e2
      have := map_int_inj e2
      subst this e1
      exact ⟨sm _ (by decide), fun m hm => sm _ (by have := h0 m hm; omega)⟩
    · rw [L.sum]
      show 1 + n ≤ 90000
      omega
    · rw [longH_len]
      omega
def spLong : Sp := fun vs H Q _ => ∃ (p q : Addr) (t : Nat), vs = [.ref p] ∧ WellAt H p q t ∧ t ≤ 1000000 ∧ ∀ (H' : Hp), WellAt H' p q (t + 100) → But p q H H' → Q (.bl true) H'
local macro_rules | `(tactic| walk_at "ex") => `(tactic| first | assumption | exact Evl.Ex.refl _ | (refine' Evl.Ex.trans (by assumption) ?_; walk_at "ex"))
local macro_rules | `(tactic| walk_at "tx") => `(tactic| first | assumption | exact K60.Tx.of_ex (by assumption) | (refine' K60.Tx.trans (by assumption) ?_; walk_at "tx") | (refine' K60.Tx.trans (K60.Tx.of_ex (by assumption)) ?_; walk_at "tx"))
local macro_rules | `(tactic| walk_at "lf") => `(tactic| first | assumption | (refine' K60.exGet ?hx9 ?hy9; (case hy9 => assumption); (case hx9 => walk_at "ex")) | (refine' K60.txGet ?hx9 ?hy9; (case hy9 => assumption); (case hx9 => walk_at "tx")))
local macro_rules | `(tactic| walk_at "sq2") => `(tactic| first | assumption | (refine' SqL.of ?hq9; (case hq9 => walk_at "lf")) | (refine' SqT.of ?hq9; (case hq9 => walk_at "lf")))
local macro_rules | `(tactic| walk_at "gn") => `(tactic| (generalize hh : upd _ _ _ = H9 at *; obtain ⟨xe9, h9⟩ := K60.newAt (by assumption) hh; clear hh))
local macro_rules | `(tactic| walk_at "nw") => `(tactic| (refine' ⟨by show _ ≤ sizeLine; first | decide | (simp only [List.length_cons, List.length_nil, List.length_map, List.length_append, sizeLine_eq]; omega), fun a9 ha9 => ?_⟩; walk_at "gn"))
local macro_rules | `(tactic| walk_at "go2") => `(tactic| first
  | (with_reducible refine' Gk.seq ?_)
  | ((with_reducible refine' Gk.var ?hgo ?_); (case hgo => exact rfl))
  | (with_reducible refine' Gk.con ?_)
  | (with_reducible refine' Gk.op ?_)
  | (with_reducible refine' Gk.i0 ?_)
  | (with_reducible refine' Gk.un ?_)
  | ((with_reducible refine' Gk.i1 (C := CMul) ?hgo ?_); (case hgo => first | exact .inl ⟨by decide, by decide⟩ | exact .inr ⟨by decide, by decide⟩ | exact .inl ⟨by omega, by omega⟩ | exact .inr ⟨by omega, by omega⟩))
  | ((with_reducible refine' Gk.i1 (C := CDiv) ?hgo ?_); (case hgo => exact ⟨by omega, by omega⟩))
  | ((with_reducible refine' Gk.i1 (C := CPow) ?hgo ?_); (case hgo => exact ⟨by decide, by decide, by decide⟩))
  | ((with_reducible refine' Gk.i1 (C := fun _ j => 0 < j) ?hgo ?_); (case hgo => show (0 : Int) < _; omega))
  | (with_reducible refine' Gk.u1 ?_)
  | (with_reducible refine' Gk.test ?_)
  | (with_reducible refine' Gk.testB ?_)
  | (with_reducible refine' Gk.asB ?_)
  | (with_reducible refine' K60.eqI ?_)
  | (with_reducible refine' K60.neI ?_)
  | ((with_reducible refine' Gk.eqv ?hgo ?_); (case hgo => exact rfl))
  | ((with_reducible refine' Gk.nev ?hgo ?_); (case hgo => exact rfl))
  | ((with_reducible refine' Gk.ixL ?hgo ?hga ?_); (case hgo => walk_at "sq2"); (case hga => first | exact rfl | assumption))
  | ((with_reducible refine' Gk.ixT ?hgo ?hga ?_); (case hgo => walk_at "sq2"); (case hga => first | exact rfl | assumption))
  | (with_reducible refine' Gk.aNil ?_)
  | (with_reducible refine' Gk.aCons ?_)
  | (with_reducible refine' Gk.cb ?_)
  | (with_reducible refine' Gk.call ?_)
  | (with_reducible refine' Gk.tup ?_)
  | (with_reducible refine' Gk.lst ?_)
  | (with_reducible refine' Gk.ifE ?_)
  | (with_reducible refine' Gk.ifS ?_)
  | (with_reducible refine' Gk.next ?_)
  | (with_reducible refine' Gk.asg ?_)
  | ((with_reducible refine' Gk.gname ?hgo ?_); (case hgo => exact rfl))
  | (with_reducible refine' Gk.gsub ?_)
  | ((with_reducible refine' Gk.setL ?hgo ?hga ?_); (case hgo => first | assumption | exact upd_same); (case hga => first | exact rfl | assumption))
  | (with_reducible refine' Gk.ret ?_)
  | (with_reducible refine' Gk.drop ?_)
  | (with_reducible refine' Gk.par ?_)
  | (with_reducible refine' Gk.andT ?_)
  | (with_reducible refine' Gk.orT ?_)
  | (with_reducible refine' Gk.notT ?_)
  | (with_reducible refine' Gk.abs ?_)
  | (with_reducible refine' Gk.intI ?_)
  | (with_reducible refine' Gk.intB ?_)
  | ((with_reducible refine' Gk.lenL ?hgo ?_); (case hgo => walk_at "sq2"))
  | ((with_reducible refine' Gk.lenT ?hgo ?_); (case hgo => walk_at "sq2"))
  | ((with_reducible refine' K60.lenD ?hgo ?_); (case hgo => assumption))
  | (with_reducible refine' K60.zipA ?_)
  | (with_reducible refine' K60.listI ?_)
  | (with_reducible refine' K60.tupI ?_)
  | (with_reducible refine' K60.dget2 ?_)
  | (with_reducible refine' K60.dget ?_)
  | (with_reducible refine' K60.dput ?_)
  | ((with_reducible refine' K60.aug ?hgo ?_); (case hgo => exact rfl))
  | (with_reducible refine' K60.ipI ?_)
  | (with_reducible refine' K60.newT ?_)
  | (with_reducible refine' Gk.bm ?_)
  | ((with_reducible refine' Gk.tyL ?hgo ?_); (case hgo => first | assumption | exact upd_same))
  | ((with_reducible refine' Gk.gtup ?hgo ?hga ?_); (case hgo => walk_at "sq2"); (case hga => exact rfl))
  | (with_reducible refine' Gk.gcons ?_)
  | (with_reducible refine' Gk.gnil ?_)
  | (with_reducible refine' Gk.sl ?_)
  | (with_reducible refine' Gk.noPart ?_)
  | (with_reducible refine' Gk.part ?_)
  | (with_reducible refine' Gk.partI ?_)
  | (with_reducible refine' Gk.lc ?_)
  | (with_reducible refine' Gk.rng1 ?_)
  | (with_reducible refine' Gk.forS ?_)
  | (with_reducible refine' Gk.isN ?_)
  | (with_reducible refine' Gk.notN ?_)
  | (with_reducible refine' Gk.andV ?_)
  | (with_reducible refine' Gk.orV ?_)
  | (with_reducible refine' Gk.notV ?_)
  | (with_reducible refine' K60.chain ?_)
  | ((with_reducible refine' K60.isiI ?hgo ?_); (case hgo => assumption))
  | ((with_reducible refine' K60.isiBo ?hgo ?_); (case hgo => assumption))
  | ((with_reducible refine' K60.isiT ?hgo ?_); (case hgo => assumption))
  | ((with_reducible refine' Gk.isiB ?hgo ?hga ?_); (case hgo => exact .base (.non)); (case hga => first | exact (show kitB _ _ = some true by decide +kernel) | exact (show kitB _ _ = some false by decide +kernel)))
  | ((with_reducible refine' Gk.isiB ?hgo ?hga ?_); (case hgo => exact .base (.int _)); (case hga => first | exact (show kitB _ _ = some true by decide +kernel) | exact (show kitB _ _ = some false by decide +kernel)))
  | ((with_reducible refine' Gk.isiB ?hgo ?hga ?_); (case hgo => exact .base (.str _)); (case hga => first | exact (show kitB _ _ = some true by decide +kernel) | exact (show kitB _ _ = some false by decide +kernel)))
  | ((with_reducible refine' Gk.isiB ?hgo ?hga ?_); (case hgo => exact .base (.bl _)); (case hga => first | exact (show kitB _ _ = some true by decide +kernel) | exact (show kitB _ _ = some false by decide +kernel)))
  | ((with_reducible refine' Gk.isiB ?hgo ?hga ?_); (case hgo => exact .base (.tup (by assumption))); (case hga => first | exact (show kitB _ _ = some true by decide +kernel) | exact (show kitB _ _ = some false by decide +kernel)))
  | ((with_reducible refine' Gk.isiB ?hgo ?hga ?_); (case hgo => exact .base (.lst (by assumption))); (case hga => first | exact (show kitB _ _ = some true by decide +kernel) | exact (show kitB _ _ = some false by decide +kernel)))
  | ((with_reducible refine' Gk.iteT ?hgo ?_); (case hgo => exact rfl))
  | ((with_reducible refine' Gk.iteF ?hgo ?_); (case hgo => exact rfl))
  | (with_reducible refine' Gk.yes ?_)
  | (dsimp only))

abbrev sLawLong : Stmt := top 42
theorem scLawLong : FnScope ["well", "many", "atom", "some", "hints", "at", "by", "const", "terms", "goal", "times", "more", "k"] ["well"] (defScope sLawLong) := ⟨rfl, rfl, rfl, by decide +kernel, rfl, by decide +kernel, by decide +kernel⟩
section
variable {P : Program} {w : World} {K : PySem.W.Frag} {mg : Str → Option Value} {base : Heap} {CN CG CH : Addr}
set_option maxHeartbeats 0 in
theorem cl_law_long (T : Glo mg) (h : Has K mg "_law_long" sLawLong) (c_LawDraw : Cl P w K mg base "_law_draw" ["well", "many"] 1 spDraw) (c_IsShown : ClS P w K mg base 7 (spShown K CN CG CH)) : Cl P w K mg base "_law_long" ["well"] 8 spLong := by
  obtain ⟨f_LawDraw, fd_LawDraw, m_LawDraw, k_LawDraw, b_LawDraw, G_LawDraw⟩ := c_LawDraw
  obtain ⟨f_IsShown, fd_IsShown, m_IsShown, k_IsShown, b_IsShown, kb_IsShown, G_IsShown⟩ := c_IsShown
  obtain ⟨f, fd, m_, F⟩ := h
  refine ⟨f, fd, m_, F.kp, F.binds (ps := ["well"]) fun _ _ _ _ _ _ us hl => match us, hl with | [_], _ => rfl, ?_⟩
  refine F.ok scLawLong (fun vs H Q E h => ?_) (fun cdv A outer s H vs Q E hr h => ?_)
  · obtain ⟨p, q, t, rfl, _⟩ := h
    rfl
  · obtain ⟨p, q, t, rfl, W, ht, k⟩ := h
    refine ⟨_, (pss_cons (ps_set (i := 1) scLawLong.nd rfl (Or.inl rfl) (pe_ix (Gk.eIxL K) (pe_lst (pa_cons pe_int (pa_cons pe_int (pa_cons pe_int (pa_cons pe_int (pa_cons pe_int (pa_cons pe_int pa_nil))))))) (pe_call G_LawDraw (hr.mono (by omega)) rfl m_LawDraw k_LawDraw b_LawDraw .nil pass0 (pa_cons (pv 0) (pa_cons pe_int pa_nil))) (fun _ _ => rfl)))
  (pss_cons (ps_set (i := 2) scLawLong.nd rfl (Or.inr rfl) (pe_tup (pa_cons pe_int (pa_cons (pe_call G_LawDraw (hr.mono (by omega)) rfl m_LawDraw k_LawDraw b_LawDraw .nil pass0 (pa_cons (pv 0) (pa_cons pe_int pa_nil))) (pa_cons (pe_call G_LawDraw (hr.mono (by omega)) rfl m_LawDraw k_LawDraw b_LawDraw .nil pass0 (pa_cons (pv 0) (pa_cons pe_int pa_nil))) pa_nil)))))
  (pss_cons (ps_set (i := 3) scLawLong.nd rfl (Or.inr rfl) (pe_lc (own := [("k", 12)]) (g := gName 12) (tt := tYes) rfl scLawLong.nd (pi_range1 (by rfl) T.range (pa_cons pe_int pa_nil)) (blkOk_by (N := ["well", "many", "atom", "some", "hints", "at", "by", "const", "terms", "goal", "times", "more", "k"]) (sc := defScope sLawLong) (by decide +kernel)) (fun _ _ _ _ _ => pg_name (i := 12) scLawLong.nd rfl (Or.inl rfl)) (fun _ _ _ _ _ => pts_nil) (fun _ _ _ _ _ => (pe_tup (pa_cons (pe_op op_sub (pe_call G_LawDraw (hr.mono (by omega)) rfl m_LawDraw k_LawDraw b_LawDraw .nil pass0 (pa_cons (pv 0) (pa_cons pe_int pa_nil))) pe_int) (pa_cons (pe_tup (pa_cons (pe_tup (pa_cons (pv 2) (pa_cons (pe_op op_add pe_int (pe_call G_LawDraw (hr.mono (by omega)) rfl m_LawDraw k_LawDraw b_LawDraw .nil pass0 (pa_cons (pv 0) (pa_cons pe_int pa_nil)))) pa_nil))) pa_nil)) pa_nil))))))
  (pss_cons (ps_set (i := 4) scLawLong.nd rfl (Or.inl rfl) (pe_callTy (K60.eTupOf K) (by rfl) T.tuple (by decide +kernel) (pa_cons (pe_lc (own := [("k", 12)]) (g := gName 12) (tt := tYes) rfl scLawLong.nd (pi_range1 (by rfl) T.range (pa_cons (pv 1) pa_nil)) (blkOk_by (N := ["well", "many", "atom", "some", "hints", "at", "by", "const", "terms", "goal", "times", "more", "k"]) (sc := defScope sLawLong) (by decide +kernel)) (fun _ _ _ _ _ => pg_name (i := 12) scLawLong.nd rfl (Or.inl rfl)) (fun _ _ _ _ _ => pts_nil) (fun _ _ _ _ _ => (pe_tup (pa_cons (pe_ix (Gk.eIxL K) (pv 3) (pe_op op_mod (pe_callTy Gk.cInt1 (by rfl) T.int (by decide +kernel) (pa_cons (pv 12) pa_nil)) pe_int) (fun _ _ => rfl)) (pa_cons pe_bl (pa_cons pe_non pa_nil)))))) pa_nil)))
  (pss_cons (ps_set (i := 5) scLawLong.nd rfl (Or.inl rfl) (pe_ix (Gk.eIxL K) (pe_lst (pa_cons (pe_op op_sub (pv 1) pe_int) (pa_cons (pe_call G_LawDraw (hr.mono (by omega)) rfl m_LawDraw k_LawDraw b_LawDraw .nil pass0 (pa_cons (pv 0) (pa_cons (pv 1) pa_nil))) pa_nil))) (pe_call G_LawDraw (hr.mono (by omega)) rfl m_LawDraw k_LawDraw b_LawDraw .nil pass0 (pa_cons (pv 0) (pa_cons pe_int pa_nil))) (fun _ _ => rfl)))
  (pss_cons (ps_set (i := 6) scLawLong.nd rfl (Or.inl rfl) (pe_op op_add pe_int (pe_call G_LawDraw (hr.mono (by omega)) rfl m_LawDraw k_LawDraw b_LawDraw .nil pass0 (pa_cons (pv 0) (pa_cons pe_int pa_nil)))))
  (pss_cons (ps_asg (pe_ix (Gk.eIxT K) (pe_ix (Gk.eIxT K) (pv 4) (pv 5) (fun _ _ => rfl)) pe_int (fun _ _ => rfl)) (Gk.ePgT K rfl (pgs_cons (pg_name (i := 7) scLawLong.nd rfl (Or.inl rfl)) (pgs_cons (pg_name (i := 8) scLawLong.nd rfl (Or.inl rfl)) pgs_nil))))
  (pss_cons (ps_set (i := 9) scLawLong.nd rfl (Or.inl rfl) (pe_tup (pa_cons (pe_op op_mul (pv 6) (pv 7)) (pa_cons (pe_tup (pa_cons (pe_tup (pa_cons (pv 2) (pa_cons (pe_op op_mul (pv 6) (pe_ix (Gk.eIxT K) (pe_ix (Gk.eIxT K) (pv 8) pe_int (fun _ _ => rfl)) pe_int (fun _ _ => rfl))) pa_nil))) pa_nil)) pa_nil))))
  (pss_cons (ps_set (i := 10) scLawLong.nd rfl (Or.inl rfl) (pe_op op_rep (pe_lst (pa_cons pe_int pa_nil)) (pv 1)))
  (pss_cons (ps_asg (pv 6) (pg_sub (pv 10) (pv 5) set_list))
  (pss_cons (ps_if (pt_cmpR K60.op_notBo (pe_call G_IsShown (hr.mono (by omega)) rfl m_IsShown k_IsShown b_IsShown .nil passL (pa_cons (pe_tup pa_nil) (pa_cons (pv 9) (pa_cons (pv 4) (pa_cons (pe_tup (pa_cons pe_int (pa_cons (pe_callTy (K60.eTupOf K) (by rfl) T.tuple (by decide +kernel) (pa_cons (pv 10) pa_nil)) pa_nil))) pa_nil))))) pe_bl (nomark _))
    (pss_one (ps_ret pe_bl))
    pss_nil)
  (pss_cons (ps_set (i := 11) scLawLong.nd rfl (Or.inl rfl) (pe_ix (Gk.eIxL K) (pe_lst (pa_cons (pe_op op_sub (pv 1) pe_int) (pa_cons (pv 5) (pa_cons (pe_call G_LawDraw (hr.mono (by omega)) rfl m_LawDraw k_LawDraw b_LawDraw .nil pass0 (pa_cons (pv 0) (pa_cons (pv 1) pa_nil))) pa_nil)))) (pe_call G_LawDraw (hr.mono (by omega)) rfl m_LawDraw k_LawDraw b_LawDraw .nil pass0 (pa_cons (pv 0) (pa_cons pe_int pa_nil))) (fun _ _ => rfl)))
  (pss_cons (ps_asg (pe_op op_add (pe_ix (Gk.eIxL K) (pv 10) (pv 11) (fun _ _ => rfl)) pe_int) (pg_sub (pv 10) (pv 11) set_list))
  (pss_one (ps_ret (pe_cmpR K60.op_isBo (pe_call G_IsShown (hr.mono (by omega)) rfl m_IsShown k_IsShown b_IsShown .nil passL (pa_cons (pe_tup pa_nil) (pa_cons (pv 9) (pa_cons (pv 4) (pa_cons (pe_tup (pa_cons pe_int (pa_cons (pe_callTy (K60.eTupOf K) (by rfl) T.tuple (by decide +kernel) (pa_cons (pv 10) pa_nil)) pa_nil))) pa_nil))))) pe_bl (nomark _))))))))))))))))), ?_⟩
    repeat walk_at "go2"
    walk_at "nw"
    rename_i r1 hr1 H1 x1 g1
    have W1 := W.ex_ x1
    repeat walk_at "go2"
    refine ⟨p, q, 6, _, rfl, W1, by decide, by decide, by omega, fun H2 d d0 d1 W2 b2 => ?_⟩
    repeat walk_at "go2"
    obtain ⟨r1p, r1q⟩ := W.neNew hr1
    have g2 := b2 _ _ r1p r1q g1
    obtain ⟨n, hn, n0, n1⟩ : ∃ n : Nat, atI [V.int 1001, .int 2001, .int 4097, .int 5001, .int 7999, .int 8000] d = some (.int (n : Int)) ∧ 1001 ≤ n ∧ n ≤ 8000 := by
      rcases (by omega : d = 0 ∨ d = 1 ∨ d = 2 ∨ d = 3 ∨ d = 4 ∨ d = 5) with e | e | e | e | e | e <;> subst e
      · exact ⟨1001, rfl, by decide, by decide⟩
      · exact ⟨2001, rfl, by decide, by decide⟩
      · exact ⟨4097, rfl, by decide, by decide⟩
      · exact ⟨5001, rfl, by decide, by decide⟩
      · exact ⟨7999, rfl, by decide, by decide⟩
      · exact ⟨8000, rfl, by decide, by decide⟩
    refine Gk.ixL (SqL.of g2) hn ?_
    repeat walk_at "go2"
    refine ⟨p, q, 240, _, rfl, W2, by decide, by decide, by omega, fun H3 a1 a10 a11 W3 b3 => ?_⟩
    repeat walk_at "go2"
    refine ⟨p, q, 4, _, rfl, W3, by decide, by decide, by omega, fun H4 a2 a20 a21 W4 b4 => ?_⟩
    repeat walk_at "go2"
    walk_at "nw"
    rename_i r5 hr5 H5 x5 g5
    have W5 := W4.ex_ x5
    have b5 : But p q H H5 := (But.ex x1).trans (b2.trans (b3.trans (b4.trans (But.ex x5))))
    obtain ⟨at1, hat1⟩ : ∃ at1 : Tri, at1 = (1, a1, a2) := ⟨_, rfl⟩
    have g5' : H5 r5 = some (.tup (triV at1)) := by rw [hat1]; exact g5
    have hatm : isAtom (triD at1) = true := by rw [hat1]; exact atom_s a10 (by omega) a20 (by omega)
    repeat walk_at "go2"
    refine ⟨7, rfl, by decide, by decide, fun L1 hL1 => lc_range (lo := 0) (n := 7) (fun i H' => ∃ (xs : List V) (cs : List (Int × Int)), H' L1 = some (.lst xs) ∧ TkAll H' xs (cs.map fun c => formD (oneF at1 c.1 c.2)) ∧ cs.length = i ∧ (∀ c ∈ cs, -4 ≤ c.1 ∧ c.1 ≤ 4 ∧ 1 ≤ c.2 ∧ c.2 ≤ 9) ∧ WellAt H' p q (t + 3 + 2 * i) ∧ But p q H5 H') ?_ ?_ ?_⟩
    · exact ⟨[], [], upd_same, .nil, rfl, fun c hc => (by cases hc), W5.ex_ (Ex.new hL1), But.ex (Ex.new hL1)⟩
    · rintro i H6 hi ⟨xs, cs, hxs, tk, hcl, hcb, W6, b6⟩
      obtain ⟨lp, lq⟩ := W5.neNew hL1
      have g6 := W5.tx b6 _ _ g5'
      repeat walk_at "go2"
      refine ⟨rfl, ?_⟩
      repeat walk_at "go2"
      refine ⟨p, q, 9, _, rfl, W6, by decide, by decide, by omega, fun H7 c c0 c1 W7 b7 => ?_⟩
      have t7 := W6.tx b7
      repeat walk_at "go2"
      refine ⟨p, q, 9, _, rfl, W7, by decide, by decide, by omega, fun H8 u u0 u1 W8 b8 => ?_⟩
      have t8 := W7.tx b8
      repeat walk_at "go2"
      walk_at "nw"
      rename_i s1 hs1 H9 x9 e9
      repeat walk_at "go2"
      walk_at "nw"
      rename_i s2 hs2 H10 x10 e10
      repeat walk_at "go2"
      walk_at "nw"
      rename_i s3 hs3 H11 x11 e11
      repeat walk_at "go2"
      have xF : Ex H8 H11 := x9.trans (x10.trans x11)
      have hxs11 := xF _ _ (b8 _ _ lp lq (b7 _ _ lp lq hxs))
      have lx : xs.length ≤ 7 := by
        have := TkAll.len tk
        rw [List.length_map] at this
        omega
      have tt := Tx.lst (o := .lst (xs ++ [V.ref s3])) hxs11
      have g11 : H11 r5 = some (.tup (triV at1)) := xF _ _ (t8 _ _ (t7 _ _ g6))
      refine ⟨xs, hxs11, by rw [sizeLine_eq]; omega, xs ++ [V.ref s3], cs ++ [(c - 4, 1 + u)], upd_same, ?_, by rw [List.length_append, hcl]; rfl, fun z hz => ?_, ((W8.ex_ xF).mut lp lq).le (by omega), (b6.trans (b7.trans (b8.trans (But.ex xF)))).mut hL1⟩
      · rw [List.map_append]
        refine TkAll.snoc (Tk.monoAll (Tx.trans t7 (Tx.trans t8 (Tx.trans (Tx.of_ex xF) tt))) _ _ tk) ?_
        refine .tup (tt _ _ e11) (.cons (.int _) (.cons (.tup (tt _ _ (x11 _ _ e10)) (.cons ?_ .nil)) .nil))
        exact Tk.mkTerm (t := (at1, 1 + u)) (tt _ _ (x11 _ _ (x10 _ _ e9))) (tt _ _ g11)
      · rcases List.mem_append.mp hz with e | e
        · exact hcb z e
        · rw [List.mem_singleton.mp e]
          exact ⟨by show -4 ≤ c - 4; omega, by show c - 4 ≤ 4; omega, by show 1 ≤ 1 + u; omega, by show 1 + u ≤ 9; omega⟩
    · rintro H6 ⟨xs, cs, hxs, tk, hcl, hcb, W6, b6⟩
      have LG : Long at1 cs := ⟨hatm, hcl, hcb⟩
      have lx : xs.length = 7 := by
        have := TkAll.len tk
        rw [List.length_map] at this
        omega
      have g6 := W5.tx b6 _ _ g5'
      repeat walk_at "go2"
      refine ⟨(n : Int), rfl, by omega, by omega, fun L2 hL2 => lc_range (lo := 0) (n := (n : Int).toNat) (fun i H' => ∃ (ys : List V), H' L2 = some (.lst ys) ∧ TkAll H' ys (((longH at1 cs n).take i).map hintD) ∧ Ex H6 H') ?_ ?_ ?_⟩
      · exact ⟨[], upd_same, .nil, Ex.new hL2⟩
      · rintro i H7 hi ⟨ys, hys, tky, x7⟩
        have hin : i < n := by omega
        repeat walk_at "go2"
        refine ⟨rfl, ?_⟩
        repeat walk_at "go2"
        have hm7 : i % 7 < cs.length := by omega
        obtain ⟨v, hv, gv⟩ := TkAll.get tk (i % 7) (formD (oneF at1 (cs.getD (i % 7) (0, 1)).1 (cs.getD (i % 7) (0, 1)).2)) (by rw [List.getElem?_map, List.getD_eq_getElem?_getD, List.getElem?_eq_getElem hm7]; rfl)
        have hix : atI xs ((0 + (i : Int)) % 7) = some v := by
          have e : (0 + (i : Int)) % 7 = ((i % 7 : Nat) : Int) := by omega
          rw [e]
          exact atI_nat hv
        refine Gk.ixL (SqL.of (x7 _ _ hxs)) hix ?_
        repeat walk_at "go2"
        walk_at "nw"
        rename_i s3 hs3 H8 x8 e8
        repeat walk_at "go2"
        have hys8 := x8 _ _ hys
        have ly : ys.length ≤ 8000 := by
          have := TkAll.len tky
          rw [List.length_map, List.length_take, longH_len] at this
          omega
        have tt := Tx.lst (o := .lst (ys ++ [V.ref s3])) hys8
        refine ⟨ys, hys8, by rw [sizeLine_eq]; omega, ys ++ [V.ref s3], upd_same, ?_, Ex.mut (x7.trans x8) hL2⟩
        rw [take_one (longH_at hin), List.map_append]
        refine TkAll.snoc (Tk.monoAll (Tx.trans (Tx.of_ex x8) tt) _ _ tky) ?_
        exact .tup (tt _ _ e8) (.cons (Tk.mono (Tx.trans (Tx.of_ex (x7.trans x8)) tt) _ _ gv) (.cons (.bl _) (.cons .non .nil)))
      · rintro H7 ⟨ys, hys, tky, x7⟩
        have el : (longH at1 cs n).take (n : Int).toNat = longH at1 cs n := List.take_of_length_le (by rw [longH_len]; omega)
        rw [el] at tky
        repeat walk_at "go2"
        refine ⟨L2, ys, rfl, .inl ⟨SqL.of hys, fun hh hhh => ?_⟩⟩
        walk_at "gn"
        rename_i H8 x8 e8
        have W8 := W6.ex_ (x7.trans x8)
        have TH : Tk H8 (.ref hh) (.tuple ((longH at1 cs n).map hintD)) := .tup e8 (Tk.monoAll (Tx.of_ex x8) _ _ tky)
        repeat walk_at "go2"
        refine ⟨p, q, n, _, rfl, W8, by omega, by omega, by omega, fun H9 dm dm0 dm1 W9 b9 => ?_⟩
        repeat walk_at "go2"
        walk_at "nw"
        rename_i r10 hr10 H10 x10 e10
        have W10 := W9.ex_ x10
        repeat walk_at "go2"
        refine ⟨p, q, 2, _, rfl, W10, by decide, by decide, by omega, fun H11 d2 d20 d21 W11 b11 => ?_⟩
        obtain ⟨rp, rq⟩ := W9.neNew hr10
        have e11 := b11 _ _ rp rq e10
        obtain ⟨i, hi, hin⟩ : ∃ i : Nat, atI [V.int ((n : Int) - 1), .int dm] d2 = some (.int (i : Int)) ∧ i < n := by
          rcases (by omega : d2 = 0 ∨ d2 = 1) with e | e <;> subst e
          · exact ⟨n - 1, by rw [show (((n - 1 : Nat) : Int)) = (n : Int) - 1 by omega]; rfl, by omega⟩
          · exact ⟨dm.toNat, by rw [show ((dm.toNat : Nat) : Int) = dm by omega]; rfl, by omega⟩
        refine Gk.ixL (SqL.of e11) hi ?_
        repeat walk_at "go2"
        refine ⟨p, q, 5, _, rfl, W11, by decide, by decide, by omega, fun H12 by_ by0 by1 W12 b12 => ?_⟩
        have t812 : Tx H8 H12 := Tx.trans (W8.tx b9) (Tx.trans (Tx.of_ex x10) (Tx.trans (W10.tx b11) (W11.tx b12)))
        have TH12 := Tk.mono t812 _ _ TH
        have g12 : H12 r5 = some (.tup (triV at1)) := t812 _ _ (x8 _ _ (x7 _ _ g6))
        repeat walk_at "go2"
        have THc := TH12
        cases THc with
        | tup hth hta =>
        rename_i xh
        have lxh : xh.length = n := by
          have := TkAll.len hta
          rw [List.length_map, longH_len] at this
          exact this
        obtain ⟨v, hv, gv⟩ := TkAll.get hta i _ (by rw [List.getElem?_map, longH_at hin]; rfl)
        obtain ⟨cc, hcc⟩ : ∃ cc, cc = (cs.getD (i % 7) (0, 1)).1 := ⟨_, rfl⟩
        obtain ⟨uu, huu⟩ : ∃ uu, uu = (cs.getD (i % 7) (0, 1)).2 := ⟨_, rfl⟩
        have hcu := LG.at_ i
        rw [← hcc, ← huu] at gv hcu
        cases gv with
        | tup gvh gva =>
        cases gva with
        | cons f1 gva =>
        cases gva with
        | cons f2 gva =>
        cases gva with
        | cons f3 gva =>
        cases gva
        obtain ⟨fb, fc, fx, rfl, hfb, hfc, hfx⟩ := Tk.form f1
        cases hfx with
        | cons w1 hfx =>
        cases hfx
        obtain ⟨tb, tc, rfl, htb, htc⟩ := Tk.term w1
        refine Gk.ixT (SqT.of hth) (atI_nat hv) ?_
        repeat walk_at "go2"
        walk_at "nw"
        rename_i s1 hs1 H13 x13 e13
        repeat walk_at "go2"
        walk_at "nw"
        rename_i s2 hs2 H14 x14 e14
        repeat walk_at "go2"
        walk_at "nw"
        rename_i s3 hs3 H15 x15 e15
        have x1215 : Ex H12 H15 := x13.trans (x14.trans x15)
        have g15 : H15 r5 = some (.tup (triV at1)) := x1215 _ _ g12
        have TG : Tk H15 (.ref s3) (formD (oneF at1 ((1 + by_) * cc) ((1 + by_) * uu))) := .tup e15 (.cons (.int _) (.cons (.tup (x15 _ _ e14) (.cons (Tk.mkTerm (t := (at1, (1 + by_) * uu)) (x15 _ _ (x14 _ _ e13)) g15) .nil)) .nil))
        have TH15 := Tk.mono (Tx.of_ex x1215) _ _ TH12
        repeat walk_at "go2"
        walk_at "nw"
        rename_i z1 hz1 H16 x16 e16
        repeat walk_at "go2"
        have hsl : n ≤ sizeLine := by rw [sizeLine_eq]; omega
        refine ⟨z1, n, _, rfl, rfl, e16, by omega, by omega, by show 1 * (n : Int).toNat ≤ _; omega, fun tl htl => ?_⟩
        have erep : (List.replicate (n : Int).toNat [V.int 0]).flatten = (List.replicate n (0 : Int)).map V.int := by
          rw [flat_one, List.map_replicate]
          rfl
        rw [erep]
        walk_at "gn"
        rename_i H17 x17 e17
        have W17 := W12.ex_ (x1215.trans (x16.trans x17))
        have b17 : But p q H H17 := b5.trans (b6.trans ((But.ex (x7.trans x8)).trans (b9.trans ((But.ex x10).trans (b11.trans (b12.trans (But.ex (x1215.trans (x16.trans x17)))))))))
        have TG17 := Tk.mono (Tx.of_ex (x16.trans x17)) _ _ TG
        have TH17 := Tk.mono (Tx.of_ex (x16.trans x17)) _ _ TH15
        obtain ⟨tlp, tlq⟩ := (W12.ex_ (x1215.trans x16)).neNew htl
        have tlH : H tl = none := by
          have := (b5.trans (b6.trans ((But.ex (x7.trans x8)).trans (b9.trans ((But.ex x10).trans (b11.trans (b12.trans (But.ex (x1215.trans x16)))))))))
          exact this.none tlp tlq htl
        repeat walk_at "go2"
        refine Gk.setL e17 (Evl.ixN_nat (j := i) (by rw [List.length_map, List.length_replicate]; exact hin)) ?_
        have e18 : upd H17 tl (.lst (((List.replicate n (0 : Int)).map V.int).set i (.int (1 + by_)))) tl = some (.lst (((List.replicate n (0 : Int)).set i (1 + by_)).map V.int)) := by rw [upd_same, List.map_set]
        have W18 : WellAt (upd H17 tl (.lst (((List.replicate n (0 : Int)).map V.int).set i (.int (1 + by_))))) p q _ := W17.mut tlp tlq
        have b18 : But p q H (upd H17 tl (.lst (((List.replicate n (0 : Int)).map V.int).set i (.int (1 + by_))))) := b17.mut tlH
        have t18 : Tx H17 (upd H17 tl (.lst (((List.replicate n (0 : Int)).map V.int).set i (.int (1 + by_))))) := Tx.lst e17
        generalize upd H17 tl (.lst (((List.replicate n (0 : Int)).map V.int).set i (.int (1 + by_)))) = H18 at *
        repeat walk_at "go2"
        walk_at "nw"
        rename_i ea hea H19 x19 g19
        repeat walk_at "go2"
        have e19 := x19 _ _ e18
        refine ⟨tl, _, rfl, .inl ⟨SqL.of e19, fun ta hta => ?_⟩⟩
        walk_at "gn"
        rename_i H20 x20 g20
        repeat walk_at "go2"
        walk_at "nw"
        rename_i sa hsa H21 x21 g21
        repeat walk_at "go2"
        have hi1 : ∀ (H' : Hp) (ks : List Int), TkAll H' (ks.map V.int) (ks.map .int) := by
          intro H' ks
          induction ks with
          | nil => exact .nil
          | cons k ks ih => exact .cons (.int k) ih
        have t1721 : Tx H17 H21 := Tx.trans t18 (Tx.of_ex (x19.trans (x20.trans x21)))
        have hb5 : ((1 + by_) * cc).natAbs ≤ 100 ∧ ((1 + by_) * uu).natAbs ≤ 100 ∧ (1 + by_) * uu ≠ 0 := by
          rcases (by omega : by_ = 0 ∨ by_ = 1 ∨ by_ = 2 ∨ by_ = 3 ∨ by_ = 4) with e | e | e | e | e <;> subst e <;> omega
        have hms0 : ∀ m ∈ (List.replicate n (0 : Int)).set i (1 + by_), 0 ≤ m ∧ m ≤ 99 := fun m hm => by
          rcases List.mem_or_eq_of_mem_set hm with e | e
          · rw [(List.mem_replicate.mp e).2]
            decide
          · omega
        have hmsl : ((List.replicate n (0 : Int)).set i (1 + by_)).length = n := by rw [List.length_set, List.length_replicate]
        refine LG.shown n1 (x21 _ _ (x20 _ _ g19)) hb5.2.2 hb5.1 hb5.2.1 (Tk.mono t1721 _ _ TG17) (Tk.mono t1721 _ _ TH17) (.tup g21 (.cons (.int 1) (.cons (.tup (x21 _ _ g20) (hi1 _ _)) .nil))) hmsl (fun m hm => by have := hms0 m hm; omega) fun H22 b x22 hb => ?_
        have hbt : b = true := hb.mpr (by rw [hcc, huu]; exact LG.good hin)
        subst hbt
        have x1822 : Ex H18 H22 := x19.trans (x20.trans (x21.trans x22))
        have W22 := W18.ex_ x1822
        have e22 := x1822 _ _ e18
        have t1722 : Tx H17 H22 := Tx.trans t1721 (Tx.of_ex x22)
        repeat walk_at "go2"
        refine ⟨true, true, rfl, rfl, _, rfl, Gk.iteF (by decide) ?_⟩
        repeat walk_at "go2"
        refine ⟨p, q, n, _, rfl, W22, by omega, by omega, by omega, fun H23 dm2 dm20 dm21 W23 b23 => ?_⟩
        repeat walk_at "go2"
        walk_at "nw"
        rename_i r24 hr24 H24 x24 g24
        have W24 := W23.ex_ x24
        repeat walk_at "go2"
        refine ⟨p, q, 3, _, rfl, W24, by decide, by decide, by omega, fun H25 d3 d30 d31 W25 b25 => ?_⟩
        obtain ⟨rp4, rq4⟩ := W23.neNew hr24
        have e25 := b25 _ _ rp4 rq4 g24
        obtain ⟨j, hj, hjn⟩ : ∃ j : Nat, atI [V.int ((n : Int) - 1), .int (i : Int), .int dm2] d3 = some (.int (j : Int)) ∧ j < n := by
          rcases (by omega : d3 = 0 ∨ d3 = 1 ∨ d3 = 2) with e | e | e <;> subst e
          · exact ⟨n - 1, by rw [show (((n - 1 : Nat) : Int)) = (n : Int) - 1 by omega]; rfl, by omega⟩
          · exact ⟨i, rfl, hin⟩
          · exact ⟨dm2.toNat, by rw [show ((dm2.toNat : Nat) : Int) = dm2 by omega]; rfl, by omega⟩
        refine Gk.ixL (SqL.of e25) hj ?_
        have tl25 := b25 _ _ tlp tlq (x24 _ _ (b23 _ _ tlp tlq e22))
        have t2225 : Tx H22 H25 := Tx.trans (W22.tx b23) (Tx.trans (Tx.of_ex x24) (W24.tx b25))
        obtain ⟨m, hm⟩ : ∃ m, ((List.replicate n (0 : Int)).set i (1 + by_))[j]? = some m := ⟨_, List.getElem?_eq_getElem (by rw [hmsl]; exact hjn)⟩
        have hm0 := hms0 m (List.mem_of_getElem? hm)
        repeat walk_at "go2"
        refine Gk.ixL (SqL.of tl25) (atI_nat (by rw [List.getElem?_map, hm]; rfl)) ?_
        repeat walk_at "go2"
        refine Gk.setL tl25 (Evl.ixN_nat (j := j) (by rw [List.length_map, hmsl]; exact hjn)) ?_
        have b25' : But p q H H25 := b18.trans ((But.ex x1822).trans (b23.trans ((But.ex x24).trans b25)))
        have e26 : upd H25 tl (.lst ((((List.replicate n (0 : Int)).set i (1 + by_)).map V.int).set j (.int (m + 1)))) tl = some (.lst ((((List.replicate n (0 : Int)).set i (1 + by_)).set j (m + 1)).map V.int)) := by
          have e := List.map_set (f := V.int) (l := (List.replicate n (0 : Int)).set i (1 + by_)) (i := j) (a := m + 1)
          rw [upd_same, e]
        have W26 : WellAt (upd H25 tl (.lst ((((List.replicate n (0 : Int)).set i (1 + by_)).map V.int).set j (.int (m + 1))))) p q _ := W25.mut tlp tlq
        have b26 : But p q H (upd H25 tl (.lst ((((List.replicate n (0 : Int)).set i (1 + by_)).map V.int).set j (.int (m + 1))))) := b25'.mut tlH
        have t26 : Tx H25 (upd H25 tl (.lst ((((List.replicate n (0 : Int)).set i (1 + by_)).map V.int).set j (.int (m + 1))))) := Tx.lst tl25
        generalize upd H25 tl (.lst ((((List.replicate n (0 : Int)).set i (1 + by_)).map V.int).set j (.int (m + 1)))) = H26 at *
        repeat walk_at "go2"
        walk_at "nw"
        rename_i eb heb H27 x27 g27
        repeat walk_at "go2"
        have e27 := x27 _ _ e26
        refine ⟨tl, _, rfl, .inl ⟨SqL.of e27, fun ta2 hta2 => ?_⟩⟩
        walk_at "gn"
        rename_i H28 x28 g28
        repeat walk_at "go2"
        walk_at "nw"
        rename_i sb hsb H29 x29 g29
        repeat walk_at "go2"
        have t1729 : Tx H17 H29 := Tx.trans t1722 (Tx.trans t2225 (Tx.trans t26 (Tx.of_ex (x27.trans (x28.trans x29)))))
        refine LG.shown n1 (x29 _ _ (x28 _ _ g27)) hb5.2.2 hb5.1 hb5.2.1 (Tk.mono t1729 _ _ TG17) (Tk.mono t1729 _ _ TH17) (.tup g29 (.cons (.int 1) (.cons (.tup (x29 _ _ g28) (hi1 _ _)) .nil))) (by rw [List.length_set, hmsl]) (fun m' hm' => ?_) fun H30 b x30 hb => ?_
        · rcases List.mem_or_eq_of_mem_set hm' with e | e
          · have := hms0 m' e
            omega
          · omega
        · have hbf : b = false := by
            cases b with
            | false => rfl
            | true => exact absurd (hb.mp rfl) (by rw [hcc, huu]; exact LG.bad hin hjn hm)
          subst hbf
          repeat walk_at "go2"
          refine ⟨false, false, rfl, rfl, ?_⟩
          have xF : Ex H26 H30 := x27.trans (x28.trans (x29.trans x30))
          exact k H30 ((W26.ex_ xF).le (by omega)) (b26.trans (But.ex xF))
end
end K60
namespace K60
open PySem L2 TriS
open Evl (Ex)
/-! what a spoilt thing is -/
structure Sh (k : Nat) (d : D) : Prop where
  l : PyData.canLay0 d = true
  d : PyData.depth d ≤ k
theorem lay_all {ds : List D} (h : ∀ d ∈ ds, PyData.canLay0 d = true) : PyData.canLayAll0 ds = true := by
  induction ds with
  | nil => rfl
  | cons d ds ih =>
    show (PyData.canLay0 d && PyData.canLayAll0 ds) = true
    rw [h d List.mem_cons_self, ih fun e he => h e (List.mem_cons_of_mem _ he)]
    rfl
theorem dep_all {ds : List D} {k : Nat} (h : ∀ d ∈ ds, PyData.depth d ≤ k) : PyData.depthAll ds ≤ k := by
  induction ds with
  | nil => exact Nat.zero_le _
  | cons d ds ih =>
    have h1 := h d List.mem_cons_self
    have h2 := ih fun e he => h e (List.mem_cons_of_mem _ he)
    show max (PyData.depth d) (PyData.depthAll ds) ≤ k
    omega
theorem Sh.tup {k : Nat} {ds : List D} (h : ∀ d ∈ ds, Sh k d) : Sh (k + 1) (.tuple ds) := ⟨lay_all fun d hd => (h d hd).l, by
  have := dep_all fun d hd => (h d hd).d
  show PyData.depthAll ds + 1 ≤ k + 1
  omega⟩
theorem Sh.lst {k : Nat} {ds : List D} (h : ∀ d ∈ ds, Sh k d) : Sh (k + 1) (.list ds) := ⟨lay_all fun d hd => (h d hd).l, by
  have := dep_all fun d hd => (h d hd).d
  show PyData.depthAll ds + 1 ≤ k + 1
  omega⟩
theorem Sh.mono {j k : Nat} {d : D} (h : Sh j d) (l : j ≤ k) : Sh k d := ⟨h.l, Nat.le_trans h.d l⟩
theorem Sh.int (i : Int) : Sh 0 (.int i) := ⟨rfl, Nat.le_refl 0⟩
theorem Sh.ints {ms : List Int} : ∀ d ∈ ms.map PyData.int, Sh 0 d := fun d hd => by
  obtain ⟨m, _, rfl⟩ := List.mem_map.mp hd
  exact .int m
theorem Sh.shaped {k : Nat} {d : D} (h : Sh k d) (l : k ≤ 64) : SeqAt.shaped d = true := by
  unfold SeqAt.shaped
  rw [h.l, decide_eq_true (Nat.le_trans h.d l)]
  rfl
theorem Sh.pair {k : Nat} {a b : D} (h1 : Sh k a) (h2 : Sh k b) : Sh (k + 1) (.tuple [a, b]) := .tup fun d hd => by
  rcases List.mem_cons.mp hd with e | e
  · rw [e]; exact h1
  · rw [List.mem_singleton.mp e]; exact h2
def SmD (d : D) : Prop := ∀ (s : Int) (ms : List Int), d = .tuple [.int s, .tuple (ms.map .int)] → small s ∧ ∀ m ∈ ms, small m
theorem smT {s : Int} {xs : List D} (h1 : small s) (h2 : ∀ m, .int m ∈ xs → small m) : SmD (.tuple [.int s, .tuple xs]) := fun s' ms e => by
  injection e with e
  injection e with e1 e
  injection e1 with e1
  injection e with e2 _
  injection e2 with e2
  subst e1
  exact ⟨h1, fun m hm => h2 m (by rw [e2]; exact List.mem_map_of_mem hm)⟩
/-- a showing that may be asked -/
structure Thing (d : D) : Prop where
  sh : Sh 8 d
  sm : SmD d
theorem Thing.of {s : Int} {xs : List D} (h1 : small s) (h2 : ∀ x ∈ xs, Sh 1 x) (h3 : ∀ m, .int m ∈ xs → small m) : Thing (.tuple [.int s, .tuple xs]) :=
  ⟨(Sh.pair ((Sh.int s).mono (Nat.zero_le 2)) (Sh.tup h2)).mono (by decide), smT h1 h3⟩
theorem Thing.no {d : D} (h : Sh 8 d) (n : ∀ (s : Int) (ms : List Int), d ≠ .tuple [.int s, .tuple (ms.map .int)]) : Thing d := ⟨h, fun s ms e => absurd e (n s ms)⟩
theorem small_of {x : Int} (h : x.natAbs ≤ 10 * boundB + 10) : small x := by
  unfold small
  exact Nat.lt_of_le_of_lt h (by decide +kernel)
structure NevOk (ns : List Int) : Prop where
  l : ns.length ≤ 12
  b : ∀ n ∈ ns, 1 ≤ n ∧ n ≤ 12
  up : ns.Pairwise (· < ·)
theorem asc_of : ∀ (p : Option Int) (ns : List Int), (∀ n ∈ ns, 1 ≤ n ∧ n ≤ 12) → ns.Pairwise (· < ·) → (∀ m, p = some m → ∀ n ∈ ns, m < n) → ascOk p (ns.map .int) = true
  | _, [], _, _, _ => rfl
  | p, n :: ns, h1, h2, h3 => by
    have h4 := List.pairwise_cons.mp h2
    have hb := h1 n List.mem_cons_self
    have e1 : within (.int n) 1 12 = true := by
      show (decide (1 ≤ n) && decide (n ≤ 12)) = true
      rw [decide_eq_true hb.1, decide_eq_true hb.2]
      rfl
    have e2 : upN p (.int n) = true := by
      cases p with
      | none => rfl
      | some m => exact decide_eq_true (h3 m rfl n List.mem_cons_self)
    have e3 := asc_of (some n) ns (fun x hx => h1 x (List.mem_cons_of_mem _ hx)) h4.2 fun m e x hx => by
      cases e
      exact h4.1 x hx
    show (within (.int n) 1 12 && (upN p (.int n) && ascOk (some n) (ns.map .int))) = true
    rw [e1, e2, e3]
    rfl
theorem NevOk.is {ns : List Int} (h : NevOk ns) : isNever (.tuple (ns.map .int)) = true := by
  show (decide ((ns.map PyData.int).length ≤ 12) && ascOk none (ns.map .int)) = true
  rw [List.length_map, decide_eq_true h.l, asc_of none ns h.b h.up fun m e => by cases e]
  rfl
theorem NevOk.sub {ns ms : List Int} (h : NevOk ns) (s : ms.Sublist ns) : NevOk ms := ⟨Nat.le_trans s.length_le h.l, fun n hn => h.b n (s.mem hn), h.up.sublist s⟩
/-- never, goal, hints as they may be told -/
structure Told (l : List Tri) (N : Nat) (ns : List Int) (f : Form) (hs : List Hint) : Prop where
  n : NevOk ns
  f : FormIn l N f
  h : ∀ y ∈ hs, FormIn l N y.1 ∧ isOrigin y.2.2 = true
theorem Told.mono {l : List Tri} {N M : Nat} {ns : List Int} {f : Form} {hs : List Hint} (t : Told l N ns f hs) (h : N ≤ M) : Told l M ns f hs := ⟨t.n, t.f.mono (fun _ z => z) h, fun y hy => ⟨(t.h y hy).1.mono (fun _ z => z) h, (t.h y hy).2⟩⟩
structure Tells (H : Hp) (q : Addr) (vn vg vh : V) (ns : List Int) (f : Form) (hs : List Hint) : Prop where
  n : ∃ a, vn = .ref a ∧ H a = some (.tup (ns.map V.int))
  g : Tk H vg (formD f)
  h : Tk H vh (.tuple (hs.map hintD))
theorem Tells.tx {H H' : Hp} {q : Addr} {vn vg vh : V} {ns : List Int} {f : Form} {hs : List Hint} (t : Tells H q vn vg vh ns f hs) (x : Tx H H') : Tells H' q vn vg vh ns f hs :=
  ⟨let ⟨a, e, h⟩ := t.n; ⟨a, e, x _ _ h⟩, Tk.mono x _ _ t.g, Tk.mono x _ _ t.h⟩
section
variable {q : Addr → Prop} {σ : L2.St} {H : Hp} {t u : TE} {d : D} {ds : List D} {K : PySem.W.Frag}
theorem Ds.up {H' : Hp} (h : Ds q t σ H d) (x : Ex H H') : Ds q t σ H' d := fun H1 x1 => h H1 (x.trans x1)
theorem Ds.notB {i : Nat} {b : Bool} (h : σ[i]? = some (some (.bl b))) : Ds q (tNotV (tVar i)) σ H (.bool (!b)) := fun H1 _ Q k => Gk.notV (Gk.var h ⟨b, rfl, k H1 _ (Ex.refl H1) (.bl _)⟩)
theorem Ds.int_v {v : V} {i : Int} {q : Addr → Prop} {H : Hp} (h : Tl q H v (.int i)) : v = .int i := by cases h; rfl
theorem Ds.op0 {f : Int → Int → Int} {i j : Int} (h1 : Ds q t σ H (.int i)) (h2 : Ds q u σ H (.int j)) : Ds q (tOp (rI0 fun i j => .int (f i j)) t u) σ H (.int (f i j)) := fun H1 x Q k => Gk.op (h1 H1 x _ fun H2 v x2 g => h2 H2 (x.trans x2) _ fun H3 w x3 g2 => by
  cases Ds.int_v g
  cases Ds.int_v g2
  exact Gk.i0 (k _ _ (x2.trans x3) (.int _)))
theorem Ds.mul {i j : Int} (c : CMul i j) (h1 : Ds q t σ H (.int i)) (h2 : Ds q u σ H (.int j)) : Ds q (tOp (rI CMul fun i j => .int (i * j)) t u) σ H (.int (i * j)) := fun H1 x Q k => Gk.op (h1 H1 x _ fun H2 v x2 g => h2 H2 (x.trans x2) _ fun H3 w x3 g2 => by
  cases Ds.int_v g
  cases Ds.int_v g2
  exact Gk.i1 c (k _ _ (x2.trans x3) (.int _)))
theorem Ds.ixT {n : Nat} {e : D} (h : Ds q t σ H (.tuple ds)) (he : ds[n]? = some e) : Ds q (tOp (rIxT K) t (tC (.int n))) σ H e := fun H1 x Q k => Gk.op (h H1 x _ fun H2 v x2 g => Gk.con (by
  cases g with
  | tup a1 a2 =>
  have hl := a2.len
  obtain ⟨w, hw⟩ : ∃ w, _ = some w := ⟨_, List.getElem?_eq_getElem (by rw [hl]; exact (List.getElem?_eq_some_iff.mp he).1)⟩
  obtain ⟨d', hd, gd⟩ := a2.get n w hw
  rw [he] at hd
  cases hd
  exact Gk.ixT (SqT.of a1) (atI_nat hw) (k _ _ x2 gd)))
theorem Ds.catT {es : List D} (hq : QAt q H) (hl : ds.length + es.length ≤ 10000) (h1 : Ds q t σ H (.tuple ds)) (h2 : Ds q u σ H (.tuple es)) : Ds q (tOp (rCatA K) t u) σ H (.tuple (ds ++ es)) := fun H1 x Q k => Gk.op (h1 H1 x _ fun H2 v x2 g => h2 H2 (x.trans x2) _ fun H3 w x3 g2 =>
  catA (hq.ex (x.trans (x2.trans x3))) (Tl.mono (hq.ex (x.trans x2)).no (Ty.ex x3) _ _ g) g2 hl fun H4 w4 x4 g4 => k _ _ (x2.trans (x3.trans x4)) g4)
theorem Ds.slN {n : Int} (hq : QAt q H) (h1 : Ds q t σ H (.tuple ds)) : Ds q (tSl (rSlA K) t tNoPart (tPart (tUn (rU fun i => V.int (-i)) (tC (.int n))))) σ H (.tuple (cutD ds none (some (-n)))) := fun H1 x Q k => Gk.sl (h1 H1 x _ fun H2 v x2 g => Gk.noPart (Gk.part (Gk.un (Gk.con (Gk.u1 (Gk.partI
  (slA (hq.ex (x.trans x2)) g fun H3 w x3 g3 => k _ _ (x2.trans x3) g3)))))))
/-- tuple([.. for x in t]), t a tuple of ints -/
theorem Ds.each {i j : Nat} {g : Int → Int} {te : TE} {vs : List Nat} {a : Addr} {ms : List Int} (h1 : σ[i]? = some (some (.ref a))) (ha : H a = some (.tup (ms.map V.int))) (hl : ms.length ≤ 400) (hq : QAt q H) (hw : ∀ x, wipe ((wipe σ vs).set j (some x)) vs = wipe σ vs)
    (hte : ∀ (m : Int) (H' : Hp) (Q : VK), Q (.int (g m)) H' → te ((wipe σ vs).set j (some (.int m))) H' Q) :
    Ds q (tCB (fun xs H Q => ∃ p ys, xs = [.ref p] ∧ ((SqL K H p ys ∧ ∀ l, H l = none → Q (.ref l) (upd H l (.tup ys))) ∨ (SqT K H p ys ∧ Q (.ref p) H))) (tCons (tLc (iTup K (tVar i)) (gName j) tYes te vs) tNil)) σ H (.tuple ((ms.map g).map .int)) := fun H1 x Q k => by
  have ha1 := x _ _ ha
  refine Gk.cb (Gk.aCons (Gk.lc (tupI (Gk.var h1 ⟨a, rfl, ⟨_, SqT.of ha1⟩, fun Dl hD => lc_tup (xs := ms.map V.int) (fun n H' => H' Dl = some (.lst (((ms.map g).take n).map V.int)) ∧ Ex H1 H') ⟨upd_same, Ex.new hD⟩ (fun n H' _ h => SqT.of (h.2 _ _ ha1)) ?_ ?_⟩))))
  · rintro n y H2 hy ⟨hacc, x2⟩
    rw [List.getElem?_map] at hy
    obtain ⟨m, hm, rfl⟩ := Option.map_eq_some_iff.mp hy
    have hn := (List.getElem?_eq_some_iff.mp hm).1
    refine Gk.gname rfl ⟨hw _, Gk.yes (Gk.iteT rfl (hte m H2 _ ⟨_, hacc, by rw [List.length_map, List.length_take, sizeLine_eq]; omega, ?_, Ex.mut x2 hD⟩))⟩
    rw [upd_same, take_one (by rw [List.getElem?_map, hm]; rfl), List.map_append]
    rfl
  · rintro H2 ⟨hacc, x2⟩
    rw [List.length_map, List.take_of_length_le (by rw [List.length_map]; omega)] at hacc
    refine Gk.aNil ⟨Dl, _, rfl, .inl ⟨SqL.of hacc, fun r hr => k _ _ (x2.trans (Ex.new hr)) (.tup upd_same ?_)⟩⟩
    have go : ∀ (H' : Hp) (ks : List Int), TlAll q H' (ks.map V.int) (ks.map .int) := by
      intro H' ks
      induction ks with
      | nil => exact .nil
      | cons k ks ih => exact .cons (.int k) ih
    exact go _ _
theorem listAt {H : Hp} {p q : Addr} {t : Nat} {v : V} {ds : List D} (W : WellAt H p q t) (g : Tl (Eq q) H v (.list ds)) : ∃ l xs, v = .ref l ∧ H l = some (.lst xs) ∧ l ≠ p ∧ l ≠ q ∧ TlAll (Eq q) H xs ds := by
  cases g with
  | lst a1 a2 a3 =>
  refine ⟨_, _, rfl, a1, fun z => ?_, fun z => a2 z.symm, a3⟩
  obtain ⟨gs, m, n, g1, _⟩ := W.ex
  subst z
  rw [g1] at a1
  have := Option.some.inj a1
  unfold wellO at this
  cases this
theorem mapsetG {α β : Type} (g : α → β) (l : List α) (i : Nat) (y : α) (hi : i < l.length) : (l.map g).take i ++ [g y] ++ (l.map g).drop (i + 1) = (l.set i y).map g := by
  rw [List.set_eq_take_append_cons_drop, if_pos hi, List.map_append, List.map_cons, List.map_take, List.map_drop]
  simp
theorem cutD_mem {lo hi : Option Int} {x : D} (h : x ∈ cutD ds lo hi) : x ∈ ds := List.mem_of_mem_drop (List.mem_of_mem_take h)
theorem Ds.splice {i j : Nat} {v : V} {n : Int} {mid : TE} {xs : List D} (hq : QAt q H) (h1 : σ[i]? = some (some v)) (g : Tl q H v (.tuple xs)) (h2 : σ[j]? = some (some (.int n))) (n0 : 0 ≤ n) (n1 : n < xs.length) (nl : xs.length ≤ 400) (hm : Ds q mid σ H (.tuple [d])) :
    Ds q (tOp (rCatA K) (tOp (rCatA K) (tSl (rSlA K) (tVar i) tNoPart (tPart (tVar j))) mid) (tSl (rSlA K) (tVar i) (tPart (tOp (rI0 fun i j => V.int (i + j)) (tVar j) (tC (.int 1)))) tNoPart)) σ H (.tuple (xs.take n.toNat ++ [d] ++ xs.drop (n.toNat + 1))) := fun H1 x Q k => by
  have Q1 := hq.ex x
  have g1 := Tl.mono hq.no (Ty.ex x) _ _ g
  refine Gk.op (Gk.op (Gk.sl (Gk.var h1 (Gk.noPart (Gk.part (Gk.var h2 (Gk.partI (slA Q1 g1 fun H2 w x2 g2 => ?_))))))))
  have Q2 := Q1.ex x2
  rw [cutD_to n0 (by omega)] at g2
  refine hm H2 (x.trans x2) _ fun H3 w3 x3 g3 => ?_
  have Q3 := Q2.ex x3
  refine catA Q3 (Tl.mono Q2.no (Ty.ex x3) _ _ g2) g3 (by rw [List.length_take]; show _ + 1 ≤ _; omega) fun H4 w4 x4 g4 => ?_
  have Q4 := Q3.ex x4
  have g14 := Tl.mono Q1.no (Ty.ex (x2.trans (x3.trans x4))) _ _ g1
  refine Gk.sl (Gk.var h1 (Gk.part (Gk.op (Gk.var h2 (Gk.con (Gk.i0 (Gk.partI (Gk.noPart (slA Q4 g14 fun H5 w5 x5 g5 => ?_)))))))))
  have Q5 := Q4.ex x5
  have e : (n + 1).toNat = n.toNat + 1 := by omega
  rw [cutD_from (by omega) (by omega), e] at g5
  refine catA Q5 (Tl.mono Q4.no (Ty.ex x5) _ _ g4) g5 (by rw [List.length_append, List.length_take, List.length_drop]; show _ + 1 + _ ≤ _; omega) fun H6 w6 x6 g6 => ?_
  exact k _ _ (x2.trans (x3.trans (x4.trans (x5.trans x6)))) g6
theorem TlAll.ints {xs : List V} {ns : List Int} (h : TlAll q H xs (ns.map .int)) : xs = ns.map V.int := by
  induction ns generalizing xs with
  | nil =>
    cases h
    rfl
  | cons n ns ih =>
    cases h with
    | cons a b =>
      cases a
      rw [ih b]
      rfl
end
theorem nl_ints : ∀ ns : List Int, noLists (ns.map .int) = true
  | [] => rfl
  | n :: ns => by
    show (noList (.int n) && noLists (ns.map .int)) = true
    rw [nl_ints ns]
    rfl
theorem nl_terms : ∀ ts : Tab, noLists (ts.map termD) = true
  | [] => rfl
  | t :: ts => by
    show (noList (termD t) && noLists (ts.map termD)) = true
    rw [nl_terms ts]
    rfl
theorem nl_form (f : Form) : noList (formD f) = true := by
  show (noList (.int f.1) && (noList (.tuple (f.2.map termD)) && true)) = true
  show (true && (noLists (f.2.map termD) && true)) = true
  rw [nl_terms]
  rfl
theorem nl_origin {d : D} (h : isOrigin d = true) : noList d = true := by
  match d, h with
  | .none, _ => rfl
  | .tuple [a, b], h =>
    have h1 := Bool.and_eq_true_iff.mp h
    obtain ⟨i, rfl, _⟩ := within_int h1.1
    obtain ⟨j, rfl, _⟩ := within_int h1.2
    rfl
theorem nl_hints : ∀ hs : List Hint, (∀ y ∈ hs, isOrigin y.2.2 = true) → noLists (hs.map hintD) = true
  | [], _ => rfl
  | y :: hs, h => by
    show ((noList (formD y.1) && (true && (noList y.2.2 && true))) && noLists (hs.map hintD)) = true
    rw [nl_hints hs fun z hz => h z (List.mem_cons_of_mem _ hz), nl_form, nl_origin (h y List.mem_cons_self)]
    rfl
def spSpoilt : Sp := fun vs H Q _ => ∃ (p q l : Addr) (vn vg vh vx : V) (t N : Nat) (ns : List Int) (f : Form) (hs : List Hint) (s : Int) (ms : List Int) (L : List (Addr × Tri)), vs = [.ref p, vn, vg, vh, vx, .ref l] ∧ WellAt H p q t ∧ t ≤ 1000000 ∧ AtomsAt H p q l L ∧ 1 ≤ L.length ∧
  Tells H q vn vg vh ns f hs ∧ Told (L.map (·.2)) N ns f hs ∧ Tk H vx (.tuple [.int s, .tuple (ms.map .int)]) ∧ ms.length = hs.length ∧ hs.length ≤ 310 ∧ 0 ≤ s ∧ s ≤ 5 ∧ (∀ m ∈ ms, m.natAbs ≤ boundB) ∧
  ∀ (H' : Hp) (r : Addr) (vn' vg' vh' vx' : V) (ns' : List Int) (f' : Form) (hs' : List Hint) (d : D), H' r = some (.lst [vn', vg', vh', vx']) → Tells H' q vn' vg' vh' ns' f' hs' → Told (L.map (·.2)) (N + bigN + 1) ns' f' hs' → hs'.length = hs.length → Tl (Eq q) H' vx' d → Thing d →
    WellAt H' p q (t + 60) → But p q H H' → Q (.ref r) H'
local macro_rules | `(tactic| walk_at "ex") => `(tactic| first | assumption | exact Evl.Ex.refl _ | (refine' Evl.Ex.trans (by assumption) ?_; walk_at "ex"))
local macro_rules | `(tactic| walk_at "tx") => `(tactic| first | assumption | exact K60.Tx.of_ex (by assumption) | (refine' K60.Tx.trans (by assumption) ?_; walk_at "tx") | (refine' K60.Tx.trans (K60.Tx.of_ex (by assumption)) ?_; walk_at "tx"))
local macro_rules | `(tactic| walk_at "lf") => `(tactic| first | assumption | (refine' K60.exGet ?hx9 ?hy9; (case hy9 => assumption); (case hx9 => walk_at "ex")) | (refine' K60.txGet ?hx9 ?hy9; (case hy9 => assumption); (case hx9 => walk_at "tx")))
local macro_rules | `(tactic| walk_at "sq2") => `(tactic| first | assumption | (refine' SqL.of ?hq9; (case hq9 => walk_at "lf")) | (refine' SqT.of ?hq9; (case hq9 => walk_at "lf")))
local macro_rules | `(tactic| walk_at "gn") => `(tactic| (generalize hh : upd _ _ _ = H9 at *; obtain ⟨xe9, h9⟩ := K60.newAt (by assumption) hh; clear hh))
local macro_rules | `(tactic| walk_at "nw") => `(tactic| (refine' ⟨by show _ ≤ sizeLine; first | decide | (simp only [List.length_cons, List.length_nil, List.length_map, List.length_append, sizeLine_eq]; omega), fun a9 ha9 => ?_⟩; walk_at "gn"))
local macro_rules | `(tactic| walk_at "go2") => `(tactic| first
  | (with_reducible refine' Gk.seq ?_)
  | ((with_reducible refine' Gk.var ?hgo ?_); (case hgo => exact rfl))
  | (with_reducible refine' Gk.con ?_)
  | (with_reducible refine' Gk.op ?_)
  | (with_reducible refine' Gk.i0 ?_)
  | (with_reducible refine' Gk.un ?_)
  | ((with_reducible refine' Gk.i1 (C := CMul) ?hgo ?_); (case hgo => first | exact .inl ⟨by decide, by decide⟩ | exact .inr ⟨by decide, by decide⟩ | exact .inl ⟨by omega, by omega⟩ | exact .inr ⟨by omega, by omega⟩))
  | ((with_reducible refine' Gk.i1 (C := CDiv) ?hgo ?_); (case hgo => exact ⟨by omega, by omega⟩))
  | ((with_reducible refine' Gk.i1 (C := CPow) ?hgo ?_); (case hgo => exact ⟨by decide, by decide, by decide⟩))
  | ((with_reducible refine' Gk.i1 (C := fun _ j => 0 < j) ?hgo ?_); (case hgo => show (0 : Int) < _; omega))
  | (with_reducible refine' Gk.u1 ?_)
  | (with_reducible refine' Gk.test ?_)
  | (with_reducible refine' Gk.testB ?_)
  | (with_reducible refine' Gk.asB ?_)
  | (with_reducible refine' K60.eqI ?_)
  | (with_reducible refine' K60.neI ?_)
  | ((with_reducible refine' Gk.eqv ?hgo ?_); (case hgo => exact rfl))
  | ((with_reducible refine' Gk.nev ?hgo ?_); (case hgo => exact rfl))
  | ((with_reducible refine' Gk.ixL ?hgo ?hga ?_); (case hgo => walk_at "sq2"); (case hga => first | exact rfl | assumption))
  | ((with_reducible refine' Gk.ixT ?hgo ?hga ?_); (case hgo => walk_at "sq2"); (case hga => first | exact rfl | assumption))
  | (with_reducible refine' Gk.aNil ?_)
  | (with_reducible refine' Gk.aCons ?_)
  | (with_reducible refine' Gk.cb ?_)
  | (with_reducible refine' Gk.call ?_)
  | (with_reducible refine' Gk.tup ?_)
  | (with_reducible refine' Gk.lst ?_)
  | (with_reducible refine' Gk.ifE ?_)
  | (with_reducible refine' Gk.ifS ?_)
  | (with_reducible refine' Gk.next ?_)
  | (with_reducible refine' Gk.asg ?_)
  | ((with_reducible refine' Gk.gname ?hgo ?_); (case hgo => exact rfl))
  | (with_reducible refine' Gk.gsub ?_)
  | ((with_reducible refine' Gk.setL ?hgo ?hga ?_); (case hgo => first | assumption | exact upd_same); (case hga => first | exact rfl | assumption))
  | (with_reducible refine' Gk.ret ?_)
  | (with_reducible refine' Gk.drop ?_)
  | (with_reducible refine' Gk.par ?_)
  | (with_reducible refine' Gk.andT ?_)
  | (with_reducible refine' Gk.orT ?_)
  | (with_reducible refine' Gk.notT ?_)
  | (with_reducible refine' Gk.abs ?_)
  | (with_reducible refine' Gk.intI ?_)
  | (with_reducible refine' Gk.intB ?_)
  | ((with_reducible refine' Gk.lenL ?hgo ?_); (case hgo => walk_at "sq2"))
  | ((with_reducible refine' Gk.lenT ?hgo ?_); (case hgo => walk_at "sq2"))
  | ((with_reducible refine' K60.lenD ?hgo ?_); (case hgo => assumption))
  | (with_reducible refine' K60.zipA ?_)
  | (with_reducible refine' K60.listI ?_)
  | (with_reducible refine' K60.tupI ?_)
  | (with_reducible refine' K60.dget2 ?_)
  | (with_reducible refine' K60.dget ?_)
  | (with_reducible refine' K60.dput ?_)
  | ((with_reducible refine' K60.aug ?hgo ?_); (case hgo => exact rfl))
  | (with_reducible refine' K60.ipI ?_)
  | (with_reducible refine' K60.newT ?_)
  | (with_reducible refine' Gk.bm ?_)
  | ((with_reducible refine' Gk.tyL ?hgo ?_); (case hgo => first | assumption | exact upd_same))
  | ((with_reducible refine' Gk.gtup ?hgo ?hga ?_); (case hgo => walk_at "sq2"); (case hga => exact rfl))
  | (with_reducible refine' Gk.gcons ?_)
  | (with_reducible refine' Gk.gnil ?_)
  | (with_reducible refine' Gk.sl ?_)
  | (with_reducible refine' Gk.noPart ?_)
  | (with_reducible refine' Gk.part ?_)
  | (with_reducible refine' Gk.partI ?_)
  | (with_reducible refine' Gk.lc ?_)
  | (with_reducible refine' Gk.rng1 ?_)
  | (with_reducible refine' Gk.forS ?_)
  | (with_reducible refine' Gk.isN ?_)
  | (with_reducible refine' Gk.notN ?_)
  | (with_reducible refine' Gk.andV ?_)
  | (with_reducible refine' Gk.orV ?_)
  | (with_reducible refine' Gk.notV ?_)
  | (with_reducible refine' K60.chain ?_)
  | ((with_reducible refine' K60.isiI ?hgo ?_); (case hgo => assumption))
  | ((with_reducible refine' K60.isiBo ?hgo ?_); (case hgo => assumption))
  | ((with_reducible refine' K60.isiT ?hgo ?_); (case hgo => assumption))
  | ((with_reducible refine' Gk.isiB ?hgo ?hga ?_); (case hgo => exact .base (.non)); (case hga => first | exact (show kitB _ _ = some true by decide +kernel) | exact (show kitB _ _ = some false by decide +kernel)))
  | ((with_reducible refine' Gk.isiB ?hgo ?hga ?_); (case hgo => exact .base (.int _)); (case hga => first | exact (show kitB _ _ = some true by decide +kernel) | exact (show kitB _ _ = some false by decide +kernel)))
  | ((with_reducible refine' Gk.isiB ?hgo ?hga ?_); (case hgo => exact .base (.str _)); (case hga => first | exact (show kitB _ _ = some true by decide +kernel) | exact (show kitB _ _ = some false by decide +kernel)))
  | ((with_reducible refine' Gk.isiB ?hgo ?hga ?_); (case hgo => exact .base (.bl _)); (case hga => first | exact (show kitB _ _ = some true by decide +kernel) | exact (show kitB _ _ = some false by decide +kernel)))
  | ((with_reducible refine' Gk.isiB ?hgo ?hga ?_); (case hgo => exact .base (.tup (by assumption))); (case hga => first | exact (show kitB _ _ = some true by decide +kernel) | exact (show kitB _ _ = some false by decide +kernel)))
  | ((with_reducible refine' Gk.isiB ?hgo ?hga ?_); (case hgo => exact .base (.lst (by assumption))); (case hga => first | exact (show kitB _ _ = some true by decide +kernel) | exact (show kitB _ _ = some false by decide +kernel)))
  | ((with_reducible refine' Gk.iteT ?hgo ?_); (case hgo => exact rfl))
  | ((with_reducible refine' Gk.iteF ?hgo ?_); (case hgo => exact rfl))
  | (with_reducible refine' Gk.yes ?_)
  | (dsimp only))

local macro_rules | `(tactic| walk_at "st") => `(tactic| first
  | ((with_reducible refine' Gk.gname ?hgo ?_); (case hgo => exact rfl))
  | (with_reducible refine' Gk.seq ?_)
  | (with_reducible refine' Gk.asg ?_)
  | (with_reducible refine' Gk.next ?_)
  | (with_reducible refine' Gk.ifS ?_)
  | (dsimp only))
abbrev sLawSpoilt : Stmt := top 41
theorem scLawSpoilt : FnScope ["well", "never", "goal", "hints", "showing", "atoms", "scale", "times", "pick", "k", "by", "form", "exact", "origin", "some", "atom", "terms", "term", "n"] ["well", "never", "goal", "hints", "showing", "atoms"] (defScope sLawSpoilt) := ⟨rfl, rfl, rfl, by decide +kernel, rfl, by decide +kernel, by decide +kernel⟩
section
variable {P : Program} {w : World} {K : PySem.W.Frag} {mg : Str → Option Value} {base : Heap}
set_option maxHeartbeats 0 in
theorem cl_law_spoilt (T : Glo mg) (h : Has K mg "_law_spoilt" sLawSpoilt) (c_LawDraw : Cl P w K mg base "_law_draw" ["well", "many"] 1 spDraw) (c_LawBy : Cl P w K mg base "_law_by" ["well"] 2 spBy) : Cl P w K mg base "_law_spoilt" ["well", "never", "goal", "hints", "showing", "atoms"] 3 spSpoilt := by
  obtain ⟨f_LawDraw, fd_LawDraw, m_LawDraw, k_LawDraw, b_LawDraw, G_LawDraw⟩ := c_LawDraw
  obtain ⟨f_LawBy, fd_LawBy, m_LawBy, k_LawBy, b_LawBy, G_LawBy⟩ := c_LawBy
  obtain ⟨f, fd, m_, F⟩ := h
  refine ⟨f, fd, m_, F.kp, F.binds (ps := ["well", "never", "goal", "hints", "showing", "atoms"]) fun _ _ _ _ _ _ us hl => match us, hl with | [_, _, _, _, _, _], _ => rfl, ?_⟩
  refine F.ok scLawSpoilt (fun vs H Q E h => ?_) (fun cdv A outer s H vs Q E hr h => ?_)
  · obtain ⟨p, q, l, vn, vg, vh, vx, t, N, ns, f, hs, s, ms, L, rfl, _⟩ := h
    rfl
  · obtain ⟨p, q, l, vn, vg, vh, vx, t, N, ns, f, hs, s, ms, L, rfl, W, ht, A_, hL, TT, TO, TX, hml, hhl, hs0, hs5, hmb, k⟩ := h
    refine ⟨_, (pss_cons (ps_asg (pv 4) (Gk.ePgT K rfl (pgs_cons (pg_name (i := 6) scLawSpoilt.nd rfl (Or.inl rfl)) (pgs_cons (pg_name (i := 7) scLawSpoilt.nd rfl (Or.inl rfl)) pgs_nil))))
  (pss_cons (ps_set (i := 8) scLawSpoilt.nd rfl (Or.inl rfl) (pe_call G_LawDraw (hr.mono (by omega)) rfl m_LawDraw k_LawDraw b_LawDraw .nil pass0 (pa_cons (pv 0) (pa_cons pe_int pa_nil))))
  (pss_cons (ps_set (i := 9) scLawSpoilt.nd rfl (Or.inl rfl) (pe_call G_LawDraw (hr.mono (by omega)) rfl m_LawDraw k_LawDraw b_LawDraw .nil pass0 (pa_cons (pv 0) (pa_cons (pe_op op_add (pe_callB (Gk.eLen K) (by rfl) T.len PySem.boot_len (pa_cons (pv 7) pa_nil)) pe_int) pa_nil))))
  (Evl.pss_cut (ps_if (PW.pt (pw_and (pt_cmpR op_lt (pv 8) pe_int (nomark _)) (pw_and1 (pt_cmpR op_lt (pv 9) (pe_callB (Gk.eLen K) (by rfl) T.len PySem.boot_len (pa_cons (pv 7) pa_nil)) (nomark _)))))
    (pss_cons (ps_set (i := 10) scLawSpoilt.nd rfl (Or.inl rfl) (pe_op op_add (pe_ix (Gk.eIxT K) (pv 7) (pv 9) (fun _ _ => rfl)) (pe_ix (Gk.eIxL K) (pe_lst (pa_cons pe_int (pa_cons (pe_un un_neg pe_int) (pa_cons (pe_op op_mul (pe_un un_neg pe_int) (pe_ix (Gk.eIxT K) (pv 7) (pv 9) (fun _ _ => rfl))) pa_nil)))) (pv 8) (fun _ _ => rfl))))
    (pss_one (ps_ret (pe_lst (pa_cons (pv 1) (pa_cons (pv 2) (pa_cons (pv 3) (pa_cons (pe_tup (pa_cons (pv 6) (pa_cons (pe_op (K60.eCatA K) (pe_op (K60.eCatA K) (pe_slice (K60.eSlA K) (pv 7) po_none (po_some (pv 9))) (pe_tup (pa_cons (pv 10) pa_nil))) (pe_slice (K60.eSlA K) (pv 7) (po_some (pe_op op_add (pv 9) pe_int)) po_none)) pa_nil))) pa_nil))))))))
    pss_nil)
  (Evl.pss_cut (ps_if (pt_cmpR op_eq (pv 8) pe_int (nomark _))
    (pss_one (ps_ret (pe_lst (pa_cons (pv 1) (pa_cons (pe_tup (pa_cons (pe_op op_sub (pe_op op_sub (pe_ix (Gk.eIxT K) (pv 2) pe_int (fun _ _ => rfl)) pe_int) (pe_op op_mul (pe_call G_LawDraw (hr.mono (by omega)) rfl m_LawDraw k_LawDraw b_LawDraw .nil pass0 (pa_cons (pv 0) (pa_cons pe_int pa_nil))) (pe_callB Gk.cAbs (by rfl) T.abs (by decide +kernel) (pa_cons (pe_call G_LawBy (hr.mono (by omega)) rfl m_LawBy k_LawBy b_LawBy .nil pass0 (pa_cons (pv 0) pa_nil)) pa_nil)))) (pa_cons (pe_ix (Gk.eIxT K) (pv 2) pe_int (fun _ _ => rfl)) pa_nil))) (pa_cons (pv 3) (pa_cons (pv 4) pa_nil)))))))
    pss_nil)
  (Evl.pss_cut (ps_if (pt_cmpR op_eq (pv 8) pe_int (nomark _))
    (pss_one (ps_ret (pe_lst (pa_cons (pe_callTy (K60.eTupOf K) (by rfl) T.tuple (by decide +kernel) (pa_cons (pe_lc (own := [("n", 18)]) (g := gName 18) (tt := _) rfl scLawSpoilt.nd (Gk.ePiT K (pv 1)) (blkOk_by (N := ["well", "never", "goal", "hints", "showing", "atoms", "scale", "times", "pick", "k", "by", "form", "exact", "origin", "some", "atom", "terms", "term", "n"]) (sc := defScope sLawSpoilt) (by decide +kernel)) (fun _ _ _ _ _ => pg_name (i := 18) scLawSpoilt.nd rfl (Or.inl rfl)) (fun _ _ _ _ _ => (pts_one (pt_cmpR op_gt (pe_call G_LawDraw (hr.mono (by omega)) rfl m_LawDraw k_LawDraw b_LawDraw .nil pass0 (pa_cons (pv 0) (pa_cons pe_int pa_nil))) pe_int (nomark _)))) (fun _ _ _ _ _ => (pv 18))) pa_nil)) (pa_cons (pv 2) (pa_cons (pv 3) (pa_cons (pv 4) pa_nil)))))))
    pss_nil)
  (Evl.pss_cut (ps_if (PW.pt (pw_and (pt_cmpR op_eq (pv 8) pe_int (nomark _)) (pw_and1 (pt_cmpR op_lt (pv 9) (pe_callB (Gk.eLen K) (by rfl) T.len PySem.boot_len (pa_cons (pv 7) pa_nil)) (nomark _)))))
    (pss_cons (ps_asg (pe_ix (Gk.eIxT K) (pv 3) (pv 9) (fun _ _ => rfl)) (Gk.ePgT K rfl (pgs_cons (pg_name (i := 11) scLawSpoilt.nd rfl (Or.inl rfl)) (pgs_cons (pg_name (i := 12) scLawSpoilt.nd rfl (Or.inl rfl)) (pgs_cons (pg_name (i := 13) scLawSpoilt.nd rfl (Or.inl rfl)) pgs_nil)))))
    (pss_one (ps_ret (pe_lst (pa_cons (pv 1) (pa_cons (pv 2) (pa_cons (pe_op (K60.eCatA K) (pe_op (K60.eCatA K) (pe_slice (K60.eSlA K) (pv 3) po_none (po_some (pv 9))) (pe_tup (pa_cons (pe_tup (pa_cons (pv 11) (pa_cons (pe_not (pv 12)) (pa_cons (pv 13) pa_nil)))) pa_nil))) (pe_slice (K60.eSlA K) (pv 3) (po_some (pe_op op_add (pv 9) pe_int)) po_none)) (pa_cons (pv 4) pa_nil))))))))
    pss_nil)
  (Evl.pss_cut (ps_if (pt_cmpR op_eq (pv 8) pe_int (nomark _))
    (pss_cons (ps_set (i := 14) scLawSpoilt.nd rfl (Or.inl rfl) (pe_lst (pa_cons (pe_tup (pa_cons (pe_op op_add (pv 6) pe_int) (pa_cons (pv 7) pa_nil))) (pa_cons (pe_tup (pa_cons (pe_op op_sub (pv 6) pe_int) (pa_cons (pv 7) pa_nil))) (pa_cons (pe_tup (pa_cons (pe_op op_mul (pv 6) pe_int) (pa_cons (pe_callTy (K60.eTupOf K) (by rfl) T.tuple (by decide +kernel) (pa_cons (pe_lc (own := [("by", 10)]) (g := gName 10) (tt := tYes) rfl scLawSpoilt.nd (Gk.ePiT K (pv 7)) (blkOk_by (N := ["well", "never", "goal", "hints", "showing", "atoms", "scale", "times", "pick", "k", "by", "form", "exact", "origin", "some", "atom", "terms", "term", "n"]) (sc := defScope sLawSpoilt) (by decide +kernel)) (fun _ _ _ _ _ => pg_name (i := 10) scLawSpoilt.nd rfl (Or.inl rfl)) (fun _ _ _ _ _ => pts_nil) (fun _ _ _ _ _ => (pe_op op_mul pe_int (pv 10)))) pa_nil)) pa_nil))) (pa_cons (pe_tup (pa_cons pe_int (pa_cons (pv 7) pa_nil))) pa_nil))))))
    (pss_one (ps_ret (pe_lst (pa_cons (pv 1) (pa_cons (pv 2) (pa_cons (pv 3) (pa_cons (pe_ix (Gk.eIxL K) (pv 14) (pe_call G_LawDraw (hr.mono (by omega)) rfl m_LawDraw k_LawDraw b_LawDraw .nil pass0 (pa_cons (pv 0) (pa_cons pe_int pa_nil))) (fun _ _ => rfl)) pa_nil))))))))
    pss_nil)
  (Evl.pss_cut (ps_if (pt_cmpR op_eq (pv 8) pe_int (nomark _))
    (pss_cons (ps_set (i := 14) scLawSpoilt.nd rfl (Or.inl rfl) (pe_lst (pa_cons (pe_callTy (Gk.eListOf K) (by rfl) T.list (by decide +kernel) (pa_cons (pv 4) pa_nil)) (pa_cons (pe_tup (pa_cons (pv 6) (pa_cons (pe_callTy (Gk.eListOf K) (by rfl) T.list (by decide +kernel) (pa_cons (pv 7) pa_nil)) pa_nil))) (pa_cons (pe_tup (pa_cons (pv 6) (pa_cons (pe_op (K60.eCatA K) (pv 7) (pe_tup (pa_cons pe_int pa_nil))) pa_nil))) (pa_cons (pe_tup (pa_cons (pv 6) (pa_cons (pe_slice (K60.eSlA K) (pv 7) po_none (po_some (pe_un un_neg pe_int))) pa_nil))) (pa_cons (pe_tup (pa_cons (pv 7) (pa_cons (pv 6) pa_nil))) (pa_cons pe_non pa_nil))))))))
    (pss_one (ps_ret (pe_lst (pa_cons (pv 1) (pa_cons (pv 2) (pa_cons (pv 3) (pa_cons (pe_ix (Gk.eIxL K) (pe_op op_cat (pv 14) (pe_lst (pa_cons (pe_tup (pa_cons (pv 6) pa_nil)) (pa_cons (pe_tup (pa_cons (pv 6) (pa_cons (pv 7) (pa_cons pe_int pa_nil)))) (pa_cons (pe_tup (pa_cons pe_bl (pa_cons (pv 7) pa_nil))) (pa_cons pe_int (pa_cons (pe_tup pa_nil) pa_nil))))))) (pe_call G_LawDraw (hr.mono (by omega)) rfl m_LawDraw k_LawDraw b_LawDraw .nil pass0 (pa_cons (pv 0) (pa_cons pe_int pa_nil))) (fun _ _ => rfl)) pa_nil))))))))
    pss_nil)
  (Evl.pss_cut (ps_if (pt_cmpR op_eq (pv 8) pe_int (nomark _))
    (pss_cons (ps_set (i := 15) scLawSpoilt.nd rfl (Or.inr rfl) (pe_ix (Gk.eIxL K) (pv 5) (pe_call G_LawDraw (hr.mono (by omega)) rfl m_LawDraw k_LawDraw b_LawDraw .nil pass0 (pa_cons (pv 0) (pa_cons (pe_callB (Gk.eLen K) (by rfl) T.len PySem.boot_len (pa_cons (pv 5) pa_nil)) pa_nil))) (fun _ _ => rfl)))
    (pss_cons (ps_setLc (i := 16) (own := [("term", 17)]) (g := gName 17) (tt := _) rfl scLawSpoilt.nd rfl rfl (sw_true rfl rfl rfl (by decide +kernel)) (Gk.ePiT K (pe_ix (Gk.eIxT K) (pv 2) pe_int (fun _ _ => rfl))) (blkOk_by (N := ["well", "never", "goal", "hints", "showing", "atoms", "scale", "times", "pick", "k", "by", "form", "exact", "origin", "some", "atom", "terms", "term", "n"]) (sc := defScope sLawSpoilt) (by decide +kernel)) (fun _ _ _ _ _ => pg_name (i := 17) scLawSpoilt.nd rfl (Or.inl rfl)) (fun _ _ _ _ _ => (pts_one (pt_cmpR (Gk.eNeD K hr.units) (pe_ix (Gk.eIxT K) (pv 17) pe_int (fun _ _ => rfl)) (pv 15) (nomark _)))) (fun _ _ _ _ _ => (pv 17)))
    (pss_cons (ps_set (i := 10) scLawSpoilt.nd rfl (Or.inl rfl) (pe_call G_LawBy (hr.mono (by omega)) rfl m_LawBy k_LawBy b_LawBy .nil pass0 (pa_cons (pv 0) pa_nil)))
    (Evl.pss_cut (ps_if (pt_cmpR op_ne (pv 10) pe_int (nomark _))
      (pss_one (ps_expr (Gk.eBm K PySem.F.plainAttrs_list PySem.F.slot_list_append PySem.F.type_list_append mt_append (pv 16) (pa_cons (pe_tup (pa_cons (pv 15) (pa_cons (pv 10) pa_nil))) pa_nil))))
      pss_nil)
    (pss_one (ps_ret (pe_lst (pa_cons (pv 1) (pa_cons (pe_tup (pa_cons (pe_ix (Gk.eIxT K) (pv 2) pe_int (fun _ _ => rfl)) (pa_cons (pe_callTy (K60.eTupOf K) (by rfl) T.tuple (by decide +kernel) (pa_cons (pe_callB (TriS.cr_sortPT K hr.units) (by rfl) T.sorted (by decide +kernel) (pa_cons (pv 16) pa_nil)) pa_nil)) pa_nil))) (pa_cons (pv 3) (pa_cons (pv 4) pa_nil)))))))))))
    pss_nil)
  (Evl.pss_cut (ps_if (PW.pt (pw_and (pt_cmpR op_eq (pv 8) pe_int (nomark _)) (pw_and1 (pt_cmpR op_lt (pv 9) (pe_callB (Gk.eLen K) (by rfl) T.len PySem.boot_len (pa_cons (pv 7) pa_nil)) (nomark _)))))
    (pss_one (ps_ret (pe_lst (pa_cons (pv 1) (pa_cons (pv 2) (pa_cons (pv 3) (pa_cons (pe_tup (pa_cons (pv 6) (pa_cons (pe_op (K60.eCatA K) (pe_op (K60.eCatA K) (pe_slice (K60.eSlA K) (pv 7) po_none (po_some (pv 9))) (pe_tup (pa_cons (pe_ix (Gk.eIxL K) (pe_lst (pa_cons pe_bl (pa_cons pe_non (pa_cons pe_str (pa_cons (pe_tup (pa_cons pe_int pa_nil)) pa_nil))))) (pe_call G_LawDraw (hr.mono (by omega)) rfl m_LawDraw k_LawDraw b_LawDraw .nil pass0 (pa_cons (pv 0) (pa_cons pe_int pa_nil))) (fun _ _ => rfl)) pa_nil))) (pe_slice (K60.eSlA K) (pv 7) (po_some (pe_op op_add (pv 9) pe_int)) po_none)) pa_nil))) pa_nil)))))))
    pss_nil)
  (Evl.pss_cut (ps_if (PW.pt (pw_and (pt_cmpR op_eq (pv 8) pe_int (nomark _)) (pw_and1 (pt_cmpR op_lt (pv 9) (pe_callB (Gk.eLen K) (by rfl) T.len PySem.boot_len (pa_cons (pv 7) pa_nil)) (nomark _)))))
    (pss_cons (ps_asg (pe_ix (Gk.eIxT K) (pv 3) (pv 9) (fun _ _ => rfl)) (Gk.ePgT K rfl (pgs_cons (pg_name (i := 11) scLawSpoilt.nd rfl (Or.inl rfl)) (pgs_cons (pg_name (i := 12) scLawSpoilt.nd rfl (Or.inl rfl)) (pgs_cons (pg_name (i := 13) scLawSpoilt.nd rfl (Or.inl rfl)) pgs_nil)))))
    (pss_one (ps_ret (pe_lst (pa_cons (pv 1) (pa_cons (pv 2) (pa_cons (pe_op (K60.eCatA K) (pe_op (K60.eCatA K) (pe_slice (K60.eSlA K) (pv 3) po_none (po_some (pv 9))) (pe_tup (pa_cons (pe_tup (pa_cons (pe_tup (pa_cons (pe_op op_add (pe_ix (Gk.eIxT K) (pv 11) pe_int (fun _ _ => rfl)) pe_int) (pa_cons (pe_ix (Gk.eIxT K) (pv 11) pe_int (fun _ _ => rfl)) pa_nil))) (pa_cons (pv 12) (pa_cons (pv 13) pa_nil)))) pa_nil))) (pe_slice (K60.eSlA K) (pv 3) (po_some (pe_op op_add (pv 9) pe_int)) po_none)) (pa_cons (pv 4) pa_nil))))))))
    pss_nil)
  (pss_one (ps_ret (pe_lst (pa_cons (pv 1) (pa_cons (pv 2) (pa_cons (pv 3) (pa_cons (pe_tup (pa_cons (pv 6) (pa_cons (pe_callTy (K60.eTupOf K) (by rfl) T.tuple (by decide +kernel) (pa_cons (pe_lc (own := [("by", 10)]) (g := gName 10) (tt := tYes) rfl scLawSpoilt.nd (Gk.ePiT K (pv 7)) (blkOk_by (N := ["well", "never", "goal", "hints", "showing", "atoms", "scale", "times", "pick", "k", "by", "form", "exact", "origin", "some", "atom", "terms", "term", "n"]) (sc := defScope sLawSpoilt) (by decide +kernel)) (fun _ _ _ _ _ => pg_name (i := 10) scLawSpoilt.nd rfl (Or.inl rfl)) (fun _ _ _ _ _ => pts_nil) (fun _ _ _ _ _ => pe_int)) pa_nil)) pa_nil))) pa_nil))))))))))))))))))), ?_⟩
    have TXc := TX
    cases TXc with
    | tup hxh hxa =>
    cases hxa with
    | cons x1_ hxa =>
    cases x1_
    cases hxa with
    | cons x2_ hxa =>
    cases hxa
    cases x2_ with
    | tup hth hta =>
    rename_i ax at_ xt
    have exm : xt = ms.map V.int := by
      have go : ∀ (l : List Int) (xs : List V), TkAll H xs (l.map .int) → xs = l.map V.int := by
        intro l
        induction l with
        | nil =>
          intro xs h
          cases h
          rfl
        | cons z l ih =>
          intro xs h
          cases h with
          | cons a b =>
            cases a
            rw [ih _ b]
            rfl
      exact go ms xt hta
    subst exm
    repeat walk_at "go2"
    refine ⟨p, q, 12, _, rfl, W, by decide, by decide, by omega, fun H1 pick p0 p1 W1 b1 => ?_⟩
    have t1 := W.tx b1
    have ht1 := t1 _ _ hth
    repeat walk_at "go2"
    rw [List.length_map]
    refine ⟨p, q, ms.length + 1, _, rfl, W1, by omega, by omega, by omega, fun H2 kI k0 k1 W2 b2 => ?_⟩
    have t2 : Tx H H2 := Tx.trans t1 (W1.tx b2)
    obtain ⟨kk, rfl⟩ : ∃ kk : Nat, kI = (kk : Int) := ⟨kI.toNat, by omega⟩
    have T2 := TT.tx t2
    have X2 := Tk.mono t2 _ _ TX
    have ht2 := t2 _ _ hth
    have hx2 := t2 _ _ hxh
    have A2 := A_.but W (b1.trans b2)
    have bH2 : But p q H H2 := b1.trans b2
    have Q2 := W2.qat
    have hi1 : ∀ (H' : Hp) (ks : List Int), TkAll H' (ks.map V.int) (ks.map .int) := by
      intro H' ks
      induction ks with
      | nil => exact .nil
      | cons k ks ih => exact .cons (.int k) ih
    have fin : ∀ (H' : Hp) (r : Addr) (vn' vg' vh' vx' : V) (ns' : List Int) (f' : Form) (hs' : List Hint) (d : K60.D), H' r = some (.lst [vn', vg', vh', vx']) → Tells H' q vn' vg' vh' ns' f' hs' → Told (L.map (·.2)) (N + bigN + 1) ns' f' hs' → hs'.length = hs.length → Tl (Eq q) H' vx' d → Thing d →
      WellAt H' p q (t + 60) → But p q H2 H' → Q (.ref r) H' := fun H' r vn' vg' vh' vx' ns' f' hs' d e1 e2 e3 e4 e5 e6 e7 e8 => k H' r vn' vg' vh' vx' ns' f' hs' d e1 e2 e3 e4 e5 e6 e7 (bH2.trans e8)
    have gtm : Tl (Eq q) H2 (.ref at_) (.tuple (ms.map .int)) := Tk.tl _ _ (.tup ht2 (hi1 _ _))
    have TO' : Told (L.map (·.2)) (N + bigN + 1) ns f hs := TO.mono (by omega)
    have smm : ∀ m ∈ ms, small m := fun m hm => small_of (by have := hmb m hm; omega)
    have sms : small s := small_of (by omega)
    have lay1 : ∀ x ∈ ms.map PyData.int, Sh 1 x := fun x hx => (Sh.ints x hx).mono (by decide)
    have smi : ∀ m, PyData.int m ∈ ms.map PyData.int → small m := fun m hm => by
      obtain ⟨z, hz, e⟩ := List.mem_map.mp hm
      cases e
      exact smm _ hz
    have ThX : Thing (.tuple [.int s, .tuple (ms.map .int)]) := Thing.of sms lay1 smi
    clear k
    have retA : ∀ (H3 : Hp) (σ : L2.St) (tn tg th tx : TE) (D : Ends) (ns' : List Int) (f' : Form) (hs' : List Hint) (d : K60.D), D.rt = Q → WellAt H3 p q (t + 55) → But p q H2 H3 → Ds (Eq q) tn σ H3 (.tuple (ns'.map .int)) → Ds (Eq q) tg σ H3 (formD f') → Ds (Eq q) th σ H3 (.tuple (hs'.map hintD)) → Ds (Eq q) tx σ H3 d →
        Told (L.map (·.2)) (N + bigN + 1) ns' f' hs' → hs'.length = hs.length → Thing d → tRet (tLst (tCons tn (tCons tg (tCons th (tCons tx tNil))))) D σ H3 := fun H3 σ tn tg th tx D ns' f' hs' d eD W3 b3 d1 d2 d3 d4 to hl' hd => by
      refine Gk.ret (Gk.lst (Gk.aCons (d1.use fun H4 v4 x4 g4 => Gk.aCons (d2 H4 x4 _ fun H5 v5 x5 g5 => Gk.aCons (d3 H5 (x4.trans x5) _ fun H6 v6 x6 g6 => Gk.aCons (d4 H6 (x4.trans (x5.trans x6)) _ fun H7 v7 x7 g7 => Gk.aNil ?_))))))
      walk_at "nw"
      rename_i r hr H8 x8 g8
      rw [eD]
      have W4 := W3.ex_ x4
      have W5 := W4.ex_ x5
      have W6 := W5.ex_ x6
      have W7 := W6.ex_ x7
      have g4' := Tl.mono W4.qat.no (Ty.ex (x5.trans (x6.trans (x7.trans x8)))) _ _ g4
      have g5' := Tl.mono W5.qat.no (Ty.ex (x6.trans (x7.trans x8))) _ _ g5
      have g6' := Tl.mono W6.qat.no (Ty.ex (x7.trans x8)) _ _ g6
      have g7' := Tl.mono W7.qat.no (Ty.ex x8) _ _ g7
      refine fin H8 r v4 v5 v6 v7 ns' f' hs' d g8 ⟨?_, Tl.tk _ _ (nl_form f') g5', Tl.tk _ _ (by unfold noList; exact nl_hints hs' fun y hy => (to.h y hy).2) g6'⟩ to hl' g7' hd ((W7.ex_ x8).le (by omega)) (b3.trans (But.ex (x4.trans (x5.trans (x6.trans (x7.trans x8))))))
      cases g4' with
      | tup a1 a2 => exact ⟨_, rfl, by rw [a1, TlAll.ints a2]⟩
    have dN : ∀ (σ : L2.St), σ[1]? = some (some vn) → Ds (Eq q) (tVar 1) σ H2 (.tuple (ns.map .int)) := fun σ h => by
      obtain ⟨a, e, hn⟩ := T2.n
      subst e
      exact Ds.v Q2 h (Tk.tl _ _ (.tup hn (hi1 _ _)))
    have dG : ∀ (σ : L2.St), σ[2]? = some (some vg) → Ds (Eq q) (tVar 2) σ H2 (formD f) := fun σ h => Ds.v Q2 h (Tk.tl _ _ T2.g)
    have dH : ∀ (σ : L2.St), σ[3]? = some (some vh) → Ds (Eq q) (tVar 3) σ H2 (.tuple (hs.map hintD)) := fun σ h => Ds.v Q2 h (Tk.tl _ _ T2.h)
    have dX : ∀ (σ : L2.St), σ[4]? = some (some (.ref ax)) → Ds (Eq q) (tVar 4) σ H2 (.tuple [.int s, .tuple (ms.map .int)]) := fun σ h => Ds.v Q2 h (Tk.tl _ _ X2)
    have dS : ∀ (σ : L2.St), σ[6]? = some (some (.int s)) → Ds (Eq q) (tVar 6) σ H2 (.int s) := fun σ h => Ds.v Q2 h (.int s)
    have dT : ∀ (σ : L2.St), σ[7]? = some (some (.ref at_)) → Ds (Eq q) (tVar 7) σ H2 (.tuple (ms.map .int)) := fun σ h => Ds.v Q2 h gtm
    have W2' : WellAt H2 p q (t + 55) := W2.le (by omega)
    have mapset : ∀ (l : List Int) (i : Nat) (y : Int), i < l.length → (l.map PyData.int).take i ++ [.int y] ++ (l.map PyData.int).drop (i + 1) = (l.set i y).map .int := fun l i y hi => by
      rw [List.set_eq_take_append_cons_drop, if_pos hi, List.map_append, List.map_cons, List.map_take, List.map_drop]
      simp
    repeat walk_at "go2"
    refine ⟨fun σ' H' => σ' = [some (.ref p), some vn, some vg, some vh, some (.ref ax), some (.ref l), some (.int s), some (.ref at_), some (.int pick), some (.int (kk : Int)), none, none, none, none, none, none, none, none, none] ∧ H2 = H', ?_, ?_⟩
    · -- pick < 3
      repeat walk_at "go2"
      refine Gk.iteQ (fun e1 => ?_) (fun e1 => ?_)
      · repeat walk_at "go2"
        rw [List.length_map]
        refine Gk.iteQ (fun e2 => ?_) (fun e2 => ?_)
        · have hk : kk < ms.length := by
            have := of_decide_eq_true e2
            omega
          obtain ⟨m, hm⟩ : ∃ m, ms[kk]? = some m := ⟨ms[kk], List.getElem?_eq_getElem hk⟩
          have hmx : atI (ms.map V.int) (kk : Int) = some (.int m) := atI_nat (by rw [List.getElem?_map, hm]; rfl)
          repeat walk_at "go2"
          walk_at "nw"
          rename_i r3 hr3 H3 x3 g3
          repeat walk_at "go2"
          obtain ⟨dl, hdl, hdl2⟩ : ∃ dl : Int, atI [V.int 1, .int (-1), .int (-2 * m)] pick = some (.int dl) ∧ (m + dl).natAbs ≤ 3 * boundB + 1 := by
            have hmb' := hmb m (List.mem_of_getElem? hm)
            have hp3 : pick < 3 := of_decide_eq_true e1
            rcases (by omega : pick = 0 ∨ pick = 1 ∨ pick = 2) with e | e | e <;> subst e
            · exact ⟨1, rfl, by omega⟩
            · exact ⟨-1, rfl, by omega⟩
            · exact ⟨-2 * m, rfl, by omega⟩
          refine Gk.ixL (SqL.of g3) hdl ?_
          refine Gk.i0 ?_
          repeat walk_at "st"
          have W3 := W2.ex_ x3
          have Q3 := W3.qat
          have gtm3 := Tl.mono Q2.no (Ty.ex x3) _ _ gtm
          have key := mapset ms kk (m + dl) hk
          refine retA H3 _ _ _ _ _ _ ns f hs (.tuple [.int s, .tuple ((ms.set kk (m + dl)).map .int)]) rfl (W3.le (by omega)) (But.ex x3) ((dN _ rfl).up x3) ((dG _ rfl).up x3) ((dH _ rfl).up x3) (Ds.tup Q3 (by show 2 ≤ 10000; decide) (DsA.cons Q3 ((dS _ rfl).up x3) (DsA.cons Q3 ?_ DsA.nil))) TO' rfl (Thing.of sms (fun x hx => (Sh.ints x hx).mono (by decide)) fun z hz => ?_)
          · rw [← key]
            exact Ds.splice (n := (kk : Int)) Q3 rfl gtm3 rfl (by omega) (by rw [List.length_map]; omega) (by rw [List.length_map]; omega) (Ds.tup Q3 (by show 1 ≤ 10000; decide) (DsA.cons Q3 (Ds.v Q3 rfl (.int (m + dl))) DsA.nil))
          · obtain ⟨y, hy, e⟩ := List.mem_map.mp hz
            cases e
            rcases List.mem_or_eq_of_mem_set hy with e | e
            · exact smm _ e
            · exact small_of (by omega)
        · repeat walk_at "go2"
          exact ⟨rfl, rfl⟩
      · repeat walk_at "go2"
        exact ⟨rfl, rfl⟩
    · rintro σ' H' ⟨rfl, rfl⟩
      repeat walk_at "st"
      refine ⟨fun σ' H' => σ' = [some (.ref p), some vn, some vg, some vh, some (.ref ax), some (.ref l), some (.int s), some (.ref at_), some (.int pick), some (.int (kk : Int)), none, none, none, none, none, none, none, none, none] ∧ H2 = H', ?_, ?_⟩
      · -- pick = 3
        repeat walk_at "go2"
        refine Gk.iteQ (fun e1 => ?_) (fun e1 => ?_)
        · have gc := T2.g
          obtain ⟨gb, gt_, gx, rfl, hgb, hgt, hgx⟩ := Tk.form gc
          repeat walk_at "go2"
          refine ⟨p, q, 2, _, rfl, W2, by decide, by decide, by omega, fun H3 d3 d30 d31 W3 b3 => ?_⟩
          have t3 := W2.tx b3
          repeat walk_at "go2"
          refine ⟨p, q, _, rfl, W3, by omega, fun H4 by1 y0 y1 W4 b4 => ?_⟩
          have t4 := W3.tx b4
          repeat walk_at "go2"
          obtain ⟨av, hav, av0, av1⟩ : ∃ av : Int, (if by1 < 0 then -by1 else by1) = av ∧ 0 ≤ av ∧ av.natAbs ≤ bigN := ⟨_, rfl, by split <;> omega, by have := big_abs y0 y1; split <;> omega⟩
          rw [hav]
          repeat walk_at "go2"
          walk_at "nw"
          rename_i r5 hr5 H5 x5 g5
          repeat walk_at "go2"
          walk_at "nw"
          rename_i r6 hr6 H6 x6 g6
          have t26 : Tx H2 H6 := Tx.trans t3 (Tx.trans t4 (Tx.of_ex (x5.trans x6)))
          have T6 := T2.tx t26
          have hda : (d3 * av).natAbs ≤ bigN := by
            rcases (by omega : d3 = 0 ∨ d3 = 1) with e | e <;> subst e <;> omega
          refine fin H6 r6 vn (.ref r5) vh (.ref ax) ns (f.1 - 1 - d3 * av, f.2) hs _ g6 ⟨T6.n, .tup (x6 _ _ g5) (.cons (.int _) (.cons (.tup (t26 _ _ hgt) (Tk.monoAll t26 _ _ hgx)) .nil)), T6.h⟩ ⟨TO'.n, ⟨?_, TO'.f.t, TO'.f.up⟩, TO'.h⟩ rfl (Tk.tl _ _ (Tk.mono t26 _ _ X2)) ThX ((W4.ex_ (x5.trans x6)).le (by omega)) (b3.trans (b4.trans (But.ex (x5.trans x6))))
          have := TO.f.c
          show (f.1 - 1 - d3 * av).natAbs ≤ _
          omega
        · repeat walk_at "go2"
          exact ⟨rfl, rfl⟩
      · rintro σ' H' ⟨rfl, rfl⟩
        repeat walk_at "st"
        refine ⟨fun σ' H' => σ' = [some (.ref p), some vn, some vg, some vh, some (.ref ax), some (.ref l), some (.int s), some (.ref at_), some (.int pick), some (.int (kk : Int)), none, none, none, none, none, none, none, none, none] ∧ H2 = H', ?_, ?_⟩
        · -- pick = 4
          repeat walk_at "go2"
          refine Gk.iteQ (fun e1 => ?_) (fun e1 => ?_)
          · obtain ⟨na, en, hna⟩ := T2.n
            subst en
            repeat walk_at "go2"
            refine ⟨na, rfl, ⟨_, SqT.of hna⟩, fun Dl hD => lc_tup (xs := ns.map V.int) (fun n H' => ∃ out : List Int, H' Dl = some (.lst (out.map V.int)) ∧ out.Sublist (ns.take n) ∧ WellAt H' p q (t + 2 + n) ∧ But p q H2 H') ?_ (fun n H' _ h => by
              obtain ⟨_, _, _, _, b⟩ := h
              exact SqT.of (W2.tx b _ _ hna)) ?_ ?_⟩
            · exact ⟨[], upd_same, List.nil_sublist _, (W2.ex_ (Ex.new hD)).le (by omega), But.ex (Ex.new hD)⟩
            · rintro n y H3 hy ⟨out, hout, hsub, W3, b3⟩
              obtain ⟨dp, dq⟩ := W2.neNew hD
              rw [List.getElem?_map] at hy
              obtain ⟨m, hm, rfl⟩ := Option.map_eq_some_iff.mp hy
              have hn := (List.getElem?_eq_some_iff.mp hm).1
              have hn12 := TO.n.l
              have lo : out.length ≤ 12 := by
                have := hsub.length_le
                rw [List.length_take] at this
                omega
              repeat walk_at "go2"
              refine ⟨rfl, ?_⟩
              repeat walk_at "go2"
              refine ⟨p, q, 4, _, rfl, W3, by decide, by decide, by omega, fun H4 d4 d40 d41 W4 b4 => ?_⟩
              repeat walk_at "go2"
              refine Gk.iteQ (fun e2 => ?_) (fun e2 => ?_)
              · repeat walk_at "go2"
                refine ⟨_, b4 _ _ dp dq hout, by rw [List.length_map, sizeLine_eq]; omega, out ++ [m], ?_, ?_, (W4.mut dp dq).le (by omega), (b3.trans b4).mut hD⟩
                · rw [upd_same, List.map_append]
                  rfl
                · rw [take_one hm]
                  exact hsub.append (List.Sublist.refl _)
              · refine ⟨out, b4 _ _ dp dq hout, ?_, W4.le (by omega), b3.trans b4⟩
                rw [take_one hm]
                exact hsub.trans (List.sublist_append_left _ _)
            · rintro H3 ⟨out, hout, hsub, W3, b3⟩
              rw [List.length_map] at hsub W3
              rw [List.take_length] at hsub
              have hn12 := TO.n.l
              repeat walk_at "go2"
              refine ⟨Dl, _, rfl, .inl ⟨SqL.of hout, fun r4 hr4 => ?_⟩⟩
              walk_at "gn"
              rename_i H4 x4 g4
              repeat walk_at "go2"
              walk_at "nw"
              rename_i r5 hr5 H5 x5 g5
              have t25 : Tx H2 H5 := Tx.trans (W2.tx b3) (Tx.of_ex (x4.trans x5))
              have T5 := T2.tx t25
              exact fin H5 r5 (.ref r4) vg vh (.ref ax) out f hs _ g5 ⟨⟨r4, rfl, x5 _ _ g4⟩, T5.g, T5.h⟩ ⟨TO.n.sub hsub, TO'.f, TO'.h⟩ rfl (Tk.tl _ _ (Tk.mono t25 _ _ X2)) ThX ((W3.ex_ (x4.trans x5)).le (by omega)) (b3.trans (But.ex (x4.trans x5)))
          · repeat walk_at "go2"
            exact ⟨rfl, rfl⟩
        · rintro σ' H' ⟨rfl, rfl⟩
          repeat walk_at "st"
          refine ⟨fun σ' H' => σ' = [some (.ref p), some vn, some vg, some vh, some (.ref ax), some (.ref l), some (.int s), some (.ref at_), some (.int pick), some (.int (kk : Int)), none, none, none, none, none, none, none, none, none] ∧ H2 = H', ?_, ?_⟩
          · -- pick = 5
            repeat walk_at "go2"
            refine Gk.iteQ (fun e1 => ?_) (fun e1 => ?_)
            · repeat walk_at "go2"
              rw [List.length_map]
              refine Gk.iteQ (fun e2 => ?_) (fun e2 => ?_)
              · have hk : kk < hs.length := by
                  have := of_decide_eq_true e2
                  omega
                have hhc := T2.h
                cases hhc with
                | tup hhh hha =>
                rename_i ah xh
                have lxh : xh.length = hs.length := by
                  have := TkAll.len hha
                  rw [List.length_map] at this
                  exact this
                obtain ⟨y, hy⟩ : ∃ y, hs[kk]? = some y := ⟨hs[kk], List.getElem?_eq_getElem hk⟩
                obtain ⟨v, hv, gv⟩ := TkAll.get hha kk (hintD y) (by rw [List.getElem?_map, hy]; rfl)
                cases gv with
                | tup gvh gva =>
                cases gva with
                | cons f1 gva =>
                cases gva with
                | cons f2 gva =>
                cases gva with
                | cons f3 gva =>
                cases gva
                cases f2
                repeat walk_at "go2"
                refine Gk.ixT (SqT.of hhh) (atI_nat hv) ?_
                repeat walk_at "st"
                refine Gk.gtup (SqT.of gvh) rfl (Gk.gcons (Gk.gname rfl (Gk.gcons (Gk.gname rfl (Gk.gcons (Gk.gname rfl (Gk.gnil ?_)))))))
                repeat walk_at "st"
                refine retA H2 _ _ _ _ _ _ ns f (hs.set kk (y.1, !y.2.1, y.2.2)) _ rfl W2' (But.refl p q H2) (dN _ rfl) (dG _ rfl) ?_ (dX _ rfl) ⟨TO'.n, TO'.f, fun z hz => ?_⟩ (List.length_set ..) ThX
                · rw [← mapsetG hintD hs kk _ hk]
                  exact Ds.splice (n := (kk : Int)) Q2 rfl (Tk.tl _ _ T2.h) rfl (by omega) (by rw [List.length_map]; omega) (by rw [List.length_map]; omega) (Ds.tup Q2 (by show 1 ≤ 10000; decide) (DsA.cons Q2 (Ds.tup Q2 (by show 3 ≤ 10000; decide) (DsA.cons Q2 (Ds.v Q2 rfl (Tk.tl _ _ f1)) (DsA.cons Q2 (Ds.notB rfl) (DsA.cons Q2 (Ds.v Q2 rfl (Tk.tl _ _ f3)) DsA.nil)))) DsA.nil))
                · rcases List.mem_or_eq_of_mem_set hz with e | e
                  · exact TO'.h z e
                  · rw [e]
                    exact TO'.h y (List.mem_of_getElem? hy)
              · repeat walk_at "go2"
                exact ⟨rfl, rfl⟩
            · repeat walk_at "go2"
              exact ⟨rfl, rfl⟩
          · rintro σ' H' ⟨rfl, rfl⟩
            repeat walk_at "st"
            refine ⟨fun σ' H' => σ' = [some (.ref p), some vn, some vg, some vh, some (.ref ax), some (.ref l), some (.int s), some (.ref at_), some (.int pick), some (.int (kk : Int)), none, none, none, none, none, none, none, none, none] ∧ H2 = H', ?_, ?_⟩
            · -- pick = 6
              repeat walk_at "go2"
              refine Gk.iteQ (fun e1 => ?_) (fun e1 => ?_)
              · repeat walk_at "st"
                have dC : Ds (Eq q) _ [some (.ref p), some vn, some vg, some vh, some (.ref ax), some (.ref l), some (.int s), some (.ref at_), some (.int pick), some (.int (kk : Int)), none, none, none, none, none, none, none, none, none] H2 (.tuple ((ms.map fun m => 2 * m).map .int)) := Ds.each (K := K) (i := 7) (j := 10) (te := tOp (rI CMul fun i j => V.int (i * j)) (tC (.int 2)) (tVar 10)) (vs := [10]) rfl ht2 (by omega) Q2 (fun _ => rfl) fun m H' Q k => Gk.op (Gk.con (Gk.var rfl (Gk.i1 (.inl ⟨by decide, by decide⟩) k)))
                refine (Ds.lst Q2 (by show 4 ≤ 10000; decide) (DsA.cons Q2 (Ds.tup Q2 (by show 2 ≤ 10000; decide) (DsA.cons Q2 (Ds.op0 (dS _ rfl) Ds.i) (DsA.cons Q2 (dT _ rfl) DsA.nil)))
                  (DsA.cons Q2 (Ds.tup Q2 (by show 2 ≤ 10000; decide) (DsA.cons Q2 (Ds.op0 (dS _ rfl) Ds.i) (DsA.cons Q2 (dT _ rfl) DsA.nil)))
                  (DsA.cons Q2 (Ds.tup Q2 (by show 2 ≤ 10000; decide) (DsA.cons Q2 (Ds.mul (.inl ⟨by omega, by omega⟩) (dS _ rfl) Ds.i) (DsA.cons Q2 dC DsA.nil)))
                  (DsA.cons Q2 (Ds.tup Q2 (by show 2 ≤ 10000; decide) (DsA.cons Q2 Ds.i (DsA.cons Q2 (dT _ rfl) DsA.nil))) DsA.nil))))).use fun H3 vsm x3 gsm => ?_
                have W3 := W2.ex_ x3
                obtain ⟨ls, xs, rfl, hls, lsp, lsq, hxs⟩ := listAt W3 gsm
                repeat walk_at "go2"
                refine ⟨p, q, 4, _, rfl, W3, by decide, by decide, by omega, fun H4 d4 d40 d41 W4 b4 => ?_⟩
                have hls4 := b4 _ _ lsp lsq hls
                have lxs := hxs.len
                obtain ⟨j, rfl⟩ : ∃ j : Nat, d4 = (j : Int) := ⟨d4.toNat, by omega⟩
                have hj : j < xs.length := by rw [lxs]; show j < 4; omega
                obtain ⟨w, hw⟩ : ∃ w, xs[j]? = some w := ⟨_, List.getElem?_eq_getElem hj⟩
                obtain ⟨d, hd, gd⟩ := hxs.get j w hw
                refine Gk.ixL (SqL.of hls4) (atI_nat hw) ?_
                repeat walk_at "go2"
                walk_at "nw"
                rename_i r5 hr5 H5 x5 g5
                have t25 : Tx H2 H5 := Tx.trans (Tx.of_ex x3) (Tx.trans (W3.tx b4) (Tx.of_ex x5))
                refine fin H5 r5 vn vg vh w ns f hs d g5 (T2.tx t25) TO' rfl (Tl.mono W4.qat.no (Ty.ex x5) _ _ (Tl.mono W3.qat.no (Ty.tx W3 b4) _ _ gd)) ?_ ((W4.ex_ x5).le (by omega)) ((But.ex x3).trans (b4.trans (But.ex x5)))
                have hb2 : ∀ m ∈ ms, small (2 * m) := fun m hm => small_of (by have := hmb m hm; omega)
                match j, hd with
                | 0, hd =>
                  cases hd
                  exact Thing.of (small_of (by omega)) lay1 smi
                | 1, hd =>
                  cases hd
                  exact Thing.of (small_of (by omega)) lay1 smi
                | 2, hd =>
                  cases hd
                  refine Thing.of (small_of (by omega)) (fun x hx => (Sh.ints x hx).mono (by decide)) fun z hz => ?_
                  obtain ⟨y, hy, e⟩ := List.mem_map.mp hz
                  cases e
                  obtain ⟨m, hm, rfl⟩ := List.mem_map.mp hy
                  exact hb2 m hm
                | 3, hd =>
                  cases hd
                  exact Thing.of (small_of (by decide)) lay1 smi
                | j + 4, hd => cases hd
              · repeat walk_at "go2"
                exact ⟨rfl, rfl⟩
            · rintro σ' H' ⟨rfl, rfl⟩
              repeat walk_at "st"
              refine ⟨fun σ' H' => σ' = [some (.ref p), some vn, some vg, some vh, some (.ref ax), some (.ref l), some (.int s), some (.ref at_), some (.int pick), some (.int (kk : Int)), none, none, none, none, none, none, none, none, none] ∧ H2 = H', ?_, ?_⟩
              · -- pick = 7
                repeat walk_at "go2"
                refine Gk.iteQ (fun e1 => ?_) (fun e1 => ?_)
                · repeat walk_at "st"
                  refine (Ds.lst Q2 (by show 6 ≤ 10000; decide) (DsA.cons Q2 (Ds.listOf Q2 (dX _ rfl))
                    (DsA.cons Q2 (Ds.tup Q2 (by show 2 ≤ 10000; decide) (DsA.cons Q2 (dS _ rfl) (DsA.cons Q2 (Ds.listOf Q2 (dT _ rfl)) DsA.nil)))
                    (DsA.cons Q2 (Ds.tup Q2 (by show 2 ≤ 10000; decide) (DsA.cons Q2 (dS _ rfl) (DsA.cons Q2 (Ds.catT Q2 (by rw [List.length_map]; show ms.length + 1 ≤ 10000; omega) (dT _ rfl) (Ds.tup Q2 (by show 1 ≤ 10000; decide) (DsA.cons Q2 Ds.i DsA.nil))) DsA.nil)))
                    (DsA.cons Q2 (Ds.tup Q2 (by show 2 ≤ 10000; decide) (DsA.cons Q2 (dS _ rfl) (DsA.cons Q2 (Ds.slN Q2 (dT _ rfl)) DsA.nil)))
                    (DsA.cons Q2 (Ds.tup Q2 (by show 2 ≤ 10000; decide) (DsA.cons Q2 (dT _ rfl) (DsA.cons Q2 (dS _ rfl) DsA.nil)))
                    (DsA.cons Q2 Ds.n DsA.nil))))))).use fun H3 vsm x3 gsm => ?_
                  have W3 := W2.ex_ x3
                  have Q3 := W3.qat
                  repeat walk_at "st"
                  refine Gk.ret (Gk.lst (Gk.aCons (Gk.var rfl (Gk.aCons (Gk.var rfl (Gk.aCons (Gk.var rfl (Gk.aCons (Gk.op ?_)))))))))
                  refine (Ds.cat Q3 (by show 6 + 5 ≤ 10000; decide) (Ds.v Q3 rfl gsm) (Ds.lst Q3 (by show 5 ≤ 10000; decide) (DsA.cons Q3 (Ds.tup Q3 (by show 1 ≤ 10000; decide) (DsA.cons Q3 ((dS _ rfl).up x3) DsA.nil))
                    (DsA.cons Q3 (Ds.tup Q3 (by show 3 ≤ 10000; decide) (DsA.cons Q3 ((dS _ rfl).up x3) (DsA.cons Q3 ((dT _ rfl).up x3) (DsA.cons Q3 Ds.i DsA.nil))))
                    (DsA.cons Q3 (Ds.tup Q3 (by show 2 ≤ 10000; decide) (DsA.cons Q3 Ds.b (DsA.cons Q3 ((dT _ rfl).up x3) DsA.nil)))
                    (DsA.cons Q3 Ds.i (DsA.cons Q3 (Ds.tup Q3 (by show 0 ≤ 10000; decide) DsA.nil) DsA.nil))))))).use fun H4 vall x4 gall => ?_
                  have W4 := W3.ex_ x4
                  obtain ⟨ls, xs, rfl, hls, lsp, lsq, hxs⟩ := listAt W4 gall
                  repeat walk_at "go2"
                  refine ⟨p, q, 11, _, rfl, W4, by decide, by decide, by omega, fun H5 d4 d40 d41 W5 b5 => ?_⟩
                  have hls5 := b5 _ _ lsp lsq hls
                  have lxs := hxs.len
                  obtain ⟨j, rfl⟩ : ∃ j : Nat, d4 = (j : Int) := ⟨d4.toNat, by omega⟩
                  have hj : j < xs.length := by rw [lxs]; show j < 11; omega
                  obtain ⟨w, hw⟩ : ∃ w, xs[j]? = some w := ⟨_, List.getElem?_eq_getElem hj⟩
                  obtain ⟨d, hd, gd⟩ := hxs.get j w hw
                  refine Gk.ixL (SqL.of hls5) (atI_nat hw) ?_
                  repeat walk_at "go2"
                  walk_at "nw"
                  rename_i r6 hr6 H6 x6 g6
                  have t26 : Tx H2 H6 := Tx.trans (Tx.of_ex (x3.trans x4)) (Tx.trans (W4.tx b5) (Tx.of_ex x6))
                  refine fin H6 r6 vn vg vh w ns f hs d g6 (T2.tx t26) TO' rfl (Tl.mono W5.qat.no (Ty.ex x6) _ _ (Tl.mono W4.qat.no (Ty.tx W4 b5) _ _ gd)) ?_ ((W5.ex_ x6).le (by omega)) ((But.ex (x3.trans x4)).trans (b5.trans (But.ex x6)))
                  have i1 : Sh 1 (.int s) := (Sh.int s).mono (by decide)
                  have z1 : Sh 1 (.int 0) := (Sh.int 0).mono (by decide)
                  have i2 : Sh 2 (.int s) := (Sh.int s).mono (by decide)
                  have tt : Sh 2 (.tuple (ms.map .int)) := Sh.tup lay1
                  have two : ∀ a b : K60.D, Sh 2 a → Sh 2 b → ∀ x ∈ [a, b], Sh 2 x := fun a b h1 h2 x hx => by
                    rcases List.mem_cons.mp hx with e | e
                    · rw [e]; exact h1
                    · rw [List.mem_singleton.mp e]; exact h2
                  match j, hd with
                  | 0, hd =>
                    cases hd
                    exact Thing.no ((Sh.lst (two _ _ i2 tt)).mono (by decide)) fun s ms e => by cases e
                  | 1, hd =>
                    cases hd
                    refine Thing.no ((Sh.pair i2 (Sh.lst lay1)).mono (by decide)) fun s' ms' e => ?_
                    injection e with e
                    injection e with _ e
                    injection e with e _
                    cases e
                  | 2, hd =>
                    cases hd
                    refine Thing.of sms (fun x hx => ?_) fun z hz => ?_
                    · rcases List.mem_append.mp hx with e | e
                      · exact lay1 x e
                      · rw [List.mem_singleton.mp e]
                        exact z1
                    · rcases List.mem_append.mp hz with e | e
                      · exact smi z e
                      · cases List.mem_singleton.mp e
                        exact small_of (by decide)
                  | 3, hd =>
                    cases hd
                    exact Thing.of sms (fun x hx => lay1 x (cutD_mem hx)) fun z hz => smi z (cutD_mem hz)
                  | 4, hd =>
                    cases hd
                    refine Thing.no ((Sh.pair tt i2).mono (by decide)) fun s' ms' e => ?_
                    injection e with e
                    injection e with e _
                    cases e
                  | 5, hd =>
                    cases hd
                    exact Thing.no ⟨rfl, Nat.zero_le _⟩ fun s ms e => by cases e
                  | 6, hd =>
                    cases hd
                    refine Thing.no ((Sh.tup (k := 1) fun x hx => by rw [List.mem_singleton.mp hx]; exact i1).mono (by decide)) fun s' ms' e => ?_
                    injection e with e
                    injection e with _ e
                    cases e
                  | 7, hd =>
                    cases hd
                    refine Thing.no ((Sh.tup (k := 2) fun x hx => ?_).mono (by decide)) fun s' ms' e => ?_
                    · rcases List.mem_cons.mp hx with e | e
                      · rw [e]
                        exact i2
                      · exact two _ _ tt ((Sh.int 0).mono (by decide)) x e
                    · injection e with e
                      injection e with _ e
                      injection e with _ e
                      cases e
                  | 8, hd =>
                    cases hd
                    refine Thing.no ((Sh.pair (⟨rfl, Nat.zero_le _⟩ : Sh 2 (.bool true)) tt).mono (by decide)) fun s' ms' e => ?_
                    injection e with e
                    injection e with e _
                    cases e
                  | 9, hd =>
                    cases hd
                    exact Thing.no ((Sh.int 7).mono (by decide)) fun s ms e => by cases e
                  | 10, hd =>
                    cases hd
                    exact Thing.no ((Sh.tup (k := 0) fun x hx => by cases hx).mono (by decide)) fun s ms e => by
                      injection e with e
                      cases e
                  | j + 11, hd => cases hd
                · repeat walk_at "go2"
                  exact ⟨rfl, rfl⟩
              · rintro σ' H' ⟨rfl, rfl⟩
                repeat walk_at "st"
                refine ⟨fun σ' H' => σ' = [some (.ref p), some vn, some vg, some vh, some (.ref ax), some (.ref l), some (.int s), some (.ref at_), some (.int pick), some (.int (kk : Int)), none, none, none, none, none, none, none, none, none] ∧ H2 = H', ?_, ?_⟩
                · -- pick = 8
                  repeat walk_at "go2"
                  refine Gk.iteQ (fun e1 => ?_) (fun e1 => ?_)
                  · repeat walk_at "go2"
                    refine Gk.lenL (SqL.of A2.hl) ?_
                    rw [List.length_map]
                    repeat walk_at "go2"
                    have hL9 := A_.len
                    refine ⟨p, q, L.length, _, rfl, W2, by omega, by omega, by omega, fun H3 aI a0 a1 W3 b3 => ?_⟩
                    obtain ⟨j, rfl⟩ : ∃ j : Nat, aI = (j : Int) := ⟨aI.toNat, by omega⟩
                    have hj : j < L.length := by omega
                    have A3 := A2.but W2 b3
                    obtain ⟨⟨aa, c⟩, hac⟩ : ∃ z, L[j]? = some z := ⟨L[j], List.getElem?_eq_getElem hj⟩
                    have haa := A3.ha _ (List.mem_of_getElem? hac)
                    have cl : c ∈ L.map (·.2) := List.mem_map_of_mem (List.mem_of_getElem? hac)
                    have t3 := W2.tx b3
                    have T3 := T2.tx t3
                    refine Gk.ixL (SqL.of A3.hl) (atI_nat (by rw [List.getElem?_map, hac]; rfl)) ?_
                    have gc := T3.g
                    obtain ⟨gb, gt_, gx, rfl, hgb, hgt, hgx⟩ := Tk.form gc
                    have lgx : gx.length = f.2.length := by
                      have := TkAll.len hgx
                      rw [List.length_map] at this
                      exact this
                    have lf9 : f.2.length ≤ 9 := by
                      have := TO.f.len
                      rw [List.length_map] at this
                      omega
                    repeat walk_at "go2"
                    refine ⟨gt_, rfl, ⟨_, SqT.of hgt⟩, fun Dl hD => lc_tup (xs := gx) (fun n H' => ∃ M : List (Addr × Trm), H' Dl = some (.lst (M.map fun z => V.ref z.1)) ∧ (∀ z ∈ M, TrmAt H' z.1 z.2) ∧ M.map (·.2) = (f.2.take n).filter (fun z => decide (z.1 ≠ c)) ∧ Ex H3 H') ?_ (fun n H' _ h => by
                      obtain ⟨_, _, _, _, b⟩ := h
                      exact SqT.of (b _ _ hgt)) ?_ ?_⟩
                    · exact ⟨[], upd_same, fun z hz => (by cases hz), rfl, Ex.new hD⟩
                    · rintro n y H4 hy ⟨M, hM, hMt, hMf, x4⟩
                      have hn : n < f.2.length := by rw [← lgx]; exact (List.getElem?_eq_some_iff.mp hy).1
                      obtain ⟨tm, htm⟩ : ∃ tm, f.2[n]? = some tm := ⟨f.2[n], List.getElem?_eq_getElem hn⟩
                      obtain ⟨v, q1, gv⟩ := TkAll.get hgx n (termD tm) (by rw [List.getElem?_map, htm]; rfl)
                      rw [hy] at q1
                      cases q1
                      obtain ⟨b_, c_, rfl, hb_, hc_⟩ := Tk.term gv
                      have hb4 := x4 _ _ hb_
                      have hc4 := x4 _ _ hc_
                      have ha4 := x4 _ _ haa
                      have lM : M.length ≤ 9 := by
                        have e1 : M.length = (M.map (·.2)).length := (List.length_map _).symm
                        rw [e1, hMf]
                        have := (List.filter_sublist (l := f.2.take n) (p := fun z => decide (z.1 ≠ c))).length_le
                        rw [List.length_take] at this
                        omega
                      repeat walk_at "go2"
                      refine ⟨rfl, ?_⟩
                      repeat walk_at "go2"
                      refine Gk.neD (Tk.dp _ _ (Tk.mkTri hc4)) (Tk.dp _ _ (Tk.mkTri ha4)) (shaped_tri _) (shaped_tri _) ?_
                      rw [eqv_tri]
                      repeat walk_at "go2"
                      have ef : (f.2.take (n + 1)).filter (fun z => decide (z.1 ≠ c)) = (f.2.take n).filter (fun z => decide (z.1 ≠ c)) ++ (if tm.1 = c then [] else [tm]) := by
                        rw [take_one htm, List.filter_append]
                        congr 1
                        by_cases z : tm.1 = c
                        · rw [if_pos z]
                          simp [List.filter, z]
                        · rw [if_neg z]
                          simp [List.filter, z]
                      refine Gk.iteQ (fun e2 => ?_) (fun e2 => ?_)
                      · have hne : tm.1 ≠ c := of_decide_eq_false (bnot e2)
                        repeat walk_at "go2"
                        refine ⟨_, hM, by rw [List.length_map, sizeLine_eq]; omega, M ++ [(b_, tm)], ?_, fun z hz => ?_, ?_, Ex.mut x4 hD⟩
                        · rw [upd_same, List.map_append]
                          rfl
                        · have tl4 := Tx.lst (o := .lst (M.map (fun z => V.ref z.1) ++ [V.ref b_])) hM
                          rcases List.mem_append.mp hz with e | e
                          · obtain ⟨cc, h1, h2⟩ := hMt z e
                            exact ⟨cc, tl4 _ _ h1, tl4 _ _ h2⟩
                          · rw [List.mem_singleton.mp e]
                            exact ⟨c_, tl4 _ _ hb4, tl4 _ _ hc4⟩
                        · rw [List.map_append, hMf, ef, if_neg hne]
                          rfl
                      · have heq : tm.1 = c := of_decide_eq_true (bnotF e2)
                        refine ⟨M, hM, hMt, ?_, x4⟩
                        rw [ef, if_pos heq, List.append_nil]
                        exact hMf
                    · rintro H4 ⟨M, hM, hMt, hMf, x4⟩
                      rw [lgx, List.take_length] at hMf
                      have W4 := W3.ex_ x4
                      obtain ⟨dp, dq⟩ := W3.neNew hD
                      repeat walk_at "go2"
                      refine ⟨p, q, _, rfl, W4, by omega, fun H5 y y0 y1 W5 b5 => ?_⟩
                      have t5 := W4.tx b5
                      have hM5 := b5 _ _ dp dq hM
                      have ha5 := t5 _ _ (x4 _ _ haa)
                      have t35 : Tx H3 H5 := Tx.trans (Tx.of_ex x4) t5
                      have lM : M.length ≤ 9 := by
                        have e1 : M.length = (M.map (·.2)).length := (List.length_map _).symm
                        rw [e1, hMf]
                        have := (List.filter_sublist (l := f.2) (p := fun z => decide (z.1 ≠ c))).length_le
                        omega
                      repeat walk_at "go2"
                      refine ⟨fun σ' H' => ∃ (M2 : List (Addr × Trm)), σ' = [some (.ref p), some vn, some (.ref gb), some vh, some (.ref ax), some (.ref l), some (.int s), some (.ref at_), some (.int pick), some (.int (kk : Int)), some (.int y), none, none, none, none, some (.ref aa), some (.ref Dl), none, none] ∧ H' Dl = some (.lst (M2.map fun z => V.ref z.1)) ∧ (∀ z ∈ M2, TrmAt H' z.1 z.2) ∧
                        M2.map (·.2) = f.2.filter (fun z => decide (z.1 ≠ c)) ++ (if y = 0 then [] else [(c, y)]) ∧ M2.length ≤ 10 ∧ Tx H3 H' ∧ WellAt H' p q (t + 20) ∧ But p q H2 H', ?_, ?_⟩
                      · repeat walk_at "go2"
                        refine Gk.iteQ (fun e2 => ?_) (fun e2 => ?_)
                        · have hy0 : y ≠ 0 := of_decide_eq_false (bnot e2)
                          repeat walk_at "go2"
                          walk_at "nw"
                          rename_i r6 hr6 H6 x6 g6
                          repeat walk_at "go2"
                          have hM6 := x6 _ _ hM5
                          refine Gk.app hM6 (by rw [List.length_map, sizeLine_eq]; omega) ?_
                          have tl6 := Tx.lst (o := .lst (M.map (fun z => V.ref z.1) ++ [V.ref r6])) hM6
                          refine ⟨M ++ [(r6, (c, y))], rfl, ?_, fun z hz => ?_, ?_, by rw [List.length_append]; show M.length + 1 ≤ 10; omega, Tx.trans t35 (Tx.trans (Tx.of_ex x6) tl6), ((W5.ex_ x6).mut dp dq).le (by omega), ((b3.trans ((But.ex x4).trans (b5.trans (But.ex x6))))).mut (b3.none dp dq hD)⟩
                          · rw [upd_same, List.map_append]
                            rfl
                          · rcases List.mem_append.mp hz with e | e
                            · obtain ⟨cc, h1, h2⟩ := hMt z e
                              exact ⟨cc, tl6 _ _ (x6 _ _ (t5 _ _ h1)), tl6 _ _ (x6 _ _ (t5 _ _ h2))⟩
                            · rw [List.mem_singleton.mp e]
                              exact ⟨aa, tl6 _ _ g6, tl6 _ _ (x6 _ _ ha5)⟩
                          · rw [List.map_append, hMf, if_neg hy0]
                            rfl
                        · have hy0 : y = 0 := of_decide_eq_true (bnotF e2)
                          repeat walk_at "go2"
                          refine ⟨M, rfl, hM5, fun z hz => ?_, ?_, by omega, t35, W5.le (by omega), b3.trans ((But.ex x4).trans b5)⟩
                          · obtain ⟨cc, h1, h2⟩ := hMt z hz
                            exact ⟨cc, t5 _ _ h1, t5 _ _ h2⟩
                          · rw [hMf, if_pos hy0, List.append_nil]
                      · rintro σ' H6 ⟨M2, rfl, hM6, hMt6, hMf6, lM6, t36, W6, b6⟩
                        have hgb6 := t36 _ _ hgb
                        repeat walk_at "go2"
                        refine ⟨Dl, M2, rfl, SqL.of hM6, hMt6, fun r7 M3 hp3 hs3 hr7 => ?_⟩
                        walk_at "gn"
                        rename_i H7 x7 g7
                        repeat walk_at "go2"
                        refine ⟨r7, _, rfl, .inl ⟨SqL.of g7, fun r8 hr8 => ?_⟩⟩
                        walk_at "gn"
                        rename_i H8 x8 g8
                        repeat walk_at "go2"
                        walk_at "nw"
                        rename_i r9 hr9 H9 x9 g9
                        repeat walk_at "go2"
                        walk_at "nw"
                        rename_i r10 hr10 H10 x10 g10
                        have x610 : Ex H6 H10 := x7.trans (x8.trans (x9.trans x10))
                        have t310 : Tx H3 H10 := Tx.trans t36 (Tx.of_ex x610)
                        have T10 := T3.tx t310
                        have hmem : ∀ z ∈ M3, z ∈ M2 := fun z hz => hp3.mem_iff.mp hz
                        have hkeep : ∀ z ∈ M3.map (·.2), z.1 ∈ L.map (·.2) ∧ z.2 ≠ 0 ∧ z.2.natAbs ≤ N + bigN + 1 := fun z hz => by
                          have h1 : z ∈ M2.map (·.2) := (hp3.map (·.2)).mem_iff.mp hz
                          rw [hMf6] at h1
                          rcases List.mem_append.mp h1 with e | e
                          · have := TO.f.t z (List.mem_filter.mp e).1
                            exact ⟨this.1, this.2.1, by omega⟩
                          · by_cases z0 : y = 0
                            · rw [if_pos z0] at e
                              cases e
                            · rw [if_neg z0] at e
                              rw [List.mem_singleton.mp e]
                              have := big_abs y0 y1
                              exact ⟨cl, z0, by show y.natAbs ≤ _; omega⟩
                        have hnd : ((M3.map (·.2)).map (·.1)).Nodup := by
                          refine ((hp3.map (·.2)).map (·.1)).nodup_iff.mpr ?_
                          rw [hMf6, List.map_append]
                          refine List.nodup_append.mpr ⟨TO.f.nd.sublist (List.filter_sublist.map _), ?_, fun x hx z hz e => ?_⟩
                          · by_cases z0 : y = 0
                            · rw [if_pos z0]
                              exact List.nodup_nil
                            · rw [if_neg z0]
                              exact List.pairwise_singleton _ _
                          · by_cases z0 : y = 0
                            · rw [if_pos z0] at hz
                              cases hz
                            · rw [if_neg z0] at hz
                              have hz : z = c := List.mem_singleton.mp hz
                              obtain ⟨w, hw, rfl⟩ := List.mem_map.mp hx
                              have := (List.mem_filter.mp hw).2
                              exact of_decide_eq_true this (e.trans hz)
                        have hup : ((M3.map (·.2)).map (·.1)).Pairwise fun x y => ltT x y = true := by
                          have h1 := List.pairwise_map.mp hnd
                          refine List.pairwise_map.mpr ((hs3.and h1).imp fun {a b} h => ?_)
                          have h2 := h.1
                          unfold TriS.ltP at h2
                          rw [if_neg fun e => h.2 e.symm] at h2
                          exact ltT_tot h2 fun e => h.2 e.symm
                        have tkM : TkAll H10 (M3.map fun z => V.ref z.1) ((M3.map (·.2)).map termD) := by
                          have go : ∀ K3 : List (Addr × Trm), (∀ z ∈ K3, z ∈ M2) → TkAll H10 (K3.map fun z => V.ref z.1) ((K3.map (·.2)).map termD) := by
                            intro K3
                            induction K3 with
                            | nil => exact fun _ => .nil
                            | cons z K3 ih =>
                              intro hz
                              obtain ⟨cc, h1, h2⟩ := hMt6 z (hz z List.mem_cons_self)
                              exact .cons (Tk.mkTerm (x610 _ _ h1) (x610 _ _ h2)) (ih fun w hw => hz w (List.mem_cons_of_mem _ hw))
                          exact go M3 hmem
                        refine fin H10 r10 vn (.ref r9) vh (.ref ax) ns (f.1, M3.map (·.2)) hs _ g10 ⟨T10.n, ?_, T10.h⟩ ⟨TO'.n, ⟨TO'.f.c, hkeep, hup⟩, TO'.h⟩ rfl (Tk.tl _ _ (Tk.mono (Tx.trans t3 t310) _ _ X2)) ThX ((W6.ex_ x610).le (by omega)) (b6.trans (But.ex x610))
                        exact .tup (x10 _ _ g9) (.cons (.int _) (.cons (.tup (x10 _ _ (x9 _ _ g8)) tkM) .nil))
                  · repeat walk_at "go2"
                    exact ⟨rfl, rfl⟩
                · rintro σ' H' ⟨rfl, rfl⟩
                  repeat walk_at "st"
                  refine ⟨fun σ' H' => σ' = [some (.ref p), some vn, some vg, some vh, some (.ref ax), some (.ref l), some (.int s), some (.ref at_), some (.int pick), some (.int (kk : Int)), none, none, none, none, none, none, none, none, none] ∧ H2 = H', ?_, ?_⟩
                  · -- pick = 9
                    repeat walk_at "go2"
                    refine Gk.iteQ (fun e1 => ?_) (fun e1 => ?_)
                    · repeat walk_at "go2"
                      rw [List.length_map]
                      refine Gk.iteQ (fun e2 => ?_) (fun e2 => ?_)
                      · have hk : kk < ms.length := by
                          have := of_decide_eq_true e2
                          omega
                        repeat walk_at "go2"
                        refine slA Q2 gtm fun H3 w3 x3 g3 => ?_
                        have W3 := W2.ex_ x3
                        have Q3 := W3.qat
                        rw [cutD_to (by omega) (by rw [List.length_map]; omega)] at g3
                        refine Gk.tup (Gk.aCons (Gk.op ?_))
                        refine (Ds.lst Q3 (by show 4 ≤ 10000; decide) (DsA.cons Q3 Ds.b (DsA.cons Q3 Ds.n (DsA.cons Q3 Ds.s (DsA.cons Q3 (Ds.tup Q3 (by show 1 ≤ 10000; decide) (DsA.cons Q3 Ds.i DsA.nil)) DsA.nil))))).use fun H4 v4 x4 g4 => ?_
                        have W4 := W3.ex_ x4
                        obtain ⟨ls, xs, rfl, hls, lsp, lsq, hxs⟩ := listAt W4 g4
                        repeat walk_at "go2"
                        refine ⟨p, q, 4, _, rfl, W4, by decide, by decide, by omega, fun H5 d4 d40 d41 W5 b5 => ?_⟩
                        have hls5 := b5 _ _ lsp lsq hls
                        have lxs := hxs.len
                        obtain ⟨j, rfl⟩ : ∃ j : Nat, d4 = (j : Int) := ⟨d4.toNat, by omega⟩
                        have hj : j < xs.length := by rw [lxs]; show j < 4; omega
                        obtain ⟨w, hw⟩ : ∃ w, xs[j]? = some w := ⟨_, List.getElem?_eq_getElem hj⟩
                        obtain ⟨d, hd, gd⟩ := hxs.get j w hw
                        refine Gk.ixL (SqL.of hls5) (atI_nat hw) (Gk.aNil ?_)
                        walk_at "nw"
                        rename_i r6 hr6 H6 x6 g6
                        have W6 := W5.ex_ x6
                        have Q6 := W6.qat
                        have y46 : Ty (Eq q) H4 H6 := Ty.trans (Ty.tx W4 b5) (Ty.ex x6)
                        have y36 : Ty (Eq q) H3 H6 := Ty.trans (Ty.ex x4) y46
                        have y26 : Ty (Eq q) H2 H6 := Ty.trans (Ty.ex x3) y36
                        have gd6 := Tl.mono W4.qat.no y46 _ _ gd
                        refine catA Q6 (Tl.mono Q3.no y36 _ _ g3) (.tup g6 (.cons gd6 .nil)) (by rw [List.length_take, List.length_map]; show _ + 1 ≤ _; omega) fun H7 w7 x7 g7 => ?_
                        have Q7 := Q6.ex x7
                        repeat walk_at "go2"
                        refine slA Q7 (Tl.mono Q2.no (Ty.trans y26 (Ty.ex x7)) _ _ gtm) fun H8 w8 x8 g8 => ?_
                        have Q8 := Q7.ex x8
                        have en : ((kk : Int) + 1).toNat = kk + 1 := by omega
                        rw [cutD_from (by omega) (by rw [List.length_map]; omega), en] at g8
                        refine catA Q8 (Tl.mono Q7.no (Ty.ex x8) _ _ g7) g8 (by rw [List.length_append, List.length_take, List.length_drop, List.length_map]; show _ + 1 + _ ≤ _; omega) fun H9 w9 x9 g9 => ?_
                        have Q9 := Q8.ex x9
                        repeat walk_at "go2"
                        walk_at "nw"
                        rename_i r10 hr10 H10 x10 g10
                        repeat walk_at "go2"
                        walk_at "nw"
                        rename_i r11 hr11 H11 x11 g11
                        have x611 : Ex H6 H11 := x7.trans (x8.trans (x9.trans (x10.trans x11)))
                        have t211 : Tx H2 H11 := Tx.trans (y26.txs Q2) (Tx.of_ex x611)
                        have sh1 : Sh 1 d ∧ ∀ m, d ≠ .int m := by
                          match j, hd with
                          | 0, hd => cases hd; exact ⟨⟨rfl, Nat.zero_le _⟩, fun m e => by cases e⟩
                          | 1, hd => cases hd; exact ⟨⟨rfl, Nat.zero_le _⟩, fun m e => by cases e⟩
                          | 2, hd => cases hd; exact ⟨⟨by decide +kernel, Nat.zero_le _⟩, fun m e => by cases e⟩
                          | 3, hd => cases hd; exact ⟨⟨rfl, Nat.le_refl 1⟩, fun m e => by cases e⟩
                          | j + 4, hd => cases hd
                        refine fin H11 r11 vn vg vh (.ref r10) ns f hs (.tuple [.int s, .tuple ((ms.map PyData.int).take kk ++ [d] ++ (ms.map PyData.int).drop (kk + 1))]) g11 (T2.tx t211) TO' rfl ?_ (Thing.of sms (fun x hx => ?_) fun z hz => ?_) ((W6.ex_ x611).le (by omega)) ((But.ex (x3.trans x4)).trans (b5.trans (But.ex (x6.trans x611))))
                        · exact .tup (x11 _ _ g10) (.cons (.int _) (.cons (Tl.mono Q9.no (Ty.ex (x10.trans x11)) _ _ g9) .nil))
                        · rcases List.mem_append.mp hx with e | e
                          · rcases List.mem_append.mp e with e | e
                            · exact lay1 x (List.mem_of_mem_take e)
                            · rw [List.mem_singleton.mp e]
                              exact sh1.1
                          · exact lay1 x (List.mem_of_mem_drop e)
                        · rcases List.mem_append.mp hz with e | e
                          · rcases List.mem_append.mp e with e | e
                            · exact smi z (List.mem_of_mem_take e)
                            · exact absurd (List.mem_singleton.mp e).symm (sh1.2 z)
                          · exact smi z (List.mem_of_mem_drop e)
                      · repeat walk_at "go2"
                        exact ⟨rfl, rfl⟩
                    · repeat walk_at "go2"
                      exact ⟨rfl, rfl⟩
                  · rintro σ' H' ⟨rfl, rfl⟩
                    repeat walk_at "st"
                    refine ⟨fun σ' H' => σ' = [some (.ref p), some vn, some vg, some vh, some (.ref ax), some (.ref l), some (.int s), some (.ref at_), some (.int pick), some (.int (kk : Int)), none, none, none, none, none, none, none, none, none] ∧ H2 = H', ?_, ?_⟩
                    · -- pick = 10
                      repeat walk_at "go2"
                      refine Gk.iteQ (fun e1 => ?_) (fun e1 => ?_)
                      · repeat walk_at "go2"
                        rw [List.length_map]
                        refine Gk.iteQ (fun e2 => ?_) (fun e2 => ?_)
                        · have hk : kk < hs.length := by
                            have := of_decide_eq_true e2
                            omega
                          have hhc := T2.h
                          cases hhc with
                          | tup hhh hha =>
                          rename_i ah xh
                          have lxh : xh.length = hs.length := by
                            have := TkAll.len hha
                            rw [List.length_map] at this
                            exact this
                          obtain ⟨y, hy⟩ : ∃ y, hs[kk]? = some y := ⟨hs[kk], List.getElem?_eq_getElem hk⟩
                          obtain ⟨v, hv, gv⟩ := TkAll.get hha kk (hintD y) (by rw [List.getElem?_map, hy]; rfl)
                          cases gv with
                          | tup gvh gva =>
                          cases gva with
                          | cons f1 gva =>
                          cases gva with
                          | cons f2 gva =>
                          cases gva with
                          | cons f3 gva =>
                          cases gva
                          cases f2
                          repeat walk_at "go2"
                          refine Gk.ixT (SqT.of hhh) (atI_nat hv) ?_
                          repeat walk_at "st"
                          refine Gk.gtup (SqT.of gvh) rfl (Gk.gcons (Gk.gname rfl (Gk.gcons (Gk.gname rfl (Gk.gcons (Gk.gname rfl (Gk.gnil ?_)))))))
                          repeat walk_at "st"
                          have df : ∀ (σ : L2.St) (v : V), σ[11]? = some (some v) → Tk H2 v (formD y.1) → Ds (Eq q) (tVar 11) σ H2 (formD y.1) := fun σ v h g => Ds.v Q2 h (Tk.tl _ _ g)
                          refine retA H2 _ _ _ _ _ _ ns f (hs.set kk ((y.1.1 + 1, y.1.2), y.2)) _ rfl W2' (But.refl p q H2) (dN _ rfl) (dG _ rfl) ?_ (dX _ rfl) ⟨TO'.n, TO'.f, fun z hz => ?_⟩ (List.length_set ..) ThX
                          · rw [← mapsetG hintD hs kk _ hk]
                            refine Ds.splice (n := (kk : Int)) Q2 rfl (Tk.tl _ _ T2.h) rfl (by omega) (by rw [List.length_map]; omega) (by rw [List.length_map]; omega) (Ds.tup Q2 (by show 1 ≤ 10000; decide) (DsA.cons Q2 (Ds.tup Q2 (by show 3 ≤ 10000; decide) (DsA.cons Q2 (Ds.tup Q2 (by show 2 ≤ 10000; decide) (DsA.cons Q2 (Ds.op0 (Ds.ixT (df _ _ rfl f1) rfl) Ds.i) (DsA.cons Q2 (Ds.ixT (df _ _ rfl f1) rfl) DsA.nil))) (DsA.cons Q2 (Ds.v Q2 rfl (.bl _)) (DsA.cons Q2 (Ds.v Q2 rfl (Tk.tl _ _ f3)) DsA.nil)))) DsA.nil))
                          · rcases List.mem_or_eq_of_mem_set hz with e | e
                            · exact TO'.h z e
                            · rw [e]
                              have hyt := TO.h y (List.mem_of_getElem? hy)
                              have hyt' := TO'.h y (List.mem_of_getElem? hy)
                              refine ⟨⟨?_, hyt'.1.t, hyt'.1.up⟩, hyt.2⟩
                              have := hyt.1.c
                              show (y.1.1 + 1).natAbs ≤ _
                              omega
                        · repeat walk_at "go2"
                          exact ⟨rfl, rfl⟩
                      · repeat walk_at "go2"
                        exact ⟨rfl, rfl⟩
                    · rintro σ' H' ⟨rfl, rfl⟩
                      repeat walk_at "st"
                      have dC : Ds (Eq q) _ [some (.ref p), some vn, some vg, some vh, some (.ref ax), some (.ref l), some (.int s), some (.ref at_), some (.int pick), some (.int (kk : Int)), none, none, none, none, none, none, none, none, none] H2 (.tuple ((ms.map fun _ => (0 : Int)).map .int)) := Ds.each (K := K) (i := 7) (j := 10) (te := tC (.int 0)) (vs := [10]) rfl ht2 (by omega) Q2 (fun _ => rfl) fun m H' Q k => Gk.con k
                      refine retA H2 _ _ _ _ _ _ ns f hs _ rfl W2' (But.refl p q H2) (dN _ rfl) (dG _ rfl) (dH _ rfl) (Ds.tup Q2 (by show 2 ≤ 10000; decide) (DsA.cons Q2 (dS _ rfl) (DsA.cons Q2 dC DsA.nil))) TO' rfl (Thing.of sms (fun x hx => (Sh.ints x hx).mono (by decide)) fun z hz => ?_)
                      obtain ⟨y, hy, e⟩ := List.mem_map.mp hz
                      cases e
                      obtain ⟨m, hm, rfl⟩ := List.mem_map.mp hy
                      exact small_of (by decide)
end
end K60
namespace K60
open PySem L2 TriS
open Evl (Ex)
section
variable {K : PySem.W.Frag} {H : Hp} {CN CG CH : Addr} {q : Addr} {vn vg vh vx : V} {l : List Tri} {N : Nat} {ns : List Int} {f : Form} {hs : List Hint} {d : D} {Q : VK} {E : XK}
theorem Told.hint (t : Told l N ns f hs) (hl : ∀ a ∈ l, isAtom (triD a) = true) : ∀ y ∈ hs, isHint (hintD y) = true := fun y hy => by
  have h := t.h y hy
  show (isForm (formD y.1) && (true && isOrigin y.2.2)) = true
  rw [h.1.form hl, h.2]
  rfl
theorem Told.ins (t : Told l N ns f hs) (hl : ∀ a ∈ l, isAtom (triD a) = true) (h9 : l.length ≤ 9) (hN : N < 2 ^ 1000) (hh : hs.length ≤ 310) (T : Tells H q vn vg vh ns f hs) (hx : Dp K H vx d) (sm : SmD d) : ShowsIn H K vn vg vh vx ns f hs d := by
  have sml : ∀ x : Int, x.natAbs ≤ N → small x := fun x h => by
    unfold small
    omega
  refine ⟨T.n, T.g, T.h, hx, t.hint hl, ⟨⟨sml _ t.f.c, fun z hz => sml _ (t.f.t z hz).2.2⟩, fun y hy => ⟨sml _ (t.h y hy).1.c, fun z hz => sml _ ((t.h y hy).1.t z hz).2.2⟩⟩, sm, ?_, by omega⟩
  have go : ∀ m : List Hint, (∀ y ∈ m, y.1.2.length ≤ 9) → (m.map fun y => y.1.2.length).sum ≤ 9 * m.length := by
    intro m
    induction m with
    | nil => exact fun _ => Nat.le_refl 0
    | cons y m ih =>
      intro h
      have h1 := h y List.mem_cons_self
      have h2 := ih fun z hz => h z (List.mem_cons_of_mem _ hz)
      rw [List.map_cons, List.sum_cons, List.length_cons]
      omega
  have h1 := go hs fun y hy => Nat.le_trans (t.h y hy).1.len h9
  have h2 := t.f.len
  omega
theorem Told.shown (t : Told l N ns f hs) (hl : ∀ a ∈ l, isAtom (triD a) = true) (h9 : l.length ≤ 9) (hN : N < 2 ^ 1000) (hh : hs.length ≤ 310) (T : Tells H q vn vg vh ns f hs) (hx : Dp K H vx d) (sm : SmD d)
    (k : ∀ (H' : Hp) (b : Bool), Ex H H' → (b = true ↔ ShowsP ns f hs d) → Q (.bl b) H') : spShown K CN CG CH ([vn, vg, vh, vx] ++ []) H Q E := by
  have e0 := t.n.is
  have e1 : isForm (formD f) = true := t.f.form hl
  have hh' := t.hint hl
  have e2 : isHints (.tuple (hs.map hintD)) = true := by
    show (decide ((hs.map hintD).length ≤ 8000) && (hs.map hintD).all isHint) = true
    rw [List.length_map, decide_eq_true (by omega), Bool.true_and]
    refine List.all_eq_true.mpr fun x hx => ?_
    obtain ⟨y, hy, rfl⟩ := List.mem_map.mp hx
    exact hh' y hy
  have f1 : fitF (formD f) = true := by
    show decide ((f.2.map termD).length ≤ 1000) = true
    rw [List.length_map]
    exact decide_eq_true (by have := t.f.len; omega)
  have f2 : fitHs (.tuple (hs.map hintD)) = true := List.all_eq_true.mpr fun x hx => by
    obtain ⟨y, hy, rfl⟩ := List.mem_map.mp hx
    show decide ((y.1.2.map termD).length ≤ 1000) = true
    rw [List.length_map]
    exact decide_eq_true (by have := (t.h y hy).1.len; omega)
  have hn : Dp K H vn (.tuple (ns.map .int)) := by
    obtain ⟨a, e, ha⟩ := T.n
    subst e
    exact .tup (SqT.of ha) (dp_ints ns)
  refine ⟨vn, vg, vh, vx, _, formD f, _, rfl, hn, Tk.dp _ _ T.g, Tk.dp _ _ T.h, f1, f2, fun z => ?_, fun _ z => ?_, fun _ _ z => ?_, fun _ _ _ => ⟨ns, f, hs, d, t.ins hl h9 hN hh T hx sm, k⟩⟩
  · rw [e0] at z
    cases z
  · rw [e1] at z
    cases z
  · rw [e2] at z
    cases z
theorem Told.lawShows (t : Told l N ns f hs) (hl : ∀ a ∈ l, isAtom (triD a) = true) (h9 : l.length ≤ 9) (hN : N < 2 ^ 1000) (hh : hs.length ≤ 310) (T : Tells H q vn vg vh ns f hs) (hx : Dp K H vx d) (sm : SmD d)
    (k : ∀ (H' : Hp) (b : Bool), Ex H H' → (b = true ↔ ShowsP ns f hs d) → Q (.bl b) H') : spLawShows K ([vn, vg, vh, vx] ++ []) H Q E :=
  ⟨vn, vg, vh, vx, ns, f, hs, d, rfl, t.ins hl h9 hN hh T hx sm, t.f.nd, t.f.form hl, k⟩
end
def spLaw (K : PySem.W.Frag) : Sp := fun vs H Q _ => ∃ (a : Addr) (ns : List Int), vs = [.ref a] ∧ SqL K H a (ns.map V.int) ∧ ns.length ≤ 63 ∧ ∀ H', Q (.bl true) H'
local macro_rules | `(tactic| walk_at "ex") => `(tactic| first | assumption | exact Evl.Ex.refl _ | (refine' Evl.Ex.trans (by assumption) ?_; walk_at "ex"))
local macro_rules | `(tactic| walk_at "tx") => `(tactic| first | assumption | exact K60.Tx.of_ex (by assumption) | (refine' K60.Tx.trans (by assumption) ?_; walk_at "tx") | (refine' K60.Tx.trans (K60.Tx.of_ex (by assumption)) ?_; walk_at "tx"))
local macro_rules | `(tactic| walk_at "lf") => `(tactic| first | assumption | (refine' K60.exGet ?hx9 ?hy9; (case hy9 => assumption); (case hx9 => walk_at "ex")) | (refine' K60.txGet ?hx9 ?hy9; (case hy9 => assumption); (case hx9 => walk_at "tx")))
local macro_rules | `(tactic| walk_at "sq2") => `(tactic| first | assumption | (refine' SqL.of ?hq9; (case hq9 => walk_at "lf")) | (refine' SqT.of ?hq9; (case hq9 => walk_at "lf")))
local macro_rules | `(tactic| walk_at "gn") => `(tactic| (generalize hh : upd _ _ _ = H9 at *; obtain ⟨xe9, h9⟩ := K60.newAt (by assumption) hh; clear hh))
local macro_rules | `(tactic| walk_at "nw") => `(tactic| (refine' ⟨by show _ ≤ sizeLine; first | decide | (simp only [List.length_cons, List.length_nil, List.length_map, List.length_append, sizeLine_eq]; omega), fun a9 ha9 => ?_⟩; walk_at "gn"))
local macro_rules | `(tactic| walk_at "go2") => `(tactic| first
  | (with_reducible refine' Gk.seq ?_)
  | ((with_reducible refine' Gk.var ?hgo ?_); (case hgo => exact rfl))
  | (with_reducible refine' Gk.con ?_)
  | (with_reducible refine' Gk.op ?_)
  | (with_reducible refine' Gk.i0 ?_)
  | (with_reducible refine' Gk.un ?_)
  | ((with_reducible refine' Gk.i1 (C := CMul) ?hgo ?_); (case hgo => first | exact .inl ⟨by decide, by decide⟩ | exact .inr ⟨by decide, by decide⟩ | exact .inl ⟨by omega, by omega⟩ | exact .inr ⟨by omega, by omega⟩))
  | ((with_reducible refine' Gk.i1 (C := CDiv) ?hgo ?_); (case hgo => exact ⟨by omega, by omega⟩))
  | ((with_reducible refine' Gk.i1 (C := CPow) ?hgo ?_); (case hgo => exact ⟨by decide, by decide, by decide⟩))
  | ((with_reducible refine' Gk.i1 (C := fun _ j => 0 < j) ?hgo ?_); (case hgo => show (0 : Int) < _; omega))
  | (with_reducible refine' Gk.u1 ?_)
  | (with_reducible refine' Gk.test ?_)
  | (with_reducible refine' Gk.testB ?_)
  | (with_reducible refine' Gk.asB ?_)
  | (with_reducible refine' K60.eqI ?_)
  | (with_reducible refine' K60.neI ?_)
  | ((with_reducible refine' Gk.eqv ?hgo ?_); (case hgo => exact rfl))
  | ((with_reducible refine' Gk.nev ?hgo ?_); (case hgo => exact rfl))
  | ((with_reducible refine' Gk.ixL ?hgo ?hga ?_); (case hgo => walk_at "sq2"); (case hga => first | exact rfl | assumption))
  | ((with_reducible refine' Gk.ixT ?hgo ?hga ?_); (case hgo => walk_at "sq2"); (case hga => first | exact rfl | assumption))
  | (with_reducible refine' Gk.aNil ?_)
  | (with_reducible refine' Gk.aCons ?_)
  | (with_reducible refine' Gk.cb ?_)
  | (with_reducible refine' Gk.call ?_)
  | (with_reducible refine' Gk.tup ?_)
  | (with_reducible refine' Gk.lst ?_)
  | (with_reducible refine' Gk.ifE ?_)
  | (with_reducible refine' Gk.ifS ?_)
  | (with_reducible refine' Gk.next ?_)
  | (with_reducible refine' Gk.asg ?_)
  | ((with_reducible refine' Gk.gname ?hgo ?_); (case hgo => exact rfl))
  | (with_reducible refine' Gk.gsub ?_)
  | ((with_reducible refine' Gk.setL ?hgo ?hga ?_); (case hgo => first | assumption | exact upd_same); (case hga => first | exact rfl | assumption))
  | (with_reducible refine' Gk.ret ?_)
  | (with_reducible refine' Gk.drop ?_)
  | (with_reducible refine' Gk.par ?_)
  | (with_reducible refine' Gk.andT ?_)
  | (with_reducible refine' Gk.orT ?_)
  | (with_reducible refine' Gk.notT ?_)
  | (with_reducible refine' Gk.abs ?_)
  | (with_reducible refine' Gk.intI ?_)
  | (with_reducible refine' Gk.intB ?_)
  | ((with_reducible refine' Gk.lenL ?hgo ?_); (case hgo => walk_at "sq2"))
  | ((with_reducible refine' Gk.lenT ?hgo ?_); (case hgo => walk_at "sq2"))
  | ((with_reducible refine' K60.lenD ?hgo ?_); (case hgo => assumption))
  | (with_reducible refine' K60.zipA ?_)
  | (with_reducible refine' K60.listI ?_)
  | (with_reducible refine' K60.tupI ?_)
  | (with_reducible refine' K60.dget2 ?_)
  | (with_reducible refine' K60.dget ?_)
  | (with_reducible refine' K60.dput ?_)
  | ((with_reducible refine' K60.aug ?hgo ?_); (case hgo => exact rfl))
  | (with_reducible refine' K60.ipI ?_)
  | (with_reducible refine' K60.newT ?_)
  | (with_reducible refine' Gk.bm ?_)
  | ((with_reducible refine' Gk.tyL ?hgo ?_); (case hgo => first | assumption | exact upd_same))
  | ((with_reducible refine' Gk.gtup ?hgo ?hga ?_); (case hgo => walk_at "sq2"); (case hga => exact rfl))
  | (with_reducible refine' Gk.gcons ?_)
  | (with_reducible refine' Gk.gnil ?_)
  | (with_reducible refine' Gk.sl ?_)
  | (with_reducible refine' Gk.noPart ?_)
  | (with_reducible refine' Gk.part ?_)
  | (with_reducible refine' Gk.partI ?_)
  | (with_reducible refine' Gk.lc ?_)
  | (with_reducible refine' Gk.rng1 ?_)
  | (with_reducible refine' Gk.forS ?_)
  | (with_reducible refine' Gk.isN ?_)
  | (with_reducible refine' Gk.notN ?_)
  | (with_reducible refine' Gk.andV ?_)
  | (with_reducible refine' Gk.orV ?_)
  | (with_reducible refine' Gk.notV ?_)
  | (with_reducible refine' K60.chain ?_)
  | ((with_reducible refine' K60.isiI ?hgo ?_); (case hgo => assumption))
  | ((with_reducible refine' K60.isiBo ?hgo ?_); (case hgo => assumption))
  | ((with_reducible refine' K60.isiT ?hgo ?_); (case hgo => assumption))
  | ((with_reducible refine' Gk.isiB ?hgo ?hga ?_); (case hgo => exact .base (.non)); (case hga => first | exact (show kitB _ _ = some true by decide +kernel) | exact (show kitB _ _ = some false by decide +kernel)))
  | ((with_reducible refine' Gk.isiB ?hgo ?hga ?_); (case hgo => exact .base (.int _)); (case hga => first | exact (show kitB _ _ = some true by decide +kernel) | exact (show kitB _ _ = some false by decide +kernel)))
  | ((with_reducible refine' Gk.isiB ?hgo ?hga ?_); (case hgo => exact .base (.str _)); (case hga => first | exact (show kitB _ _ = some true by decide +kernel) | exact (show kitB _ _ = some false by decide +kernel)))
  | ((with_reducible refine' Gk.isiB ?hgo ?hga ?_); (case hgo => exact .base (.bl _)); (case hga => first | exact (show kitB _ _ = some true by decide +kernel) | exact (show kitB _ _ = some false by decide +kernel)))
  | ((with_reducible refine' Gk.isiB ?hgo ?hga ?_); (case hgo => exact .base (.tup (by assumption))); (case hga => first | exact (show kitB _ _ = some true by decide +kernel) | exact (show kitB _ _ = some false by decide +kernel)))
  | ((with_reducible refine' Gk.isiB ?hgo ?hga ?_); (case hgo => exact .base (.lst (by assumption))); (case hga => first | exact (show kitB _ _ = some true by decide +kernel) | exact (show kitB _ _ = some false by decide +kernel)))
  | ((with_reducible refine' Gk.iteT ?hgo ?_); (case hgo => exact rfl))
  | ((with_reducible refine' Gk.iteF ?hgo ?_); (case hgo => exact rfl))
  | (with_reducible refine' Gk.yes ?_)
  | (dsimp only))

abbrev sLaw : Stmt := top 45
theorem scLaw : FnScope ["script", "well", "never", "atoms", "goal", "hints", "showing", "k", "told", "two", "found", "spare", "n"] ["script"] (defScope sLaw) := ⟨rfl, rfl, rfl, by decide +kernel, rfl, by decide +kernel, by decide +kernel⟩
section
variable {P : Program} {w : World} {K : PySem.W.Frag} {mg : Str → Option Value} {base : Heap} {CN CG CH : Addr}
set_option maxHeartbeats 0 in
theorem ok_law (T : Glo mg) {f : Addr} {fd : FuncData} (F : Fun K "law" "law" sLaw f fd) (c_LawDraw : Cl P w K mg base "_law_draw" ["well", "many"] 1 spDraw) (c_LawWell : Cl P w K mg base "_law_well" ["script"] 1 (spWell K)) (c_LawAtoms : Cl P w K mg base "_law_atoms" ["well"] 3 spAtoms) (c_LawMade : Cl P w K mg base "_law_made" ["well", "never", "atoms"] 4 spMade) (c_IsShown : ClS P w K mg base 7 (spShown K CN CG CH))
    (c_LawSpoilt : Cl P w K mg base "_law_spoilt" ["well", "never", "goal", "hints", "showing", "atoms"] 3 spSpoilt) (c_LawShows : Cl P w K mg base "_law_shows" ["never", "goal", "hints", "thing"] 2 (spLawShows K)) (c_LawLong : Cl P w K mg base "_law_long" ["well"] 8 spLong) (c_LawErrorsRight : Cl P w K mg base "_law_errors_right" ["well", "goal", "hints"] 9 spErrs) :
    FnOk P w K mg base CX0 10 f fd ["script"] (spLaw K) := by
  obtain ⟨f_LawDraw, fd_LawDraw, m_LawDraw, k_LawDraw, b_LawDraw, G_LawDraw⟩ := c_LawDraw
  obtain ⟨f_LawWell, fd_LawWell, m_LawWell, k_LawWell, b_LawWell, G_LawWell⟩ := c_LawWell
  obtain ⟨f_LawAtoms, fd_LawAtoms, m_LawAtoms, k_LawAtoms, b_LawAtoms, G_LawAtoms⟩ := c_LawAtoms
  obtain ⟨f_LawMade, fd_LawMade, m_LawMade, k_LawMade, b_LawMade, G_LawMade⟩ := c_LawMade
  obtain ⟨f_IsShown, fd_IsShown, m_IsShown, k_IsShown, b_IsShown, kb_IsShown, G_IsShown⟩ := c_IsShown
  obtain ⟨f_LawSpoilt, fd_LawSpoilt, m_LawSpoilt, k_LawSpoilt, b_LawSpoilt, G_LawSpoilt⟩ := c_LawSpoilt
  obtain ⟨f_LawShows, fd_LawShows, m_LawShows, k_LawShows, b_LawShows, G_LawShows⟩ := c_LawShows
  obtain ⟨f_LawLong, fd_LawLong, m_LawLong, k_LawLong, b_LawLong, G_LawLong⟩ := c_LawLong
  obtain ⟨f_LawErrorsRight, fd_LawErrorsRight, m_LawErrorsRight, k_LawErrorsRight, b_LawErrorsRight, G_LawErrorsRight⟩ := c_LawErrorsRight
  refine F.ok scLaw (fun vs H Q E h => ?_) (fun cdv A outer s H vs Q E hr h => ?_)
  · obtain ⟨a, ns, rfl, _⟩ := h
    rfl
  · obtain ⟨a, sc, rfl, hsc, hscl, k⟩ := h
    refine ⟨_, (pss_cons (ps_set (i := 1) scLaw.nd rfl (Or.inr rfl) (pe_call G_LawWell (hr.mono (by omega)) rfl m_LawWell k_LawWell b_LawWell .nil pass0 (pa_cons (pv 0) pa_nil)))
  (pss_cons (ps_set (i := 2) scLaw.nd rfl (Or.inl rfl) (pe_callTy (K60.eTupOf K) (by rfl) T.tuple (by decide +kernel) (pa_cons (pe_lc (own := [("n", 12)]) (g := gName 12) (tt := _) rfl scLaw.nd (pi_range2 (by rfl) T.range (pa_cons pe_int (pa_cons pe_int pa_nil))) (blkOk_by (N := ["script", "well", "never", "atoms", "goal", "hints", "showing", "k", "told", "two", "found", "spare", "n"]) (sc := defScope sLaw) (by decide +kernel)) (fun _ _ _ _ _ => pg_name (i := 12) scLaw.nd rfl (Or.inl rfl)) (fun _ _ _ _ _ => (pts_one (pt_cmpR op_eq (pe_call G_LawDraw (hr.mono (by omega)) rfl m_LawDraw k_LawDraw b_LawDraw .nil pass0 (pa_cons (pv 1) (pa_cons pe_int pa_nil))) pe_int (nomark _)))) (fun _ _ _ _ _ => (pv 12))) pa_nil)))
  (pss_cons (ps_set (i := 3) scLaw.nd rfl (Or.inl rfl) (pe_call G_LawAtoms (hr.mono (by omega)) rfl m_LawAtoms k_LawAtoms b_LawAtoms .nil pass0 (pa_cons (pv 1) pa_nil)))
  (pss_cons (ps_asg (pe_call G_LawMade (hr.mono (by omega)) rfl m_LawMade k_LawMade b_LawMade .nil pass0 (pa_cons (pv 1) (pa_cons (pv 2) (pa_cons (pv 3) pa_nil)))) (K60.ePgU K rfl (pgs_cons (pg_name (i := 4) scLaw.nd rfl (Or.inl rfl)) (pgs_cons (pg_name (i := 5) scLaw.nd rfl (Or.inl rfl)) (pgs_cons (pg_name (i := 6) scLaw.nd rfl (Or.inl rfl)) pgs_nil)))))
  (pss_cons (ps_if (pt_cmpR K60.op_notBo (pe_call G_IsShown (hr.mono (by omega)) rfl m_IsShown k_IsShown b_IsShown .nil passL (pa_cons (pv 2) (pa_cons (pv 4) (pa_cons (pv 5) (pa_cons (pv 6) pa_nil))))) pe_bl (nomark _))
    (pss_one (ps_ret pe_bl))
    pss_nil)
  (pss_cons (ps_for PassesOwn.never rfl (pi_range1 (by rfl) T.range (pa_cons pe_int pa_nil)) (pg_name (i := 7) scLaw.nd rfl (Or.inl rfl))
    (pss_cons (ps_set (i := 8) scLaw.nd rfl (Or.inl rfl) (pe_call G_LawSpoilt (hr.mono (by omega)) rfl m_LawSpoilt k_LawSpoilt b_LawSpoilt .nil pass0 (pa_cons (pv 1) (pa_cons (pv 2) (pa_cons (pv 4) (pa_cons (pv 5) (pa_cons (pv 6) (pa_cons (pv 3) pa_nil))))))))
    (Evl.pss_cut (ps_if (pt_cmpR op_gt (pv 7) pe_int (nomark _))
      (pss_cons (ps_set (i := 9) scLaw.nd rfl (Or.inl rfl) (pe_call G_LawSpoilt (hr.mono (by omega)) rfl m_LawSpoilt k_LawSpoilt b_LawSpoilt .nil pass0 (pa_cons (pv 1) (pa_cons (pe_ix (Gk.eIxL K) (pv 8) pe_int (fun _ _ => rfl)) (pa_cons (pe_ix (Gk.eIxL K) (pv 8) pe_int (fun _ _ => rfl)) (pa_cons (pe_ix (Gk.eIxL K) (pv 8) pe_int (fun _ _ => rfl)) (pa_cons (pv 6) (pa_cons (pv 3) pa_nil))))))))
      (pss_one (ps_set (i := 8) scLaw.nd rfl (Or.inl rfl) (pe_ifExp (pt_cmpR (Gk.eEqD K hr.units) (pe_ix (Gk.eIxL K) (pv 8) pe_int (fun _ _ => rfl)) (pv 6) (nomark _)) (pv 9) (pv 8)))))
      pss_nil)
    (pss_cons (ps_set (i := 10) scLaw.nd rfl (Or.inl rfl) (pe_call G_IsShown (hr.mono (by omega)) rfl m_IsShown k_IsShown b_IsShown .nil passL (pa_cons (pe_ix (Gk.eIxL K) (pv 8) pe_int (fun _ _ => rfl)) (pa_cons (pe_ix (Gk.eIxL K) (pv 8) pe_int (fun _ _ => rfl)) (pa_cons (pe_ix (Gk.eIxL K) (pv 8) pe_int (fun _ _ => rfl)) (pa_cons (pe_ix (Gk.eIxL K) (pv 8) pe_int (fun _ _ => rfl)) pa_nil))))))
    (pss_one (ps_if (PW.pt (pw_or (pt_not (pt_val (pe_callB (Gk.eIsi K) (by rfl) T.isinstance (by decide +kernel) (pa_cons (pv 10) (pa_cons (pe_bltn (v := .ty "bool") (by rfl) T.bool (by decide +kernel) rfl) pa_nil))))) (pw_or1 (pt_cmpR op_ne (pv 10) (pe_call G_LawShows (hr.mono (by omega)) rfl m_LawShows k_LawShows b_LawShows .nil pass0 (pa_cons (pe_ix (Gk.eIxL K) (pv 8) pe_int (fun _ _ => rfl)) (pa_cons (pe_ix (Gk.eIxL K) (pv 8) pe_int (fun _ _ => rfl)) (pa_cons (pe_ix (Gk.eIxL K) (pv 8) pe_int (fun _ _ => rfl)) (pa_cons (pe_ix (Gk.eIxL K) (pv 8) pe_int (fun _ _ => rfl)) pa_nil))))) (nomark _)))))
      (pss_one (ps_ret pe_bl))
      pss_nil))))))
  (pss_cons (ps_set (i := 11) scLaw.nd rfl (Or.inl rfl) (pe_call G_LawDraw (hr.mono (by omega)) rfl m_LawDraw k_LawDraw b_LawDraw .nil pass0 (pa_cons (pv 1) (pa_cons pe_int pa_nil))))
  (pss_cons (ps_if (PW.pt (pw_and (pt_cmpR op_eq (pv 11) pe_int (nomark _)) (pw_and1 (pt_not (pt_val (pe_call G_LawLong (hr.mono (by omega)) rfl m_LawLong k_LawLong b_LawLong .nil pass0 (pa_cons (pv 1) pa_nil)))))))
    (pss_one (ps_ret pe_bl))
    pss_nil)
  (pss_one (ps_ret (pe_or (pe_cmpR op_gt (pv 11) pe_int (nomark _)) (pe_one (pe_call G_LawErrorsRight (hr.mono (by omega)) rfl m_LawErrorsRight k_LawErrorsRight b_LawErrorsRight .nil pass0 (pa_cons (pv 1) (pa_cons (pv 4) (pa_cons (pv 5) pa_nil)))))))))))))))), ?_⟩
    repeat walk_at "go2"
    refine ⟨a, sc, rfl, hsc, hscl, fun H1 p q W1 x1 => ?_⟩
    repeat walk_at "go2"
    unfold iRng2
    refine Gk.aCons (Gk.con (Gk.aCons (Gk.con (Gk.aNil ⟨1, 13, rfl, ⟨by decide, by decide, by decide, by decide⟩, fun Dl hD => lc_range (lo := 1) (n := ((13 : Int) - 1).toNat) (fun i H' => ∃ out : List Int, H' Dl = some (.lst (out.map V.int)) ∧ out.length ≤ i ∧ (∀ n ∈ out, 1 ≤ n ∧ n < 1 + (i : Int)) ∧ out.Pairwise (· < ·) ∧ WellAt H' p q i ∧ But p q H1 H') ?_ ?_ ?_⟩))))
    · exact ⟨[], upd_same, Nat.le_refl 0, fun n hn => (by cases hn), List.Pairwise.nil, W1.ex_ (Ex.new hD), But.ex (Ex.new hD)⟩
    · rintro i H2 hi ⟨out, hout, ho1, ho2, ho3, W2, b2⟩
      have hi : i < 12 := hi
      obtain ⟨dp, dq⟩ := W1.neNew hD
      repeat walk_at "go2"
      refine ⟨rfl, ?_⟩
      repeat walk_at "go2"
      refine ⟨p, q, 3, _, rfl, W2, by decide, by decide, by omega, fun H3 y y0 y1 W3 b3 => ?_⟩
      repeat walk_at "go2"
      refine Gk.iteQ (fun e1 => ?_) (fun e1 => ?_)
      · repeat walk_at "go2"
        refine ⟨_, b3 _ _ dp dq hout, by rw [List.length_map, sizeLine_eq]; omega, out ++ [1 + (i : Int)], ?_, by rw [List.length_append]; show out.length + 1 ≤ i + 1; omega, fun n hn => ?_, ?_, W3.mut dp dq, (b2.trans b3).mut hD⟩
        · rw [upd_same, List.map_append]
          rfl
        · rcases List.mem_append.mp hn with e | e
          · have := ho2 n e
            omega
          · rw [List.mem_singleton.mp e]
            omega
        · refine List.pairwise_append.mpr ⟨ho3, List.pairwise_singleton _ _, fun x hx z hz => ?_⟩
          rw [List.mem_singleton.mp hz]
          exact (ho2 x hx).2
      · exact ⟨out, b3 _ _ dp dq hout, by omega, fun n hn => by have := ho2 n hn; omega, ho3, W3, b2.trans b3⟩
    · rintro H2 ⟨ns, hns, hn1, hn2, hn3, W2, b2⟩
      have NV : NevOk ns := ⟨hn1, fun n hn => by have := hn2 n hn; omega, hn3⟩
      repeat walk_at "go2"
      refine ⟨Dl, _, rfl, .inl ⟨SqL.of hns, fun na hna => ?_⟩⟩
      walk_at "gn"
      rename_i H3 x3 g3
      have W3 := W2.ex_ x3
      repeat walk_at "go2"
      refine ⟨p, q, _, rfl, W3, by omega, fun H4 l L A4 hL1 W4 b4 => ?_⟩
      have g4 := W3.tx b4 _ _ g3
      repeat walk_at "go2"
      refine ⟨p, q, na, l, _, ns, L, rfl, W4, g4, A4, by omega, fun H5 r5 vg vh vs f hs s ms hr5 TG TH TX MK W5 b5 => ?_⟩
      have hl : ∀ a ∈ L.map (·.2), isAtom (triD a) = true := fun a ha => by
        obtain ⟨z, hz, rfl⟩ := List.mem_map.mp ha
        exact A4.ok z hz
      have h9 : (L.map (·.2)).length ≤ 9 := by rw [List.length_map]; exact A4.len
      have A5 := A4.but W4 b5
      have T5 : Tells H5 q (.ref na) vg vh ns f hs := ⟨⟨na, rfl, W4.tx b5 _ _ g4⟩, TG, TH⟩
      have TO : Told (L.map (·.2)) boundB ns f hs := ⟨NV, MK.ff, MK.fh⟩
      have hh : hs.length ≤ 310 := by have := MK.hl; omega
      have bB : boundB + 3 * bigN + 10 < 2 ^ 1000 := by decide +kernel
      have hmB : ∀ m ∈ ms, m.natAbs ≤ boundB := MK.m
      have DX : SmD (.tuple [.int s, .tuple (ms.map .int)]) := smT (small_of (by have := MK.s0; have := MK.s5; omega)) fun z hz => by
        obtain ⟨y, hy, e⟩ := List.mem_map.mp hz
        cases e
        exact small_of (by have := hmB _ hy; omega)
      have ThS : Thing (.tuple [.int s, .tuple (ms.map .int)]) := Thing.of (small_of (by have := MK.s0; have := MK.s5; omega)) (fun x hx => (Sh.ints x hx).mono (by decide)) fun z hz => by
        obtain ⟨y, hy, e⟩ := List.mem_map.mp hz
        cases e
        exact small_of (by have := hmB _ hy; omega)
      refine ⟨r5, _, rfl, SqL.of hr5, rfl, ?_⟩
      repeat walk_at "go2"
      refine TO.shown (q := q) hl h9 (by omega) hh T5 (Tk.dp _ _ TX) DX fun H6 b x6 hb => ?_
      have hbt : b = true := hb.mpr MK.shows
      subst hbt
      repeat walk_at "go2"
      refine ⟨true, true, rfl, rfl, _, rfl, Gk.iteF (by decide) ?_⟩
      have W6 := W5.ex_ x6
      have T6 := T5.tx (Tx.of_ex x6)
      have X6 := Tk.mono (Tx.of_ex x6) _ _ TX
      have A6 := A5.but W5 (But.ex x6)
      repeat walk_at "go2"
      refine ⟨9, rfl, by decide, by decide, Gk.forR (lo := 0) (n := 9) (fun i σ' H' => (∃ u1 u2 u3 u4 : Option V, σ' = [some (.ref a), some (.ref p), some (.ref na), some (.ref l), some vg, some vh, some vs, u1, u2, u3, u4, none, none]) ∧ WellAt H' p q (300000 + 200 * i) ∧ AtomsAt H' p q l L ∧ Tells H' q (.ref na) vg vh ns f hs ∧ Tk H' vs (.tuple [.int s, .tuple (ms.map .int)])) ?_ ?_ ?_⟩
      · exact ⟨⟨_, _, _, _, rfl⟩, W6.le (by show 0 + 12 + 100 + 200000 ≤ _; omega), A6, T6, X6⟩
      · rintro i σ' H7 hi ⟨⟨u1, u2, u3, u4, rfl⟩, W7, A7, T7, X7⟩
        repeat walk_at "go2"
        refine ⟨p, q, l, .ref na, vg, vh, vs, _, boundB, ns, f, hs, s, ms, L, rfl, W7, by omega, A7, hL1, T7, TO, X7, MK.ln, hh, MK.s0, MK.s5, hmB, fun H8 r vn8 vg8 vh8 vx8 ns8 f8 hs8 d8 hr8 T8 TO8 hl8 X8 Th8 W8 b8 => ?_⟩
        repeat walk_at "go2"
        have hh8 : hs8.length ≤ 310 := by omega
        have rp : r ≠ p := fun z => by
          obtain ⟨gs, m, n, g1, _⟩ := W8.ex
          subst z
          rw [g1] at hr8
          have := Option.some.inj hr8
          unfold wellO at this
          cases this
        have rq : r ≠ q := fun z => by
          obtain ⟨gs, m, n, _, g2, _⟩ := W8.ex
          subst z
          rw [g2] at hr8
          have e := HO.lst.inj (Option.some.inj hr8)
          obtain ⟨an, en, _⟩ := T8.n
          cases gs with
          | nil => cases e
          | cons g gs =>
            injection e with e _
            rw [en] at e
            cases e
        have A8 := A7.but W7 b8
        have T8o := T7.tx (W7.tx b8)
        have X8o := Tk.mono (W7.tx b8) _ _ X7
        refine ⟨fun σ' H' => ∃ (u2' : Option V) (r : Addr) (vn9 vg9 vh9 vx9 : V) (ns9 : List Int) (f9 : Form) (hs9 : List Hint) (d9 : K60.D), σ' = [some (.ref a), some (.ref p), some (.ref na), some (.ref l), some vg, some vh, some vs, some (.int (0 + (i : Int))), some (.ref r), u2', u4, none, none] ∧ H' r = some (.lst [vn9, vg9, vh9, vx9]) ∧ Tells H' q vn9 vg9 vh9 ns9 f9 hs9 ∧ Told (L.map (·.2)) (boundB + bigN + 1 + bigN + 1) ns9 f9 hs9 ∧ hs9.length ≤ 310 ∧ Tl (Eq q) H' vx9 d9 ∧ Thing d9 ∧
          WellAt H' p q (300000 + 200 * i + 150) ∧ AtomsAt H' p q l L ∧ Tells H' q (.ref na) vg vh ns f hs ∧ Tk H' vs (.tuple [.int s, .tuple (ms.map .int)]), ?_, ?_⟩
        · repeat walk_at "go2"
          refine Gk.iteQ (fun e1 => ?_) (fun e1 => ?_)
          · repeat walk_at "go2"
            refine ⟨p, q, l, vn8, vg8, vh8, vs, _, boundB + bigN + 1, ns8, f8, hs8, s, ms, L, rfl, W8, by omega, A8, hL1, T8, TO8, X8o, by rw [hl8]; exact MK.ln, hh8, MK.s0, MK.s5, hmB, fun H9 r9 vn9 vg9 vh9 vx9 ns9 f9 hs9 d9 hr9 T9 TO9 hl9 X9 Th9 W9 b9 => ?_⟩
            have t9 := W8.tx b9
            have hr8' := b9 _ _ rp rq hr8
            have X8' := Tl.mono W8.qat.no (Ty.tx W8 b9) _ _ X8
            have T9o := T8o.tx t9
            have X9o := Tk.mono t9 _ _ X8o
            have A9 := A8.but W8 b9
            repeat walk_at "go2"
            refine Gk.eqD (d := d8) (e := .tuple [.int s, .tuple (ms.map .int)]) (Tl.dp _ _ X8') (Tk.dp _ _ X9o) (Th8.sh.shaped (by decide)) (ThS.sh.shaped (by decide)) ?_
            repeat walk_at "go2"
            refine Gk.iteQ (fun e2 => ?_) (fun e2 => ?_)
            · repeat walk_at "go2"
              exact ⟨_, r9, vn9, vg9, vh9, vx9, ns9, f9, hs9, d9, rfl, hr9, T9, TO9, by omega, X9, Th9, W9.le (by omega), A9, T9o, X9o⟩
            · repeat walk_at "go2"
              exact ⟨_, r, vn8, vg8, vh8, vx8, ns8, f8, hs8, d8, rfl, hr8', T8.tx t9, TO8.mono (by omega), hh8, X8', Th8, W9.le (by omega), A9, T9o, X9o⟩
          · repeat walk_at "go2"
            exact ⟨_, r, vn8, vg8, vh8, vx8, ns8, f8, hs8, d8, rfl, hr8, T8, TO8.mono (by omega), hh8, X8, Th8, W8.le (by omega), A8, T8o, X8o⟩
        · rintro σ' H9 ⟨u2', r9, vn9, vg9, vh9, vx9, ns9, f9, hs9, d9, rfl, hr9, T9, TO9, hh9, X9, Th9, W9, A9, T9o, X9o⟩
          repeat walk_at "go2"
          refine TO9.shown (q := q) hl h9 (by omega) hh9 T9 (Tl.dp _ _ X9) Th9.sm fun H10 b x10 hb => ?_
          have hr10 := x10 _ _ hr9
          repeat walk_at "go2"
          refine TO9.lawShows (q := q) hl h9 (by omega) hh9 (T9.tx (Tx.of_ex x10)) (Dp.ex x10 _ _ (Tl.dp _ _ X9)) Th9.sm fun H11 b2 x11 hb2 => ?_
          have hbb : b = b2 := Bool.eq_iff_iff.mpr (hb.trans hb2.symm)
          subst hbb
          repeat walk_at "go2"
          refine Gk.iteQ (fun e => ?_) (fun e => ?_)
          · rw [decide_eq_true rfl] at e
            cases e
          · repeat walk_at "go2"
            have x911 := x10.trans x11
            exact ⟨⟨_, _, _, _, rfl⟩, (W9.ex_ x911).le (by omega), A9.but W9 (But.ex x911), T9o.tx (Tx.of_ex x911), Tk.mono (Tx.of_ex x911) _ _ X9o⟩
      · rintro σ' H7 ⟨⟨u1, u2, u3, u4, rfl⟩, W7, A7, T7, X7⟩
        have GHH : GH f hs := by
          have sml : ∀ x : Int, x.natAbs ≤ boundB → small x := fun x h => small_of (by omega)
          exact ⟨MK.ff.form hl, TO.hint hl, ⟨sml _ MK.ff.c, fun z hz => sml _ (MK.ff.t z hz).2.2⟩, fun y hy => ⟨sml _ (MK.fh y hy).1.c, fun z hz => sml _ ((MK.fh y hy).1.t z hz).2.2⟩, by have := MK.ff.len; omega, fun y hy => by have := (MK.fh y hy).1.len; omega, by omega⟩
        repeat walk_at "go2"
        refine ⟨p, q, 12, _, rfl, W7, by decide, by decide, by omega, fun H8 sp sp0 sp1 W8 b8 => ?_⟩
        have T8 := T7.tx (W7.tx b8)
        have ret : ∀ (H9 : Hp), WellAt H9 p q 500000 → Tells H9 q (.ref na) vg vh ns f hs → ∀ (u1 u2 u3 u4 : Option V), if decide (3 < sp) = true then Q (.bl true) H9 else tCall spErrs [] E0 (tCons (tVar 1) (tCons (tVar 4) (tCons (tVar 5) tNil)))
            [some (.ref a), some (.ref p), some (.ref na), some (.ref l), some vg, some vh, some vs, u1, u2, u3, u4, some (.int sp), none] H9 Q := fun H9 W9 T9 u1 u2 u3 u4 => by
          refine Gk.iteQ (fun e => k H9) (fun e => ?_)
          repeat walk_at "go2"
          exact ⟨p, q, vg, vh, _, f, hs, rfl, W9, by omega, T9.g, T9.h, GHH, k⟩
        repeat walk_at "go2"
        refine Gk.iteQ (fun e => ?_) (fun e => ?_)
        · repeat walk_at "go2"
          refine ⟨p, q, _, rfl, W8, by omega, fun H9 W9 b9 => ?_⟩
          repeat walk_at "go2"
          exact ret H9 (W9.le (by omega)) (T8.tx (W8.tx b9)) _ _ _ _
        · repeat walk_at "go2"
          exact ret H8 (W8.le (by omega)) T8 _ _ _ _
end
end K60
set_option maxHeartbeats 0
namespace K60
open PySem PySem.Spec PyProof.Rows L2
def dIsInt : He.DefD := ⟨("is_int", none), "is_int", "is_int", defArgs sIsInt, defBody sIsInt, defScope sIsInt, [], []⟩
def dWithin : He.DefD := ⟨("within", none), "within", "within", defArgs sWithin, defBody sWithin, defScope sWithin, [], []⟩
def dSummed : He.DefD := ⟨("summed", none), "summed", "summed", defArgs sSummed, defBody sSummed, defScope sSummed, [], []⟩
def dIsAtom : He.DefD := ⟨("is_atom", none), "is_atom", "is_atom", defArgs sIsAtom, defBody sIsAtom, defScope sIsAtom, [], []⟩
def dIsForm : He.DefD := ⟨("is_form", none), "is_form", "is_form", defArgs sIsForm, defBody sIsForm, defScope sIsForm, [], []⟩
def dIsFloor : He.DefD := ⟨("is_floor", none), "is_floor", "is_floor", defArgs sIsFloor, defBody sIsFloor, defScope sIsFloor, [], []⟩
def dIsOrigin : He.DefD := ⟨("is_origin", none), "is_origin", "is_origin", defArgs sIsOrigin, defBody sIsOrigin, defScope sIsOrigin, [], []⟩
def dIsHint : He.DefD := ⟨("is_hint", none), "is_hint", "is_hint", defArgs sIsHint, defBody sIsHint, defScope sIsHint, [], []⟩
def dNeedNever : He.DefD := ⟨("need_never", none), "need_never", "need_never", defArgs sNeedNever, defBody sNeedNever, defScope sNeedNever, [], []⟩
def dNeedGoal : He.DefD := ⟨("need_goal", none), "need_goal", "need_goal", defArgs sNeedGoal, defBody sNeedGoal, defScope sNeedGoal, [], []⟩
def dNeedHints : He.DefD := ⟨("need_hints", none), "need_hints", "need_hints", defArgs sNeedHints, defBody sNeedHints, defScope sNeedHints, [], []⟩
def dShowingFits : He.DefD := ⟨("showing_fits", none), "showing_fits", "showing_fits", defArgs sShowingFits, defBody sShowingFits, defScope sShowingFits, [], []⟩
def dShows : He.DefD := ⟨("shows", none), "shows", "shows", defArgs sShows, defBody sShows, defScope sShows, [], []⟩
def dIsShown : He.DefD := ⟨("is_shown", none), "is_shown", "is_shown", defArgs sIsShown, defBody sIsShown, defScope sIsShown, [], []⟩
def dLawWell : He.DefD := ⟨("_law_well", none), "_law_well", "_law_well", defArgs sLawWell, defBody sLawWell, defScope sLawWell, [], []⟩
def dLawDraw : He.DefD := ⟨("_law_draw", none), "_law_draw", "_law_draw", defArgs sLawDraw, defBody sLawDraw, defScope sLawDraw, [], []⟩
def dLawOne : He.DefD := ⟨("_law_one", none), "_law_one", "_law_one", defArgs sLawOne, defBody sLawOne, defScope sLawOne, [], []⟩
def dLawIsInt : He.DefD := ⟨("_law_is_int", none), "_law_is_int", "_law_is_int", defArgs sLawIsInt, defBody sLawIsInt, defScope sLawIsInt, [], []⟩
def dLawRest : He.DefD := ⟨("_law_rest", none), "_law_rest", "_law_rest", defArgs sLawRest, defBody sLawRest, defScope sLawRest, [], []⟩
def dLawShows : He.DefD := ⟨("_law_shows", none), "_law_shows", "_law_shows", defArgs sLawShows, defBody sLawShows, defScope sLawShows, [], []⟩
def dLawBy : He.DefD := ⟨("_law_by", none), "_law_by", "_law_by", defArgs sLawBy, defBody sLawBy, defScope sLawBy, [], []⟩
def dLawAtoms : He.DefD := ⟨("_law_atoms", none), "_law_atoms", "_law_atoms", defArgs sLawAtoms, defBody sLawAtoms, defScope sLawAtoms, [], []⟩
def dLawDrawnForm : He.DefD := ⟨("_law_drawn_form", none), "_law_drawn_form", "_law_drawn_form", defArgs sLawDrawnForm, defBody sLawDrawnForm, defScope sLawDrawnForm, [], []⟩
def dLawOrigin : He.DefD := ⟨("_law_origin", none), "_law_origin", "_law_origin", defArgs sLawOrigin, defBody sLawOrigin, defScope sLawOrigin, [], []⟩
def dLawSumOf : He.DefD := ⟨("_law_sum_of", none), "_law_sum_of", "_law_sum_of", defArgs sLawSumOf, defBody sLawSumOf, defScope sLawSumOf, [], []⟩
def dLawMade : He.DefD := ⟨("_law_made", none), "_law_made", "_law_made", defArgs sLawMade, defBody sLawMade, defScope sLawMade, [], []⟩
def dLawSpoilt : He.DefD := ⟨("_law_spoilt", none), "_law_spoilt", "_law_spoilt", defArgs sLawSpoilt, defBody sLawSpoilt, defScope sLawSpoilt, [], []⟩
def dLawLong : He.DefD := ⟨("_law_long", none), "_law_long", "_law_long", defArgs sLawLong, defBody sLawLong, defScope sLawLong, [], []⟩
def dLawError : He.DefD := ⟨("_law_error", none), "_law_error", "_law_error", defArgs sLawError, defBody sLawError, defScope sLawError, [], []⟩
def dLawErrorsRight : He.DefD := ⟨("_law_errors_right", none), "_law_errors_right", "_law_errors_right", defArgs sLawErrorsRight, defBody sLawErrorsRight, defScope sLawErrorsRight, [], []⟩
def dLaw : He.DefD := ⟨("law", none), "law", "law", defArgs sLaw, defBody sLaw, defScope sLaw, [], []⟩
def fn : List He.DefD := [dIsInt, dWithin, dSummed, dIsAtom, dIsForm, dIsFloor, dIsOrigin, dIsHint, dNeedNever, dNeedGoal, dNeedHints, dShowingFits, dShows, dIsShown, dLawWell, dLawDraw, dLawOne, dLawIsInt, dLawRest, dLawShows, dLawBy, dLawAtoms, dLawDrawnForm, dLawOrigin, dLawSumOf, dLawMade, dLawSpoilt, dLawLong, dLawError, dLawErrorsRight, dLaw]
def fa0 : List He.Fa := [.glo "is_int", .glo "within", .glo "summed", .glo "is_atom", .glo "is_form", .glo "is_floor", .glo "is_origin", .glo "is_hint", .glo "need_never", .glo "need_goal", .glo "need_hints", .glo "showing_fits", .glo "shows", .glo "is_shown", .glo "_law_well", .glo "_law_draw", .glo "_law_one", .glo "_law_is_int", .glo "_law_rest", .glo "_law_shows", .glo "_law_by", .glo "_law_atoms", .glo "_law_drawn_form", .glo "_law_origin", .glo "_law_sum_of"]
def fa1 : List He.Fa := [.glo "_law_made", .glo "_law_spoilt", .glo "_law_long", .glo "_law_error", .glo "_law_errors_right", .glo "law", .glo "PaidError", .glo "BadNever", .glo "BadGoal", .glo "BadHints", .free "abs", .free "all", .free "bool", .free "int", .free "isinstance", .free "len", .free "list", .free "min", .free "range", .free "sorted", .free "tuple", .free "zip", .int "LAST_ROW" 239, .int "LAST_VARIABLE" 399, .int "LAST_NUMBER" 12]
def fa2 : List He.Fa := [.int "LAST_CLAIM" 29, .int "LAST_SUM" 3, .int "MOST_HINTS" 8000, .exc "PaidError", .exc "BadNever", .exc "BadGoal", .exc "BadHints", .exm "PaidError" "PaidError" true, .exm "PaidError" "BadNever" false, .exm "PaidError" "BadGoal" false, .exm "PaidError" "BadHints" false, .exm "BadNever" "PaidError" true, .exm "BadNever" "BadNever" true, .exm "BadNever" "BadGoal" false, .exm "BadNever" "BadHints" false, .exm "BadGoal" "PaidError" true, .exm "BadGoal" "BadNever" false, .exm "BadGoal" "BadGoal" true, .exm "BadGoal" "BadHints" false, .exm "BadHints" "PaidError" true, .exm "BadHints" "BadNever" false, .exm "BadHints" "BadGoal" false, .exm "BadHints" "BadHints" true]
def fa : List He.Fa := fa0 ++ (fa1 ++ (fa2))
abbrev R : PySem.W.OpenRow := PySem.W.OpenLaw.row PySem.Challenge.rw_cellspaid_k60_showings_judged
def names : List PySem.Str := (["PaidError", "BadNever", "BadGoal", "BadHints", "is_int", "within", "LAST_ROW", "LAST_VARIABLE", "LAST_NUMBER", "LAST_CLAIM", "LAST_SUM", "MOST_HINTS", "summed", "is_atom", "is_form", "is_floor", "is_origin", "is_hint", "need_never", "need_goal", "need_hints", "showing_fits", "shows", "is_shown", "_law_well", "_law_draw", "_law_one", "_law_is_int", "_law_rest", "_law_shows"] : List PySem.Str) ++ (["_law_by", "_law_atoms", "_law_drawn_form", "_law_origin", "_law_sum_of", "_law_made", "_law_spoilt", "_law_long", "_law_error", "_law_errors_right"] : List PySem.Str)
abbrev hk : PySem.W.Hook := He.hookD 5 fa fn
def ob (s : PySem.W.SharedT) : He.AlD := He.obsDG 5 fa fn (HandSHeadRun.getT s)
theorem ob_eq (s : PySem.W.SharedT) : ob s = hk.obs s.abs := He.obsDG_eq (HandSHeadRun.getT_eq s)
theorem run (w : World) : HandSHeadRun.RunEq R (PySem.W.view R.prog [45]) hk ob 6000 names w := by
  intro os
  kernel_rfl
end K60
namespace K60
open PySem PySem.Spec PyProof.Rows L2
theorem fun_of {K : PySem.W.Frag} {x : Str} {st : Stmt} {f : Addr} {fd : FuncData} (F : FunD K x x (defArgs st) (defBody st) (defScope st) [] [] f fd) : Fun K x x st f fd := by
  obtain ⟨oc, od, dV, kV, doc, pm, an, cdv, ct, osl, rfl, lk, hcd, hD, hK⟩ := F.ex
  rcases hD with ⟨_, rfl⟩ | ⟨e, _⟩
  · exact ⟨⟨oc, od, kV, doc, pm, an, cdv, ct, osl, rfl, lk, hcd⟩, F.kp⟩
  · exact absurd rfl e
section
variable {P : Program} {w : World} {K : PySem.W.Frag} {h : Heap} {mg : Str → Option Value}
theorem has_of (X : K.In h) (G : h.Ns mainGlobals mg) {x : Str} {st : Stmt} {n m : Nat} (c : He.SaysD fa fn K) (e1 : fn[n]? = some ⟨(x, none), x, x, defArgs st, defBody st, defScope st, [], []⟩) (e2 : fa[m]? = some (.glo x)) : Has K mg x st := by
  obtain ⟨fd, F⟩ := c.def_ n e1
  exact ⟨_, fd, He.glo_ok X G (c.fact m e2), fun_of F⟩
theorem erC_of (X : K.In h) (G : h.Ns mainGlobals mg) {x : Str} {n m : Nat} (c : He.SaysD fa fn K) (e1 : fa[n]? = some (.glo x)) (e2 : fa[m]? = some (.exc x)) : ErC K mg x (He.ga K x) := by
  obtain ⟨h1, h2, h3, h4⟩ := He.exc_ok (c.fact m e2)
  exact ⟨h1, He.glo_ok X G (c.fact n e1), h2, h3, h4⟩
theorem glo_of (X : K.In h) (G : h.Ns mainGlobals mg) (c : He.SaysD fa fn K) : Glo mg where
  abs := He.free_ok X G (c.fact 35 (f := .free "abs") rfl)
  all := He.free_ok X G (c.fact 36 (f := .free "all") rfl)
  bool := He.free_ok X G (c.fact 37 (f := .free "bool") rfl)
  int := He.free_ok X G (c.fact 38 (f := .free "int") rfl)
  isinstance := He.free_ok X G (c.fact 39 (f := .free "isinstance") rfl)
  len := He.free_ok X G (c.fact 40 (f := .free "len") rfl)
  list := He.free_ok X G (c.fact 41 (f := .free "list") rfl)
  min := He.free_ok X G (c.fact 42 (f := .free "min") rfl)
  range := He.free_ok X G (c.fact 43 (f := .free "range") rfl)
  sorted := He.free_ok X G (c.fact 44 (f := .free "sorted") rfl)
  tuple := He.free_ok X G (c.fact 45 (f := .free "tuple") rfl)
  zip := He.free_ok X G (c.fact 46 (f := .free "zip") rfl)
  LAST_ROW := He.int_ok X G (c.fact 47 (f := .int "LAST_ROW" 239) rfl)
  LAST_VARIABLE := He.int_ok X G (c.fact 48 (f := .int "LAST_VARIABLE" 399) rfl)
  LAST_NUMBER := He.int_ok X G (c.fact 49 (f := .int "LAST_NUMBER" 12) rfl)
  LAST_CLAIM := He.int_ok X G (c.fact 50 (f := .int "LAST_CLAIM" 29) rfl)
  LAST_SUM := He.int_ok X G (c.fact 51 (f := .int "LAST_SUM" 3) rfl)
  MOST_HINTS := He.int_ok X G (c.fact 52 (f := .int "MOST_HINTS" 8000) rfl)
theorem facts {f : Addr} (X : K.In h) (G : h.Ns mainGlobals mg) (hfa : mg ("law" : Str) = some (.ref f)) (c : He.SaysD fa fn K) :
    ∃ fd : FuncData, (∀ (s : Shared) (v : Value), BindsTo s fd ⟨[v], []⟩ [("script", v)]) ∧ ∀ base : Heap, K.In base → base.Ns mainGlobals mg → FnOk P w K mg base CX0 10 f fd ["script"] (spLaw K) := by
  obtain ⟨fd, F⟩ := c.def_ 30 (d := dLaw) rfl
  have e := hfa.symm.trans (He.glo_ok X G (c.fact 30 (f := .glo "law") rfl))
  cases e
  have b := FunD.bindsA (ps := ["script"]) F fun _ _ _ _ _ _ us hl => match us, hl with | [_], _ => rfl
  refine ⟨fd, fun s v => b s [v] rfl, fun base _ _ => ?_⟩
  have T := glo_of X G c
  have eN := erC_of (x := "BadNever") X G c (n := 32) (m := 54) rfl rfl
  have eG := erC_of (x := "BadGoal") X G c (n := 33) (m := 55) rfl rfl
  have eH := erC_of (x := "BadHints") X G c (n := 34) (m := 56) rfl rfl
  have eP := erC_of (x := "PaidError") X G c (n := 31) (m := 53) rfl rfl
  have Z : ExF K (He.ga K "BadNever") (He.ga K "BadGoal") (He.ga K "BadHints") := ⟨He.exm_ok (c.fact 62 (f := .exm "BadNever" "BadNever" true) rfl), He.exm_ok (c.fact 66 (f := .exm "BadGoal" "BadNever" false) rfl), He.exm_ok (c.fact 67 (f := .exm "BadGoal" "BadGoal" true) rfl), He.exm_ok (c.fact 70 (f := .exm "BadHints" "BadNever" false) rfl), He.exm_ok (c.fact 71 (f := .exm "BadHints" "BadGoal" false) rfl), He.exm_ok (c.fact 72 (f := .exm "BadHints" "BadHints" true) rfl)⟩
  have c_IsInt := cl_is_int (P := P) (w := w) (base := base) T (has_of (x := "is_int") (st := sIsInt) X G c (n := 0) (m := 0) rfl rfl)
  have c_Within := cl_within (P := P) (w := w) (base := base) T (has_of (x := "within") (st := sWithin) X G c (n := 1) (m := 1) rfl rfl) c_IsInt
  have c_IsAtom := cl_is_atom (P := P) (w := w) (base := base) T (has_of (x := "is_atom") (st := sIsAtom) X G c (n := 3) (m := 3) rfl rfl) c_Within
  have c_IsForm := cl_is_form (P := P) (w := w) (base := base) T (has_of (x := "is_form") (st := sIsForm) X G c (n := 4) (m := 4) rfl rfl) c_IsInt c_IsAtom
  have c_IsOrigin := cl_is_origin (P := P) (w := w) (base := base) T (has_of (x := "is_origin") (st := sIsOrigin) X G c (n := 6) (m := 6) rfl rfl) c_Within
  have c_IsHint := cl_is_hint (P := P) (w := w) (base := base) T (has_of (x := "is_hint") (st := sIsHint) X G c (n := 7) (m := 7) rfl rfl) c_IsForm c_IsOrigin
  have c_IsFloor := cl_is_floor (P := P) (w := w) (base := base) T (has_of (x := "is_floor") (st := sIsFloor) X G c (n := 5) (m := 5) rfl rfl)
  have c_Summed := cl_summed (P := P) (w := w) (base := base) T (has_of (x := "summed") (st := sSummed) X G c (n := 2) (m := 2) rfl rfl)
  have c_NeedNever := cl_need_never (P := P) (w := w) (base := base) T (has_of (x := "need_never") (st := sNeedNever) X G c (n := 8) (m := 8) rfl rfl) eN c_Within
  have c_NeedGoal := cl_need_goal (P := P) (w := w) (base := base) T (has_of (x := "need_goal") (st := sNeedGoal) X G c (n := 9) (m := 9) rfl rfl) eG c_IsForm
  have c_NeedHints := cl_need_hints (P := P) (w := w) (base := base) T (has_of (x := "need_hints") (st := sNeedHints) X G c (n := 10) (m := 10) rfl rfl) eH c_IsHint
  have c_ShowingFits := cl_showing_fits (P := P) (w := w) (base := base) T (has_of (x := "showing_fits") (st := sShowingFits) X G c (n := 11) (m := 11) rfl rfl) c_IsInt
  have c_Shows := cl_shows (P := P) (w := w) (base := base) T (has_of (x := "shows") (st := sShows) X G c (n := 12) (m := 12) rfl rfl) c_ShowingFits c_Summed c_IsFloor
  have c_IsShown := cl_is_shown (P := P) (w := w) (base := base) T (has_of (x := "is_shown") (st := sIsShown) X G c (n := 13) (m := 13) rfl rfl) c_NeedNever c_NeedGoal c_NeedHints c_Shows
  have c_LawWell := cl_law_well (P := P) (w := w) (base := base) T (has_of (x := "_law_well") (st := sLawWell) X G c (n := 14) (m := 14) rfl rfl)
  have c_LawDraw := cl_law_draw (P := P) (w := w) (base := base) T (has_of (x := "_law_draw") (st := sLawDraw) X G c (n := 15) (m := 15) rfl rfl)
  have c_LawOne := cl_law_one (P := P) (w := w) (base := base) T (has_of (x := "_law_one") (st := sLawOne) X G c (n := 16) (m := 16) rfl rfl) c_LawDraw
  have c_LawIsInt := cl_law_is_int (P := P) (w := w) (base := base) T (has_of (x := "_law_is_int") (st := sLawIsInt) X G c (n := 17) (m := 17) rfl rfl)
  have c_LawRest := cl_law_rest (P := P) (w := w) (base := base) T (has_of (x := "_law_rest") (st := sLawRest) X G c (n := 18) (m := 18) rfl rfl)
  have c_LawShows := cl_law_shows (P := P) (w := w) (base := base) T (has_of (x := "_law_shows") (st := sLawShows) X G c (n := 19) (m := 19) rfl rfl) c_LawIsInt c_LawRest
  have c_LawBy := cl_law_by (P := P) (w := w) (base := base) T (has_of (x := "_law_by") (st := sLawBy) X G c (n := 20) (m := 20) rfl rfl) c_LawDraw
  have c_LawAtoms := cl_law_atoms (P := P) (w := w) (base := base) T (has_of (x := "_law_atoms") (st := sLawAtoms) X G c (n := 21) (m := 21) rfl rfl) c_LawDraw c_LawOne
  have c_LawDrawnForm := cl_law_drawn_form (P := P) (w := w) (base := base) T (has_of (x := "_law_drawn_form") (st := sLawDrawnForm) X G c (n := 22) (m := 22) rfl rfl) c_LawDraw c_LawBy
  have c_LawOrigin := cl_law_origin (P := P) (w := w) (base := base) T (has_of (x := "_law_origin") (st := sLawOrigin) X G c (n := 23) (m := 23) rfl rfl) c_LawDraw
  have c_LawSumOf := cl_law_sum_of (P := P) (w := w) (base := base) T (has_of (x := "_law_sum_of") (st := sLawSumOf) X G c (n := 24) (m := 24) rfl rfl)
  have c_LawMade := cl_law_made (P := P) (w := w) (base := base) T (has_of (x := "_law_made") (st := sLawMade) X G c (n := 25) (m := 25) rfl rfl) c_LawDraw c_LawBy c_LawOrigin c_LawSumOf c_LawRest c_LawDrawnForm
  have c_LawSpoilt := cl_law_spoilt (P := P) (w := w) (base := base) T (has_of (x := "_law_spoilt") (st := sLawSpoilt) X G c (n := 26) (m := 26) rfl rfl) c_LawDraw c_LawBy
  have c_LawLong := cl_law_long (P := P) (w := w) (base := base) T (has_of (x := "_law_long") (st := sLawLong) X G c (n := 27) (m := 27) rfl rfl) c_LawDraw c_IsShown
  have c_LawError := cl_law_error (P := P) (w := w) (base := base) T (has_of (x := "_law_error") (st := sLawError) X G c (n := 28) (m := 28) rfl rfl) eN eG eH eP Z c_IsShown
  have c_LawErrorsRight := cl_law_errors_right (P := P) (w := w) (base := base) T (has_of (x := "_law_errors_right") (st := sLawErrorsRight) X G c (n := 29) (m := 29) rfl rfl) c_LawDraw c_LawOne c_LawError
  exact ok_law T (fun_of F) c_LawDraw c_LawWell c_LawAtoms c_LawMade c_IsShown c_LawSpoilt c_LawShows c_LawLong c_LawErrorsRight
end
end K60
set_option maxHeartbeats 0
open PySem PySem.W PySem.Calls PyProof.Rows
theorem PySem.Challenge.cw_cellspaid_k60_showings_judged_holds : PySem.Challenge.rw_cellspaid_k60_showings_judged.Holds := by
  w_on; o_law
  refine HandSHeadRun.head_any (r := K60.R) (q := view K60.R.prog [45]) (H := K60.hk) (ob := K60.ob) (M := 6000)
    (loose := K60.names) (d := HandSHeadRun.topDef K60.R.prog 45) (kwd := []) K60.ob_eq
    (by kernel_rfl) (fun s => by kernel_rfl) K60.run (by kernel_rfl) (by kernel_rfl) (by kernel_rfl) (by rfl)
    (by first | assumption | decide +kernel) (by decide +kernel) ⟨rfl, rfl, rfl, rfl, rfl, by decide +kernel⟩ ?hw ?hc
  case hw => w_witness2
  case hc =>
    refine L2.walk_ofE (l := PySem.Challenge.rw_cellspaid_k60_showings_judged) (n := 63) (k := 10) (x := "script")
      (CX := L2.CX0) rfl (by decide) (by kernel_rfl) ⟨rfl, by decide, by decide⟩ ?F (fun _ _ _ _ z => z)
    intro w mg la h says G name
    obtain ⟨K, here, facts⟩ := says
    have at_ : mg ("law" : PySem.Str) = some (.ref la) := by
      have e : (HandSHeadRun.topDef K60.R.prog 45).name = ("law" : PySem.Str) := by kernel_rfl
      rw [← e]
      exact name
    obtain ⟨fd, binds, ok⟩ := K60.facts (P := K60.R.prog) (w := w) here G at_ facts
    refine ⟨K, fd, K60.spLaw K, here, binds, fun H a ns short _ list => ⟨a, ns, rfl, list, short, fun _ => rfl⟩, ok⟩
