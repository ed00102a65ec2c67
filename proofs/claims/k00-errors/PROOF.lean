import PyProof.Rows.All
import Wide.All
import OpenK.AllK
import Wide.FinOn
import HandS.ForMost
import HandS.Wide
import HandS.Evl
import HandS.Steps
import HandS.IsInst
import PySem.Challenge.RW_cellspaid_k00_errors
import KE.KExcSuper
import KE.KExcIs
import HandS.ForExc
import PyProof.EqAt
import PyProof.EqKinds
import PyProof.TupleCall
import HandS.ExcSuper
import HandS.ExcInit
import HandS.ExcValue
import HandS.ExcIs
set_option Elab.async false
set_option linter.all false
set_option maxRecDepth 100000
set_option maxHeartbeats 2000000
/-! Steps of readings, one lemma a construct: applied backwards. -/
namespace Gk
open PySem L2
theorem cutS_le (a : Str) (lo hi : Option Int) : (cutS a lo hi).length ≤ a.length := by
  have h : (cutS a lo hi).length = ((a.cps.toList.drop (HT.sIx a.length 0 lo)).take (HT.sIx a.length a.length hi - HT.sIx a.length 0 lo)).length := by
    simp [cutS, Str.length]
  rw [h]
  have h2 : a.length = a.cps.toList.length := by simp [Str.length]
  rw [h2]
  exact Nat.le_trans (List.length_take_le' _ _) (by rw [List.length_drop]; omega)
def rAbs : List V → Hp → VK → Prop := fun xs H Q => ∃ i, xs = [.int i] ∧ Q (.int (if i < 0 then -i else i)) H
theorem cAbs {X : Cx} : CallR X (.builtin "abs") rAbs := call_abs
def rInt1 : List V → Hp → VK → Prop := fun xs H Q => (∃ i, xs = [.int i] ∧ Q (.int i) H) ∨ ∃ k, xs = [.bl k] ∧ Q (.int (if k then 1 else 0)) H
theorem cInt1 {X : Cx} : CallR X (.type "int") rInt1 := call_int1
def rLen (K : PySem.W.Frag) : List V → Hp → VK → Prop := fun xs H Q => ∃ p ys, xs = [.ref p] ∧ (SqL K H p ys ∨ SqT K H p ys) ∧ Q (.int ys.length) H
theorem cLen {X : Cx} : CallR X (.builtin "len") (rLen X.K) := call_len_seq
def rListOf (K : PySem.W.Frag) : List V → Hp → VK → Prop := fun xs H Q => ∃ p ys, xs = [.ref p] ∧ (SqL K H p ys ∨ SqT K H p ys) ∧ ∀ l, H l = none → Q (.ref l) (upd H l (.lst ys))
theorem cListOf {X : Cx} : CallR X (.type "list") (rListOf X.K) := call_list_of
def rAddT : R2 := fun x y H Q => ∃ i j, x = .str i ∧ y = .str j ∧ i.length + j.length ≤ sizeLine ∧ Q (.str (i ++ j)) H
theorem oAddT {X : Cx} : OpR X (binaryOp .Add) rAddT := op_add_str
def rStrI : List V → Hp → VK → Prop := fun xs H Q => ∃ i, xs = [.int i] ∧ i.natAbs.log2 < 1920 ∧ Q (.str (toString i)) H
theorem cStrI {X : Cx} : CallR X (.type "str") rStrI := call_str_int
/-! ### the rules with the written part named -/
section
variable {X : Cx}
theorem eIxL (K : PySem.W.Frag) (h : X.K = K := by rfl) : IxR X (rIxL K) := h ▸ ix_list
theorem eIxT (K : PySem.W.Frag) (h : X.K = K := by rfl) : IxR X (rIxT K) := h ▸ ix_tup
theorem eIn (K : PySem.W.Frag) (h : X.K = K := by rfl) : OpR X (compareOp .In) (rIn K false) := h ▸ op_in_seq
theorem eNotIn (K : PySem.W.Frag) (h : X.K = K := by rfl) : OpR X (compareOp .NotIn) (rIn K true) := h ▸ op_notIn_seq
theorem eLen (K : PySem.W.Frag) (h : X.K = K := by rfl) : CallR X (.builtin "len") (rLen K) := h ▸ cLen
theorem eListOf (K : PySem.W.Frag) (h : X.K = K := by rfl) : CallR X (.type "list") (rListOf K) := h ▸ cListOf
theorem eIsi (K : PySem.W.Frag) (h : X.K = K := by rfl) : CallR X (.builtin "isinstance") (rIsi K) := h ▸ call_isi
theorem eEqD (K : PySem.W.Frag) (hu : X.A.units + 64 < cLine) (h : X.K = K := by rfl) : OpR X (compareOp .Eq) (rEqD K) := h ▸ op_eqD hu
theorem eNeD (K : PySem.W.Frag) (hu : X.A.units + 64 < cLine) (h : X.K = K := by rfl) : OpR X (compareOp .NotEq) (rNeD K) := h ▸ op_neD hu
theorem eSlL (K : PySem.W.Frag) (h : X.K = K := by rfl) : SlR X (rSlL K) := h ▸ sl_list
theorem eSlT (K : PySem.W.Frag) (h : X.K = K := by rfl) : SlR X (rSlT K) := h ▸ sl_tup
theorem ePiL (K : PySem.W.Frag) {tg l : Expr} {tl : TE} (hl : PE X l tl) (h : X.K = K := by rfl) : PI X tg l (iList K tl) := h ▸ pi_list hl
theorem ePiT (K : PySem.W.Frag) {tg l : Expr} {tl : TE} (hl : PE X l tl) (h : X.K = K := by rfl) : PI X tg l (iTup K tl) := h ▸ pi_tup hl
theorem ePgT (K : PySem.W.Frag) {es : List Expr} {k : Nat} {t : TGs} {n : Nat} {pos : Pos} (hc : X.calm = true) (hp : PGs X es t) (h : X.K = K := by rfl)
    (hn : (assignEach es X.env).length = n := by rfl) (hst : (assignEach es X.env).findIdx? (·.1) = none := by rfl) : PG X (.Tuple es k pos) (gTup K n t) := h ▸ pg_tup hc hp hn hst
theorem eBm (K : PySem.W.Frag) {T name id : String} {r : V → List V → Hp → VK → Prop} {o e : Expr} {es : List Expr} {to : TE} {t : TA} {apos cpos : Pos} (pa : PlainAttrs T) (slot : Slot T name id) (hty : typeOf (.builtin id) = pure (.type "method_descriptor")) (hm : MtR X id r) (ho : PE X o to) (ha : PA X (e :: es) t) (h : X.K = K := by rfl)
    (hbase : attributeBase o name X.env (eval o X.env) = eval o X.env := by rfl)
    (hfew : ((backTo cpos (starEach (e :: es) X.env)).all (fun x => !x.1) && (backToKw cpos (keywordEach [] X.env)).all (fun x => x.1.isSome)
      && decide ((e :: es).length + ([] : List Keyword).length + (if ([] : List Keyword).isEmpty then 0 else 1) < 30)) = true := by rfl)
    (hline : (apos.endLine == cpos.line) = true := by rfl) (hs : starEach (e :: es) X.env = (false, eval e X.env) :: starEach es X.env := by rfl) (hplain : (backTo cpos (starEach es X.env)).any (·.1) = false := by rfl) :
    PE X (.Call (.Attribute o name apos) (e :: es) [] cpos) (tBM K T r to t) := h ▸ pe_bm pa slot hty hm ho ha hbase hfew hline hs hplain
theorem eBm0 (K : PySem.W.Frag) {T name id : String} {r : V → List V → Hp → VK → Prop} {o : Expr} {to : TE} {apos cpos : Pos} (pa : PlainAttrs T) (slot : Slot T name id) (hty : typeOf (.builtin id) = pure (.type "method_descriptor")) (hm : MtR X id r) (ho : PE X o to) (h : X.K = K := by rfl)
    (hbase : attributeBase o name X.env (eval o X.env) = eval o X.env := by rfl) (hline : (apos.endLine == cpos.line) = true := by rfl) : PE X (.Call (.Attribute o name apos) [] [] cpos) (tBM0 K T r to) := h ▸ pe_bm0 pa slot hty hm ho hbase hline
end
theorem iteQ {b : Bool} {A B : Prop} (h1 : b = true → A) (h2 : b = false → B) : if b = true then A else B := by
  cases b with
  | true => exact h1 rfl
  | false => exact h2 rfl
theorem iteT {b : Bool} {A B : Prop} (h : b = true) (k : A) : if b = true then A else B := by rw [if_pos h]; exact k
theorem iteF {b : Bool} {A B : Prop} (h : b = false) (k : B) : if b = true then A else B := by rw [h, if_neg Bool.false_ne_true]; exact k
section
variable {K : PySem.W.Frag} {σ : L2.St} {H : Hp} {D : Ends} {ta tb te : TE} {tt tu : TT} {ts tr : TS} {Q : VK} {QB : Bool → Hp → Prop} {QA : List V → Hp → Prop} {QS : L2.St → Hp → Prop}
theorem var {i : Nat} {v : V} (h : σ[i]? = some (some v)) (k : Q v H) : tVar i σ H Q := ⟨v, h, k⟩
theorem con {v : V} (k : Q v H) : tC v σ H Q := k
theorem op {r : R2} (k : ta σ H fun x H1 => tb σ H1 fun y H2 => r x y H2 Q) : tOp r ta tb σ H Q := k
theorem un {r : V → Hp → VK → Prop} (k : ta σ H fun x H1 => r x H1 Q) : tUn r ta σ H Q := k
theorem i0 {g : Int → Int → V} {i j : Int} (k : Q (g i j) H) : rI0 g (.int i) (.int j) H Q := ⟨i, j, rfl, rfl, k⟩
theorem i1 {C : Int → Int → Prop} {g : Int → Int → V} {i j : Int} (c : C i j) (k : Q (g i j) H) : rI C g (.int i) (.int j) H Q := ⟨i, j, rfl, rfl, c, k⟩
theorem u1 {g : Int → V} {i : Int} (k : Q (g i) H) : rU g (.int i) H Q := ⟨i, rfl, k⟩
theorem eqv {x y : V} (h : scal x y = true) (k : Q (.bl (decide (x = y))) H) : rEq x y H Q := ⟨h, k⟩
theorem nev {x y : V} (h : scal x y = true) (k : Q (.bl (!decide (x = y))) H) : rNe x y H Q := ⟨h, k⟩
theorem test (k : te σ H fun x H' => ∃ b, x = .bl b ∧ QB b H') : tTest te σ H QB := k
theorem asB (k : te σ H fun x H' => ∃ b, x = .bl b ∧ QB b H') : tB te σ H QB := k
theorem testB {b : Bool} {QP : Bool → Prop} (k : QP b) : ∃ c, V.bl b = V.bl c ∧ QP c := ⟨b, rfl, k⟩
theorem ixL {p : Addr} {xs : List V} {i : Int} {v : V} (h : SqL K H p xs) (a : atI xs i = some v) (k : Q v H) : rIxL K (.ref p) (.int i) H Q := ⟨p, xs, i, v, rfl, rfl, h, a, k⟩
theorem ixT {p : Addr} {xs : List V} {i : Int} {v : V} (h : SqT K H p xs) (a : atI xs i = some v) (k : Q v H) : rIxT K (.ref p) (.int i) H Q := ⟨p, xs, i, v, rfl, rfl, h, a, k⟩
theorem ixS {z : Str} {i : Int} {c : Nat} (h : z.length ≤ sizeLine) (a : atI z.cps.toList i = some c) (k : Q (.str ⟨#[c]⟩) H) : rIxS (.str z) (.int i) H Q := ⟨z, i, c, rfl, rfl, h, a, k⟩
theorem aNil (k : QA [] H) : tNil σ H QA := k
theorem aCons {tr : TA} (k : ta σ H fun x H1 => tr σ H1 fun xs H2 => QA (x :: xs) H2) : tCons ta tr σ H QA := k
theorem cb {r : List V → Hp → VK → Prop} {t : TA} (k : t σ H fun vs H1 => r vs H1 Q) : tCB r t σ H Q := k
theorem call {sp : Sp} {dvs : List V} {E : XK} {t : TA} (k : t σ H fun vs H1 => sp (vs ++ dvs) H1 Q E) : tCall sp dvs E t σ H Q := k
theorem tup {t : TA} (k : t σ H fun xs H1 => xs.length ≤ sizeLine ∧ ∀ p, H1 p = none → Q (.ref p) (upd H1 p (.tup xs))) : tTup t σ H Q := k
theorem lst {t : TA} (k : t σ H fun xs H1 => xs.length ≤ sizeLine ∧ ∀ p, H1 p = none → Q (.ref p) (upd H1 p (.lst xs))) : tLst t σ H Q := k
theorem ifE (k : tt σ H fun c H1 => if c = true then ta σ H1 Q else tb σ H1 Q) : tIf tt ta tb σ H Q := k
theorem ifS (k : tt σ H fun b H1 => if b = true then ts D σ H1 else tr D σ H1) : tIfS tt ts tr D σ H := k
theorem seq (k : ts { D with nx := tr D } σ H) : tSeq ts tr D σ H := k
theorem next (k : D.nx σ H) : tNext D σ H := k
theorem asg {g : TG} (k : te σ H fun x H1 => g x σ H1 D.nx) : tAsg te g D σ H := k
theorem gname {i : Nat} {v : V} {σ' : L2.St} (e : σ.set i (some v) = σ') (k : QS σ' H) : gName i v σ H QS := by
  show QS (σ.set i (some v)) H
  rw [e]
  exact k
theorem gsub {to ti : TE} {t : TSet} {v : V} (k : to σ H fun o H1 => ti σ H1 fun i H2 => t o i v H2 fun H3 => QS σ H3) : gSub to ti t v σ H QS := k
theorem setL {p : Addr} {xs : List V} {n : Int} {j : Nat} {v : V} {QH : Hp → Prop} (h : H p = some (.lst xs)) (e : ixN xs.length n = some j) (k : QH (upd H p (.lst (xs.set j v)))) : rSetL (.ref p) (.int n) v H QH := ⟨p, xs, n, j, rfl, rfl, h, e, k⟩
theorem ret (k : te σ H D.rt) : tRet te D σ H := k
theorem drop (k : te σ H fun _ H1 => D.nx σ H1) : tDrop te D σ H := k
theorem par {i j : Nat} {t : TA} (k : t σ H fun vs H1 => ∃ v w, vs = [v, w] ∧ D.nx ((σ.set i (some v)).set j (some w)) H1) : tPar i j t D σ H := k
theorem andT (k : tt σ H fun b H1 => if b = true then tu σ H1 QB else QB false H1) : tAnd tt tu σ H QB := k
theorem orT (k : tt σ H fun b H1 => if b = true then QB true H1 else tu σ H1 QB) : tOr tt tu σ H QB := k
theorem notT (k : tt σ H fun b H1 => QB (!b) H1) : tNot tt σ H QB := k
theorem abs {i : Int} (k : Q (.int (if i < 0 then -i else i)) H) : rAbs [.int i] H Q := ⟨i, rfl, k⟩
theorem intI {i : Int} (k : Q (.int i) H) : rInt1 [.int i] H Q := .inl ⟨i, rfl, k⟩
theorem intB {b : Bool} (k : Q (.int (if b then 1 else 0)) H) : rInt1 [.bl b] H Q := .inr ⟨b, rfl, k⟩
theorem lenL {p : Addr} {ys : List V} (h : SqL K H p ys) (k : Q (.int ys.length) H) : rLen K [.ref p] H Q := ⟨p, ys, rfl, .inl h, k⟩
theorem lenT {p : Addr} {ys : List V} (h : SqT K H p ys) (k : Q (.int ys.length) H) : rLen K [.ref p] H Q := ⟨p, ys, rfl, .inr h, k⟩
theorem listOf {p : Addr} {ys : List V} (h : SqL K H p ys) (k : ∀ l, H l = none → Q (.ref l) (upd H l (.lst ys))) : rListOf K [.ref p] H Q := ⟨p, ys, rfl, .inl h, k⟩
theorem listOfT {p : Addr} {ys : List V} (h : SqT K H p ys) (k : ∀ l, H l = none → Q (.ref l) (upd H l (.lst ys))) : rListOf K [.ref p] H Q := ⟨p, ys, rfl, .inr h, k⟩
theorem addT {i j : Str} (h : i.length + j.length ≤ sizeLine) (k : Q (.str (i ++ j)) H) : rAddT (.str i) (.str j) H Q := ⟨i, j, rfl, rfl, h, k⟩
theorem strI {i : Int} (h : i.natAbs.log2 < 1920) (k : Q (.str (toString i)) H) : rStrI [.int i] H Q := ⟨i, rfl, h, k⟩
theorem inL {neg : Bool} {x : V} {p : Addr} {xs : List V} (h : SqL K H p xs) (f1 : flatV x = true) (f2 : xs.all flatV = true) (k : Q (.bl (if neg then !inV x xs else inV x xs)) H) : rIn K neg x (.ref p) H Q := ⟨p, xs, rfl, .inl h, f1, f2, k⟩
theorem inT {neg : Bool} {x : V} {p : Addr} {xs : List V} (h : SqT K H p xs) (f1 : flatV x = true) (f2 : xs.all flatV = true) (k : Q (.bl (if neg then !inV x xs else inV x xs)) H) : rIn K neg x (.ref p) H Q := ⟨p, xs, rfl, .inr h, f1, f2, k⟩
theorem app {l : Addr} {xs : List V} {y : V} (h : H l = some (.lst xs)) (z : xs.length < sizeLine) (k : Q .non (upd H l (.lst (xs ++ [y])))) : rAppend (.ref l) [y] H Q := ⟨l, xs, y, rfl, rfl, h, z, k⟩
theorem bm {T : String} {r : V → List V → Hp → VK → Prop} {to : TE} {t : TA} (k : to σ H fun x H1 => tyV K T x H1 ∧ t σ H1 fun vs H2 => r x vs H2 Q) : tBM K T r to t σ H Q := k
theorem tyL {l : Addr} {xs : List V} {A : Prop} (h : H l = some (.lst xs)) (k : A) : tyV K "list" (.ref l) H ∧ A := ⟨.inl ⟨rfl, xs, .inl (.inl h)⟩, k⟩
theorem gtup {a : Addr} {n : Nat} {t : TGs} {xs : List V} (h : SqT K H a xs) (e : xs.length = n) (k : t xs σ H QS) : gTup K n t (.ref a) σ H QS := ⟨a, xs, rfl, h, e, k⟩
theorem gcons {t : TG} {u : TGs} {v : V} {r : List V} (k : t v σ H fun σ' H' => u r σ' H' QS) : gCons t u (v :: r) σ H QS := ⟨v, r, rfl, k⟩
theorem gnil (k : QS σ H) : gNil [] σ H QS := ⟨rfl, k⟩
theorem sl {r : V → Option Int → Option Int → Hp → VK → Prop} {tl th : TO} (k : ta σ H fun x H1 => tl σ H1 fun l H2 => th σ H2 fun u H3 => r x l u H3 Q) : tSl r ta tl th σ H Q := k
theorem noPart {QO : Option Int → Hp → Prop} (k : QO none H) : tNoPart σ H QO := k
theorem part {QO : Option Int → Hp → Prop} (k : ta σ H fun x H1 => ∃ i, x = .int i ∧ QO (some i) H1) : tPart ta σ H QO := k
theorem partI {i : Int} {QP : Int → Prop} (k : QP i) : ∃ j, V.int i = .int j ∧ QP j := ⟨i, rfl, k⟩
theorem slS {z : Str} {lo hi : Option Int} (h : z.length ≤ sizeLine) (k : Q (.str (cutS z lo hi)) H) : rSlS (.str z) lo hi H Q := ⟨z, rfl, h, k⟩
theorem forS {wi : TI} {g : TG} (k : wi σ H fun J H1 => ∃ W : Nat → Nat → L2.St → Hp → Prop, (∃ m, W 0 m σ H1) ∧ ∀ i m σ H, W i m σ H →
  (J.stop i H ∧ D.nx σ H) ∨ (J.go i H ∧ ∃ Nx : L2.St → Hp → Prop, (∀ σ' H', Nx σ' H' → ∃ m', m' < m ∧ W (i + 1) m' σ' H') ∧ ∀ x H', J.yld i H x H' → g x σ H' fun σ2 H2 => ts { D with nx := Nx, ct := Nx, bk := D.nx } σ2 H2)) : tFor wi g ts D σ H := k
theorem rng1 {ta : TA} {R : It → Hp → Prop} (k : ta σ H fun vs H1 => ∃ j : Int, vs = [.int j] ∧ -(2 ^ 62) ≤ j ∧ j < 2 ^ 62 ∧ R (Itr 0 j.toNat) H1) : iRng1 ta σ H R := k
theorem forR {lo : Int} {n : Nat} {g : TG} {A : L2.St → Hp → Prop} {R : V → Hp → Prop} (Pv : Nat → L2.St → Hp → Prop) (h0 : Pv 0 σ H)
    (hs : ∀ i σ H, i < n → Pv i σ H → g (.int (lo + i)) σ H fun σ2 H2 => ts { nx := Pv (i + 1), rt := R, bk := A, ct := Pv (i + 1) } σ2 H2) (hd : ∀ σ H, Pv n σ H → A σ H) :
    ∃ W : Nat → Nat → L2.St → Hp → Prop, (∃ m, W 0 m σ H) ∧ ∀ i m σ H, W i m σ H →
      ((Itr lo n).stop i H ∧ A σ H) ∨ ((Itr lo n).go i H ∧ ∃ N : L2.St → Hp → Prop, (∀ σ' H', N σ' H' → ∃ m', m' < m ∧ W (i + 1) m' σ' H') ∧ ∀ x H', (Itr lo n).yld i H x H' → g x σ H' fun σ2 H2 => ts { nx := N, rt := R, bk := A, ct := N } σ2 H2) :=
  for_range (D := { nx := A, rt := R, bk := A, ct := A }) Pv h0 hs hd
theorem forL {K : PySem.W.Frag} {a : Addr} {xs : List V} {g : TG} {A : L2.St → Hp → Prop} {R : V → Hp → Prop} (Pv : Nat → L2.St → Hp → Prop) (h0 : Pv 0 σ H) (hl : ∀ i σ H, i ≤ xs.length → Pv i σ H → SqL K H a xs)
    (hs : ∀ i x σ H, xs[i]? = some x → Pv i σ H → g x σ H fun σ2 H2 => ts { nx := Pv (i + 1), rt := R, bk := A, ct := Pv (i + 1) } σ2 H2) (hd : ∀ σ H, Pv xs.length σ H → A σ H) :
    ∃ W : Nat → Nat → L2.St → Hp → Prop, (∃ m, W 0 m σ H) ∧ ∀ i m σ H, W i m σ H →
      ((Itl K a).stop i H ∧ A σ H) ∨ ((Itl K a).go i H ∧ ∃ N : L2.St → Hp → Prop, (∀ σ' H', N σ' H' → ∃ m', m' < m ∧ W (i + 1) m' σ' H') ∧ ∀ x H', (Itl K a).yld i H x H' → g x σ H' fun σ2 H2 => ts { nx := N, rt := R, bk := A, ct := N } σ2 H2) :=
  for_list (D := { nx := A, rt := R, bk := A, ct := A }) Pv h0 hl hs hd
theorem forT {K : PySem.W.Frag} {a : Addr} {xs : List V} {g : TG} {A : L2.St → Hp → Prop} {R : V → Hp → Prop} (Pv : Nat → L2.St → Hp → Prop) (h0 : Pv 0 σ H) (hl : ∀ i σ H, i ≤ xs.length → Pv i σ H → SqT K H a xs)
    (hs : ∀ i x σ H, xs[i]? = some x → Pv i σ H → g x σ H fun σ2 H2 => ts { nx := Pv (i + 1), rt := R, bk := A, ct := Pv (i + 1) } σ2 H2) (hd : ∀ σ H, Pv xs.length σ H → A σ H) :
    ∃ W : Nat → Nat → L2.St → Hp → Prop, (∃ m, W 0 m σ H) ∧ ∀ i m σ H, W i m σ H →
      ((Itt K a).stop i H ∧ A σ H) ∨ ((Itt K a).go i H ∧ ∃ N : L2.St → Hp → Prop, (∀ σ' H', N σ' H' → ∃ m', m' < m ∧ W (i + 1) m' σ' H') ∧ ∀ x H', (Itt K a).yld i H x H' → g x σ H' fun σ2 H2 => ts { nx := N, rt := R, bk := A, ct := N } σ2 H2) :=
  for_tup (D := { nx := A, rt := R, bk := A, ct := A }) Pv h0 hl hs hd
theorem lc {wi : TI} {g : TG} {vs : List Nat} (k : wi σ H fun J H1 => ∀ D, H1 D = none → ∃ W : Nat → Nat → Hp → Prop, (∃ m, W 0 m (upd H1 D (.lst []))) ∧ ∀ i m H, W i m H →
  (J.stop i H ∧ Q (.ref D) H) ∨ (J.go i H ∧ ∃ Nx : Hp → Prop, (∀ H', Nx H' → ∃ m', m' < m ∧ W (i + 1) m' H') ∧ ∀ x H', J.yld i H x H' → g x (wipe σ vs) H' fun σ2 H2 => wipe σ2 vs = wipe σ vs ∧ tt σ2 H2 fun b H3 =>
    if b = true then te σ2 H3 fun y H4 => ∃ acc, H4 D = some (.lst acc) ∧ acc.length < sizeLine ∧ Nx (upd H4 D (.lst (acc ++ [y]))) else Nx H3)) : tLc wi g tt te vs σ H Q := k
theorem isN {x : V} (k : Q (.bl (decide (x = .non))) H) : rIsN x .non H Q := ⟨rfl, k⟩
theorem notN {x : V} (k : Q (.bl (!decide (x = .non))) H) : rNotN x .non H Q := ⟨rfl, k⟩
theorem isi {x c : V} {t u : Value} {b : Bool} (k1 : ClsV c u) (ty : TyX K H x t) (e : PySem.W.kitOne K t u = some b) (k : Q (.bl b) H) : rIsi K [x, c] H Q := ⟨x, c, t, u, b, rfl, k1, ty, e, k⟩
theorem isiB {x : V} {m n : String} {b : Bool} (ty : TyX K H x (.type m)) (e : kitB m n = some b) (k : Q (.bl b) H) : rIsi K [x, .ty n] H Q := isi (.ty n) ty (kit_ty e) k
theorem eqD {x y : V} {d e : PyData} (a : Dp K H x d) (b : Dp K H y e) (s1 : SeqAt.shaped d = true) (s2 : SeqAt.shaped e = true) (k : Q (.bl (PyData.eqv d e)) H) : rEqD K x y H Q := ⟨d, e, a, b, s1, s2, k⟩
theorem neD {x y : V} {d e : PyData} (a : Dp K H x d) (b : Dp K H y e) (s1 : SeqAt.shaped d = true) (s2 : SeqAt.shaped e = true) (k : Q (.bl (!PyData.eqv d e)) H) : rNeD K x y H Q := ⟨d, e, a, b, s1, s2, k⟩
theorem andV (k : ta σ H fun x H1 => ∃ c, x = .bl c ∧ if c = true then tb σ H1 Q else Q (.bl false) H1) : tAndV ta tb σ H Q := k
theorem orV (k : ta σ H fun x H1 => ∃ c, x = .bl c ∧ if c = true then Q (.bl true) H1 else tb σ H1 Q) : tOrV ta tb σ H Q := k
theorem notV (k : ta σ H fun x H1 => ∃ c, x = .bl c ∧ Q (.bl (!c)) H1) : tNotV ta σ H Q := k
theorem yes (k : QB true H) : tYes σ H QB := k
end
end Gk
namespace K0
open PySem L2
local macro_rules | `(tactic| walk_at "sq") => `(tactic| first | assumption | exact SqL.of (by assumption) | exact SqT.of (by assumption) | exact SqL.of upd_same | exact SqT.of upd_same)
local macro_rules | `(tactic| walk_at "go1") => `(tactic| first
  | (with_reducible refine' Gk.seq ?_)
  | ((with_reducible refine' Gk.var ?hgo ?_); (case hgo => exact rfl))
  | (with_reducible refine' Gk.con ?_)
  | (with_reducible refine' Gk.op ?_)
  | (with_reducible refine' Gk.i0 ?_)
  | (with_reducible refine' Gk.un ?_)
  | ((with_reducible refine' Gk.i1 (C := CMul) ?hgo ?_); (case hgo => first | exact .inl ⟨by decide, by decide⟩ | exact .inr ⟨by decide, by decide⟩ | exact .inl ⟨by omega, by omega⟩ | exact .inr ⟨by omega, by omega⟩))
  | ((with_reducible refine' Gk.i1 (C := CDiv) ?hgo ?_); (case hgo => exact ⟨by omega, by omega⟩))
  | ((with_reducible refine' Gk.i1 (C := CPow) ?hgo ?_); (case hgo => exact ⟨by decide, by decide, by decide⟩))
  | ((with_reducible refine' Gk.i1 (C := fun _ j => 0 < j) ?hgo ?_); (case hgo => show (0 : Int) < _; omega))
  | (with_reducible refine' Gk.u1 ?_)
  | (with_reducible refine' Gk.test ?_)
  | (with_reducible refine' Gk.testB ?_)
  | (with_reducible refine' Gk.asB ?_)
  | ((with_reducible refine' Gk.eqv ?hgo ?_); (case hgo => exact rfl))
  | ((with_reducible refine' Gk.nev ?hgo ?_); (case hgo => exact rfl))
  | ((with_reducible refine' Gk.ixL ?hgo ?hga ?_); (case hgo => walk_at "sq"); (case hga => first | exact rfl | assumption))
  | ((with_reducible refine' Gk.ixT ?hgo ?hga ?_); (case hgo => walk_at "sq"); (case hga => first | exact rfl | assumption))
  | (with_reducible refine' Gk.aNil ?_)
  | (with_reducible refine' Gk.aCons ?_)
  | (with_reducible refine' Gk.cb ?_)
  | (with_reducible refine' Gk.call ?_)
  | (with_reducible refine' Gk.tup ?_)
  | (with_reducible refine' Gk.lst ?_)
  | (with_reducible refine' Gk.ifE ?_)
  | (with_reducible refine' Gk.ifS ?_)
  | (with_reducible refine' Gk.next ?_)
  | (with_reducible refine' Gk.asg ?_)
  | ((with_reducible refine' Gk.gname ?hgo ?_); (case hgo => exact rfl))
  | (with_reducible refine' Gk.gsub ?_)
  | ((with_reducible refine' Gk.setL ?hgo ?hga ?_); (case hgo => first | assumption | exact upd_same); (case hga => first | exact rfl | assumption))
  | (with_reducible refine' Gk.ret ?_)
  | (with_reducible refine' Gk.drop ?_)
  | (with_reducible refine' Gk.par ?_)
  | (with_reducible refine' Gk.andT ?_)
  | (with_reducible refine' Gk.orT ?_)
  | (with_reducible refine' Gk.notT ?_)
  | (with_reducible refine' Gk.abs ?_)
  | (with_reducible refine' Gk.intI ?_)
  | (with_reducible refine' Gk.intB ?_)
  | ((with_reducible refine' Gk.lenL ?hgo ?_); (case hgo => walk_at "sq"))
  | ((with_reducible refine' Gk.lenT ?hgo ?_); (case hgo => walk_at "sq"))
  | (with_reducible refine' Gk.bm ?_)
  | ((with_reducible refine' Gk.tyL ?hgo ?_); (case hgo => first | assumption | exact upd_same))
  | ((with_reducible refine' Gk.gtup ?hgo ?hga ?_); (case hgo => walk_at "sq"); (case hga => exact rfl))
  | (with_reducible refine' Gk.gcons ?_)
  | (with_reducible refine' Gk.gnil ?_)
  | (with_reducible refine' Gk.sl ?_)
  | (with_reducible refine' Gk.noPart ?_)
  | (with_reducible refine' Gk.part ?_)
  | (with_reducible refine' Gk.partI ?_)
  | (with_reducible refine' Gk.lc ?_)
  | (with_reducible refine' Gk.rng1 ?_)
  | (with_reducible refine' Gk.forS ?_)
  | (with_reducible refine' Gk.isN ?_)
  | (with_reducible refine' Gk.notN ?_)
  | (with_reducible refine' Gk.andV ?_)
  | (with_reducible refine' Gk.orV ?_)
  | (with_reducible refine' Gk.notV ?_)
  | ((with_reducible refine' Gk.isiB ?hgo ?hga ?_); (case hgo => exact .base (.non)); (case hga => first | exact (show kitB _ _ = some true by decide +kernel) | exact (show kitB _ _ = some false by decide +kernel)))
  | ((with_reducible refine' Gk.isiB ?hgo ?hga ?_); (case hgo => exact .base (.int _)); (case hga => first | exact (show kitB _ _ = some true by decide +kernel) | exact (show kitB _ _ = some false by decide +kernel)))
  | ((with_reducible refine' Gk.isiB ?hgo ?hga ?_); (case hgo => exact .base (.str _)); (case hga => first | exact (show kitB _ _ = some true by decide +kernel) | exact (show kitB _ _ = some false by decide +kernel)))
  | ((with_reducible refine' Gk.isiB ?hgo ?hga ?_); (case hgo => exact .base (.bl _)); (case hga => first | exact (show kitB _ _ = some true by decide +kernel) | exact (show kitB _ _ = some false by decide +kernel)))
  | ((with_reducible refine' Gk.isiB ?hgo ?hga ?_); (case hgo => exact .base (.tup (by assumption))); (case hga => first | exact (show kitB _ _ = some true by decide +kernel) | exact (show kitB _ _ = some false by decide +kernel)))
  | ((with_reducible refine' Gk.isiB ?hgo ?hga ?_); (case hgo => exact .base (.lst (by assumption))); (case hga => first | exact (show kitB _ _ = some true by decide +kernel) | exact (show kitB _ _ = some false by decide +kernel)))
  | ((with_reducible refine' Gk.iteT ?hgo ?_); (case hgo => exact rfl))
  | ((with_reducible refine' Gk.iteF ?hgo ?_); (case hgo => exact rfl))
  | (with_reducible refine' Gk.yes ?_)
  | (dsimp only))

def top (i : Nat) : Stmt := PySem.Challenge.pw_cellspaid_k00_errors.main.body.getD i (.Pass ⟨0, 0, 0, 0⟩)
abbrev sLawBag : Stmt := top 41
theorem scLawBag : FnScope ["script"] ["script"] (defScope sLawBag) := ⟨rfl, rfl, rfl, by decide +kernel, rfl, by decide +kernel, by decide +kernel⟩
abbrev sLawPick : Stmt := top 42
theorem scLawPick : FnScope ["bag", "many", "at", "cell", "got"] ["bag", "many"] (defScope sLawPick) := ⟨rfl, rfl, rfl, by decide +kernel, rfl, by decide +kernel, by decide +kernel⟩
/-- the bag: its cells at q, the index of the next one, what is left -/
structure BagAt (H : Hp) (p q : Addr) (ns : List Int) (j : Nat) (r : Int) : Prop where
  ob : H p = some (.lst [.ref q, .int (j : Int), .int r])
  ce : H q = some (.lst (ns.map V.int))
  r0 : 0 ≤ r
theorem BagAt.ne {H : Hp} {p q : Addr} {ns : List Int} {j : Nat} {r : Int} (B : BagAt H p q ns j r) : p ≠ q := ne_of B.ob B.ce (by
  intro z
  have z1 := HO.lst.inj z
  cases ns with
  | nil => cases z1
  | cons a t => cases z1)
/-- the module's names that the helpers read -/
structure Glo (mg : Str → Option Value) : Prop where
  len : mg "len" = none
  abs : mg "abs" = none
  int : mg "int" = none
  list : mg "list" = none
  range : mg "range" = none
  str : mg "str" = none
  isinstance : mg "isinstance" = none
  tuple : mg "tuple" = none
  bool : mg "bool" = none
def spBag (K : PySem.W.Frag) : Sp := fun vs H Q _ => ∃ (a : Addr) (ns : List Int), vs = [.ref a] ∧ SqL K H a (ns.map V.int) ∧
  ∀ p q H', H p = none → H q = none → Evl.Ex H H' → BagAt H' p q ns 0 0 → Q (.ref p) H'
def spPick : Sp := fun vs H Q _ => ∃ (p q : Addr) (ns : List Int) (j : Nat) (r many : Int), vs = [.ref p, .int many] ∧ BagAt H p q ns j r ∧ j ≤ 1000 ∧ 1 ≤ many ∧ many < 1073741824 ∧
  ∀ (got : Int) (j' : Nat) (r' : Int) H', 0 ≤ got → got < many → j' ≤ j + 1 → BagAt H' p q ns j' r' → (∀ b, b ≠ p → H' b = H b) → Q (.int got) H'
section
variable {P : Program} {w : World} {K : PySem.W.Frag} {mg : Str → Option Value} {base : Heap}
theorem ok_bag {f : Addr} {fd : FuncData} (F : Fun K "_law_bag" "_law_bag" sLawBag f fd) (T : Glo mg) : FnOk P w K mg base CX0 1 f fd ["script"] (spBag K) := by
  refine F.ok scLawBag (fun vs H Q E h => ?_) (fun cdv A outer s H vs Q E hr h => ?_)
  · obtain ⟨a, ns, rfl, _⟩ := h
    rfl
  · obtain ⟨a, ns, rfl, hS, k⟩ := h
    refine ⟨_, (pss_one (ps_ret (pe_lst (pa_cons (pe_callTy (Gk.eListOf K) (by rfl) T.list (by decide +kernel) (pa_cons (pv 0) pa_nil)) (pa_cons pe_int (pa_cons pe_int pa_nil)))))), ?_⟩
    repeat walk_at "go1"
    refine Gk.listOf hS fun q hq => ?_
    repeat walk_at "go1"
    refine ⟨by show 3 ≤ sizeLine; decide, fun p hp => ?_⟩
    have hpq : q ≠ p := ne_of_none upd_same hp
    have hp' : H p = none := by rw [upd_ne hpq.symm] at hp; exact hp
    exact k p q _ hp' hq ((Evl.Ex.new hq).trans (Evl.Ex.new hp)) ⟨upd_same, by rw [upd_ne hpq, upd_same], Int.le_refl 0⟩
theorem nat_lt {i : Int} {n : Nat} (h0 : 0 ≤ i) (h : i < ((2 ^ n : Nat) : Int)) : i.natAbs < 2 ^ n := by omega
theorem ok_pick {f : Addr} {fd : FuncData} (F : Fun K "_law_pick" "_law_pick" sLawPick f fd) (T : Glo mg) : FnOk P w K mg base CX0 1 f fd ["bag", "many"] spPick := by
  refine F.ok scLawPick (fun vs H Q E h => ?_) (fun cdv A outer s H vs Q E hr h => ?_)
  · obtain ⟨p, q, ns, j, r, many, rfl, _⟩ := h
    rfl
  · obtain ⟨p, q, ns, j, r, many, rfl, B, hj, h1, h2, k⟩ := h
    have hpq := B.ne
    have hb := B.ob
    have hc := B.ce
    refine ⟨_, (Evl.pss_cut (ps_if (pt_cmpR op_lt (pe_ix (Gk.eIxL K) (pv 0) pe_int (fun _ _ => rfl)) (pv 1) (nomark _))
    (pss_cons (ps_set (i := 2) scLawPick.nd rfl (Or.inl rfl) (pe_ix (Gk.eIxL K) (pv 0) pe_int (fun _ _ => rfl)))
    (Evl.pss_cut (ps_set (i := 3) scLawPick.nd rfl (Or.inl rfl) (pe_ifExp (pt_cmpR op_lt (pv 2) (pe_callB (Gk.eLen K) (by rfl) T.len PySem.boot_len (pa_cons (pe_ix (Gk.eIxL K) (pv 0) pe_int (fun _ _ => rfl)) pa_nil)) (nomark _)) (pe_op op_add (pe_op op_mul pe_int (pe_callB Gk.cAbs (by rfl) T.abs (by decide +kernel) (pa_cons (pe_ix (Gk.eIxL K) (pe_ix (Gk.eIxL K) (pv 0) pe_int (fun _ _ => rfl)) (pv 2) (fun _ _ => rfl)) pa_nil))) (pe_callTy Gk.cInt1 (by rfl) T.int (by decide +kernel) (pa_cons (pe_cmpR op_lt (pe_ix (Gk.eIxL K) (pe_ix (Gk.eIxL K) (pv 0) pe_int (fun _ _ => rfl)) (pv 2) (fun _ _ => rfl)) pe_int (nomark _)) pa_nil))) (pe_op op_add (pe_op op_mul pe_int (pv 2)) pe_int)))
    (Evl.pss_cut (ps_if (pt_cmpR op_lt (pv 3) (pe_op op_pow pe_int pe_int) (nomark _))
      (pss_cons (ps_set (i := 3) scLawPick.nd rfl (Or.inl rfl) (pe_op op_mul (pe_op op_add (pv 3) pe_int) (pe_op op_add (pe_op op_add (pe_op op_mul (pv 3) pe_int) (pe_op op_mul pe_int (pv 2))) pe_int)))
      (pss_one (ps_set (i := 3) scLawPick.nd rfl (Or.inl rfl) (pe_op op_add (pe_op op_fdiv (pe_op op_mulW (pv 3) (pv 3)) pe_int) (pe_op op_mul (pv 3) pe_int)))))
      pss_nil)
    (pss_cons (ps_asg (pe_op op_add (pv 2) pe_int) (pg_sub (pv 0) pe_int set_list))
    (pss_one (ps_asg (pv 3) (pg_sub (pv 0) pe_int set_list)))))))
    pss_nil)
  (pss_cons (ps_set (i := 4) scLawPick.nd rfl (Or.inl rfl) (pe_op op_mod (pe_callTy Gk.cInt1 (by rfl) T.int (by decide +kernel) (pa_cons (pe_ix (Gk.eIxL K) (pv 0) pe_int (fun _ _ => rfl)) pa_nil)) (pv 1)))
  (pss_cons (ps_asg (pe_op op_fdiv (pe_ix (Gk.eIxL K) (pv 0) pe_int (fun _ _ => rfl)) (pv 1)) (pg_sub (pv 0) pe_int set_list))
  (pss_one (ps_ret (pv 4)))))), ?_⟩
    refine ⟨fun σ1 H1 => ∃ (j1 : Nat) (r1 : Int) (x y : Option V), σ1 = [some (.ref p), some (.int many), x, y, none] ∧ BagAt H1 p q ns j1 r1 ∧ j1 ≤ j + 1 ∧ ∀ b, b ≠ p → H1 b = H b, ?_, ?_⟩
    · show tIfS _ _ _ _ [some (.ref p), some (.int many), none, none, none] H
      repeat walk_at "go1"
      refine Gk.iteQ (fun hb => ?_) (fun hb => ?_)
      · repeat walk_at "go1"
        refine ⟨fun σ1 H1 => ∃ c : Int, 0 ≤ c ∧ σ1 = [some (.ref p), some (.int many), some (.int (j : Int)), some (.int c), none] ∧ H1 = H, ?_, ?_⟩
        · repeat walk_at "go1"
          refine Gk.iteQ (fun hl => ?_) (fun hl => ?_)
          · have hl' : j < ns.length := by
              have := of_decide_eq_true hl
              rw [List.length_map] at this
              omega
            have hat : atI (ns.map V.int) (j : Int) = some (.int ns[j]) := atI_nat (by rw [List.getElem?_map, List.getElem?_eq_getElem hl'] <;> rfl)
            repeat walk_at "go1"
            exact ⟨_, by split <;> simp <;> omega, rfl, rfl⟩
          · repeat walk_at "go1"
            exact ⟨_, by omega, rfl, rfl⟩
        rintro σ1 H1 ⟨c, hc0, rfl, rfl⟩
        refine ⟨fun σ2 H2 => ∃ c : Int, 0 ≤ c ∧ σ2 = [some (.ref p), some (.int many), some (.int (j : Int)), some (.int c), none] ∧ H2 = H1, ?_, ?_⟩
        · repeat walk_at "go1"
          refine Gk.iteQ (fun hs => ?_) (fun hs => ?_)
          · have hs' : c < 1000000000000000000 := of_decide_eq_true hs
            repeat walk_at "go1"
            obtain ⟨d, hde⟩ : ∃ d : Int, (c + 15485863) * (c * 32452843 + 49979687 * (j : Int) + 982451653) = d := ⟨_, rfl⟩
            have hd0 : 0 ≤ d := by
              rw [← hde]
              exact Int.mul_nonneg (by omega) (by omega)
            have hdn : d.natAbs < 2 ^ (61 + 90) := by
              rw [← hde]
              exact wide_lt (by omega) (by omega)
            rw [hde]
            refine Gk.i1 (wide_mul hdn hdn (by decide) (by decide) (by decide)) ?_
            repeat walk_at "go1"
            exact ⟨_, Int.add_nonneg (Int.ediv_nonneg (Int.mul_nonneg hd0 hd0) (by decide)) (Int.mul_nonneg hd0 (by decide)), rfl, rfl⟩
          · exact ⟨c, hc0, rfl, rfl⟩
        · rintro σ2 H2 ⟨c, hc0, rfl, rfl⟩
          repeat walk_at "go1"
          refine ⟨j + 1, c, _, _, rfl, ⟨by rw [upd_same]; rfl, by rw [upd_ne hpq.symm, upd_ne hpq.symm]; exact hc, hc0⟩, Nat.le_refl _, fun b hb => by rw [upd_ne hb, upd_ne hb]⟩
      · repeat walk_at "go1"
        exact ⟨j, r, none, none, rfl, B, Nat.le_succ j, fun _ _ => rfl⟩
    · rintro σ1 H1 ⟨j1, r1, x, y, rfl, B1, hj1, hk1⟩
      have hb1 := B1.ob
      repeat walk_at "go1"
      refine k _ j1 (r1 / many) _ (Int.emod_nonneg _ (by omega)) (Int.emod_lt_of_pos _ (by omega)) hj1 ⟨upd_same, by rw [upd_ne (Ne.symm hpq)]; exact B1.ce, Int.ediv_nonneg B1.r0 (by omega)⟩ fun b hb => ?_
      rw [upd_ne hb]
      exact hk1 b hb
end
theorem atI_in {α : Type} {xs : List α} {i : Int} (h0 : 0 ≤ i) (h : i < xs.length) : ∃ v, atI xs i = some v := by
  obtain ⟨n, rfl⟩ : ∃ n : Nat, i = (n : Int) := ⟨i.toNat, by omega⟩
  have hn : n < xs.length := by omega
  exact ⟨xs[n], atI_nat (List.getElem?_eq_getElem hn)⟩
abbrev smallS : Str := "abcdefghijklmnopqrstuvwxyz"
abbrev largeS : Str := "ABCDEFGHIJKLMNOPQRSTUVWXYZ"
abbrev digitS : Str := "0123456789"
theorem small26 : smallS.cps.toList.length = 26 := by decide +kernel
theorem large26 : largeS.cps.toList.length = 26 := by decide +kernel
theorem all62 : (smallS ++ largeS ++ digitS).cps.toList.length = 62 := by decide +kernel
def But (p u : Addr) (H H' : Hp) : Prop := ∀ b o, b ≠ p → b ≠ u → H b = some o → H' b = some o
theorem But.refl (p u : Addr) (H : Hp) : But p u H H := fun _ _ _ _ h => h
theorem But.trans {p u : Addr} {H H1 H2 : Hp} (a : But p u H H1) (b : But p u H1 H2) : But p u H H2 := fun c o h1 h2 h => b c o h1 h2 (a c o h1 h2 h)
theorem But.new {p u a : Addr} {o : HO} {H : Hp} (h : H a = none) : But p u H (upd H a o) := fun b v _ _ e => by
  rw [upd_ne (ne_of_none e h)]
  exact e
theorem But.but {p u : Addr} {H H' : Hp} (h : ∀ b, b ≠ p → H' b = H b) : But p u H H' := fun b _ hb _ e => by
  rw [h b hb]
  exact e
theorem BagAt.new {H : Hp} {p q a : Addr} {ns : List Int} {j : Nat} {r : Int} {o : HO} (B : BagAt H p q ns j r) (h : H a = none) : BagAt (upd H a o) p q ns j r :=
  ⟨by rw [upd_ne (ne_of_none B.ob h)]; exact B.ob, by rw [upd_ne (ne_of_none B.ce h)]; exact B.ce, B.r0⟩
def spWord : Sp := fun vs H Q _ => ∃ (p q u : Addr) (ns : List Int) (j : Nat) (r : Int) (cap : Bool), vs = [.ref p, .bl cap, .ref u] ∧ BagAt H p q ns j r ∧ j ≤ 500 ∧ H u = some (.lst []) ∧ u ≠ q ∧
  ∀ (w : Str) (j' : Nat) (r' : Int) H', w.length ≤ 20 → j' ≤ j + 10 → BagAt H' p q ns j' r' → But p u H H' → Q (.str w) H'
section
variable {P : Program} {w : World} {K : PySem.W.Frag} {mg : Str → Option Value} {base : Heap}
abbrev sLawWord : Stmt := top 43
theorem scLawWord : FnScope ["bag", "capital", "used", "small", "large", "word", "k", "at"] ["bag", "capital", "used"] (defScope sLawWord) := ⟨rfl, rfl, rfl, by decide +kernel, rfl, by decide +kernel, by decide +kernel⟩
theorem ok_word {f fP : Addr} {fd fdP : FuncData} (F : Fun K "_law_word" "_law_word" sLawWord f fd) (T : Glo mg) (FP : Fun K "_law_pick" "_law_pick" sLawPick fP fdP) (mP : mg "_law_pick" = some (.ref fP)) (bP : Binds K fdP ["bag", "many"] []) :
    FnOk P w K mg base CX0 2 f fd ["bag", "capital", "used"] spWord := by
  have GP : FnOk P w K mg base CX0 1 fP fdP ["bag", "many"] spPick := ok_pick FP T
  refine F.ok scLawWord (fun vs H Q E h => ?_) (fun cdv A outer s H vs Q E hr h => ?_)
  · obtain ⟨p, q, u, ns, j, r, cap, rfl, _⟩ := h
    rfl
  · obtain ⟨p, q, u, ns, j, r, cap, rfl, B, hj, hu0, huq, k⟩ := h
    have hb := B.ob
    refine ⟨_, (pss_cons (ps_asg (pe_tup (pa_cons pe_str (pa_cons pe_str pa_nil))) (Gk.ePgT K rfl (pgs_cons (pg_name (i := 3) scLawWord.nd rfl (Or.inl rfl)) (pgs_cons (pg_name (i := 4) scLawWord.nd rfl (Or.inl rfl)) pgs_nil))))
  (pss_cons (ps_set (i := 5) scLawWord.nd rfl (Or.inr rfl) (pe_ix ix_str (pe_ix (Gk.eIxL K) (pe_lst (pa_cons (pv 3) (pa_cons (pv 4) pa_nil))) (pe_callTy Gk.cInt1 (by rfl) T.int (by decide +kernel) (pa_cons (pv 1) pa_nil)) (fun _ _ => rfl)) (pe_call GP hr rfl mP FP.kp bP .nil pass0 (pa_cons (pv 0) (pa_cons pe_int pa_nil))) (fun _ _ => rfl)))
  (pss_cons (ps_for PassesOwn.never rfl (pi_range1 (by rfl) T.range (pa_cons (pe_call GP hr rfl mP FP.kp bP .nil pass0 (pa_cons (pv 0) (pa_cons pe_int pa_nil))) pa_nil)) (pg_name (i := 6) scLawWord.nd rfl (Or.inl rfl))
    (pss_one (ps_set (i := 5) scLawWord.nd rfl (Or.inr rfl) (pe_op Gk.oAddT (pv 5) (pe_ix ix_str (pe_op Gk.oAddT (pe_op Gk.oAddT (pv 3) (pv 4)) pe_str) (pe_call GP hr rfl mP FP.kp bP .nil pass0 (pa_cons (pv 0) (pa_cons pe_int pa_nil))) (fun _ _ => rfl))))))
  (Evl.pss_cut (ps_if (PW.pt (pw_or (pt_cmpR (Gk.eIn K) (pv 5) (pv 2) (by rfl)) (pw_or1 (pt_cmpR (Gk.eIn K) (pv 5) (pe_tup (pa_cons pe_str (pa_cons pe_str (pa_cons pe_str (pa_cons pe_str (pa_cons pe_str (pa_cons pe_str (pa_cons pe_str (pa_cons pe_str pa_nil))))))))) (by rfl)))))
    (pss_one (ps_set (i := 5) scLawWord.nd rfl (Or.inr rfl) (pe_ix (Gk.eIxL K) (pe_lc (own := [("at", 7)]) (g := gName 7) (tt := _) rfl scLawWord.nd (pi_range1 (by rfl) T.range (pa_cons (pe_op op_add (pe_callB (Gk.eLen K) (by rfl) T.len PySem.boot_len (pa_cons (pv 2) pa_nil)) pe_int) pa_nil)) (blkOk_by (N := ["bag", "capital", "used", "small", "large", "word", "k", "at"]) (sc := defScope sLawWord) (by decide +kernel)) (fun _ _ _ _ _ => pg_name (i := 7) scLawWord.nd rfl (Or.inl rfl)) (fun _ _ _ _ _ => (pts_one (pt_cmpR (Gk.eNotIn K) (pe_op Gk.oAddT (pe_slice sl_str (pv 5) po_none (po_some pe_int)) (pe_callTy Gk.cStrI (by rfl) T.str (by decide +kernel) (pa_cons (pv 7) pa_nil))) (pv 2) (by rfl)))) (fun _ _ _ _ _ => (pe_op Gk.oAddT (pe_slice sl_str (pv 5) po_none (po_some pe_int)) (pe_callTy Gk.cStrI (by rfl) T.str (by decide +kernel) (pa_cons (pv 7) pa_nil))))) pe_int (fun _ _ => rfl))))
    pss_nil)
  (pss_cons (ps_expr (Gk.eBm K PySem.F.plainAttrs_list PySem.F.slot_list_append PySem.F.type_list_append mt_append (pv 2) (pa_cons (pv 5) pa_nil)))
  (pss_one (ps_ret (pv 5)))))))), ?_⟩
    repeat walk_at "go1"
    refine ⟨by show 2 ≤ sizeLine; decide, fun t1 ht1 => ?_⟩
    refine Gk.gtup (SqT.of upd_same) rfl ?_
    have e1 := But.new (p := p) (u := u) (o := .tup [V.str smallS, V.str largeS]) ht1
    have B1 : BagAt (upd H t1 (.tup [V.str smallS, V.str largeS])) p q ns j r := B.new ht1
    have hu1 : upd H t1 (.tup [V.str smallS, V.str largeS]) u = some (.lst []) := by rw [upd_ne (ne_of_none hu0 ht1)]; exact hu0
    generalize upd H t1 (.tup [V.str smallS, V.str largeS]) = H1 at *
    repeat walk_at "go1"
    refine ⟨by show 2 ≤ sizeLine; decide, fun t2 ht2 => ?_⟩
    have e2 := e1.trans (But.new (p := p) (u := u) (o := .lst [V.str smallS, V.str largeS]) ht2)
    have B2 : BagAt (upd H1 t2 (.lst [V.str smallS, V.str largeS])) p q ns j r := B1.new ht2
    have hu2 : upd H1 t2 (.lst [V.str smallS, V.str largeS]) u = some (.lst []) := by rw [upd_ne (ne_of_none hu1 ht2)]; exact hu1
    have hl2 : upd H1 t2 (.lst [V.str smallS, V.str largeS]) t2 = some (.lst [V.str smallS, V.str largeS]) := upd_same
    generalize upd H1 t2 (.lst [V.str smallS, V.str largeS]) = H2 at *
    obtain ⟨alph, hal, hal2, hal3⟩ : ∃ z : Str, atI [V.str smallS, V.str largeS] (if cap = true then 1 else 0) = some (.str z) ∧ z.cps.toList.length = 26 ∧ z.length ≤ sizeLine := by
      cases cap
      · exact ⟨smallS, rfl, small26, by decide +kernel⟩
      · exact ⟨largeS, rfl, large26, by decide +kernel⟩
    repeat walk_at "go1"
    refine ⟨p, q, ns, j, r, 26, rfl, B2, by omega, by decide, by decide, fun got j3 r3 H3 g0 g1 hj3 B3 hk3 => ?_⟩
    have e3 := e2.trans (But.but (u := u) hk3)
    have hu3 : H3 u = some (.lst []) := by rw [hk3 u (ne_of hu2 B2.ob (by intro z; cases z))]; exact hu2
    obtain ⟨c, hc⟩ := atI_in (xs := alph.cps.toList) g0 (by rw [hal2]; exact g1)
    refine Gk.ixS hal3 hc ?_
    repeat walk_at "go1"
    refine ⟨p, q, ns, j3, r3, 5, rfl, B3, by omega, by decide, by decide, fun m j4 r4 H4 m0 m1 hj4 B4 hk4 => ?_⟩
    have e4 := e3.trans (But.but (u := u) hk4)
    have hu4 : H4 u = some (.lst []) := by rw [hk4 u (ne_of hu3 B3.ob (by intro z; cases z))]; exact hu3
    refine ⟨m, rfl, by omega, by omega, Gk.forR (lo := 0) (n := m.toNat) (fun i σ' H' => ∃ (w : Str) (x : Option V) (j' : Nat) (r' : Int), σ' = [some (.ref p), some (.bl cap), some (.ref u), some (.str smallS), some (.str largeS), some (.str w), x, none] ∧
      w.length ≤ 1 + i ∧ j' ≤ j + 2 + i ∧ BagAt H' p q ns j' r' ∧ But p u H H' ∧ H' u = some (.lst [])) ?_ ?_ ?_⟩
    · exact ⟨_, _, j4, r4, rfl, Nat.le_refl 1, by omega, B4, e4, hu4⟩
    · rintro i σ' H' hi ⟨w, x, j', r', rfl, hw, hj', B', e', hu'⟩
      have hb' := B'.ob
      have hi5 : i < 5 := by omega
      repeat walk_at "go1"
      refine Gk.addT (by decide +kernel) ?_
      repeat walk_at "go1"
      refine Gk.addT (by decide +kernel) ?_
      repeat walk_at "go1"
      refine ⟨p, q, ns, j', r', 62, rfl, B', by omega, by decide, by decide, fun got j5 r5 H5 g0 g1 hj5 B5 hk5 => ?_⟩
      have hu5 : H5 u = some (.lst []) := by rw [hk5 u (ne_of hu' B'.ob (by intro z; cases z))]; exact hu'
      obtain ⟨c, hc⟩ := atI_in (xs := (smallS ++ largeS ++ digitS).cps.toList) g0 (by rw [all62]; exact g1)
      refine Gk.ixS (by decide +kernel) hc ?_
      have one : (⟨#[c]⟩ : Str).length = 1 := rfl
      refine Gk.addT (by rw [one, sizeLine_eq]; omega) ?_
      repeat walk_at "go1"
      refine ⟨_, _, j5, r5, rfl, by rw [Str.length_append, one]; omega, by omega, B5, e'.trans (But.but hk5), hu5⟩
    · rintro σ' H' ⟨w, x, j', r', rfl, hw, hj', B', e', hu'⟩
      have hw5 : w.length ≤ 5 := by omega
      have hj5 : j' ≤ j + 6 := by omega
      clear hw hj'
      have hb' := B'.ob
      refine ⟨fun σ2 H2 => ∃ (w : Str) (r2 : Int), w.length ≤ 15 ∧ σ2 = [some (.ref p), some (.bl cap), some (.ref u), some (.str smallS), some (.str largeS), some (.str w), x, none] ∧ BagAt H2 p q ns j' r2 ∧ But p u H H2 ∧ H2 u = some (.lst []), ?_, ?_⟩
      · repeat walk_at "go1"
        refine Gk.inL (SqL.of hu') rfl rfl ?_
        repeat walk_at "go1"
        refine ⟨by show 8 ≤ sizeLine; decide, fun t3 ht3 => ?_⟩
        refine Gk.inT (SqT.of upd_same) rfl rfl ?_
        have e3 := e'.trans (But.new (p := p) (u := u) (o := .tup [V.str "def", V.str "else", V.str "give", V.str "if", V.str "kind", V.str "let", V.str "match", V.str "whole"]) ht3)
        have B3 := B'.new (o := .tup [V.str "def", V.str "else", V.str "give", V.str "if", V.str "kind", V.str "let", V.str "match", V.str "whole"]) ht3
        have hu3 : upd H' t3 (.tup [V.str "def", V.str "else", V.str "give", V.str "if", V.str "kind", V.str "let", V.str "match", V.str "whole"]) u = some (.lst []) := by rw [upd_ne (ne_of_none hu' ht3)]; exact hu'
        generalize upd H' t3 (.tup [V.str "def", V.str "else", V.str "give", V.str "if", V.str "kind", V.str "let", V.str "match", V.str "whole"]) = H3 at *
        repeat walk_at "go1"
        refine Gk.iteQ (fun _ => ?_) (fun _ => ⟨w, r', by omega, rfl, B3, e3, hu3⟩)
        repeat walk_at "go1"
        have lz : (Str.ofString (toString (0 : Int))).length = 1 := by decide +kernel
        have lw : (cutS w none (some 4)).length ≤ 5 := Nat.le_trans (Gk.cutS_le _ _ _) hw5
        refine ⟨1, by rfl, by omega, by omega, fun Dl hD => lc_range (lo := 0) (n := 1) (fun i H' => (∃ xs, H' Dl = some (.lst xs) ∧ (i = 0 ∧ xs = [] ∨ i = 1 ∧ ∃ z : Str, xs = [.str z] ∧ z.length ≤ 15)) ∧ BagAt H' p q ns j' r' ∧ But p u H H' ∧ H' u = some (.lst [])) ?_ ?_ ?_⟩
        · exact ⟨⟨[], upd_same, .inl ⟨rfl, rfl⟩⟩, B3.new hD, e3.trans (But.new hD), by rw [upd_ne (ne_of_none hu3 hD)]; exact hu3⟩
        · rintro i H4 hi ⟨⟨xs, hx, h⟩, B4, e4, hu4⟩
          have hi0 : i = 0 := by omega
          subst hi0
          obtain rfl : xs = [] := by
            rcases h with ⟨_, h⟩ | ⟨h, _⟩
            · exact h
            · cases h
          repeat walk_at "go1"
          refine ⟨rfl, ?_⟩
          have lz2 : (Str.ofString (toString ((0 : Int) + ((0 : Nat) : Int)))).length = 1 := by decide +kernel
          have lx : (cutS w none (some 4) ++ Str.ofString (toString ((0 : Int) + ((0 : Nat) : Int)))).length ≤ 15 := by rw [Str.length_append, lz2]; omega
          repeat walk_at "go1"
          refine Gk.slS (by rw [sizeLine_eq]; omega) ?_
          repeat walk_at "go1"
          refine Gk.strI (by decide +kernel) ?_
          refine Gk.addT (by rw [lz2, sizeLine_eq]; omega) ?_
          repeat walk_at "go1"
          refine Gk.inL (SqL.of hu4) rfl rfl ?_
          repeat walk_at "go1"
          refine Gk.slS (by rw [sizeLine_eq]; omega) ?_
          repeat walk_at "go1"
          refine Gk.strI (by decide +kernel) ?_
          refine Gk.addT (by rw [lz2, sizeLine_eq]; omega) ?_
          refine ⟨[], hx, by show 0 < sizeLine; decide, ⟨_, upd_same, .inr ⟨rfl, _, rfl, lx⟩⟩, ?_, ?_, ?_⟩
          · exact ⟨by rw [upd_ne (ne_of_none B3.ob hD)]; exact B4.ob, by rw [upd_ne (ne_of_none B3.ce hD)]; exact B4.ce, B4.r0⟩
          · exact fun b o h1 h2 h => by rw [upd_ne (ne_of_none (e3 b o h1 h2 h) hD)]; exact e4 b o h1 h2 h
          · rw [upd_ne (ne_of_none hu3 hD)]; exact hu4
        · rintro H4 ⟨⟨xs, hx, h⟩, B4, e4, hu4⟩
          obtain ⟨z, rfl, hz⟩ : ∃ z : Str, xs = [.str z] ∧ z.length ≤ 15 := by
            rcases h with ⟨h, _⟩ | ⟨_, h⟩
            · cases h
            · exact h
          repeat walk_at "go1"
          exact ⟨z, r', hz, rfl, B4, e4, hu4⟩
      · rintro σ2 H2 ⟨w2, r2, hw2, rfl, B2, e2, hu2⟩
        repeat walk_at "go1"
        refine Gk.app hu2 (by show 0 < sizeLine; decide) ?_
        repeat walk_at "go1"
        have hup : u ≠ p := ne_of hu2 B2.ob (by intro z; cases z)
        refine k w2 j' r2 _ (by omega) (by omega) ⟨by rw [upd_ne hup.symm]; exact B2.ob, by rw [upd_ne huq.symm]; exact B2.ce, B2.r0⟩ fun b o h1 h2 h => ?_
        rw [upd_ne h2]
        exact e2 b o h1 h2 h
end
end K0
/-! an own error class over ValueError, called with keywords -/
namespace PySem
namespace K0X
open PySem.W PySem.Calls PyProof.Rows PySem.HandSPX
section
variable {prog : Program} {w : World} {M : Model} {A : Around} {E : Value → Shared → Prop} {R : Result → Shared → Prop} {h : Heap} {g : Array GenState} {d : Drawn} {t : Nat} {os : OsState}
variable {nm q : Str} {C N : Addr} {bs bm : List Value} {hdct : Bool} {sn : List Str} {sub : List Value} {ab : Bool} {col : Option Bool} {dd : Option Addr} {k0 k1 k2 k3 k5 : Option Value}
theorem check_kw {kn : Str} {kv : Value} {Q : Unit → Shared → Prop} (hT : ∀ X : String, bm.contains (.type X) = veTail.contains (.type X))
    (hC : h.get? C = some (excClassObj nm q C N bs bm hdct sn sub ab col dd k0 k1 k2 k3 k5 "ValueError.__new__")) (hq : Q () ⟨h, g, d, t, os⟩) : wpAny M A (checkBuiltinCall "ValueError.__new__" ⟨[.ref C], [(kn, kv)]⟩) Q E ⟨h, g, d, t, os⟩ := by
  have FB := F.excBase_ValueError
  have h1 : (Value.ref C :: bm).contains (.type "ValueError") = true := by rw [List.contains_cons, hT, FB.hasB, Bool.or_true]
  have h2 := FB.noStar
  simp only [checkBuiltinCall, FB.newKind, FB.newSplit, FB.newRow]
  repeat (first | (refine wpAny_isSubtype_exc hC ?_; rw [h1]) | refine wpAny_loadPart_at hC ?_ | refine wpAny_madeBy_exc hC ?_ | refine wpAny_staticBase_exc hC ?_ | simp only [bne_self_eq_false, Bool.false_eq_true, if_false] | wp_step)
  exact hq
end
section
variable {prog : Program} {w : World} {M : Model} {A : Around} {E : Value → Shared → Prop} {R : Result → Shared → Prop} {h : Heap} {g : Array GenState} {d : Drawn} {t : Nat} {os : OsState}
variable {nm q : Str} {C N : Addr} {bs bm : List Value} {hdct : Bool} {sn : List Str} {sub : List Value} {ab : Bool} {col : Option Bool} {dd : Option Addr} {k0 k1 k2 k3 k5 : Option Value}
theorem new_kw {kn : Str} {kv : Value} (hT : ∀ X : String, bm.contains (.type X) = veTail.contains (.type X))
    (hC : h.get? C = some (excClassObj nm q C N bs bm hdct sn sub ab col dd k0 k1 k2 k3 k5 "ValueError.__new__"))
    (hq : R (.ok (.ret (.ref (h.objs.size + 1)))) ⟨(h.push (W.kdv_tup [])).push (excO C h.objs.size), g, d, t, os⟩) :
    codeAny (model prog w) A (.builtin "ValueError.__new__" ⟨[.ref C], [(kn, kv)]⟩) R ⟨h, g, d, t, os⟩ := by
  have FB := F.excBase_ValueError
  have hends := FB.ends
  have a1 : (Value.ref C :: bm).contains (.type "ValueError") = true := by rw [List.contains_cons, hT, FB.hasB, Bool.or_true]
  have a2 : (Value.ref C :: bm).contains (.type "AttributeError") = false := by rw [List.contains_cons, hT, FB.noAttr]; rfl
  have a3 : (Value.ref C :: bm).contains (.type "NameError") = false := by rw [List.contains_cons, hT, FB.noName]; rfl
  refine codeAny_builtinAt FB.entry (by
    unfold Builtin.«BaseException.__new__»
    refine wpAt_bind (by
      show wpAt _ _ _ (stack >>= _) _ _ _
      refine wpAt_bind (wpAt_stack fun p below => wpAt_of_wpAny (by
        wp_walk
        refine wpAt_of_wpAny (by
          rw [FB.owner]
          repeat (first | with_reducible refine wpAny_loadPart_at hC ?_ | with_reducible refine wpAny_madeHere_exc FB.canon hC ?_ | (with_reducible refine wpAny_isSubtype_exc hC ?_; first | rw [a1] | rw [a2] | rw [a3]) | wp_step)
          show R _ _
          rw [Heap.size_push]
          exact hq)))))
theorem type_call_kw {kn : Str} {kv : Value} (hT : ∀ X : String, bm.contains (.type X) = veTail.contains (.type X)) {fI : Addr} {Q : Fin → Shared → Prop}
    (hC : h.get? C = some (excClassObj nm q C N bs bm hdct sn sub ab col dd k0 k1 k2 k3 k5 "ValueError.__new__"))
    (hi : W.Looks (model prog w) h (typeLookup (.ref C) "__init__") (some (.ref fI))) (hb : ∀ self, W.Looks (model prog w) h (bindSpecial (.ref fI) self) (.ref fI, [self]))
    (hq : codeAny (model prog w) A (.call (.ref fI) ⟨[.ref (h.objs.size + 1)], [(kn, kv)]⟩)
      (fun r s' => match r with | .ok (.ret v) => v = .none ∧ Q (.done (.ret (.ref (h.objs.size + 1)))) s' | .ok _ => False | .error e => E e s')
      ⟨(h.push (W.kdv_tup [])).push (excO C h.objs.size), g, d, t, os⟩) :
    wpAny (model prog w) A (Builtin.«type.__call__» ⟨[.ref C], [(kn, kv)]⟩) Q E ⟨h, g, d, t, os⟩ := by
  have FB := F.excBase_ValueError
  repeat (first | with_reducible refine wpAny_madeBy_exc hC ?_ | with_reducible refine wpAny_loadPart_at hC ?_ | wp_step)
  refine codeAny_call_builtin_code (Code.quiet_builtin _ FB.quiet) (check_kw hT hC (new_kw hT hC ?_)); show wpAny _ _ _ _ _ _
  have k : ∀ b o, h.get? b = some o → ((h.push (W.kdv_tup [])).push (excO C h.objs.size)).get? b = some o := fun b o z => Heap.get?_push_of_some _ (Heap.get?_push_of_some _ z)
  have c1 := k _ _ hC
  have c2 : ((h.push (W.kdv_tup [])).push (excO C h.objs.size)).get? (h.objs.size + 1) = some (excO C h.objs.size) := by heap_get
  have c3 : (Value.ref C :: bm).contains (.ref C) = true := by simp
  have c4 := hi.keeps k
  have c5 := (hb (.ref (h.objs.size + 1))).keeps k
  unfold isInstance
  repeat (first | (with_reducible refine wpAny_isSubtype_exc c1 ?_; rw [c3]) | with_reducible refine wpAny_loadPart_at c2 ?_ | wp_step)
  show wpAny _ _ (typeLookup (.ref C) _) _ _ _; refine c4.at ?_; refine wpAny_holding (wpAny_bind (c5.at ?_))
  refine wpAny_bind (wpAny_call (codeAny_mono hq fun r s' z => ?_)); rcases r with e | (v | _ | _ | _) <;> first | exact z | exact z.elim | skip
  obtain ⟨rfl, z⟩ := z; first | exact wpAny_pure (wpAny_pure z) | (wp_walk; exact z)
theorem call_kw {kn : Str} {kv : Value} (hT : ∀ X : String, bm.contains (.type X) = veTail.contains (.type X)) {fI : Addr}
    (hC : h.get? C = some (excClassObj nm q C N bs bm hdct sn sub ab col dd k0 k1 k2 k3 k5 "ValueError.__new__"))
    (hi : W.Looks (model prog w) h (typeLookup (.ref C) "__init__") (some (.ref fI))) (hb : ∀ self, W.Looks (model prog w) h (bindSpecial (.ref fI) self) (.ref fI, [self]))
    (hq : codeAny (model prog w) (A.under (.builtin "type.__call__" ⟨[.ref C], [(kn, kv)]⟩)) (.call (.ref fI) ⟨[.ref (h.objs.size + 1)], [(kn, kv)]⟩) (W.InitBack (h.objs.size + 1) R)
      ⟨(h.push (W.kdv_tup [])).push (excO C h.objs.size), g, d, t, os⟩) :
    codeAny (model prog w) A (.call (.ref C) ⟨[], [(kn, kv)]⟩) R ⟨h, g, d, t, os⟩ := by
  have b1 := tc_lookup
  have b2 := tc_bind (.ref C)
  have b3 : (⟨h, g, d, t, os⟩ : Shared).TypeIs (.ref C) "type" := ⟨_, hC, rfl⟩
  refine codeAny_of_tree ?_; show wpAny _ _ (callAny (.ref C) _) _ _ _
  repeat (any_goals (first | with_reducible refine wpAny_loadPart_at hC ?_ | assumption | wp_step))
  refine ⟨rfl, codeAny_call_builtin_at (Code.quiet_builtin _ (by decide +kernel)) entry_typeCall (wpAny_check_type_call_sub hC (type_call_kw hT hC hi hb ?_))⟩
  exact codeAny_mono hq fun r s' z => by rcases r with e | (v | _ | _ | _) <;> exact z
end

end K0X
end PySem
namespace PySem
namespace K0X
open PySem.W PySem.Calls PyProof.Rows PySem.HandSPX
/-! ### an own error whose __init__ says super().__init__(text) and keeps its argument -/
def top (i : Nat) : Stmt := PySem.Challenge.pw_cellspaid_k00_errors.main.body.getD i (.Pass ⟨0, 0, 0, 0⟩)
open L2 (inClass defArgs defBody defScope)
/-- what the written part says of such a class, at C, and of its __init__, at fI -/
structure ErrC (prog : Program) (K : Frag) (st : Stmt) (C fI cc cda : Addr) (f qual : Str) : Prop where
  cls : ∃ nm q N bs bm sn sub ab col dd k0 k1 k2 k3 k5, K.lookup C = some (excClassObj nm q C N bs bm true sn sub ab col dd k0 k1 k2 k3 k5 "ValueError.__new__") ∧ refsVE bm = true
  sa : findIn K (.ref C) "__setattr__" = some (some (.builtin "object.__setattr__"))
  ga : findIn K (.ref C) "__getattribute__" = some (some (.builtin "BaseException.__getattribute__"))
  gg : findIn K (.ref C) "__getattr__" = some none
  noN : findIn K (.ref C) f = some none
  iC : findIn K (.ref C) "__init__" = some (some (.ref fI))
  tI : typeIn K (.ref fI) = some (.type "function")
  kC : keepIn K (.ref C) = true
  hd : hasDictIn K C = true
  fn : ∃ (oc : Value) (od : Option Addr) (doc pm : Value) (an : Option Addr) (ct : Value) (osl : Array (Option Value)),
    K.lookup fI = some ⟨oc, od, .func (ksFn "__init__" qual (defArgs st) (defBody st) (defScope st) .none .none doc pm an (.ref cda) ct cc), osl⟩
  cd : codeIn K (.ref cda) qual = true
  code : ∃ (a : Value) (b : Option Addr) (vs : Array Value) (sl : Array (Option Value)) (file : Str) (tf : Tok), K.lookup cda = some ⟨a, b, .fields vs, sl⟩ ∧ vs[2]? = some (.str file tf) ∧ ((prog.main.file : Str) == file) = true
  cell : ∃ (a : Value) (b : Option Addr) (sl : Array (Option Value)), K.lookup cc = some ⟨a, b, .cell (some (.ref C)), sl⟩
  self : mroIn K C (.ref C) = some true
  opq : nsIn K cStatics "thirdparty.any" = some none
  sup : ks_superIn K C C "__init__" = some (some (.builtin "ValueError.__init__"))
  subV : subIn K (.ref C) (.type "ValueError") = some true
  top : (prog.main.scope.names.lookup ("super" : Str)).isSome = false
section
variable {prog : Program} {w : World} {A : Around} {E : Value → Shared → Prop} {R : Result → Shared → Prop} {s : Shared} {K : Frag} {mg mb : Str → Option Value} {C fI cc cda : Addr} {f qual : Str}
/-- the bound built-in __init__ called -/
theorem call_mw {h : Heap} {g : Array GenState} {d : Drawn} {t : Nat} {os : OsState} {nm q : Str} {N : Addr} {bs bm : List Value} {sn : List Str} {sub : List Value} {ab : Bool} {col : Option Bool} {dd : Option Addr} {k0 k1 k2 k3 k5 : Option Value}
    {u e t0 : Addr} {rest : List Value} {Q : Value → Shared → Prop}
    (hC : h.get? C = some (excClassObj nm q C N bs bm true sn sub ab col dd k0 k1 k2 k3 k5 "ValueError.__new__")) (he : h.get? e = some (excO C t0)) (hu : h.get? u = some (kxs_mw "ValueError.__init__" e)) (hrest : rest.length ≤ sizeLine)
    (hq : ∀ h' t1, (∀ b o, b ≠ e → h.get? b = some o → h'.get? b = some o) → h'.get? e = some (excO C t1) → Q .none ⟨h', g, d, t, os⟩) :
    wpAny (model prog w) A (call (.ref u) rest) Q E ⟨h, g, d, t, os⟩ := by
  refine wpAny_call (codeAny_of_tree ?_); show wpAny _ A.in1 (callAny (.ref u) ⟨rest, []⟩) _ _ _; simp only [callAny]
  refine wpAny_bind (wpAny_load hu ?_); simp only [kxs_mw, show (Value.type "method-wrapper" == Value.type "method" || Value.type "method-wrapper" == Value.type "builtin_function_or_method" || Value.type "method-wrapper" == Value.type "method-wrapper") = true by decide, if_true]
  refine KFB.if_so (by decide) ?_; refine wpAny_bind (check_bound_init F.excBase_ValueError.toExcCallFacts hC he rfl ?_); refine wpAny_bind (wpAny_pure (wpAny_pure ?_))
  refine ⟨plainId_quiet F.excBase_ValueError.init.plain _, codeAny_builtin F.excBase_ValueError.initEntry ?_⟩
  exact exc_init_tree (cls := .ref C) (t0 := t0) (dv := none) (c2 := .none) (c3 := .none) (b4 := .bool false) he hrest fun h' k e' _ => hq h' _ k e'
/-- what __init__ leaves of a fresh error at x -/
structure InitEnd (h h' : Heap) (x C dx t1 : Addr) (f : Str) (v : Value) : Prop where
  keep : ∀ b o, b ≠ x → h.get? b = some o → h'.get? b = some o
  obj : h'.get? x = some { cls := .ref C, dict := some dx, data := .fields #[.ref t1, .none, .none, .none, .bool false, .none] }
  dbig : h.objs.size ≤ dx
  dne : dx ≠ x
  ns : h'.Ns1 dx (fun y => if y = f then some v else none)
/-- a made error -/
structure Made (h h' : Heap) (e C d : Addr) (f : Str) (v : Value) : Prop where
  keep : ∀ b o, h.get? b = some o → h'.get? b = some o
  new : h.objs.size ≤ e
  obj : ∃ t1 : Addr, h'.get? e = some { cls := .ref C, dict := some d, data := .fields #[.ref t1, .none, .none, .none, .bool false, .none] }
  dbig : h.objs.size ≤ d
  dne : d ≠ e
  ns : h'.Ns1 d (fun y => if y = f then some v else none)
theorem no_K {K : Frag} {h : Heap} {a : Addr} (X : K.In h) (ha : h.objs.size ≤ a) : K.lookup a = none := by
  cases e : K.lookup a with
  | none => rfl
  | some o => exact absurd (Nat.lt_of_lt_of_le (Heap.lt_size (X _ _ e)) ha) (Nat.lt_irrefl _)
/-- what both ways of the call leave -/
theorem made_of {h : Heap} {l : List Value} {C dx t1 : Addr} {f : Str} {v : Value} {h' : Heap} (N : InitEnd ((h.push (kdv_tup l)).push (excO C h.objs.size)) h' (h.objs.size + 1) C dx t1 f v) : Made h h' (h.objs.size + 1) C dx f v := by
  obtain ⟨k', hx, dn, dne, hns⟩ := N
  have k : ∀ b o, h.get? b = some o → ((h.push (kdv_tup l)).push (excO C h.objs.size)).get? b = some o := fun b o z => Heap.get?_push_of_some _ (Heap.get?_push_of_some _ z)
  have z : h.objs.size + 1 + 1 ≤ dx := by
    have q := dn
    rw [Heap.size_push, Heap.size_push] at q
    exact q
  exact ⟨fun b o e => k' b o (Nat.ne_of_lt (Nat.lt_succ_of_lt (Heap.lt_size e))) (k b o e), Nat.le_succ _, ⟨_, hx⟩, Nat.le_trans (Nat.le_trans (Nat.le_succ _) (Nat.le_succ _)) z, dne, hns⟩
abbrev sBadText : Stmt := inClass (top 36) 0
theorem err_BadText (T : ErrC prog K sBadText C fI cc cda "place" "BadText.__init__") {x t0 : Addr} {v : Value} {ar : Args} (ha : ar = ⟨[.ref x, v], []⟩ ∨ ar = ⟨[.ref x], [("place", v)]⟩) (X : K.In s.heap) (G : s.heap.Ns mainGlobals mg) (gs : mg "super" = none) (Bt : s.heap.Ns builtinsNs mb) (hb : ∀ y : Str, y ≠ "__name__" → mb y = bootBuiltins y)
    (hlim : s.heap.NoLimit) (hx : s.heap.get? x = some (excO C t0)) (hnx : K.lookup x = none) (hroom : A.depth < recursionLimit)
    (hq : ∀ h' tk dx t1, InitEnd s.heap h' x C dx t1 "place" v → R (.ok (.ret .none)) { s with heap := h', toks := tk }) :
    codeAny (model prog w) A (.call (.ref fI) ar) R s := by
  obtain ⟨oc, od, doc, pm, an, ct, osl, ho⟩ := T.fn
  obtain ⟨nm, q, N, bs, bm, sn, sub, ab, col, dd, k0, k1, k2, k3, k5, hC, hbm⟩ := T.cls
  obtain ⟨ca, cb, vs, csl, file, tf, hcode, hvs, hfile⟩ := T.code
  obtain ⟨la, lb, lsl, hcell⟩ := T.cell
  have hcl : clsIn K C = some { name := nm, bases := bs, mro := .ref C :: bm, ns := N, qualname := q, hasDict := true, slotNames := sn, subclasses := sub, abstract := ab, collection := col, hasDel := false } := by unfold clsIn; rw [hC] <;> rfl
  refine ks_codeAny_call_defAt (fd := ksFn "__init__" "BadText.__init__" (defArgs sBadText) (defBody sBadText) (defScope sBadText) .none .none doc pm an (.ref cda) ct cc) (binds := [("self", .ref x), ("place", v)]) hroom (X _ _ ho) rfl hlim (codeRec_of X T.cd) rfl (BindsTo.of_eq (by rcases ha with rfl | rfl <;> first | rfl | with_unfolding_all rfl)) (show ∀ y ∈ (defScope sBadText).names, y.2 ≠ .cell by decide +kernel)
    (fun y hy => by
      simp only [List.mem_cons, List.not_mem_nil, or_false] at hy
      rcases hy with rfl | rfl <;> first | rfl | decide +kernel) (fun h₁ hns hk => ?_)
  have hxL : s.heap.objs.size ≠ x := Nat.ne_of_gt (Heap.lt_size hx)
  have X₁ : K.In h₁ := X.keeps hk
  have hx₁ := hk _ _ hx
  have I₁ : InstAt h₁ x (excO C t0) C none := ⟨hx₁, rfl, rfl, trivial⟩
  show wpAt _ _ _ (execs (_ :: _) _) _ _ _
  refine ks_wpAt_execs_cons (ks_wpAt_Expr_any (ks_wpAt_MethodCall (ks_wpAt_super_base (of := ⟨oc, od, .func _, osl⟩) (by first | rfl | decide +kernel) (by first | rfl | decide +kernel) (by decide) rfl (X₁ _ _ ho) rfl rfl rfl (X₁ _ _ hcode) rfl hvs hfile T.top ?_)))
  refine ks_loadName_global rfl rfl (loadGlobal_builtin (mg := mg) (mb := mb) (v := .type "super") (G.keeps hk) gs (Bt.keeps hk) ((hb _ (by decide +kernel)).trans (by decide +kernel)) ⟨rfl, ?_⟩)
  refine wpAny_loadName_free (v := .ref C) rfl rfl rfl ⟨_, X₁ _ _ hcell, rfl⟩ ?_
  refine wpAny_loadName_local (v := .ref x) rfl rfl hns rfl ?_
  refine ks_wpAny_isType_cls (X₁ _ _ hC) rfl ⟨rfl, ?_⟩
  refine ks_wpAny_call_super (X₁ _ _ hC) rfl hx₁ rfl (fun c z => by cases z) (looks_mroIn X₁ T.self) (fun h₂ e₂ k₂ => ?_)
  have X₂ : K.In h₂ := X₁.keeps k₂
  have I₂ : InstAt h₂ x (excO C t0) C none := ⟨k₂ _ _ hx₁, rfl, rfl, trivial⟩
  have hal : alongIn K "__init__" (((.ref C :: bm : List Value).dropWhile (· != .ref C)).drop 1) = some (some (.builtin "ValueError.__init__")) := by
    have z := T.sup
    unfold ks_superIn at z
    rw [hcl] at z
    exact z
  have hxC : x ≠ C := fun z => by
    rw [z, hC] at hnx
    cases hnx
  refine kxs_getMethod kxs_ValueError (l₀ := .ref C :: bm) e₂ (looks_opaque X₂ T.opq) (fun A' Q' E' s' k q' => wpAny_bind ((looks_clsIn X₂ hcl) A' _ E' s' k (wpAny_pure q'))) rfl X₂ hal (I₂.type.andThen (looks_subIn X₂ T.subV)) hxC (by decide) ?_
  have k₃ : ∀ b o, h₂.get? b = some o → (h₂.push (kxs_mw "ValueError.__init__" x)).get? b = some o := fun b o z => Heap.get?_push_of_some _ z
  have hu₃ : (h₂.push (kxs_mw "ValueError.__init__" x)).get? h₂.objs.size = some (kxs_mw "ValueError.__init__" x) := Heap.get?_push_at rfl rfl
  refine kxs_callWith (i := "ValueError.__init__") (x := x) rfl (evalArgs_plain (spliced_cons (Constant_str (k := 0) (pos := ⟨0, 0, 0, 0⟩) (spliced_nil ⟨hu₃, ?_⟩))))
  refine call_mw (k₃ _ _ (X₂ _ _ hC)) (k₃ _ _ (k₂ _ _ hx₁)) hu₃ (by show 1 ≤ sizeLine; decide) (fun h₄ t1 k₄ e₄ => ?_)
  have k₁₄ : ∀ b o, b ≠ x → h₁.get? b = some o → h₄.get? b = some o := fun b o n z => k₄ b o n (k₃ b o (k₂ b o z))
  have hn₄ : h₄.Ns s.heap.objs.size (fun y => ([("self", Value.ref x), ("place", v)] : List (Str × Value)).reverse.lookup y) := hns.at (fun o z => k₁₄ _ o hxL z)
  have X₄ : K.In h₄ := fun a o z => k₁₄ a o (fun y => by rw [y, hnx] at z; cases z) (X₁ a o z)
  refine wpAt_of_wpAny (wpAny_execs_cons (plainObj_wpAny_Assign_Attribute ?_))
  refine ESX.ldL (v := v) hn₄ rfl (ESX.ldL (v := .ref x) hn₄ rfl ?_)
  refine set_plain X₄ (ox := excO C t1) (od := none) ⟨e₄, rfl, rfl, trivial⟩ T.sa ?_
  refine exc_osa X₄ e₄ hcl (show refsVE (.ref C :: bm) = true from hbm) rfl T.noN (fun h₅ tk₅ dx k₅ dn dne hx₅ hn₅ => ?_)
  have z₁ : s.heap.objs.size < h₄.objs.size := hn₄.lt
  exact wpAny_execs_nil (hq h₅ tk₅ dx t1 ⟨fun b o n z => k₅ b o n (k₁₄ b o n (hk b o z)), hx₅, Nat.le_of_lt (Nat.lt_of_lt_of_le z₁ dn), dne, hn₅⟩)
theorem made_BadText (T : ErrC prog K sBadText C fI cc cda "place" "BadText.__init__") {v : Value} {ar : Args} (ha : ar = ⟨[v], []⟩ ∨ ar = ⟨[], [("place", v)]⟩) (X : K.In s.heap) (G : s.heap.Ns mainGlobals mg) (gs : mg "super" = none) (Bt : s.heap.Ns builtinsNs mb) (hb : ∀ y : Str, y ≠ "__name__" → mb y = bootBuiltins y)
    (hlim : s.heap.NoLimit) (hroom : A.depth + 1 < recursionLimit) (hq : ∀ h' tk e d, Made s.heap h' e C d "place" v → R (.ok (.ret (.ref e))) { s with heap := h', toks := tk }) :
    codeAny (model prog w) A (.call (.ref C) ar) R s := by
  obtain ⟨nm, q, N, bs, bm, sn, sub, ab, col, dd, k0, k1, k2, k3, k5, hC, hbm⟩ := T.cls
  obtain ⟨hp, g, dr, tk, os⟩ := s
  have go : ∀ (l : List Value) (ai : Args) (A' : Around), A'.depth < recursionLimit → (ai = ⟨[.ref (hp.objs.size + 1), v], []⟩ ∨ ai = ⟨[.ref (hp.objs.size + 1)], [("place", v)]⟩) →
      codeAny (model prog w) A' (.call (.ref fI) ai) (W.InitBack (hp.objs.size + 1) R) ⟨(hp.push (kdv_tup l)).push (excO C hp.objs.size), g, dr, tk, os⟩ := fun l ai A' hr hi => by
    have k : ∀ b o, hp.get? b = some o → ((hp.push (kdv_tup l)).push (excO C hp.objs.size)).get? b = some o := fun b o z => Heap.get?_push_of_some _ (Heap.get?_push_of_some _ z)
    refine err_BadText (s := ⟨(hp.push (kdv_tup l)).push (excO C hp.objs.size), g, dr, tk, os⟩) (mg := mg) (mb := mb) T hi (X.keeps k) (G.keeps k) gs (Bt.keeps k) hb (hlim.keeps k) (by heap_get) (no_K X (Nat.le_succ _)) hr fun h' tk' dx t1 N => ⟨rfl, hq h' tk' (hp.objs.size + 1) dx (made_of N)⟩
  have hT : ∀ Y : String, bm.contains (.type Y) = veTail.contains (.type Y) := fun Y => refsVE_contains Y bm hbm
  rcases ha with rfl | rfl
  · exact call_own F.excBase_ValueError hT (X _ _ hC) (looks_findIn X T.iC) (fun self => bind_fn X self T.tI) (by show 1 ≤ sizeLine; decide) (go _ _ _ hroom (.inl rfl))
  · exact call_kw hT (X _ _ hC) (looks_findIn X T.iC) (fun self => bind_fn X self T.tI) (go _ _ _ hroom (.inr rfl))
abbrev sNotChecked : Stmt := inClass (top 37) 0
theorem err_NotChecked (T : ErrC prog K sNotChecked C fI cc cda "what" "NotChecked.__init__") {x t0 : Addr} {v : Value} {ar : Args} (ha : ar = ⟨[.ref x, v], []⟩ ∨ ar = ⟨[.ref x], [("what", v)]⟩) (X : K.In s.heap) (G : s.heap.Ns mainGlobals mg) (gs : mg "super" = none) (Bt : s.heap.Ns builtinsNs mb) (hb : ∀ y : Str, y ≠ "__name__" → mb y = bootBuiltins y)
    (hlim : s.heap.NoLimit) (hx : s.heap.get? x = some (excO C t0)) (hnx : K.lookup x = none) (hroom : A.depth < recursionLimit)
    (hq : ∀ h' tk dx t1, InitEnd s.heap h' x C dx t1 "what" v → R (.ok (.ret .none)) { s with heap := h', toks := tk }) :
    codeAny (model prog w) A (.call (.ref fI) ar) R s := by
  obtain ⟨oc, od, doc, pm, an, ct, osl, ho⟩ := T.fn
  obtain ⟨nm, q, N, bs, bm, sn, sub, ab, col, dd, k0, k1, k2, k3, k5, hC, hbm⟩ := T.cls
  obtain ⟨ca, cb, vs, csl, file, tf, hcode, hvs, hfile⟩ := T.code
  obtain ⟨la, lb, lsl, hcell⟩ := T.cell
  have hcl : clsIn K C = some { name := nm, bases := bs, mro := .ref C :: bm, ns := N, qualname := q, hasDict := true, slotNames := sn, subclasses := sub, abstract := ab, collection := col, hasDel := false } := by unfold clsIn; rw [hC] <;> rfl
  refine ks_codeAny_call_defAt (fd := ksFn "__init__" "NotChecked.__init__" (defArgs sNotChecked) (defBody sNotChecked) (defScope sNotChecked) .none .none doc pm an (.ref cda) ct cc) (binds := [("self", .ref x), ("what", v)]) hroom (X _ _ ho) rfl hlim (codeRec_of X T.cd) rfl (BindsTo.of_eq (by rcases ha with rfl | rfl <;> first | rfl | with_unfolding_all rfl)) (show ∀ y ∈ (defScope sNotChecked).names, y.2 ≠ .cell by decide +kernel)
    (fun y hy => by
      simp only [List.mem_cons, List.not_mem_nil, or_false] at hy
      rcases hy with rfl | rfl <;> first | rfl | decide +kernel) (fun h₁ hns hk => ?_)
  have hxL : s.heap.objs.size ≠ x := Nat.ne_of_gt (Heap.lt_size hx)
  have X₁ : K.In h₁ := X.keeps hk
  have hx₁ := hk _ _ hx
  have I₁ : InstAt h₁ x (excO C t0) C none := ⟨hx₁, rfl, rfl, trivial⟩
  show wpAt _ _ _ (execs (_ :: _) _) _ _ _
  refine ks_wpAt_execs_cons (ks_wpAt_Expr_any (ks_wpAt_MethodCall (ks_wpAt_super_base (of := ⟨oc, od, .func _, osl⟩) (by first | rfl | decide +kernel) (by first | rfl | decide +kernel) (by decide) rfl (X₁ _ _ ho) rfl rfl rfl (X₁ _ _ hcode) rfl hvs hfile T.top ?_)))
  refine ks_loadName_global rfl rfl (loadGlobal_builtin (mg := mg) (mb := mb) (v := .type "super") (G.keeps hk) gs (Bt.keeps hk) ((hb _ (by decide +kernel)).trans (by decide +kernel)) ⟨rfl, ?_⟩)
  refine wpAny_loadName_free (v := .ref C) rfl rfl rfl ⟨_, X₁ _ _ hcell, rfl⟩ ?_
  refine wpAny_loadName_local (v := .ref x) rfl rfl hns rfl ?_
  refine ks_wpAny_isType_cls (X₁ _ _ hC) rfl ⟨rfl, ?_⟩
  refine ks_wpAny_call_super (X₁ _ _ hC) rfl hx₁ rfl (fun c z => by cases z) (looks_mroIn X₁ T.self) (fun h₂ e₂ k₂ => ?_)
  have X₂ : K.In h₂ := X₁.keeps k₂
  have I₂ : InstAt h₂ x (excO C t0) C none := ⟨k₂ _ _ hx₁, rfl, rfl, trivial⟩
  have hal : alongIn K "__init__" (((.ref C :: bm : List Value).dropWhile (· != .ref C)).drop 1) = some (some (.builtin "ValueError.__init__")) := by
    have z := T.sup
    unfold ks_superIn at z
    rw [hcl] at z
    exact z
  have hxC : x ≠ C := fun z => by
    rw [z, hC] at hnx
    cases hnx
  refine kxs_getMethod kxs_ValueError (l₀ := .ref C :: bm) e₂ (looks_opaque X₂ T.opq) (fun A' Q' E' s' k q' => wpAny_bind ((looks_clsIn X₂ hcl) A' _ E' s' k (wpAny_pure q'))) rfl X₂ hal (I₂.type.andThen (looks_subIn X₂ T.subV)) hxC (by decide) ?_
  have k₃ : ∀ b o, h₂.get? b = some o → (h₂.push (kxs_mw "ValueError.__init__" x)).get? b = some o := fun b o z => Heap.get?_push_of_some _ z
  have hu₃ : (h₂.push (kxs_mw "ValueError.__init__" x)).get? h₂.objs.size = some (kxs_mw "ValueError.__init__" x) := Heap.get?_push_at rfl rfl
  refine kxs_callWith (i := "ValueError.__init__") (x := x) rfl (evalArgs_plain (spliced_cons (Constant_str (k := 0) (pos := ⟨0, 0, 0, 0⟩) (spliced_nil ⟨hu₃, ?_⟩))))
  refine call_mw (k₃ _ _ (X₂ _ _ hC)) (k₃ _ _ (k₂ _ _ hx₁)) hu₃ (by show 1 ≤ sizeLine; decide) (fun h₄ t1 k₄ e₄ => ?_)
  have k₁₄ : ∀ b o, b ≠ x → h₁.get? b = some o → h₄.get? b = some o := fun b o n z => k₄ b o n (k₃ b o (k₂ b o z))
  have hn₄ : h₄.Ns s.heap.objs.size (fun y => ([("self", Value.ref x), ("what", v)] : List (Str × Value)).reverse.lookup y) := hns.at (fun o z => k₁₄ _ o hxL z)
  have X₄ : K.In h₄ := fun a o z => k₁₄ a o (fun y => by rw [y, hnx] at z; cases z) (X₁ a o z)
  refine wpAt_of_wpAny (wpAny_execs_cons (plainObj_wpAny_Assign_Attribute ?_))
  refine ESX.ldL (v := v) hn₄ rfl (ESX.ldL (v := .ref x) hn₄ rfl ?_)
  refine set_plain X₄ (ox := excO C t1) (od := none) ⟨e₄, rfl, rfl, trivial⟩ T.sa ?_
  refine exc_osa X₄ e₄ hcl (show refsVE (.ref C :: bm) = true from hbm) rfl T.noN (fun h₅ tk₅ dx k₅ dn dne hx₅ hn₅ => ?_)
  have z₁ : s.heap.objs.size < h₄.objs.size := hn₄.lt
  exact wpAny_execs_nil (hq h₅ tk₅ dx t1 ⟨fun b o n z => k₅ b o n (k₁₄ b o n (hk b o z)), hx₅, Nat.le_of_lt (Nat.lt_of_lt_of_le z₁ dn), dne, hn₅⟩)
theorem made_NotChecked (T : ErrC prog K sNotChecked C fI cc cda "what" "NotChecked.__init__") {v : Value} {ar : Args} (ha : ar = ⟨[v], []⟩ ∨ ar = ⟨[], [("what", v)]⟩) (X : K.In s.heap) (G : s.heap.Ns mainGlobals mg) (gs : mg "super" = none) (Bt : s.heap.Ns builtinsNs mb) (hb : ∀ y : Str, y ≠ "__name__" → mb y = bootBuiltins y)
    (hlim : s.heap.NoLimit) (hroom : A.depth + 1 < recursionLimit) (hq : ∀ h' tk e d, Made s.heap h' e C d "what" v → R (.ok (.ret (.ref e))) { s with heap := h', toks := tk }) :
    codeAny (model prog w) A (.call (.ref C) ar) R s := by
  obtain ⟨nm, q, N, bs, bm, sn, sub, ab, col, dd, k0, k1, k2, k3, k5, hC, hbm⟩ := T.cls
  obtain ⟨hp, g, dr, tk, os⟩ := s
  have go : ∀ (l : List Value) (ai : Args) (A' : Around), A'.depth < recursionLimit → (ai = ⟨[.ref (hp.objs.size + 1), v], []⟩ ∨ ai = ⟨[.ref (hp.objs.size + 1)], [("what", v)]⟩) →
      codeAny (model prog w) A' (.call (.ref fI) ai) (W.InitBack (hp.objs.size + 1) R) ⟨(hp.push (kdv_tup l)).push (excO C hp.objs.size), g, dr, tk, os⟩ := fun l ai A' hr hi => by
    have k : ∀ b o, hp.get? b = some o → ((hp.push (kdv_tup l)).push (excO C hp.objs.size)).get? b = some o := fun b o z => Heap.get?_push_of_some _ (Heap.get?_push_of_some _ z)
    refine err_NotChecked (s := ⟨(hp.push (kdv_tup l)).push (excO C hp.objs.size), g, dr, tk, os⟩) (mg := mg) (mb := mb) T hi (X.keeps k) (G.keeps k) gs (Bt.keeps k) hb (hlim.keeps k) (by heap_get) (no_K X (Nat.le_succ _)) hr fun h' tk' dx t1 N => ⟨rfl, hq h' tk' (hp.objs.size + 1) dx (made_of N)⟩
  have hT : ∀ Y : String, bm.contains (.type Y) = veTail.contains (.type Y) := fun Y => refsVE_contains Y bm hbm
  rcases ha with rfl | rfl
  · exact call_own F.excBase_ValueError hT (X _ _ hC) (looks_findIn X T.iC) (fun self => bind_fn X self T.tI) (by show 1 ≤ sizeLine; decide) (go _ _ _ hroom (.inl rfl))
  · exact call_kw hT (X _ _ hC) (looks_findIn X T.iC) (fun self => bind_fn X self T.tI) (go _ _ _ hroom (.inr rfl))
abbrev sNotRight : Stmt := inClass (top 38) 0
theorem err_NotRight (T : ErrC prog K sNotRight C fI cc cda "what" "NotRight.__init__") {x t0 : Addr} {v : Value} {ar : Args} (ha : ar = ⟨[.ref x, v], []⟩ ∨ ar = ⟨[.ref x], [("what", v)]⟩) (X : K.In s.heap) (G : s.heap.Ns mainGlobals mg) (gs : mg "super" = none) (Bt : s.heap.Ns builtinsNs mb) (hb : ∀ y : Str, y ≠ "__name__" → mb y = bootBuiltins y)
    (hlim : s.heap.NoLimit) (hx : s.heap.get? x = some (excO C t0)) (hnx : K.lookup x = none) (hroom : A.depth < recursionLimit)
    (hq : ∀ h' tk dx t1, InitEnd s.heap h' x C dx t1 "what" v → R (.ok (.ret .none)) { s with heap := h', toks := tk }) :
    codeAny (model prog w) A (.call (.ref fI) ar) R s := by
  obtain ⟨oc, od, doc, pm, an, ct, osl, ho⟩ := T.fn
  obtain ⟨nm, q, N, bs, bm, sn, sub, ab, col, dd, k0, k1, k2, k3, k5, hC, hbm⟩ := T.cls
  obtain ⟨ca, cb, vs, csl, file, tf, hcode, hvs, hfile⟩ := T.code
  obtain ⟨la, lb, lsl, hcell⟩ := T.cell
  have hcl : clsIn K C = some { name := nm, bases := bs, mro := .ref C :: bm, ns := N, qualname := q, hasDict := true, slotNames := sn, subclasses := sub, abstract := ab, collection := col, hasDel := false } := by unfold clsIn; rw [hC] <;> rfl
  refine ks_codeAny_call_defAt (fd := ksFn "__init__" "NotRight.__init__" (defArgs sNotRight) (defBody sNotRight) (defScope sNotRight) .none .none doc pm an (.ref cda) ct cc) (binds := [("self", .ref x), ("what", v)]) hroom (X _ _ ho) rfl hlim (codeRec_of X T.cd) rfl (BindsTo.of_eq (by rcases ha with rfl | rfl <;> first | rfl | with_unfolding_all rfl)) (show ∀ y ∈ (defScope sNotRight).names, y.2 ≠ .cell by decide +kernel)
    (fun y hy => by
      simp only [List.mem_cons, List.not_mem_nil, or_false] at hy
      rcases hy with rfl | rfl <;> first | rfl | decide +kernel) (fun h₁ hns hk => ?_)
  have hxL : s.heap.objs.size ≠ x := Nat.ne_of_gt (Heap.lt_size hx)
  have X₁ : K.In h₁ := X.keeps hk
  have hx₁ := hk _ _ hx
  have I₁ : InstAt h₁ x (excO C t0) C none := ⟨hx₁, rfl, rfl, trivial⟩
  show wpAt _ _ _ (execs (_ :: _) _) _ _ _
  refine ks_wpAt_execs_cons (ks_wpAt_Expr_any (ks_wpAt_MethodCall (ks_wpAt_super_base (of := ⟨oc, od, .func _, osl⟩) (by first | rfl | decide +kernel) (by first | rfl | decide +kernel) (by decide) rfl (X₁ _ _ ho) rfl rfl rfl (X₁ _ _ hcode) rfl hvs hfile T.top ?_)))
  refine ks_loadName_global rfl rfl (loadGlobal_builtin (mg := mg) (mb := mb) (v := .type "super") (G.keeps hk) gs (Bt.keeps hk) ((hb _ (by decide +kernel)).trans (by decide +kernel)) ⟨rfl, ?_⟩)
  refine wpAny_loadName_free (v := .ref C) rfl rfl rfl ⟨_, X₁ _ _ hcell, rfl⟩ ?_
  refine wpAny_loadName_local (v := .ref x) rfl rfl hns rfl ?_
  refine ks_wpAny_isType_cls (X₁ _ _ hC) rfl ⟨rfl, ?_⟩
  refine ks_wpAny_call_super (X₁ _ _ hC) rfl hx₁ rfl (fun c z => by cases z) (looks_mroIn X₁ T.self) (fun h₂ e₂ k₂ => ?_)
  have X₂ : K.In h₂ := X₁.keeps k₂
  have I₂ : InstAt h₂ x (excO C t0) C none := ⟨k₂ _ _ hx₁, rfl, rfl, trivial⟩
  have hal : alongIn K "__init__" (((.ref C :: bm : List Value).dropWhile (· != .ref C)).drop 1) = some (some (.builtin "ValueError.__init__")) := by
    have z := T.sup
    unfold ks_superIn at z
    rw [hcl] at z
    exact z
  have hxC : x ≠ C := fun z => by
    rw [z, hC] at hnx
    cases hnx
  refine kxs_getMethod kxs_ValueError (l₀ := .ref C :: bm) e₂ (looks_opaque X₂ T.opq) (fun A' Q' E' s' k q' => wpAny_bind ((looks_clsIn X₂ hcl) A' _ E' s' k (wpAny_pure q'))) rfl X₂ hal (I₂.type.andThen (looks_subIn X₂ T.subV)) hxC (by decide) ?_
  have k₃ : ∀ b o, h₂.get? b = some o → (h₂.push (kxs_mw "ValueError.__init__" x)).get? b = some o := fun b o z => Heap.get?_push_of_some _ z
  have hu₃ : (h₂.push (kxs_mw "ValueError.__init__" x)).get? h₂.objs.size = some (kxs_mw "ValueError.__init__" x) := Heap.get?_push_at rfl rfl
  refine kxs_callWith (i := "ValueError.__init__") (x := x) rfl (evalArgs_plain (spliced_cons (Constant_str (k := 0) (pos := ⟨0, 0, 0, 0⟩) (spliced_nil ⟨hu₃, ?_⟩))))
  refine call_mw (k₃ _ _ (X₂ _ _ hC)) (k₃ _ _ (k₂ _ _ hx₁)) hu₃ (by show 1 ≤ sizeLine; decide) (fun h₄ t1 k₄ e₄ => ?_)
  have k₁₄ : ∀ b o, b ≠ x → h₁.get? b = some o → h₄.get? b = some o := fun b o n z => k₄ b o n (k₃ b o (k₂ b o z))
  have hn₄ : h₄.Ns s.heap.objs.size (fun y => ([("self", Value.ref x), ("what", v)] : List (Str × Value)).reverse.lookup y) := hns.at (fun o z => k₁₄ _ o hxL z)
  have X₄ : K.In h₄ := fun a o z => k₁₄ a o (fun y => by rw [y, hnx] at z; cases z) (X₁ a o z)
  refine wpAt_of_wpAny (wpAny_execs_cons (plainObj_wpAny_Assign_Attribute ?_))
  refine ESX.ldL (v := v) hn₄ rfl (ESX.ldL (v := .ref x) hn₄ rfl ?_)
  refine set_plain X₄ (ox := excO C t1) (od := none) ⟨e₄, rfl, rfl, trivial⟩ T.sa ?_
  refine exc_osa X₄ e₄ hcl (show refsVE (.ref C :: bm) = true from hbm) rfl T.noN (fun h₅ tk₅ dx k₅ dn dne hx₅ hn₅ => ?_)
  have z₁ : s.heap.objs.size < h₄.objs.size := hn₄.lt
  exact wpAny_execs_nil (hq h₅ tk₅ dx t1 ⟨fun b o n z => k₅ b o n (k₁₄ b o n (hk b o z)), hx₅, Nat.le_of_lt (Nat.lt_of_lt_of_le z₁ dn), dne, hn₅⟩)
theorem made_NotRight (T : ErrC prog K sNotRight C fI cc cda "what" "NotRight.__init__") {v : Value} {ar : Args} (ha : ar = ⟨[v], []⟩ ∨ ar = ⟨[], [("what", v)]⟩) (X : K.In s.heap) (G : s.heap.Ns mainGlobals mg) (gs : mg "super" = none) (Bt : s.heap.Ns builtinsNs mb) (hb : ∀ y : Str, y ≠ "__name__" → mb y = bootBuiltins y)
    (hlim : s.heap.NoLimit) (hroom : A.depth + 1 < recursionLimit) (hq : ∀ h' tk e d, Made s.heap h' e C d "what" v → R (.ok (.ret (.ref e))) { s with heap := h', toks := tk }) :
    codeAny (model prog w) A (.call (.ref C) ar) R s := by
  obtain ⟨nm, q, N, bs, bm, sn, sub, ab, col, dd, k0, k1, k2, k3, k5, hC, hbm⟩ := T.cls
  obtain ⟨hp, g, dr, tk, os⟩ := s
  have go : ∀ (l : List Value) (ai : Args) (A' : Around), A'.depth < recursionLimit → (ai = ⟨[.ref (hp.objs.size + 1), v], []⟩ ∨ ai = ⟨[.ref (hp.objs.size + 1)], [("what", v)]⟩) →
      codeAny (model prog w) A' (.call (.ref fI) ai) (W.InitBack (hp.objs.size + 1) R) ⟨(hp.push (kdv_tup l)).push (excO C hp.objs.size), g, dr, tk, os⟩ := fun l ai A' hr hi => by
    have k : ∀ b o, hp.get? b = some o → ((hp.push (kdv_tup l)).push (excO C hp.objs.size)).get? b = some o := fun b o z => Heap.get?_push_of_some _ (Heap.get?_push_of_some _ z)
    refine err_NotRight (s := ⟨(hp.push (kdv_tup l)).push (excO C hp.objs.size), g, dr, tk, os⟩) (mg := mg) (mb := mb) T hi (X.keeps k) (G.keeps k) gs (Bt.keeps k) hb (hlim.keeps k) (by heap_get) (no_K X (Nat.le_succ _)) hr fun h' tk' dx t1 N => ⟨rfl, hq h' tk' (hp.objs.size + 1) dx (made_of N)⟩
  have hT : ∀ Y : String, bm.contains (.type Y) = veTail.contains (.type Y) := fun Y => refsVE_contains Y bm hbm
  rcases ha with rfl | rfl
  · exact call_own F.excBase_ValueError hT (X _ _ hC) (looks_findIn X T.iC) (fun self => bind_fn X self T.tI) (by show 1 ≤ sizeLine; decide) (go _ _ _ hroom (.inl rfl))
  · exact call_kw hT (X _ _ hC) (looks_findIn X T.iC) (fun self => bind_fn X self T.tI) (go _ _ _ hroom (.inr rfl))
abbrev sNotLet : Stmt := inClass (top 39) 0
theorem err_NotLet (T : ErrC prog K sNotLet C fI cc cda "index" "NotLet.__init__") {x t0 : Addr} {v : Value} {ar : Args} (ha : ar = ⟨[.ref x, v], []⟩ ∨ ar = ⟨[.ref x], [("index", v)]⟩) (X : K.In s.heap) (G : s.heap.Ns mainGlobals mg) (gs : mg "super" = none) (Bt : s.heap.Ns builtinsNs mb) (hb : ∀ y : Str, y ≠ "__name__" → mb y = bootBuiltins y)
    (hlim : s.heap.NoLimit) (hx : s.heap.get? x = some (excO C t0)) (hnx : K.lookup x = none) (hroom : A.depth < recursionLimit)
    (hq : ∀ h' tk dx t1, InitEnd s.heap h' x C dx t1 "index" v → R (.ok (.ret .none)) { s with heap := h', toks := tk }) :
    codeAny (model prog w) A (.call (.ref fI) ar) R s := by
  obtain ⟨oc, od, doc, pm, an, ct, osl, ho⟩ := T.fn
  obtain ⟨nm, q, N, bs, bm, sn, sub, ab, col, dd, k0, k1, k2, k3, k5, hC, hbm⟩ := T.cls
  obtain ⟨ca, cb, vs, csl, file, tf, hcode, hvs, hfile⟩ := T.code
  obtain ⟨la, lb, lsl, hcell⟩ := T.cell
  have hcl : clsIn K C = some { name := nm, bases := bs, mro := .ref C :: bm, ns := N, qualname := q, hasDict := true, slotNames := sn, subclasses := sub, abstract := ab, collection := col, hasDel := false } := by unfold clsIn; rw [hC] <;> rfl
  refine ks_codeAny_call_defAt (fd := ksFn "__init__" "NotLet.__init__" (defArgs sNotLet) (defBody sNotLet) (defScope sNotLet) .none .none doc pm an (.ref cda) ct cc) (binds := [("self", .ref x), ("index", v)]) hroom (X _ _ ho) rfl hlim (codeRec_of X T.cd) rfl (BindsTo.of_eq (by rcases ha with rfl | rfl <;> first | rfl | with_unfolding_all rfl)) (show ∀ y ∈ (defScope sNotLet).names, y.2 ≠ .cell by decide +kernel)
    (fun y hy => by
      simp only [List.mem_cons, List.not_mem_nil, or_false] at hy
      rcases hy with rfl | rfl <;> first | rfl | decide +kernel) (fun h₁ hns hk => ?_)
  have hxL : s.heap.objs.size ≠ x := Nat.ne_of_gt (Heap.lt_size hx)
  have X₁ : K.In h₁ := X.keeps hk
  have hx₁ := hk _ _ hx
  have I₁ : InstAt h₁ x (excO C t0) C none := ⟨hx₁, rfl, rfl, trivial⟩
  show wpAt _ _ _ (execs (_ :: _) _) _ _ _
  refine ks_wpAt_execs_cons (ks_wpAt_Expr_any (ks_wpAt_MethodCall (ks_wpAt_super_base (of := ⟨oc, od, .func _, osl⟩) (by first | rfl | decide +kernel) (by first | rfl | decide +kernel) (by decide) rfl (X₁ _ _ ho) rfl rfl rfl (X₁ _ _ hcode) rfl hvs hfile T.top ?_)))
  refine ks_loadName_global rfl rfl (loadGlobal_builtin (mg := mg) (mb := mb) (v := .type "super") (G.keeps hk) gs (Bt.keeps hk) ((hb _ (by decide +kernel)).trans (by decide +kernel)) ⟨rfl, ?_⟩)
  refine wpAny_loadName_free (v := .ref C) rfl rfl rfl ⟨_, X₁ _ _ hcell, rfl⟩ ?_
  refine wpAny_loadName_local (v := .ref x) rfl rfl hns rfl ?_
  refine ks_wpAny_isType_cls (X₁ _ _ hC) rfl ⟨rfl, ?_⟩
  refine ks_wpAny_call_super (X₁ _ _ hC) rfl hx₁ rfl (fun c z => by cases z) (looks_mroIn X₁ T.self) (fun h₂ e₂ k₂ => ?_)
  have X₂ : K.In h₂ := X₁.keeps k₂
  have I₂ : InstAt h₂ x (excO C t0) C none := ⟨k₂ _ _ hx₁, rfl, rfl, trivial⟩
  have hal : alongIn K "__init__" (((.ref C :: bm : List Value).dropWhile (· != .ref C)).drop 1) = some (some (.builtin "ValueError.__init__")) := by
    have z := T.sup
    unfold ks_superIn at z
    rw [hcl] at z
    exact z
  have hxC : x ≠ C := fun z => by
    rw [z, hC] at hnx
    cases hnx
  refine kxs_getMethod kxs_ValueError (l₀ := .ref C :: bm) e₂ (looks_opaque X₂ T.opq) (fun A' Q' E' s' k q' => wpAny_bind ((looks_clsIn X₂ hcl) A' _ E' s' k (wpAny_pure q'))) rfl X₂ hal (I₂.type.andThen (looks_subIn X₂ T.subV)) hxC (by decide) ?_
  have k₃ : ∀ b o, h₂.get? b = some o → (h₂.push (kxs_mw "ValueError.__init__" x)).get? b = some o := fun b o z => Heap.get?_push_of_some _ z
  have hu₃ : (h₂.push (kxs_mw "ValueError.__init__" x)).get? h₂.objs.size = some (kxs_mw "ValueError.__init__" x) := Heap.get?_push_at rfl rfl
  refine kxs_callWith (i := "ValueError.__init__") (x := x) rfl (evalArgs_plain (spliced_cons (Constant_str (k := 0) (pos := ⟨0, 0, 0, 0⟩) (spliced_nil ⟨hu₃, ?_⟩))))
  refine call_mw (k₃ _ _ (X₂ _ _ hC)) (k₃ _ _ (k₂ _ _ hx₁)) hu₃ (by show 1 ≤ sizeLine; decide) (fun h₄ t1 k₄ e₄ => ?_)
  have k₁₄ : ∀ b o, b ≠ x → h₁.get? b = some o → h₄.get? b = some o := fun b o n z => k₄ b o n (k₃ b o (k₂ b o z))
  have hn₄ : h₄.Ns s.heap.objs.size (fun y => ([("self", Value.ref x), ("index", v)] : List (Str × Value)).reverse.lookup y) := hns.at (fun o z => k₁₄ _ o hxL z)
  have X₄ : K.In h₄ := fun a o z => k₁₄ a o (fun y => by rw [y, hnx] at z; cases z) (X₁ a o z)
  refine wpAt_of_wpAny (wpAny_execs_cons (plainObj_wpAny_Assign_Attribute ?_))
  refine ESX.ldL (v := v) hn₄ rfl (ESX.ldL (v := .ref x) hn₄ rfl ?_)
  refine set_plain X₄ (ox := excO C t1) (od := none) ⟨e₄, rfl, rfl, trivial⟩ T.sa ?_
  refine exc_osa X₄ e₄ hcl (show refsVE (.ref C :: bm) = true from hbm) rfl T.noN (fun h₅ tk₅ dx k₅ dn dne hx₅ hn₅ => ?_)
  have z₁ : s.heap.objs.size < h₄.objs.size := hn₄.lt
  exact wpAny_execs_nil (hq h₅ tk₅ dx t1 ⟨fun b o n z => k₅ b o n (k₁₄ b o n (hk b o z)), hx₅, Nat.le_of_lt (Nat.lt_of_lt_of_le z₁ dn), dne, hn₅⟩)
theorem made_NotLet (T : ErrC prog K sNotLet C fI cc cda "index" "NotLet.__init__") {v : Value} {ar : Args} (ha : ar = ⟨[v], []⟩ ∨ ar = ⟨[], [("index", v)]⟩) (X : K.In s.heap) (G : s.heap.Ns mainGlobals mg) (gs : mg "super" = none) (Bt : s.heap.Ns builtinsNs mb) (hb : ∀ y : Str, y ≠ "__name__" → mb y = bootBuiltins y)
    (hlim : s.heap.NoLimit) (hroom : A.depth + 1 < recursionLimit) (hq : ∀ h' tk e d, Made s.heap h' e C d "index" v → R (.ok (.ret (.ref e))) { s with heap := h', toks := tk }) :
    codeAny (model prog w) A (.call (.ref C) ar) R s := by
  obtain ⟨nm, q, N, bs, bm, sn, sub, ab, col, dd, k0, k1, k2, k3, k5, hC, hbm⟩ := T.cls
  obtain ⟨hp, g, dr, tk, os⟩ := s
  have go : ∀ (l : List Value) (ai : Args) (A' : Around), A'.depth < recursionLimit → (ai = ⟨[.ref (hp.objs.size + 1), v], []⟩ ∨ ai = ⟨[.ref (hp.objs.size + 1)], [("index", v)]⟩) →
      codeAny (model prog w) A' (.call (.ref fI) ai) (W.InitBack (hp.objs.size + 1) R) ⟨(hp.push (kdv_tup l)).push (excO C hp.objs.size), g, dr, tk, os⟩ := fun l ai A' hr hi => by
    have k : ∀ b o, hp.get? b = some o → ((hp.push (kdv_tup l)).push (excO C hp.objs.size)).get? b = some o := fun b o z => Heap.get?_push_of_some _ (Heap.get?_push_of_some _ z)
    refine err_NotLet (s := ⟨(hp.push (kdv_tup l)).push (excO C hp.objs.size), g, dr, tk, os⟩) (mg := mg) (mb := mb) T hi (X.keeps k) (G.keeps k) gs (Bt.keeps k) hb (hlim.keeps k) (by heap_get) (no_K X (Nat.le_succ _)) hr fun h' tk' dx t1 N => ⟨rfl, hq h' tk' (hp.objs.size + 1) dx (made_of N)⟩
  have hT : ∀ Y : String, bm.contains (.type Y) = veTail.contains (.type Y) := fun Y => refsVE_contains Y bm hbm
  rcases ha with rfl | rfl
  · exact call_own F.excBase_ValueError hT (X _ _ hC) (looks_findIn X T.iC) (fun self => bind_fn X self T.tI) (by show 1 ≤ sizeLine; decide) (go _ _ _ hroom (.inl rfl))
  · exact call_kw hT (X _ _ hC) (looks_findIn X T.iC) (fun self => bind_fn X self T.tI) (go _ _ _ hroom (.inr rfl))
end
end K0X
end PySem
/-! errors as values: made, asked for their class, a field read -/
namespace K0
open PySem L2 PySem.Spec PyProof.Rows
open PySem.K0X (Made)
/-- a call of the class C, its argument by place or by its name, makes an error that keeps it -/
def MkE (prog : Program) (w : World) (K : PySem.W.Frag) (mg : Str → Option Value) (C : Addr) (f : Str) : Prop :=
  ∀ (A : Around) (R : Result → Shared → Prop) (s : Shared) (mb : Str → Option Value) (v : Value) (ar : Args), (ar = ⟨[v], []⟩ ∨ ar = ⟨[], [(f, v)]⟩) → K.In s.heap → s.heap.Ns mainGlobals mg → s.heap.Ns builtinsNs mb →
    (∀ y : Str, y ≠ "__name__" → mb y = bootBuiltins y) → s.heap.NoLimit → A.depth + 1 < recursionLimit → (∀ h' tk e d, Made s.heap h' e C d f v → R (.ok (.ret (.ref e))) { s with heap := h', toks := tk }) → codeAny (model prog w) A (.call (.ref C) ar) R s
theorem relO_one {v : V} {u : Value} (r : RelV v u) (f g : Str) : RelO (List.lookup g [(f, v)]) (if g = f then some u else none) := by
  by_cases h : g = f
  · subst h
    rw [if_pos rfl]
    have q : List.lookup g [(g, v)] = some v := by simp [List.lookup]
    rw [q]
    exact r
  · rw [if_neg h]
    have q : (g == f) = false := by simpa using h
    have q2 : List.lookup g [(f, v)] = none := by simp [List.lookup, q]
    rw [q2]
    trivial
/-- an error's object and its dict -/
def ErrD (H : Hp) (e C d : Addr) (fs : List (Str × V)) : Prop := H e = some (exo e C (some d)) ∧ H d = some (exd d fs)
/-- an error of the class C, with a dict or without -/
def ErrAt (H : Hp) (e C : Addr) : Prop := H e = some (ExO (.ref C) e) ∨ ∃ d fs, ErrD H e C d fs
section
variable {X : Cx} {C : Addr} {x f : Str} {a : Expr} {ta : TE} {p pos kp : Pos} {k : Nat}
def tMkE (C : Addr) (f : Str) (ta : TE) : TE := fun σ H Q => ta σ H fun v H1 => ∀ e d, H1 e = none → H1 d = none → e ≠ d → Q (.ref e) (upd (upd H1 d (exd d [(f, v)])) e (exo e C (some d)))
theorem mk_core {pins : List (Addr × Obj)} {σ : L2.St} {H1 : Hp} {s1 : Shared} {Q : VK} {v : V} {u : Value} {ar : Args} (M : MkE X.prog X.w X.K X.mg C f) (hr : Room k X.A) (I1 : Inv X pins σ H1 s1) (r1 : RelV v u) (har : ar = ⟨[u], []⟩ ∨ ar = ⟨[], [(f, u)]⟩)
    (q1 : ∀ e d, H1 e = none → H1 d = none → e ≠ d → Q (.ref e) (upd (upd H1 d (exd d [(f, v)])) e (exo e C (some d)))) :
    wpAny (model X.prog X.w) X.A (call (.ref C) ar.pos ar.kw) (EP X pins σ Q) X.xe s1 := by
  obtain ⟨mb, hbt, hb⟩ := I1.mod.blt
  have hlim := I1.nolimit
  refine wpAny_call (M _ _ s1 mb u ar har I1.kIn (I1.mod.glob.keeps I1.bk) (hbt.keeps I1.bk) hb hlim (by have := hr.dp; omega) fun h' tk' e d N => ?_)
  obtain ⟨t1, hoe⟩ := N.obj
  obtain ⟨hp, g, dr, tk, os⟩ := s1
  obtain ⟨G', g1, g2⟩ := restrict h' fun b => decide (b ≠ e)
  have gk : ∀ b, b ≠ e → G'.get? b = h'.get? b := fun b hb => g1 b (decide_eq_true hb)
  have ge : G'.get? e = none := g2 e (by simp)
  have old : ∀ b o, hp.get? b = some o → G'.get? b = some o := fun b o q => (gk b (Nat.ne_of_lt (Nat.lt_of_lt_of_le (Heap.lt_size q) N.new))).trans (N.keep b o q)
  have ob : ObjOk X.prog X.w (upd H1 d (exd d [(f, v)])) G' d (exd d [(f, v)]) := exd_ok (N.ns.at (fun o q => (gk d N.dne).trans q)) fun y => relO_one r1 f y
  have J : Inv X pins σ (upd H1 d (exd d [(f, v)])) ⟨G', g, dr, tk', os⟩ := I1.laid (t' := tk') old N.dbig ob
  have he : H1 e = none := I1.hok.fresh N.new
  have hd : H1 d = none := I1.hok.fresh N.dbig
  have J2 : Inv X pins σ (upd (upd H1 d (exd d [(f, v)])) e (exo e C (some d))) ⟨h', g, dr, tk', os⟩ :=
    J.laidN (t' := tk') (fun b o q => by
      have hb : b ≠ e := fun z => by rw [z, ge] at q; cases q
      rw [← gk b hb]
      exact q) ge (by rw [upd_ne (Ne.symm N.dne)]; exact he) (exo_ok hoe)
  exact ⟨.ref e, _, J2, rfl, q1 e d he hd (Ne.symm N.dne)⟩
theorem pe_mkE (M : MkE X.prog X.w X.K X.mg C f) (kC : PySem.W.keepIn X.K (.ref C) = true) (gC : X.mg x = some (.ref C)) (hr : Room k X.A) (ha : PE X a ta) (hg : Gl X x := by rfl)
    (hs : starEach [a] X.env = (false, eval a X.env) :: starEach [] X.env := by rfl) (hdb : (x == ("__debug__" : Str)) = false := by decide) : PE X (.Call (.Name x p) [a] [] pos) (tMkE C f ta) := by
  refine ⟨fun pins s σ H Q I h => ?_⟩
  refine wpAny_Call_Name_kw (ld_glob I hg gC (PySem.W.callWith_K (h₀ := X.base) I.ok.mod.kin kC (by
    rw [hs]
    show wpAny _ _ (spliced ((false, eval a X.env) :: backTo pos (starEach [] X.env))) _ _ s
    refine Calls.spliced_cons (thn (ha.run pins s σ H _ I h) fun u s1 ⟨v, H1, I1, r1, q1⟩ => ?_)
    exact Calls.spliced_nil ⟨I1.kIn, mk_core (ar := ⟨[u], []⟩) M hr I1 r1 (.inl rfl) q1⟩) hs (by rfl)) hdb)
theorem pe_mkEK (M : MkE X.prog X.w X.K X.mg C f) (kC : PySem.W.keepIn X.K (.ref C) = true) (gC : X.mg x = some (.ref C)) (hr : Room k X.A) (ha : PE X a ta) (hg : Gl X x := by rfl)
    (hall : (backToKw pos (keywordEach [⟨some f, a, kp⟩] X.env)).all (·.1.isSome) = true := by rfl) (hks : (backToKw pos (keywordEach [⟨some f, a, kp⟩] X.env)).filterMap (·.1) = [f] := by rfl)
    (hpl : ((backTo pos (starEach [] X.env)).any (·.1) || (backToKw pos (keywordEach [⟨some f, a, kp⟩] X.env)).any (·.1.isNone)) = false := by rfl) (hdb : (x == ("__debug__" : Str)) = false := by decide) : PE X (.Call (.Name x p) [] [⟨some f, a, kp⟩] pos) (tMkE C f ta) := by
  refine ⟨fun pins s σ H Q I h => ?_⟩
  have hk : PK X [⟨some f, a, kp⟩] (tCons ta tNil) := pk_cons ha pk_nil
  refine wpAny_Call_Name_kw (ld_glob I hg gC (PySem.W.callWith_KW0 (h₀ := X.base) I.ok.mod.kin kC hall (thn (hk.run pos pins s σ H (fun vs H1 => match vs with
    | [v] => ∀ e d, H1 e = none → H1 d = none → e ≠ d → Q (.ref e) (upd (upd H1 d (exd d [(f, v)])) e (exo e C (some d)))
    | _ => False) I h) fun ws s1 ⟨vs, H1, I1, r1, q1⟩ => ?_) hpl) hdb)
  cases r1 with
  | nil => exact q1.elim
  | cons rv rn =>
    cases rn with
    | cons _ _ => exact q1.elim
    | nil =>
      refine ⟨I1.kIn, ?_⟩
      rw [hks]
      exact mk_core (ar := ⟨[], [(f, _)]⟩) M hr I1 rv (.inr rfl) q1
/-- an own error class without __init__, called with one argument -/
def tExc (C : Addr) (ta : TE) : TE := fun σ H Q => ta σ H fun _ H1 => ∀ e, H1 e = none → Q (.ref e) (upd H1 e (ExO (.ref C) e))
theorem pe_exc (q : PySem.W.excIn X.K C [.type "ValueError", .type "Exception", .type "BaseException", .type "object"] "ValueError.__new__" = true) (gC : X.mg x = some (.ref C)) (kC : PySem.W.keepIn X.K (.ref C) = true) (ha : PE X a ta) (hg : Gl X x := by rfl)
    (hs : starEach [a] X.env = (false, eval a X.env) :: starEach [] X.env := by rfl) (hdb : (x == ("__debug__" : Str)) = false := by decide) : PE X (.Call (.Name x p) [a] [] pos) (tExc C ta) := pe_exc1 PySem.F.excBase_ValueError q gC kC hg ha hs hdb
/-- what isinstance answers for an error of the class C -/
def IsA (K : PySem.W.Frag) (C : Addr) (c : V) (b : Bool) : Prop := ∃ cv : Value, (∀ u, RelV c u → u = cv) ∧ PySem.W.kitOne K (.ref C) cv = some b
def rIsX (K : PySem.W.Frag) : List V → Hp → VK → Prop := fun xs H Q => ∃ (e C : Addr) (c : V) (b : Bool), xs = [.ref e, c] ∧ ErrAt H e C ∧ ExcC K C ∧ IsA K C c b ∧ Q (.bl b) H
theorem cIsX (K : PySem.W.Frag) (hK : X.K = K := by rfl) : CallR X (.builtin "isinstance") (rIsX K) := by
  subst hK
  intro pins s σ H xs us Q I r h
  obtain ⟨e, C, c, b, rfl, he, T, ⟨cv, hcv, hb⟩, q⟩ := h
  cases r with
  | cons rx rr =>
    cases rr with
    | cons rt rr =>
      cases rr
      cases rx
      obtain rfl := hcv _ rt
      obtain ⟨oe, od, J⟩ : ∃ oe od, PySem.W.InstAt s.heap e oe C od := by
        rcases he with he | ⟨d, fs, he, hd⟩
        · obtain ⟨⟨oe, vs, ho, ⟨z1, z2⟩, hv, _⟩, _⟩ := I.hok e _ he
          obtain ⟨oc, odt, oda, osl⟩ := oe
          dsimp only at z1 z2 hv
          subst z1 z2 hv
          exact ⟨_, none, ho, rfl, rfl, trivial⟩
        · obtain ⟨t1, ho⟩ := exo_at I.hok he
          obtain ⟨mA, hns, _⟩ := exd_at I.hok hd
          obtain ⟨oD, hoD, _⟩ := lookIn_ns hns
          exact ⟨_, some oD, ho, rfl, rfl, hoD⟩
      exact PySem.W.kia_one (PySem.W.kitx_exc (by obtain ⟨cd, hc, _⟩ := PySem.W.any_some T.hd; rw [hc]; rfl) T.hg T.hk T.hs T.ha T.hn T.ht T.hm) I.kIn J hb (fun z => nomatch z) fun tk => ⟨.bl b, H, I.kept (t' := tk) fun _ _ z => z, rfl, q⟩
/-- e.f of an error that keeps f -/
structure ErrF (K : PySem.W.Frag) (C : Addr) (f : Str) : Prop where
  ga : PySem.W.findIn K (.ref C) "__getattribute__" = some (some (.builtin "BaseException.__getattribute__"))
  gg : PySem.W.findIn K (.ref C) "__getattr__" = some none
  exC : PySem.W.subIn K (.ref C) (.type "BaseException") = some true
  hd : PySem.W.hasDictIn K C = true
  noN : PySem.W.findIn K (.ref C) f = some none
def tErrF (K : PySem.W.Frag) (f : Str) (te : TE) : TE := fun σ H Q => te σ H fun x H1 => ∃ (e C d : Addr) (fs : List (Str × V)) (v : V), x = .ref e ∧ ErrF K C f ∧ ErrD H1 e C d fs ∧ fs.lookup f = some v ∧ Q v H1
theorem pe_errF (K : PySem.W.Frag) {te : TE} {e : Expr} (he : PE X e te) (hK : X.K = K := by rfl) (hb : attributeBase e f X.env (eval e X.env) = eval e X.env := by rfl) : PE X (.Attribute e f pos) (tErrF K f te) := by
  subst hK
  refine ⟨fun pins s σ H Q I h => ?_⟩
  refine attr_of hb (thn (he.run pins s σ H _ I h) fun u s1 hh => ?_)
  obtain ⟨y, H1, I1, rx, ex, C, d, fs, v, rfl, T, ⟨h1, h2⟩, hl, q⟩ := hh
  obtain rfl : u = Value.ref ex := rx
  obtain ⟨t1, ho⟩ := exo_at I1.hok h1
  obtain ⟨mA, hns, hr⟩ := exd_at I1.hok h2
  obtain ⟨oD, hoD, hlk⟩ := lookIn_ns hns
  obtain ⟨w', hw, rw'⟩ := RelO.some_of (v := v) (o := mA f) (by rw [← hl]; exact hr f)
  have J : PySem.W.InstAt s1.heap ex _ C (some oD) := ⟨ho, rfl, rfl, hoD⟩
  exact HandSPX.exc_get I1.kIn J T.ga T.gg T.exC (PySem.W.findObj_own T.hd T.noN rfl (by rw [hlk, hw])) (handed_of rw') ⟨v, H1, I1.tok _, rw', q⟩
end
end K0
namespace K0
open PySem L2
open Evl (Ex Ev EvL EvA EvT)
local macro_rules | `(tactic| walk_at "sq") => `(tactic| first | assumption | exact SqL.of (by assumption) | exact SqT.of (by assumption) | exact SqL.of upd_same | exact SqT.of upd_same)
local macro_rules | `(tactic| walk_at "go1") => `(tactic| first
  | (with_reducible refine' Gk.seq ?_)
  | ((with_reducible refine' Gk.var ?hgo ?_); (case hgo => exact rfl))
  | (with_reducible refine' Gk.con ?_)
  | (with_reducible refine' Gk.op ?_)
  | (with_reducible refine' Gk.i0 ?_)
  | (with_reducible refine' Gk.un ?_)
  | ((with_reducible refine' Gk.i1 (C := CMul) ?hgo ?_); (case hgo => first | exact .inl ⟨by decide, by decide⟩ | exact .inr ⟨by decide, by decide⟩ | exact .inl ⟨by omega, by omega⟩ | exact .inr ⟨by omega, by omega⟩))
  | ((with_reducible refine' Gk.i1 (C := CDiv) ?hgo ?_); (case hgo => exact ⟨by omega, by omega⟩))
  | ((with_reducible refine' Gk.i1 (C := CPow) ?hgo ?_); (case hgo => exact ⟨by decide, by decide, by decide⟩))
  | ((with_reducible refine' Gk.i1 (C := fun _ j => 0 < j) ?hgo ?_); (case hgo => show (0 : Int) < _; omega))
  | (with_reducible refine' Gk.u1 ?_)
  | (with_reducible refine' Gk.test ?_)
  | (with_reducible refine' Gk.testB ?_)
  | (with_reducible refine' Gk.asB ?_)
  | ((with_reducible refine' Gk.eqv ?hgo ?_); (case hgo => exact rfl))
  | ((with_reducible refine' Gk.nev ?hgo ?_); (case hgo => exact rfl))
  | ((with_reducible refine' Gk.ixL ?hgo ?hga ?_); (case hgo => walk_at "sq"); (case hga => first | exact rfl | assumption))
  | ((with_reducible refine' Gk.ixT ?hgo ?hga ?_); (case hgo => walk_at "sq"); (case hga => first | exact rfl | assumption))
  | (with_reducible refine' Gk.aNil ?_)
  | (with_reducible refine' Gk.aCons ?_)
  | (with_reducible refine' Gk.cb ?_)
  | (with_reducible refine' Gk.call ?_)
  | (with_reducible refine' Gk.tup ?_)
  | (with_reducible refine' Gk.lst ?_)
  | (with_reducible refine' Gk.ifE ?_)
  | (with_reducible refine' Gk.ifS ?_)
  | (with_reducible refine' Gk.next ?_)
  | (with_reducible refine' Gk.asg ?_)
  | ((with_reducible refine' Gk.gname ?hgo ?_); (case hgo => exact rfl))
  | (with_reducible refine' Gk.gsub ?_)
  | ((with_reducible refine' Gk.setL ?hgo ?hga ?_); (case hgo => first | assumption | exact upd_same); (case hga => first | exact rfl | assumption))
  | (with_reducible refine' Gk.ret ?_)
  | (with_reducible refine' Gk.drop ?_)
  | (with_reducible refine' Gk.par ?_)
  | (with_reducible refine' Gk.andT ?_)
  | (with_reducible refine' Gk.orT ?_)
  | (with_reducible refine' Gk.notT ?_)
  | (with_reducible refine' Gk.abs ?_)
  | (with_reducible refine' Gk.intI ?_)
  | (with_reducible refine' Gk.intB ?_)
  | ((with_reducible refine' Gk.lenL ?hgo ?_); (case hgo => walk_at "sq"))
  | ((with_reducible refine' Gk.lenT ?hgo ?_); (case hgo => walk_at "sq"))
  | (with_reducible refine' Gk.bm ?_)
  | ((with_reducible refine' Gk.tyL ?hgo ?_); (case hgo => first | assumption | exact upd_same))
  | ((with_reducible refine' Gk.gtup ?hgo ?hga ?_); (case hgo => walk_at "sq"); (case hga => exact rfl))
  | (with_reducible refine' Gk.gcons ?_)
  | (with_reducible refine' Gk.gnil ?_)
  | (with_reducible refine' Gk.sl ?_)
  | (with_reducible refine' Gk.noPart ?_)
  | (with_reducible refine' Gk.part ?_)
  | (with_reducible refine' Gk.partI ?_)
  | (with_reducible refine' Gk.lc ?_)
  | (with_reducible refine' Gk.rng1 ?_)
  | (with_reducible refine' Gk.forS ?_)
  | (with_reducible refine' Gk.isN ?_)
  | (with_reducible refine' Gk.notN ?_)
  | (with_reducible refine' Gk.andV ?_)
  | (with_reducible refine' Gk.orV ?_)
  | (with_reducible refine' Gk.notV ?_)
  | ((with_reducible refine' Gk.isiB ?hgo ?hga ?_); (case hgo => exact .base (.non)); (case hga => first | exact (show kitB _ _ = some true by decide +kernel) | exact (show kitB _ _ = some false by decide +kernel)))
  | ((with_reducible refine' Gk.isiB ?hgo ?hga ?_); (case hgo => exact .base (.int _)); (case hga => first | exact (show kitB _ _ = some true by decide +kernel) | exact (show kitB _ _ = some false by decide +kernel)))
  | ((with_reducible refine' Gk.isiB ?hgo ?hga ?_); (case hgo => exact .base (.str _)); (case hga => first | exact (show kitB _ _ = some true by decide +kernel) | exact (show kitB _ _ = some false by decide +kernel)))
  | ((with_reducible refine' Gk.isiB ?hgo ?hga ?_); (case hgo => exact .base (.bl _)); (case hga => first | exact (show kitB _ _ = some true by decide +kernel) | exact (show kitB _ _ = some false by decide +kernel)))
  | ((with_reducible refine' Gk.isiB ?hgo ?hga ?_); (case hgo => exact .base (.tup (by assumption))); (case hga => first | exact (show kitB _ _ = some true by decide +kernel) | exact (show kitB _ _ = some false by decide +kernel)))
  | ((with_reducible refine' Gk.isiB ?hgo ?hga ?_); (case hgo => exact .base (.lst (by assumption))); (case hga => first | exact (show kitB _ _ = some true by decide +kernel) | exact (show kitB _ _ = some false by decide +kernel)))
  | ((with_reducible refine' Gk.iteT ?hgo ?_); (case hgo => exact rfl))
  | ((with_reducible refine' Gk.iteF ?hgo ?_); (case hgo => exact rfl))
  | (with_reducible refine' Gk.yes ?_)
  | (dsimp only))

def cn : List Str := (["BadText", "NotChecked", "NotRight", "NotLet", "BadAmounts", "BadAnswer", "BadArgs", "BadBook", "BadCore", "BadCount", "BadGoal", "BadHints", "BadIndex", "BadKind", "BadLevels", "BadLimit", "BadLine", "BadLog", "BadMeasures", "BadName", "BadNeeds", "BadNever", "BadNumber", "BadPlacing", "BadPoint", "BadProgram", "BadRatio", "BadRow", "BadShowings", "BadSteps", "BadSystem", "BadTemplate", "BadVariable", "NoCells", "NotNew", "TooGreat", "Unlike", "ZeroBottom"] : List String).map Str.ofString
/-- what the written part says of the classes: Cs j the j-th one, CP the base -/
structure Cls (P : Program) (w : World) (K : PySem.W.Frag) (mg : Str → Option Value) (Cs : Nat → Addr) (CP : Addr) : Prop extends Glo mg where
  mgC : ∀ j, j < 38 → mg (cn.getD j "") = some (.ref (Cs j))
  kp : ∀ j, j < 38 → PySem.W.keepIn K (.ref (Cs j)) = true
  ex : ∀ j, j < 38 → ExcC K (Cs j)
  isC : ∀ i j, i < 38 → j < 38 → IsA K (Cs i) (.ref (Cs j)) (decide (i = j))
  isP : ∀ i, i < 38 → IsA K (Cs i) (.ref CP) true
  isV : ∀ i, i < 38 → IsA K (Cs i) (.ty "ValueError") true
  plain : ∀ i, 4 ≤ i → i < 38 → PySem.W.excIn K (Cs i) [.type "ValueError", .type "Exception", .type "BaseException", .type "object"] "ValueError.__new__" = true
  mgP : mg "PaidError" = some (.ref CP)
  kpP : PySem.W.keepIn K (.ref CP) = true
  exP : ExcC K CP
  isPC : ∀ j, j < 38 → IsA K CP (.ref (Cs j)) false
  isPV : IsA K CP (.ty "ValueError") true
  plainP : PySem.W.excIn K CP [.type "ValueError", .type "Exception", .type "BaseException", .type "object"] "ValueError.__new__" = true
  mk0 : MkE P w K mg (Cs 0) "place"
  mk1 : MkE P w K mg (Cs 1) "what"
  mk2 : MkE P w K mg (Cs 2) "what"
  mk3 : MkE P w K mg (Cs 3) "index"
  ef0 : ErrF K (Cs 0) "place"
  ef1 : ErrF K (Cs 1) "what"
  ef2 : ErrF K (Cs 2) "what"
  ef3 : ErrF K (Cs 3) "index"
  iis : mg "isinstance" = none
  ve : mg "ValueError" = none
theorem ErrAt.ex {H H' : Hp} {e C : Addr} (x : Ex H H') (h : ErrAt H e C) : ErrAt H' e C := by
  rcases h with h | ⟨d, fs, h1, h2⟩
  · exact .inl (x _ _ h)
  · exact .inr ⟨d, fs, x _ _ h1, x _ _ h2⟩
section
variable {K : PySem.W.Frag} {σ : L2.St} {H : Hp}
theorem evIs {te : TE} {e C : Addr} {c : V} {b : Bool} (h : Ev te σ H (.ref e)) (he : ErrAt H e C) (T : ExcC K C) (hi : IsA K C c b) : Ev (tCB (rIsX K) (tCons te (tCons (tC c) tNil))) σ H (.bl b) := fun H1 x Q q =>
  h H1 x _ fun H2 x2 => ⟨e, C, c, b, rfl, (he.ex x).ex x2, T, hi, q H2 x2⟩
theorem elCat {ta tb : TE} {l : Addr} {xs ys : List V} (ha : Ev ta σ H (.ref l)) (hl : H l = some (.lst xs)) (hb : EvL tb σ H ys) (hz : xs.length + ys.length ≤ 100000) : EvL (tOp rCat ta tb) σ H (xs ++ ys) := fun H1 x Q q =>
  ha H1 x _ fun H2 x2 => hb H2 (x.trans x2) _ fun p H3 hp x3 h3 => ⟨l, p, xs, ys, rfl, rfl, x3 _ _ (x2 _ _ (x _ _ hl)), h3, Evl.sz_of hz, fun r hr =>
    q r _ (Evl.fresh_back (x2.trans x3) hr) ((x2.trans x3).trans (Ex.new hr)) upd_same⟩
end
def spMarks (K : PySem.W.Frag) (Cs : Nat → Addr) : Sp := fun vs H Q _ => ∃ (e C : Addr) (m : Nat → Bool), vs = [.ref e] ∧ ErrAt H e C ∧ ExcC K C ∧ (∀ j, j < 38 → IsA K C (.ref (Cs j)) (m j)) ∧
  ∀ p H', H p = none → Ex H H' → H' p = some (.lst ((List.range 38).map fun j => .bl (m j))) → Q (.ref p) H'
section
variable {P : Program} {w : World} {K : PySem.W.Frag} {mg : Str → Option Value} {base : Heap} {Cs : Nat → Addr} {CP : Addr}
abbrev sLawMarks : Stmt := top 45
theorem scLawMarks : FnScope ["e", "found"] ["e"] (defScope sLawMarks) := ⟨rfl, rfl, rfl, by decide +kernel, rfl, by decide +kernel, by decide +kernel⟩
theorem ok_marks {f : Addr} {fd : FuncData} (F : Fun K "_law_marks" "_law_marks" sLawMarks f fd) (T : Cls P w K mg Cs CP) : FnOk P w K mg base CX0 1 f fd ["e"] (spMarks K Cs) := by
  refine F.ok scLawMarks (fun vs H Q E h => ?_) (fun cdv A outer s H vs Q E hr h => ?_)
  · obtain ⟨e, C, m, rfl, _⟩ := h
    rfl
  · obtain ⟨e, C, m, rfl, he, hc, hi, k⟩ := h
    refine ⟨_, (pss_cons (ps_set (i := 1) scLawMarks.nd rfl (Or.inl rfl) (pe_lst (pa_cons (pe_callB (cIsX K) (by rfl) T.iis (by decide +kernel) (pa_cons (pv 0) (pa_cons (pe_glob (v := .ref (Cs 0)) rfl (T.mgC 0 (by decide)) rfl) pa_nil))) (pa_cons (pe_callB (cIsX K) (by rfl) T.iis (by decide +kernel) (pa_cons (pv 0) (pa_cons (pe_glob (v := .ref (Cs 1)) rfl (T.mgC 1 (by decide)) rfl) pa_nil))) (pa_cons (pe_callB (cIsX K) (by rfl) T.iis (by decide +kernel) (pa_cons (pv 0) (pa_cons (pe_glob (v := .ref (Cs 2)) rfl (T.mgC 2 (by decide)) rfl) pa_nil))) (pa_cons (pe_callB (cIsX K) (by rfl) T.iis (by decide +kernel) (pa_cons (pv 0) (pa_cons (pe_glob (v := .ref (Cs 3)) rfl (T.mgC 3 (by decide)) rfl) pa_nil))) pa_nil))))))
  (pss_cons (ps_set (i := 1) scLawMarks.nd rfl (Or.inl rfl) (pe_op op_cat (pv 1) (pe_lst (pa_cons (pe_callB (cIsX K) (by rfl) T.iis (by decide +kernel) (pa_cons (pv 0) (pa_cons (pe_glob (v := .ref (Cs 4)) rfl (T.mgC 4 (by decide)) rfl) pa_nil))) (pa_cons (pe_callB (cIsX K) (by rfl) T.iis (by decide +kernel) (pa_cons (pv 0) (pa_cons (pe_glob (v := .ref (Cs 5)) rfl (T.mgC 5 (by decide)) rfl) pa_nil))) (pa_cons (pe_callB (cIsX K) (by rfl) T.iis (by decide +kernel) (pa_cons (pv 0) (pa_cons (pe_glob (v := .ref (Cs 6)) rfl (T.mgC 6 (by decide)) rfl) pa_nil))) (pa_cons (pe_callB (cIsX K) (by rfl) T.iis (by decide +kernel) (pa_cons (pv 0) (pa_cons (pe_glob (v := .ref (Cs 7)) rfl (T.mgC 7 (by decide)) rfl) pa_nil))) pa_nil)))))))
  (pss_cons (ps_set (i := 1) scLawMarks.nd rfl (Or.inl rfl) (pe_op op_cat (pv 1) (pe_lst (pa_cons (pe_callB (cIsX K) (by rfl) T.iis (by decide +kernel) (pa_cons (pv 0) (pa_cons (pe_glob (v := .ref (Cs 8)) rfl (T.mgC 8 (by decide)) rfl) pa_nil))) (pa_cons (pe_callB (cIsX K) (by rfl) T.iis (by decide +kernel) (pa_cons (pv 0) (pa_cons (pe_glob (v := .ref (Cs 9)) rfl (T.mgC 9 (by decide)) rfl) pa_nil))) (pa_cons (pe_callB (cIsX K) (by rfl) T.iis (by decide +kernel) (pa_cons (pv 0) (pa_cons (pe_glob (v := .ref (Cs 10)) rfl (T.mgC 10 (by decide)) rfl) pa_nil))) (pa_cons (pe_callB (cIsX K) (by rfl) T.iis (by decide +kernel) (pa_cons (pv 0) (pa_cons (pe_glob (v := .ref (Cs 11)) rfl (T.mgC 11 (by decide)) rfl) pa_nil))) pa_nil)))))))
  (pss_cons (ps_set (i := 1) scLawMarks.nd rfl (Or.inl rfl) (pe_op op_cat (pv 1) (pe_lst (pa_cons (pe_callB (cIsX K) (by rfl) T.iis (by decide +kernel) (pa_cons (pv 0) (pa_cons (pe_glob (v := .ref (Cs 12)) rfl (T.mgC 12 (by decide)) rfl) pa_nil))) (pa_cons (pe_callB (cIsX K) (by rfl) T.iis (by decide +kernel) (pa_cons (pv 0) (pa_cons (pe_glob (v := .ref (Cs 13)) rfl (T.mgC 13 (by decide)) rfl) pa_nil))) (pa_cons (pe_callB (cIsX K) (by rfl) T.iis (by decide +kernel) (pa_cons (pv 0) (pa_cons (pe_glob (v := .ref (Cs 14)) rfl (T.mgC 14 (by decide)) rfl) pa_nil))) (pa_cons (pe_callB (cIsX K) (by rfl) T.iis (by decide +kernel) (pa_cons (pv 0) (pa_cons (pe_glob (v := .ref (Cs 15)) rfl (T.mgC 15 (by decide)) rfl) pa_nil))) pa_nil)))))))
  (pss_cons (ps_set (i := 1) scLawMarks.nd rfl (Or.inl rfl) (pe_op op_cat (pv 1) (pe_lst (pa_cons (pe_callB (cIsX K) (by rfl) T.iis (by decide +kernel) (pa_cons (pv 0) (pa_cons (pe_glob (v := .ref (Cs 16)) rfl (T.mgC 16 (by decide)) rfl) pa_nil))) (pa_cons (pe_callB (cIsX K) (by rfl) T.iis (by decide +kernel) (pa_cons (pv 0) (pa_cons (pe_glob (v := .ref (Cs 17)) rfl (T.mgC 17 (by decide)) rfl) pa_nil))) (pa_cons (pe_callB (cIsX K) (by rfl) T.iis (by decide +kernel) (pa_cons (pv 0) (pa_cons (pe_glob (v := .ref (Cs 18)) rfl (T.mgC 18 (by decide)) rfl) pa_nil))) (pa_cons (pe_callB (cIsX K) (by rfl) T.iis (by decide +kernel) (pa_cons (pv 0) (pa_cons (pe_glob (v := .ref (Cs 19)) rfl (T.mgC 19 (by decide)) rfl) pa_nil))) pa_nil)))))))
  (pss_cons (ps_set (i := 1) scLawMarks.nd rfl (Or.inl rfl) (pe_op op_cat (pv 1) (pe_lst (pa_cons (pe_callB (cIsX K) (by rfl) T.iis (by decide +kernel) (pa_cons (pv 0) (pa_cons (pe_glob (v := .ref (Cs 20)) rfl (T.mgC 20 (by decide)) rfl) pa_nil))) (pa_cons (pe_callB (cIsX K) (by rfl) T.iis (by decide +kernel) (pa_cons (pv 0) (pa_cons (pe_glob (v := .ref (Cs 21)) rfl (T.mgC 21 (by decide)) rfl) pa_nil))) (pa_cons (pe_callB (cIsX K) (by rfl) T.iis (by decide +kernel) (pa_cons (pv 0) (pa_cons (pe_glob (v := .ref (Cs 22)) rfl (T.mgC 22 (by decide)) rfl) pa_nil))) (pa_cons (pe_callB (cIsX K) (by rfl) T.iis (by decide +kernel) (pa_cons (pv 0) (pa_cons (pe_glob (v := .ref (Cs 23)) rfl (T.mgC 23 (by decide)) rfl) pa_nil))) pa_nil)))))))
  (pss_cons (ps_set (i := 1) scLawMarks.nd rfl (Or.inl rfl) (pe_op op_cat (pv 1) (pe_lst (pa_cons (pe_callB (cIsX K) (by rfl) T.iis (by decide +kernel) (pa_cons (pv 0) (pa_cons (pe_glob (v := .ref (Cs 24)) rfl (T.mgC 24 (by decide)) rfl) pa_nil))) (pa_cons (pe_callB (cIsX K) (by rfl) T.iis (by decide +kernel) (pa_cons (pv 0) (pa_cons (pe_glob (v := .ref (Cs 25)) rfl (T.mgC 25 (by decide)) rfl) pa_nil))) (pa_cons (pe_callB (cIsX K) (by rfl) T.iis (by decide +kernel) (pa_cons (pv 0) (pa_cons (pe_glob (v := .ref (Cs 26)) rfl (T.mgC 26 (by decide)) rfl) pa_nil))) (pa_cons (pe_callB (cIsX K) (by rfl) T.iis (by decide +kernel) (pa_cons (pv 0) (pa_cons (pe_glob (v := .ref (Cs 27)) rfl (T.mgC 27 (by decide)) rfl) pa_nil))) pa_nil)))))))
  (pss_cons (ps_set (i := 1) scLawMarks.nd rfl (Or.inl rfl) (pe_op op_cat (pv 1) (pe_lst (pa_cons (pe_callB (cIsX K) (by rfl) T.iis (by decide +kernel) (pa_cons (pv 0) (pa_cons (pe_glob (v := .ref (Cs 28)) rfl (T.mgC 28 (by decide)) rfl) pa_nil))) (pa_cons (pe_callB (cIsX K) (by rfl) T.iis (by decide +kernel) (pa_cons (pv 0) (pa_cons (pe_glob (v := .ref (Cs 29)) rfl (T.mgC 29 (by decide)) rfl) pa_nil))) (pa_cons (pe_callB (cIsX K) (by rfl) T.iis (by decide +kernel) (pa_cons (pv 0) (pa_cons (pe_glob (v := .ref (Cs 30)) rfl (T.mgC 30 (by decide)) rfl) pa_nil))) (pa_cons (pe_callB (cIsX K) (by rfl) T.iis (by decide +kernel) (pa_cons (pv 0) (pa_cons (pe_glob (v := .ref (Cs 31)) rfl (T.mgC 31 (by decide)) rfl) pa_nil))) pa_nil)))))))
  (pss_cons (ps_set (i := 1) scLawMarks.nd rfl (Or.inl rfl) (pe_op op_cat (pv 1) (pe_lst (pa_cons (pe_callB (cIsX K) (by rfl) T.iis (by decide +kernel) (pa_cons (pv 0) (pa_cons (pe_glob (v := .ref (Cs 32)) rfl (T.mgC 32 (by decide)) rfl) pa_nil))) (pa_cons (pe_callB (cIsX K) (by rfl) T.iis (by decide +kernel) (pa_cons (pv 0) (pa_cons (pe_glob (v := .ref (Cs 33)) rfl (T.mgC 33 (by decide)) rfl) pa_nil))) (pa_cons (pe_callB (cIsX K) (by rfl) T.iis (by decide +kernel) (pa_cons (pv 0) (pa_cons (pe_glob (v := .ref (Cs 34)) rfl (T.mgC 34 (by decide)) rfl) pa_nil))) (pa_cons (pe_callB (cIsX K) (by rfl) T.iis (by decide +kernel) (pa_cons (pv 0) (pa_cons (pe_glob (v := .ref (Cs 35)) rfl (T.mgC 35 (by decide)) rfl) pa_nil))) pa_nil)))))))
  (pss_one (ps_ret (pe_op op_cat (pv 1) (pe_lst (pa_cons (pe_callB (cIsX K) (by rfl) T.iis (by decide +kernel) (pa_cons (pv 0) (pa_cons (pe_glob (v := .ref (Cs 36)) rfl (T.mgC 36 (by decide)) rfl) pa_nil))) (pa_cons (pe_callB (cIsX K) (by rfl) T.iis (by decide +kernel) (pa_cons (pv 0) (pa_cons (pe_glob (v := .ref (Cs 37)) rfl (T.mgC 37 (by decide)) rfl) pa_nil))) pa_nil))))))))))))))), ?_⟩
    have is (j : Nat) (hj : j < 38) (σ : L2.St) (H' : Hp) (h0 : σ[0]? = some (some (.ref e))) (x : Ex H H') : Ev (tCB (rIsX K) (tCons (tVar 0) (tCons (tC (.ref (Cs j))) tNil))) σ H' (.bl (m j)) :=
      evIs (Evl.ev_var h0) (he.ex x) hc (hi j hj)
    have four (a b c d : Nat) (ha : a < 38) (hb : b < 38) (hc : c < 38) (hd : d < 38) (σ : L2.St) (H' : Hp) (h0 : σ[0]? = some (some (.ref e))) (x : Ex H H') := Evl.el_lst (Evl.ea_cons (is a ha σ H' h0 x) (Evl.ea_cons (is b hb σ H' h0 x) (Evl.ea_cons (is c hc σ H' h0 x) (Evl.ea_cons (is d hd σ H' h0 x) Evl.ea_nil)))) (by show 4 ≤ 100000; decide)
    show tSeq _ _ _ [some (.ref e), none] H
    refine Evl.q_asgL (four 0 1 2 3 (by decide) (by decide) (by decide) (by decide) _ _ rfl (Ex.refl _)) fun p0 H0 n0 x0 h0 => ?_
    have y0 := x0
    refine Evl.q_asgL (elCat (Evl.ev_var rfl) h0 (four 4 5 6 7 (by decide) (by decide) (by decide) (by decide) _ _ rfl y0) (by show 4 + 4 ≤ 100000; decide)) fun p1 H1 n1 x1 h1 => ?_
    have y1 := y0.trans x1
    refine Evl.q_asgL (elCat (Evl.ev_var rfl) h1 (four 8 9 10 11 (by decide) (by decide) (by decide) (by decide) _ _ rfl y1) (by show 8 + 4 ≤ 100000; decide)) fun p2 H2 n2 x2 h2 => ?_
    have y2 := y1.trans x2
    refine Evl.q_asgL (elCat (Evl.ev_var rfl) h2 (four 12 13 14 15 (by decide) (by decide) (by decide) (by decide) _ _ rfl y2) (by show 12 + 4 ≤ 100000; decide)) fun p3 H3 n3 x3 h3 => ?_
    have y3 := y2.trans x3
    refine Evl.q_asgL (elCat (Evl.ev_var rfl) h3 (four 16 17 18 19 (by decide) (by decide) (by decide) (by decide) _ _ rfl y3) (by show 16 + 4 ≤ 100000; decide)) fun p4 H4 n4 x4 h4 => ?_
    have y4 := y3.trans x4
    refine Evl.q_asgL (elCat (Evl.ev_var rfl) h4 (four 20 21 22 23 (by decide) (by decide) (by decide) (by decide) _ _ rfl y4) (by show 20 + 4 ≤ 100000; decide)) fun p5 H5 n5 x5 h5 => ?_
    have y5 := y4.trans x5
    refine Evl.q_asgL (elCat (Evl.ev_var rfl) h5 (four 24 25 26 27 (by decide) (by decide) (by decide) (by decide) _ _ rfl y5) (by show 24 + 4 ≤ 100000; decide)) fun p6 H6 n6 x6 h6 => ?_
    have y6 := y5.trans x6
    refine Evl.q_asgL (elCat (Evl.ev_var rfl) h6 (four 28 29 30 31 (by decide) (by decide) (by decide) (by decide) _ _ rfl y6) (by show 28 + 4 ≤ 100000; decide)) fun p7 H7 n7 x7 h7 => ?_
    have y7 := y6.trans x7
    refine Evl.q_asgL (elCat (Evl.ev_var rfl) h7 (four 32 33 34 35 (by decide) (by decide) (by decide) (by decide) _ _ rfl y7) (by show 32 + 4 ≤ 100000; decide)) fun p8 H8 n8 x8 h8 => ?_
    have y8 := y7.trans x8
    refine (elCat (Evl.ev_var rfl) h8 (Evl.el_lst (Evl.ea_cons (is 36 (by decide) _ _ rfl y8) (Evl.ea_cons (is 37 (by decide) _ _ rfl y8) Evl.ea_nil)) (by show 2 ≤ 100000; decide)) (by show 36 + 2 ≤ 100000; decide)) H8 (Ex.refl _) _ fun p H' hp x h => ?_
    exact k p H' (Evl.fresh_back y8 hp) (y8.trans x) h
end
/-- each item is of its sort -/
def AllP : List (V → Hp → Prop) → List V → Hp → Prop
  | [], [], _ => True
  | p :: ps, v :: vs, H => p v H ∧ AllP ps vs H
  | _, _, _ => False
def Mono (p : V → Hp → Prop) : Prop := ∀ v H H', Ex H H' → p v H → p v H'
theorem am_nil : ∀ p ∈ ([] : List (V → Hp → Prop)), Mono p := fun _ h => nomatch h
theorem am_cons {q : V → Hp → Prop} {ps : List (V → Hp → Prop)} (h : Mono q) (t : ∀ p ∈ ps, Mono p) : ∀ p ∈ q :: ps, Mono p := fun p hp => by
  rcases List.mem_cons.mp hp with rfl | z
  · exact h
  · exact t p z
theorem am_app {ps qs : List (V → Hp → Prop)} (h : ∀ p ∈ ps, Mono p) (t : ∀ p ∈ qs, Mono p) : ∀ p ∈ ps ++ qs, Mono p := fun p hp => by
  rcases List.mem_append.mp hp with z | z
  · exact h p z
  · exact t p z
theorem AllP.ex : ∀ {ps : List (V → Hp → Prop)} {vs : List V} {H H' : Hp}, (∀ p ∈ ps, Mono p) → Ex H H' → AllP ps vs H → AllP ps vs H'
  | [], [], _, _, _, _, h => h
  | [], _ :: _, _, _, _, _, h => h
  | _ :: _, [], _, _, _, _, h => h
  | p :: ps, v :: vs, H, H', m, x, h => ⟨m p List.mem_cons_self v H H' x h.1, AllP.ex (fun q hq => m q (List.mem_cons_of_mem _ hq)) x h.2⟩
theorem AllP.len : ∀ {ps : List (V → Hp → Prop)} {vs : List V} {H : Hp}, AllP ps vs H → vs.length = ps.length
  | [], [], _, _ => rfl
  | [], _ :: _, _, h => h.elim
  | _ :: _, [], _, h => h.elim
  | _ :: ps, _ :: vs, _, h => congrArg Nat.succ (AllP.len h.2)
theorem AllP.app : ∀ {ps qs : List (V → Hp → Prop)} {vs ws : List V} {H : Hp}, AllP ps vs H → AllP qs ws H → AllP (ps ++ qs) (vs ++ ws) H
  | [], _, [], _, _, _, h => h
  | [], _, _ :: _, _, _, h, _ => h.elim
  | _ :: _, _, [], _, _, h, _ => h.elim
  | _ :: _, _, _ :: _, _, _, h, g => ⟨h.1, AllP.app h.2 g⟩
theorem AllP.at : ∀ {ps : List (V → Hp → Prop)} {vs : List V} {H : Hp} {j : Nat} {p : V → Hp → Prop}, AllP ps vs H → ps[j]? = some p → ∃ v, vs[j]? = some v ∧ p v H
  | [], _, _, _, _, _, e => by cases e
  | _ :: _, [], _, _, _, h, _ => h.elim
  | p :: ps, v :: vs, _, 0, _, h, e => ⟨v, rfl, by cases e; exact h.1⟩
  | p :: ps, v :: vs, H, j + 1, q, h, e => AllP.at (ps := ps) (vs := vs) (j := j) h.2 e
def EvP (te : TE) (σ : L2.St) (H : Hp) (p : V → Hp → Prop) : Prop := ∀ H1, Ex H H1 → ∀ Q : VK, (∀ v H2, Ex H1 H2 → p v H2 → Q v H2) → te σ H1 Q
def EvPA (ta : TA) (σ : L2.St) (H : Hp) (ps : List (V → Hp → Prop)) : Prop := ∀ H1, Ex H H1 → ∀ Q : List V → Hp → Prop, (∀ vs H2, Ex H1 H2 → AllP ps vs H2 → Q vs H2) → ta σ H1 Q
def EvPL (te : TE) (σ : L2.St) (H : Hp) (ps : List (V → Hp → Prop)) : Prop := ∀ H1, Ex H H1 → ∀ Q : VK, (∀ p xs H2, H1 p = none → Ex H1 H2 → H2 p = some (.lst xs) → AllP ps xs H2 → Q (.ref p) H2) → te σ H1 Q
section
variable {σ : L2.St} {H : Hp} {te tb : TE} {ta : TA} {p : V → Hp → Prop} {ps qs : List (V → Hp → Prop)}
theorem evp_nil : EvPA tNil σ H [] := fun H1 _ _ q => q [] H1 (Ex.refl H1) trivial
theorem evp_cons (h : EvP te σ H p) (m : Mono p) (hr : EvPA ta σ H ps) : EvPA (tCons te ta) σ H (p :: ps) := fun H1 x Q q =>
  h H1 x _ fun v H2 x2 hv => hr H2 (x.trans x2) _ fun vs H3 x3 hvs => q _ H3 (x2.trans x3) ⟨m _ _ _ x3 hv, hvs⟩
theorem evp_lst (h : EvPA ta σ H ps) (m : ∀ p ∈ ps, Mono p) (hz : ps.length ≤ 100000) : EvPL (tLst ta) σ H ps := fun H1 x Q q =>
  h H1 x _ fun vs H2 x2 hv => ⟨Evl.sz_of (by rw [hv.len]; exact hz), fun l hl => q l vs _ (Evl.fresh_back x2 hl) (x2.trans (Ex.new hl)) upd_same (hv.ex m (Ex.new hl))⟩
theorem evp_cat {i : Nat} {l : Addr} {xs : List V} (h : σ[i]? = some (some (.ref l))) (hl : H l = some (.lst xs)) (hx : AllP ps xs H) (m : ∀ p ∈ ps, Mono p) (hb : EvPL tb σ H qs) (m2 : ∀ p ∈ qs, Mono p) (hz : ps.length + qs.length ≤ 100000) :
    EvPL (tOp rCat (tVar i) tb) σ H (ps ++ qs) := fun H1 x Q q => ⟨.ref l, h, hb H1 x _ fun b ys H2 _ x2 hb' hy => ⟨l, b, xs, ys, rfl, rfl, x2 _ _ (x _ _ hl), hb', Evl.sz_of (by rw [hx.len, hy.len]; exact hz), fun r hr =>
      q r _ _ (Evl.fresh_back x2 hr) (x2.trans (Ex.new hr)) upd_same (AllP.app ((hx.ex m (x.trans x2)).ex m (Ex.new hr)) (hy.ex m2 (Ex.new hr)))⟩⟩
theorem q_asgP {i : Nat} {D : Ends} {tz : TS} (h : EvPL te σ H ps) (k : ∀ p xs H1, H p = none → Ex H H1 → H1 p = some (.lst xs) → AllP ps xs H1 → tz D (σ.set i (some (.ref p))) H1) : tSeq (tAsg te (gName i)) tz D σ H :=
  h H (Ex.refl H) _ fun p xs H1 a b c d => k p xs H1 a b c d
theorem r_retP {D : Ends} (h : EvPL te σ H ps) (k : ∀ p xs H1, H p = none → Ex H H1 → H1 p = some (.lst xs) → AllP ps xs H1 → D.rt (.ref p) H1) : tRet te D σ H := h H (Ex.refl H) _ k
/-- an error of the class C; one that keeps v as f -/
def Er (C : Addr) : V → Hp → Prop := fun v H => ∃ e, v = .ref e ∧ ErrAt H e C
def Fr (C : Addr) (f : Str) (x : V) : V → Hp → Prop := fun v H => ∃ e d, v = .ref e ∧ ErrD H e C d [(f, x)]
theorem Er.mono (C : Addr) : Mono (Er C) := fun _ _ _ x ⟨e, h, a⟩ => ⟨e, h, a.ex x⟩
theorem Fr.mono (C : Addr) (f : Str) (y : V) : Mono (Fr C f y) := fun _ _ _ x ⟨e, d, h, a, b⟩ => ⟨e, d, h, x _ _ a, x _ _ b⟩
theorem evExc {C : Addr} {v : V} (h : Ev te σ H v) : EvP (tExc C te) σ H (Er C) := fun H1 x Q q =>
  h H1 x _ fun H2 x2 e he => q _ _ (x2.trans (Ex.new he)) ⟨e, rfl, .inl upd_same⟩
theorem evMk {C : Addr} {f : Str} {v : V} (h : Ev te σ H v) : EvP (tMkE C f te) σ H (Fr C f v) := fun H1 x Q q =>
  h H1 x _ fun H2 x2 e d he hd hed => q _ _ ((x2.trans (Ex.new hd)).trans (Ex.new (by rw [upd_ne hed]; exact he))) ⟨e, d, rfl, upd_same, by rw [upd_ne hed.symm]; exact upd_same⟩
end
def preds (Cs : Nat → Addr) (b c d : V) : List (V → Hp → Prop) := [Fr (Cs 0) "place" b, Fr (Cs 1) "what" c, Fr (Cs 2) "what" c, Fr (Cs 3) "index" d] ++ (List.range' 4 34).map fun j => Er (Cs j)
def spMade (Cs : Nat → Addr) : Sp := fun vs H Q _ => ∃ a b c d : V, vs = [a, b, c, d] ∧ ∀ p xs H', H p = none → Ex H H' → H' p = some (.lst xs) → AllP (preds Cs b c d) xs H' → Q (.ref p) H'
section
variable {P : Program} {w : World} {K : PySem.W.Frag} {mg : Str → Option Value} {base : Heap} {Cs : Nat → Addr} {CP : Addr}
abbrev sLawMade : Stmt := top 46
theorem scLawMade : FnScope ["words", "place", "what", "index", "found"] ["words", "place", "what", "index"] (defScope sLawMade) := ⟨rfl, rfl, rfl, by decide +kernel, rfl, by decide +kernel, by decide +kernel⟩
theorem ok_made {f : Addr} {fd : FuncData} (F : Fun K "_law_made" "_law_made" sLawMade f fd) (T : Cls P w K mg Cs CP) : FnOk P w K mg base CX0 1 f fd ["words", "place", "what", "index"] (spMade Cs) := by
  refine F.ok scLawMade (fun vs H Q E h => ?_) (fun cdv A outer s H vs Q E hr h => ?_)
  · obtain ⟨a, b, c, d, rfl, _⟩ := h
    rfl
  · obtain ⟨a, b, c, d, rfl, k⟩ := h
    refine ⟨_, (pss_cons (ps_set (i := 4) scLawMade.nd rfl (Or.inl rfl) (pe_lst (pa_cons (pe_mkE (k := 0) T.mk0 (T.kp 0 (by decide)) (T.mgC 0 (by decide)) (hr.mono (by omega)) (pv 1)) (pa_cons (pe_mkE (k := 0) T.mk1 (T.kp 1 (by decide)) (T.mgC 1 (by decide)) (hr.mono (by omega)) (pv 2)) (pa_cons (pe_mkE (k := 0) T.mk2 (T.kp 2 (by decide)) (T.mgC 2 (by decide)) (hr.mono (by omega)) (pv 2)) (pa_cons (pe_mkE (k := 0) T.mk3 (T.kp 3 (by decide)) (T.mgC 3 (by decide)) (hr.mono (by omega)) (pv 3)) pa_nil))))))
  (pss_cons (ps_set (i := 4) scLawMade.nd rfl (Or.inl rfl) (pe_op op_cat (pv 4) (pe_lst (pa_cons (pe_exc (T.plain 4 (by decide) (by decide)) (T.mgC 4 (by decide)) (T.kp 4 (by decide)) (pv 0)) (pa_cons (pe_exc (T.plain 5 (by decide) (by decide)) (T.mgC 5 (by decide)) (T.kp 5 (by decide)) (pv 0)) (pa_cons (pe_exc (T.plain 6 (by decide) (by decide)) (T.mgC 6 (by decide)) (T.kp 6 (by decide)) (pv 0)) (pa_cons (pe_exc (T.plain 7 (by decide) (by decide)) (T.mgC 7 (by decide)) (T.kp 7 (by decide)) (pv 0)) (pa_cons (pe_exc (T.plain 8 (by decide) (by decide)) (T.mgC 8 (by decide)) (T.kp 8 (by decide)) (pv 0)) (pa_cons (pe_exc (T.plain 9 (by decide) (by decide)) (T.mgC 9 (by decide)) (T.kp 9 (by decide)) (pv 0)) pa_nil)))))))))
  (pss_cons (ps_set (i := 4) scLawMade.nd rfl (Or.inl rfl) (pe_op op_cat (pv 4) (pe_lst (pa_cons (pe_exc (T.plain 10 (by decide) (by decide)) (T.mgC 10 (by decide)) (T.kp 10 (by decide)) (pv 0)) (pa_cons (pe_exc (T.plain 11 (by decide) (by decide)) (T.mgC 11 (by decide)) (T.kp 11 (by decide)) (pv 0)) (pa_cons (pe_exc (T.plain 12 (by decide) (by decide)) (T.mgC 12 (by decide)) (T.kp 12 (by decide)) (pv 0)) (pa_cons (pe_exc (T.plain 13 (by decide) (by decide)) (T.mgC 13 (by decide)) (T.kp 13 (by decide)) (pv 0)) (pa_cons (pe_exc (T.plain 14 (by decide) (by decide)) (T.mgC 14 (by decide)) (T.kp 14 (by decide)) (pv 0)) (pa_cons (pe_exc (T.plain 15 (by decide) (by decide)) (T.mgC 15 (by decide)) (T.kp 15 (by decide)) (pv 0)) pa_nil)))))))))
  (pss_cons (ps_set (i := 4) scLawMade.nd rfl (Or.inl rfl) (pe_op op_cat (pv 4) (pe_lst (pa_cons (pe_exc (T.plain 16 (by decide) (by decide)) (T.mgC 16 (by decide)) (T.kp 16 (by decide)) (pv 0)) (pa_cons (pe_exc (T.plain 17 (by decide) (by decide)) (T.mgC 17 (by decide)) (T.kp 17 (by decide)) (pv 0)) (pa_cons (pe_exc (T.plain 18 (by decide) (by decide)) (T.mgC 18 (by decide)) (T.kp 18 (by decide)) (pv 0)) (pa_cons (pe_exc (T.plain 19 (by decide) (by decide)) (T.mgC 19 (by decide)) (T.kp 19 (by decide)) (pv 0)) (pa_cons (pe_exc (T.plain 20 (by decide) (by decide)) (T.mgC 20 (by decide)) (T.kp 20 (by decide)) (pv 0)) (pa_cons (pe_exc (T.plain 21 (by decide) (by decide)) (T.mgC 21 (by decide)) (T.kp 21 (by decide)) (pv 0)) pa_nil)))))))))
  (pss_cons (ps_set (i := 4) scLawMade.nd rfl (Or.inl rfl) (pe_op op_cat (pv 4) (pe_lst (pa_cons (pe_exc (T.plain 22 (by decide) (by decide)) (T.mgC 22 (by decide)) (T.kp 22 (by decide)) (pv 0)) (pa_cons (pe_exc (T.plain 23 (by decide) (by decide)) (T.mgC 23 (by decide)) (T.kp 23 (by decide)) (pv 0)) (pa_cons (pe_exc (T.plain 24 (by decide) (by decide)) (T.mgC 24 (by decide)) (T.kp 24 (by decide)) (pv 0)) (pa_cons (pe_exc (T.plain 25 (by decide) (by decide)) (T.mgC 25 (by decide)) (T.kp 25 (by decide)) (pv 0)) (pa_cons (pe_exc (T.plain 26 (by decide) (by decide)) (T.mgC 26 (by decide)) (T.kp 26 (by decide)) (pv 0)) (pa_cons (pe_exc (T.plain 27 (by decide) (by decide)) (T.mgC 27 (by decide)) (T.kp 27 (by decide)) (pv 0)) pa_nil)))))))))
  (pss_cons (ps_set (i := 4) scLawMade.nd rfl (Or.inl rfl) (pe_op op_cat (pv 4) (pe_lst (pa_cons (pe_exc (T.plain 28 (by decide) (by decide)) (T.mgC 28 (by decide)) (T.kp 28 (by decide)) (pv 0)) (pa_cons (pe_exc (T.plain 29 (by decide) (by decide)) (T.mgC 29 (by decide)) (T.kp 29 (by decide)) (pv 0)) (pa_cons (pe_exc (T.plain 30 (by decide) (by decide)) (T.mgC 30 (by decide)) (T.kp 30 (by decide)) (pv 0)) (pa_cons (pe_exc (T.plain 31 (by decide) (by decide)) (T.mgC 31 (by decide)) (T.kp 31 (by decide)) (pv 0)) (pa_cons (pe_exc (T.plain 32 (by decide) (by decide)) (T.mgC 32 (by decide)) (T.kp 32 (by decide)) (pv 0)) (pa_cons (pe_exc (T.plain 33 (by decide) (by decide)) (T.mgC 33 (by decide)) (T.kp 33 (by decide)) (pv 0)) pa_nil)))))))))
  (pss_one (ps_ret (pe_op op_cat (pv 4) (pe_lst (pa_cons (pe_exc (T.plain 34 (by decide) (by decide)) (T.mgC 34 (by decide)) (T.kp 34 (by decide)) (pv 0)) (pa_cons (pe_exc (T.plain 35 (by decide) (by decide)) (T.mgC 35 (by decide)) (T.kp 35 (by decide)) (pv 0)) (pa_cons (pe_exc (T.plain 36 (by decide) (by decide)) (T.mgC 36 (by decide)) (T.kp 36 (by decide)) (pv 0)) (pa_cons (pe_exc (T.plain 37 (by decide) (by decide)) (T.mgC 37 (by decide)) (T.kp 37 (by decide)) (pv 0)) pa_nil)))))))))))))), ?_⟩
    have one (j : Nat) (σ : L2.St) (H' : Hp) (h0 : σ[0]? = some (some a)) : EvP (tExc (Cs j) (tVar 0)) σ H' (Er (Cs j)) := evExc (Evl.ev_var h0)
    have m6 (j1 j2 j3 j4 j5 j6 : Nat) : ∀ p ∈ [Er (Cs j1), Er (Cs j2), Er (Cs j3), Er (Cs j4), Er (Cs j5), Er (Cs j6)], Mono p := (am_cons (Er.mono _) (am_cons (Er.mono _) (am_cons (Er.mono _) (am_cons (Er.mono _) (am_cons (Er.mono _) (am_cons (Er.mono _) am_nil))))))
    have m4 (j1 j2 j3 j4 : Nat) : ∀ p ∈ [Er (Cs j1), Er (Cs j2), Er (Cs j3), Er (Cs j4)], Mono p := (am_cons (Er.mono _) (am_cons (Er.mono _) (am_cons (Er.mono _) (am_cons (Er.mono _) am_nil))))
    have m0 : ∀ p ∈ [Fr (Cs 0) "place" b, Fr (Cs 1) "what" c, Fr (Cs 2) "what" c, Fr (Cs 3) "index" d], Mono p := (am_cons (Fr.mono _ _ _) (am_cons (Fr.mono _ _ _) (am_cons (Fr.mono _ _ _) (am_cons (Fr.mono _ _ _) am_nil))))
    have six (j1 j2 j3 j4 j5 j6 : Nat) (σ : L2.St) (H' : Hp) (h0 : σ[0]? = some (some a)) := evp_lst (evp_cons (one j1 σ H' h0) (Er.mono _) (evp_cons (one j2 σ H' h0) (Er.mono _) (evp_cons (one j3 σ H' h0) (Er.mono _) (evp_cons (one j4 σ H' h0) (Er.mono _) (evp_cons (one j5 σ H' h0) (Er.mono _) (evp_cons (one j6 σ H' h0) (Er.mono _) evp_nil)))))) (m6 j1 j2 j3 j4 j5 j6) (by show 6 ≤ 100000; decide)
    show tSeq _ _ _ [some a, some b, some c, some d, none] H
    have v1 : ([some a, some b, some c, some d, none] : L2.St)[1]? = some (some b) := rfl
    have v2 : ([some a, some b, some c, some d, none] : L2.St)[2]? = some (some c) := rfl
    have v3 : ([some a, some b, some c, some d, none] : L2.St)[3]? = some (some d) := rfl
    refine q_asgP (evp_lst (evp_cons (evMk (Evl.ev_var v1)) (Fr.mono _ _ _) (evp_cons (evMk (Evl.ev_var v2)) (Fr.mono _ _ _) (evp_cons (evMk (Evl.ev_var v2)) (Fr.mono _ _ _) (evp_cons (evMk (Evl.ev_var v3)) (Fr.mono _ _ _) evp_nil)))) m0 (by show 4 ≤ 100000; decide)) fun p0 z0 H0 n0 x0 h0 a0 => ?_
    have y0 := x0
    refine q_asgP (evp_cat rfl h0 a0 m0 (six 4 5 6 7 8 9 _ _ rfl) (m6 4 5 6 7 8 9) (by show 4 + 6 ≤ 100000; decide)) fun p1 z1 H1 n1 x1 h1 a1 => ?_
    have y1 := y0.trans x1
    replace m0 := am_app m0 (m6 4 5 6 7 8 9)
    refine q_asgP (evp_cat rfl h1 a1 m0 (six 10 11 12 13 14 15 _ _ rfl) (m6 10 11 12 13 14 15) (by show 10 + 6 ≤ 100000; decide)) fun p2 z2 H2 n2 x2 h2 a2 => ?_
    have y2 := y1.trans x2
    replace m0 := am_app m0 (m6 10 11 12 13 14 15)
    refine q_asgP (evp_cat rfl h2 a2 m0 (six 16 17 18 19 20 21 _ _ rfl) (m6 16 17 18 19 20 21) (by show 16 + 6 ≤ 100000; decide)) fun p3 z3 H3 n3 x3 h3 a3 => ?_
    have y3 := y2.trans x3
    replace m0 := am_app m0 (m6 16 17 18 19 20 21)
    refine q_asgP (evp_cat rfl h3 a3 m0 (six 22 23 24 25 26 27 _ _ rfl) (m6 22 23 24 25 26 27) (by show 22 + 6 ≤ 100000; decide)) fun p4 z4 H4 n4 x4 h4 a4 => ?_
    have y4 := y3.trans x4
    replace m0 := am_app m0 (m6 22 23 24 25 26 27)
    refine q_asgP (evp_cat rfl h4 a4 m0 (six 28 29 30 31 32 33 _ _ rfl) (m6 28 29 30 31 32 33) (by show 28 + 6 ≤ 100000; decide)) fun p5 z5 H5 n5 x5 h5 a5 => ?_
    have y5 := y4.trans x5
    replace m0 := am_app m0 (m6 28 29 30 31 32 33)
    refine r_retP (evp_cat rfl h5 a5 m0 (evp_lst (evp_cons (one 34 _ _ rfl) (Er.mono _) (evp_cons (one 35 _ _ rfl) (Er.mono _) (evp_cons (one 36 _ _ rfl) (Er.mono _) (evp_cons (one 37 _ _ rfl) (Er.mono _) evp_nil)))) (m4 34 35 36 37) (by show 4 ≤ 100000; decide)) (m4 34 35 36 37) (by show 34 + 4 ≤ 100000; decide)) fun p xs H' hp x h a => ?_
    exact k p xs H' (Evl.fresh_back y5 hp) (y5.trans x) h a
end
end K0
namespace K0
open PySem L2
open Evl (Ex Ev EvL EvA EvT)
local macro_rules | `(tactic| walk_at "sq") => `(tactic| first | assumption | exact SqL.of (by assumption) | exact SqT.of (by assumption) | exact SqL.of upd_same | exact SqT.of upd_same)
local macro_rules | `(tactic| walk_at "go1") => `(tactic| first
  | (with_reducible refine' Gk.seq ?_)
  | ((with_reducible refine' Gk.var ?hgo ?_); (case hgo => exact rfl))
  | (with_reducible refine' Gk.con ?_)
  | (with_reducible refine' Gk.op ?_)
  | (with_reducible refine' Gk.i0 ?_)
  | (with_reducible refine' Gk.un ?_)
  | ((with_reducible refine' Gk.i1 (C := CMul) ?hgo ?_); (case hgo => first | exact .inl ⟨by decide, by decide⟩ | exact .inr ⟨by decide, by decide⟩ | exact .inl ⟨by omega, by omega⟩ | exact .inr ⟨by omega, by omega⟩))
  | ((with_reducible refine' Gk.i1 (C := CDiv) ?hgo ?_); (case hgo => exact ⟨by omega, by omega⟩))
  | ((with_reducible refine' Gk.i1 (C := CPow) ?hgo ?_); (case hgo => exact ⟨by decide, by decide, by decide⟩))
  | ((with_reducible refine' Gk.i1 (C := fun _ j => 0 < j) ?hgo ?_); (case hgo => show (0 : Int) < _; omega))
  | (with_reducible refine' Gk.u1 ?_)
  | (with_reducible refine' Gk.test ?_)
  | (with_reducible refine' Gk.testB ?_)
  | (with_reducible refine' Gk.asB ?_)
  | ((with_reducible refine' Gk.eqv ?hgo ?_); (case hgo => exact rfl))
  | ((with_reducible refine' Gk.nev ?hgo ?_); (case hgo => exact rfl))
  | ((with_reducible refine' Gk.ixL ?hgo ?hga ?_); (case hgo => walk_at "sq"); (case hga => first | exact rfl | assumption))
  | ((with_reducible refine' Gk.ixT ?hgo ?hga ?_); (case hgo => walk_at "sq"); (case hga => first | exact rfl | assumption))
  | (with_reducible refine' Gk.aNil ?_)
  | (with_reducible refine' Gk.aCons ?_)
  | (with_reducible refine' Gk.cb ?_)
  | (with_reducible refine' Gk.call ?_)
  | (with_reducible refine' Gk.tup ?_)
  | (with_reducible refine' Gk.lst ?_)
  | (with_reducible refine' Gk.ifE ?_)
  | (with_reducible refine' Gk.ifS ?_)
  | (with_reducible refine' Gk.next ?_)
  | (with_reducible refine' Gk.asg ?_)
  | ((with_reducible refine' Gk.gname ?hgo ?_); (case hgo => exact rfl))
  | (with_reducible refine' Gk.gsub ?_)
  | ((with_reducible refine' Gk.setL ?hgo ?hga ?_); (case hgo => first | assumption | exact upd_same); (case hga => first | exact rfl | assumption))
  | (with_reducible refine' Gk.ret ?_)
  | (with_reducible refine' Gk.drop ?_)
  | (with_reducible refine' Gk.par ?_)
  | (with_reducible refine' Gk.andT ?_)
  | (with_reducible refine' Gk.orT ?_)
  | (with_reducible refine' Gk.notT ?_)
  | (with_reducible refine' Gk.abs ?_)
  | (with_reducible refine' Gk.intI ?_)
  | (with_reducible refine' Gk.intB ?_)
  | ((with_reducible refine' Gk.lenL ?hgo ?_); (case hgo => walk_at "sq"))
  | ((with_reducible refine' Gk.lenT ?hgo ?_); (case hgo => walk_at "sq"))
  | (with_reducible refine' Gk.bm ?_)
  | ((with_reducible refine' Gk.tyL ?hgo ?_); (case hgo => first | assumption | exact upd_same))
  | ((with_reducible refine' Gk.gtup ?hgo ?hga ?_); (case hgo => walk_at "sq"); (case hga => exact rfl))
  | (with_reducible refine' Gk.gcons ?_)
  | (with_reducible refine' Gk.gnil ?_)
  | (with_reducible refine' Gk.sl ?_)
  | (with_reducible refine' Gk.noPart ?_)
  | (with_reducible refine' Gk.part ?_)
  | (with_reducible refine' Gk.partI ?_)
  | (with_reducible refine' Gk.lc ?_)
  | (with_reducible refine' Gk.rng1 ?_)
  | (with_reducible refine' Gk.forS ?_)
  | (with_reducible refine' Gk.isN ?_)
  | (with_reducible refine' Gk.notN ?_)
  | (with_reducible refine' Gk.andV ?_)
  | (with_reducible refine' Gk.orV ?_)
  | (with_reducible refine' Gk.notV ?_)
  | ((with_reducible refine' Gk.isiB ?hgo ?hga ?_); (case hgo => exact .base (.non)); (case hga => first | exact (show kitB _ _ = some true by decide +kernel) | exact (show kitB _ _ = some false by decide +kernel)))
  | ((with_reducible refine' Gk.isiB ?hgo ?hga ?_); (case hgo => exact .base (.int _)); (case hga => first | exact (show kitB _ _ = some true by decide +kernel) | exact (show kitB _ _ = some false by decide +kernel)))
  | ((with_reducible refine' Gk.isiB ?hgo ?hga ?_); (case hgo => exact .base (.str _)); (case hga => first | exact (show kitB _ _ = some true by decide +kernel) | exact (show kitB _ _ = some false by decide +kernel)))
  | ((with_reducible refine' Gk.isiB ?hgo ?hga ?_); (case hgo => exact .base (.bl _)); (case hga => first | exact (show kitB _ _ = some true by decide +kernel) | exact (show kitB _ _ = some false by decide +kernel)))
  | ((with_reducible refine' Gk.isiB ?hgo ?hga ?_); (case hgo => exact .base (.tup (by assumption))); (case hga => first | exact (show kitB _ _ = some true by decide +kernel) | exact (show kitB _ _ = some false by decide +kernel)))
  | ((with_reducible refine' Gk.isiB ?hgo ?hga ?_); (case hgo => exact .base (.lst (by assumption))); (case hga => first | exact (show kitB _ _ = some true by decide +kernel) | exact (show kitB _ _ = some false by decide +kernel)))
  | ((with_reducible refine' Gk.iteT ?hgo ?_); (case hgo => exact rfl))
  | ((with_reducible refine' Gk.iteF ?hgo ?_); (case hgo => exact rfl))
  | (with_reducible refine' Gk.yes ?_)
  | (dsimp only))

/-- the same data, level by level -/
def Same : Nat → V → V → Hp → Prop
  | 0, _, _, _ => False
  | n + 1, x, y, H => (x = y ∧ (x = .non ∨ (∃ i, x = .int i) ∨ ∃ s, x = .str s)) ∨ ∃ a b xs ys, x = .ref a ∧ y = .ref b ∧ H a = some (.tup xs) ∧ H b = some (.tup ys) ∧ xs.length = ys.length ∧ xs.length ≤ 1000 ∧ ∀ (j : Nat) u v, xs[j]? = some u → ys[j]? = some v → Same n u v H
theorem Same.ex : ∀ {n : Nat} {x y : V} {H H' : Hp}, Ex H H' → Same n x y H → Same n x y H'
  | 0, _, _, _, _, _, h => h
  | n + 1, x, y, H, H', e, h => by
    rcases h with h | ⟨a, b, xs, ys, hx, hy, h1, h2, h3, h4, h5⟩
    · exact .inl h
    · exact .inr ⟨a, b, xs, ys, hx, hy, e _ _ h1, e _ _ h2, h3, h4, fun j u v p q => Same.ex e (h5 j u v p q)⟩
def spSame (n : Nat) : Sp := fun vs H Q _ => ∃ x y, vs = [x, y] ∧ Same n x y H ∧ ∀ H', Ex H H' → Q (.bl true) H'
section
variable {P : Program} {w : World} {K : PySem.W.Frag} {mg : Str → Option Value} {base : Heap}
abbrev sLawSame : Stmt := top 44
theorem scLawSame : FnScope ["found", "due", "k"] ["found", "due"] (defScope sLawSame) := ⟨rfl, rfl, rfl, by decide +kernel, rfl, by decide +kernel, by decide +kernel⟩
theorem ok_same {f : Addr} {fd : FuncData} (F : Fun K "_law_same" "_law_same" sLawSame f fd) (T : Glo mg) (mS : mg "_law_same" = some (.ref f)) (bS : Binds K fd ["found", "due"] []) : ∀ n, FnOk P w K mg base CX0 n f fd ["found", "due"] (spSame n)
  | 0 => ⟨fun vs H Q E h => by obtain ⟨_, _, rfl, h, _⟩ := h; exact h.elim, fun A outer s H args us vs Q E _ _ _ _ h => by obtain ⟨_, _, _, h, _⟩ := h; exact h.elim⟩
  | n + 1 => by
    have G := ok_same F T mS bS n
    refine F.ok scLawSame (fun vs H Q E h => ?_) (fun cdv A outer s H vs Q E hr h => ?_)
    · obtain ⟨x, y, rfl, _⟩ := h
      rfl
    · obtain ⟨x, y, rfl, h, k⟩ := h
      refine ⟨_, (pss_cons (ps_if (PW.pt (pw_or (pt_cmpR op_isN1 (pv 1) pe_non (nomark _)) (pw_or1 (pt_cmpR op_isN1 (pv 0) pe_non (nomark _)))))
    (pss_one (ps_ret (pe_and (pe_cmpR op_isN1 (pv 0) pe_non (nomark _)) (pe_one (pe_cmpR op_isN1 (pv 1) pe_non (nomark _))))))
    pss_nil)
  (pss_cons (ps_if (pt_val (pe_callB (Gk.eIsi K) (by rfl) T.isinstance (by decide +kernel) (pa_cons (pv 1) (pa_cons (pe_bltn (v := .ty "tuple") (by rfl) T.tuple (by decide +kernel) rfl) pa_nil))))
    (pss_cons (ps_if (PW.pt (pw_or (pt_not (pt_val (pe_callB (Gk.eIsi K) (by rfl) T.isinstance (by decide +kernel) (pa_cons (pv 0) (pa_cons (pe_bltn (v := .ty "tuple") (by rfl) T.tuple (by decide +kernel) rfl) pa_nil))))) (pw_or1 (pt_cmpR op_ne (pe_callB (Gk.eLen K) (by rfl) T.len PySem.boot_len (pa_cons (pv 0) pa_nil)) (pe_callB (Gk.eLen K) (by rfl) T.len PySem.boot_len (pa_cons (pv 1) pa_nil)) (nomark _)))))
      (pss_one (ps_ret pe_bl))
      pss_nil)
    (pss_one (ps_ret (pe_cmpR (Gk.eEqD K hr.units) (pe_lc (own := [("k", 2)]) (g := gName 2) (tt := _) rfl scLawSame.nd (pi_range1 (by rfl) T.range (pa_cons (pe_callB (Gk.eLen K) (by rfl) T.len PySem.boot_len (pa_cons (pv 1) pa_nil)) pa_nil)) (blkOk_by (N := ["found", "due", "k"]) (sc := defScope sLawSame) (by decide +kernel)) (fun _ _ _ _ _ => pg_name (i := 2) scLawSame.nd rfl (Or.inl rfl)) (fun _ _ _ _ _ => (pts_one (pt_not (pt_val (pe_call G hr rfl mS F.kp bS .nil pass0 (pa_cons (pe_ix (Gk.eIxT K) (pv 0) (pv 2) (fun _ _ => rfl)) (pa_cons (pe_ix (Gk.eIxT K) (pv 1) (pv 2) (fun _ _ => rfl)) pa_nil))))))) (fun _ _ _ _ _ => (pv 2))) (pe_lst pa_nil) (nomark _)))))
    pss_nil)
  (pss_one (ps_ret (pe_and (pe_cmpR op_eq (pe_callB (Gk.eIsi K) (by rfl) T.isinstance (by decide +kernel) (pa_cons (pv 0) (pa_cons (pe_bltn (v := .ty "bool") (by rfl) T.bool (by decide +kernel) rfl) pa_nil))) (pe_callB (Gk.eIsi K) (by rfl) T.isinstance (by decide +kernel) (pa_cons (pv 1) (pa_cons (pe_bltn (v := .ty "bool") (by rfl) T.bool (by decide +kernel) rfl) pa_nil))) (nomark _)) (pe_and (pe_cmpR op_eq (pe_callB (Gk.eIsi K) (by rfl) T.isinstance (by decide +kernel) (pa_cons (pv 0) (pa_cons (pe_bltn (v := .ty "str") (by rfl) T.str (by decide +kernel) rfl) pa_nil))) (pe_callB (Gk.eIsi K) (by rfl) T.isinstance (by decide +kernel) (pa_cons (pv 1) (pa_cons (pe_bltn (v := .ty "str") (by rfl) T.str (by decide +kernel) rfl) pa_nil))) (nomark _)) (pe_one (pe_cmpR op_eq (pv 0) (pv 1) (nomark _))))))))), ?_⟩
      rcases h with ⟨rfl, rfl | ⟨i, rfl⟩ | ⟨s, rfl⟩⟩ | ⟨a, b, xs, ys, rfl, rfl, hx, hy, hl, hz, hs⟩
      · repeat walk_at "go1"
        exact k H (Ex.refl H)
      · repeat walk_at "go1"
        rw [decide_eq_true rfl]
        exact k H (Ex.refl H)
      · repeat walk_at "go1"
        rw [decide_eq_true rfl]
        exact k H (Ex.refl H)
      · repeat walk_at "go1"
        refine Gk.iteF (by rw [hl, decide_eq_true rfl] <;> rfl) ?_
        repeat walk_at "go1"
        refine ⟨(ys.length : Int), rfl, by omega, by omega, fun Dl hD => lc_range (lo := 0) (n := ys.length) (fun i H' => H' Dl = some (.lst []) ∧ Ex H H') ⟨upd_same, Ex.new hD⟩ ?_ ?_⟩
        · rintro i H' hi ⟨hd, he⟩
          obtain ⟨u, hu⟩ : ∃ u, xs[i]? = some u := ⟨xs[i]'(by omega), List.getElem?_eq_getElem (by omega)⟩
          obtain ⟨v, hv⟩ : ∃ v, ys[i]? = some v := ⟨ys[i], List.getElem?_eq_getElem hi⟩
          have au : atI xs (0 + (i : Int)) = some u := by rw [Int.zero_add]; exact atI_nat hu
          have av : atI ys (0 + (i : Int)) = some v := by rw [Int.zero_add]; exact atI_nat hv
          have hx' := he _ _ hx
          have hy' := he _ _ hy
          repeat walk_at "go1"
          refine ⟨rfl, ?_⟩
          repeat walk_at "go1"
          refine ⟨u, v, rfl, (hs i u v hu hv).ex he, fun H2 e2 => ?_⟩
          repeat walk_at "go1"
          exact ⟨e2 _ _ hd, he.trans e2⟩
        · rintro H' ⟨hd, he⟩
          repeat walk_at "go1"
          refine ⟨by show 0 ≤ sizeLine; decide, fun p hp => ?_⟩
          refine Gk.eqD (d := .list []) (e := .list []) (.lst (SqL.of (by rw [upd_ne (ne_of_none hd hp)]; exact hd)) .nil) (.lst (SqL.of upd_same) .nil) (by decide) (by decide) ?_
          exact k _ (he.trans (Ex.new hp))
end
end K0
namespace K0
open PySem L2
open Evl (Ex Ev EvL EvA EvT)
local macro_rules | `(tactic| walk_at "sq") => `(tactic| first | assumption | exact SqL.of (by assumption) | exact SqT.of (by assumption) | exact SqL.of upd_same | exact SqT.of upd_same)
local macro_rules | `(tactic| walk_at "go1") => `(tactic| first
  | (with_reducible refine' Gk.seq ?_)
  | ((with_reducible refine' Gk.var ?hgo ?_); (case hgo => exact rfl))
  | (with_reducible refine' Gk.con ?_)
  | (with_reducible refine' Gk.op ?_)
  | (with_reducible refine' Gk.i0 ?_)
  | (with_reducible refine' Gk.un ?_)
  | ((with_reducible refine' Gk.i1 (C := CMul) ?hgo ?_); (case hgo => first | exact .inl ⟨by decide, by decide⟩ | exact .inr ⟨by decide, by decide⟩ | exact .inl ⟨by omega, by omega⟩ | exact .inr ⟨by omega, by omega⟩))
  | ((with_reducible refine' Gk.i1 (C := CDiv) ?hgo ?_); (case hgo => exact ⟨by omega, by omega⟩))
  | ((with_reducible refine' Gk.i1 (C := CPow) ?hgo ?_); (case hgo => exact ⟨by decide, by decide, by decide⟩))
  | ((with_reducible refine' Gk.i1 (C := fun _ j => 0 < j) ?hgo ?_); (case hgo => show (0 : Int) < _; omega))
  | (with_reducible refine' Gk.u1 ?_)
  | (with_reducible refine' Gk.test ?_)
  | (with_reducible refine' Gk.testB ?_)
  | (with_reducible refine' Gk.asB ?_)
  | ((with_reducible refine' Gk.eqv ?hgo ?_); (case hgo => exact rfl))
  | ((with_reducible refine' Gk.nev ?hgo ?_); (case hgo => exact rfl))
  | ((with_reducible refine' Gk.ixL ?hgo ?hga ?_); (case hgo => walk_at "sq"); (case hga => first | exact rfl | assumption))
  | ((with_reducible refine' Gk.ixT ?hgo ?hga ?_); (case hgo => walk_at "sq"); (case hga => first | exact rfl | assumption))
  | (with_reducible refine' Gk.aNil ?_)
  | (with_reducible refine' Gk.aCons ?_)
  | (with_reducible refine' Gk.cb ?_)
  | (with_reducible refine' Gk.call ?_)
  | (with_reducible refine' Gk.tup ?_)
  | (with_reducible refine' Gk.lst ?_)
  | (with_reducible refine' Gk.ifE ?_)
  | (with_reducible refine' Gk.ifS ?_)
  | (with_reducible refine' Gk.next ?_)
  | (with_reducible refine' Gk.asg ?_)
  | ((with_reducible refine' Gk.gname ?hgo ?_); (case hgo => exact rfl))
  | (with_reducible refine' Gk.gsub ?_)
  | ((with_reducible refine' Gk.setL ?hgo ?hga ?_); (case hgo => first | assumption | exact upd_same); (case hga => first | exact rfl | assumption))
  | (with_reducible refine' Gk.ret ?_)
  | (with_reducible refine' Gk.drop ?_)
  | (with_reducible refine' Gk.par ?_)
  | (with_reducible refine' Gk.andT ?_)
  | (with_reducible refine' Gk.orT ?_)
  | (with_reducible refine' Gk.notT ?_)
  | (with_reducible refine' Gk.abs ?_)
  | (with_reducible refine' Gk.intI ?_)
  | (with_reducible refine' Gk.intB ?_)
  | ((with_reducible refine' Gk.lenL ?hgo ?_); (case hgo => walk_at "sq"))
  | ((with_reducible refine' Gk.lenT ?hgo ?_); (case hgo => walk_at "sq"))
  | (with_reducible refine' Gk.bm ?_)
  | ((with_reducible refine' Gk.tyL ?hgo ?_); (case hgo => first | assumption | exact upd_same))
  | ((with_reducible refine' Gk.gtup ?hgo ?hga ?_); (case hgo => walk_at "sq"); (case hga => exact rfl))
  | (with_reducible refine' Gk.gcons ?_)
  | (with_reducible refine' Gk.gnil ?_)
  | (with_reducible refine' Gk.sl ?_)
  | (with_reducible refine' Gk.noPart ?_)
  | (with_reducible refine' Gk.part ?_)
  | (with_reducible refine' Gk.partI ?_)
  | (with_reducible refine' Gk.lc ?_)
  | (with_reducible refine' Gk.rng1 ?_)
  | (with_reducible refine' Gk.forS ?_)
  | (with_reducible refine' Gk.isN ?_)
  | (with_reducible refine' Gk.notN ?_)
  | (with_reducible refine' Gk.andV ?_)
  | (with_reducible refine' Gk.orV ?_)
  | (with_reducible refine' Gk.notV ?_)
  | ((with_reducible refine' Gk.isiB ?hgo ?hga ?_); (case hgo => exact .base (.non)); (case hga => first | exact (show kitB _ _ = some true by decide +kernel) | exact (show kitB _ _ = some false by decide +kernel)))
  | ((with_reducible refine' Gk.isiB ?hgo ?hga ?_); (case hgo => exact .base (.int _)); (case hga => first | exact (show kitB _ _ = some true by decide +kernel) | exact (show kitB _ _ = some false by decide +kernel)))
  | ((with_reducible refine' Gk.isiB ?hgo ?hga ?_); (case hgo => exact .base (.str _)); (case hga => first | exact (show kitB _ _ = some true by decide +kernel) | exact (show kitB _ _ = some false by decide +kernel)))
  | ((with_reducible refine' Gk.isiB ?hgo ?hga ?_); (case hgo => exact .base (.bl _)); (case hga => first | exact (show kitB _ _ = some true by decide +kernel) | exact (show kitB _ _ = some false by decide +kernel)))
  | ((with_reducible refine' Gk.isiB ?hgo ?hga ?_); (case hgo => exact .base (.tup (by assumption))); (case hga => first | exact (show kitB _ _ = some true by decide +kernel) | exact (show kitB _ _ = some false by decide +kernel)))
  | ((with_reducible refine' Gk.isiB ?hgo ?hga ?_); (case hgo => exact .base (.lst (by assumption))); (case hga => first | exact (show kitB _ _ = some true by decide +kernel) | exact (show kitB _ _ = some false by decide +kernel)))
  | ((with_reducible refine' Gk.iteT ?hgo ?_); (case hgo => exact rfl))
  | ((with_reducible refine' Gk.iteF ?hgo ?_); (case hgo => exact rfl))
  | (with_reducible refine' Gk.yes ?_)
  | (dsimp only))

theorem Same.of {n : Nat} {x y : V} {H : Hp} (h : Same n x y H) : ∀ m, n ≤ m → Same m x y H := by
  induction n generalizing x y with
  | zero => exact h.elim
  | succ n ih =>
    intro m hm
    obtain ⟨m, rfl⟩ : ∃ m', m = m' + 1 := ⟨m - 1, by omega⟩
    rcases h with h | ⟨a, b, xs, ys, hx, hy, h1, h2, h3, h4, h5⟩
    · exact .inl h
    · exact .inr ⟨a, b, xs, ys, hx, hy, h1, h2, h3, h4, fun j u v p q => ih (h5 j u v p q) m (by omega)⟩
theorem Same.i {n : Nat} {i : Int} {H : Hp} : Same (n + 1) (.int i) (.int i) H := .inl ⟨rfl, .inr (.inl ⟨i, rfl⟩)⟩
theorem Same.s {n : Nat} {s : Str} {H : Hp} : Same (n + 1) (.str s) (.str s) H := .inl ⟨rfl, .inr (.inr ⟨s, rfl⟩)⟩
theorem Same.n {n : Nat} {H : Hp} : Same (n + 1) .non .non H := .inl ⟨rfl, .inl rfl⟩
/-- two tuples of the same data, item by item -/
theorem Same.t {n : Nat} {a b : Addr} {xs : List V} {H : Hp} (h1 : H a = some (.tup xs)) (h2 : H b = some (.tup xs)) (hl : xs.length ≤ 1000) (h : ∀ v ∈ xs, Same n v v H) : Same (n + 1) (.ref a) (.ref b) H :=
  .inr ⟨a, b, xs, xs, rfl, rfl, h1, h2, rfl, hl, fun j u v p q => by
    rw [p] at q
    cases q
    exact h u (List.mem_of_getElem? p)⟩
/-- evaluates to a thing of the sort -/
theorem evp_of {te : TE} {σ : L2.St} {H : Hp} {v : V} (h : Ev te σ H v) : EvP te σ H (fun u _ => u = v) := fun H1 x Q q => h H1 x Q fun H2 x2 => q v H2 x2 rfl
theorem evp_tup {ta : TA} {σ : L2.St} {H : Hp} {ps : List (V → Hp → Prop)} (h : EvPA ta σ H ps) (m : ∀ p ∈ ps, Mono p) (hz : ps.length ≤ 100000) : EvP (tTup ta) σ H (fun v H => ∃ a vs, v = .ref a ∧ H a = some (.tup vs) ∧ AllP ps vs H) := fun H1 x Q q =>
  h H1 x _ fun vs H2 x2 hv => ⟨Evl.sz_of (by rw [hv.len]; exact hz), fun l hl => q _ _ (x2.trans (Ex.new hl)) ⟨l, vs, rfl, upd_same, hv.ex m (Ex.new hl)⟩⟩
/-- a field of an error that stands -/
theorem evF {te : TE} {σ : L2.St} {K : PySem.W.Frag} {H : Hp} {e C d : Addr} {f : Str} {fs : List (Str × V)} {v : V} (h : Ev te σ H (.ref e)) (T : ErrF K C f) (hd : ErrD H e C d fs) (hl : fs.lookup f = some v) : Ev (tErrF K f te) σ H v := fun H1 x Q q =>
  h H1 x _ fun H2 x2 => ⟨e, C, d, fs, v, rfl, T, ⟨(x.trans x2) _ _ hd.1, (x.trans x2) _ _ hd.2⟩, hl, q H2 x2⟩
theorem evFM {te : TE} {σ : L2.St} {K : PySem.W.Frag} {H : Hp} {C : Addr} {f : Str} {v : V} (h : Ev te σ H v) (T : ErrF K C f) : Ev (tErrF K f (tMkE C f te)) σ H v := fun H1 x Q q =>
  evMk h H1 x _ fun u H2 x2 ⟨e, d, hu, h1, h2⟩ => ⟨e, C, d, [(f, v)], v, hu, T, ⟨h1, h2⟩, by simp [List.lookup], q H2 x2⟩
theorem dpB (K : PySem.W.Frag) (H : Hp) (m : Nat → Bool) : ∀ l : List Nat, DpAll K H (l.map fun j => .bl (m j)) (l.map fun j => .bool (m j))
  | [] => .nil
  | j :: l => .cons (.bl _) (dpB K H m l)
theorem layB (m : Nat → Bool) : ∀ l : List Nat, PyData.canLayAll0 (l.map fun j => .bool (m j)) = true
  | [] => rfl
  | j :: l => by
    show (PyData.canLay0 (.bool (m j)) && PyData.canLayAll0 (l.map fun j => .bool (m j))) = true
    rw [layB m l]
    rfl
theorem depB (m : Nat → Bool) : ∀ l : List Nat, PyData.depthAll (l.map fun j => .bool (m j)) = 0
  | [] => rfl
  | j :: l => by
    show max (PyData.depth (.bool (m j))) (PyData.depthAll (l.map fun j => .bool (m j))) = 0
    rw [depB m l]
    rfl
theorem shB (m : Nat → Bool) (l : List Nat) : SeqAt.shaped (.list (l.map fun j => .bool (m j))) = true := by
  show (PyData.canLayAll0 (l.map fun j => .bool (m j)) && decide (PyData.depthAll (l.map fun j => .bool (m j)) + 1 ≤ 64)) = true
  rw [layB, depB]
  rfl
theorem eqB (m : Nat → Bool) (l : List Nat) : PyData.eqv (.list (l.map fun j => .bool (m j))) (.list (l.map fun j => .bool (m j))) = true := SeqAt.eqv_refl _ (layB m l)
theorem AllP.uncons {p : V → Hp → Prop} {ps : List (V → Hp → Prop)} {vs : List V} {H : Hp} (h : AllP (p :: ps) vs H) : ∃ v r, vs = v :: r ∧ p v H ∧ AllP ps r H := by
  cases vs with
  | nil => exact h.elim
  | cons v r => exact ⟨v, r, rfl, h.1, h.2⟩
theorem AllP.done {vs : List V} {H : Hp} (h : AllP [] vs H) : vs = [] := by
  cases vs with
  | nil => rfl
  | cons v r => exact h.elim
theorem eqMono (w : V) : Mono (fun u _ => u = w) := fun _ _ _ _ h => h
theorem tupMono {ps : List (V → Hp → Prop)} (m : ∀ p ∈ ps, Mono p) : Mono (fun v H => ∃ a vs, v = .ref a ∧ H a = some (.tup vs) ∧ AllP ps vs H) := fun _ _ _ x ⟨a, vs, e, h, al⟩ => ⟨a, vs, e, x _ _ h, al.ex m x⟩
theorem Same.tp : ∀ {n : Nat} {x y : V} {H H' : Hp}, (∀ b xs, H b = some (.tup xs) → H' b = some (.tup xs)) → Same n x y H → Same n x y H'
  | 0, _, _, _, _, _, h => h
  | n + 1, x, y, H, H', e, h => by
    rcases h with h | ⟨a, b, xs, ys, hx, hy, h1, h2, h3, h4, h5⟩
    · exact .inl h
    · exact .inr ⟨a, b, xs, ys, hx, hy, e _ _ h1, e _ _ h2, h3, h4, fun j u v p q => Same.tp e (h5 j u v p q)⟩
theorem two {a b : V} {p : V → Prop} (ha : p a) (hb : p b) : ∀ v ∈ [a, b], p v := fun v h => by
  rcases List.mem_cons.mp h with rfl | h
  · exact ha
  · rcases List.mem_cons.mp h with rfl | h
    · exact hb
    · cases h
theorem three {a b c : V} {p : V → Prop} (ha : p a) (hb : p b) (hc : p c) : ∀ v ∈ [a, b, c], p v := fun v h => by
  rcases List.mem_cons.mp h with rfl | h
  · exact ha
  · exact two hb hc v h
theorem four {a b c d : V} {p : V → Prop} (ha : p a) (hb : p b) (hc : p c) (hd : p d) : ∀ v ∈ [a, b, c, d], p v := fun v h => by
  rcases List.mem_cons.mp h with rfl | h
  · exact ha
  · exact three hb hc hd v h
theorem evSl {te : TE} {σ : L2.St} {H : Hp} {z : Str} {i : Int} (h : Ev te σ H (.str z)) (hz : z.length ≤ 100000) : Ev (tSl rSlS te tNoPart (tPart (tC (.int i)))) σ H (.str (cutS z none (some i))) := fun H1 x Q q =>
  h H1 x _ fun H2 x2 => ⟨i, rfl, z, rfl, Evl.sz_of hz, q H2 x2⟩
theorem predsMono (Cs : Nat → Addr) (b c d : V) : ∀ p ∈ preds Cs b c d, Mono p := am_app (am_cons (Fr.mono _ _ _) (am_cons (Fr.mono _ _ _) (am_cons (Fr.mono _ _ _) (am_cons (Fr.mono _ _ _) am_nil)))) fun p hp => by
  obtain ⟨j, _, rfl⟩ := List.mem_map.mp hp
  exact Er.mono _
theorem Fr.er {C : Addr} {f : Str} {x v : V} {H : Hp} (h : Fr C f x v H) : Er C v H := by
  obtain ⟨e, d, h1, h2⟩ := h
  exact ⟨e, h1, .inr ⟨d, _, h2⟩⟩
theorem preds_at {Cs : Nat → Addr} {b c d : V} {xs : List V} {H : Hp} (h : AllP (preds Cs b c d) xs H) {i : Nat} (hi : i < 38) : ∃ v, xs[i]? = some v ∧ Er (Cs i) v H := by
  by_cases h4 : 4 ≤ i
  · have e : (preds Cs b c d)[i]? = some (Er (Cs i)) := by
      unfold preds
      rw [List.getElem?_append_right (by show 4 ≤ i; exact h4), List.getElem?_map, List.getElem?_range' (by show i - 4 < 34; omega)]
      show some (Er (Cs (4 + 1 * (i - 4)))) = _
      congr 3
      omega
    exact h.at e
  · obtain rfl | rfl | rfl | rfl : i = 0 ∨ i = 1 ∨ i = 2 ∨ i = 3 := by omega
    · obtain ⟨v, hv, p⟩ := h.at (j := 0) (p := Fr (Cs 0) "place" b) rfl
      exact ⟨v, hv, p.er⟩
    · obtain ⟨v, hv, p⟩ := h.at (j := 1) (p := Fr (Cs 1) "what" c) rfl
      exact ⟨v, hv, p.er⟩
    · obtain ⟨v, hv, p⟩ := h.at (j := 2) (p := Fr (Cs 2) "what" c) rfl
      exact ⟨v, hv, p.er⟩
    · obtain ⟨v, hv, p⟩ := h.at (j := 3) (p := Fr (Cs 3) "index" d) rfl
      exact ⟨v, hv, p.er⟩
def spLaw (K : PySem.W.Frag) : Sp := fun vs H Q _ => ∃ (a : Addr) (ns : List Int), vs = [.ref a] ∧ SqL K H a (ns.map V.int) ∧ ∀ H', Q (.bl true) H'
section
variable {P : Program} {w : World} {K : PySem.W.Frag} {mg : Str → Option Value} {base : Heap} {Cs : Nat → Addr} {CP : Addr}
abbrev sLaw : Stmt := top 47
theorem scLaw : FnScope ["script", "bag", "words", "place", "index", "what", "made", "k", "base", "fields", "at"] ["script"] (defScope sLaw) := ⟨rfl, rfl, rfl, by decide +kernel, rfl, by decide +kernel, by decide +kernel⟩
theorem ok_law {f fB fP fW fM fK fS : Addr} {fd fdB fdP fdW fdM fdK fdS : FuncData} (F : Fun K "law" "law" sLaw f fd) (T : Cls P w K mg Cs CP)
    (FB : Fun K "_law_bag" "_law_bag" sLawBag fB fdB) (mB : mg "_law_bag" = some (.ref fB)) (bB : Binds K fdB ["script"] [])
    (FP : Fun K "_law_pick" "_law_pick" sLawPick fP fdP) (mP : mg "_law_pick" = some (.ref fP)) (bP : Binds K fdP ["bag", "many"] [])
    (FW : Fun K "_law_word" "_law_word" sLawWord fW fdW) (mW : mg "_law_word" = some (.ref fW)) (bW : Binds K fdW ["bag", "capital", "used"] [])
    (FM : Fun K "_law_made" "_law_made" sLawMade fM fdM) (mM : mg "_law_made" = some (.ref fM)) (bM : Binds K fdM ["words", "place", "what", "index"] [])
    (FK : Fun K "_law_marks" "_law_marks" sLawMarks fK fdK) (mK : mg "_law_marks" = some (.ref fK)) (bK : Binds K fdK ["e"] [])
    (FS : Fun K "_law_same" "_law_same" sLawSame fS fdS) (mS : mg "_law_same" = some (.ref fS)) (bS : Binds K fdS ["found", "due"] []) :
    FnOk P w K mg base CX0 5 f fd ["script"] (spLaw K) := by
  have GB : FnOk P w K mg base CX0 1 fB fdB ["script"] (spBag K) := ok_bag FB T.toGlo
  have GP : FnOk P w K mg base CX0 1 fP fdP ["bag", "many"] spPick := ok_pick FP T.toGlo
  have GW : FnOk P w K mg base CX0 2 fW fdW ["bag", "capital", "used"] spWord := ok_word FW T.toGlo FP mP bP
  have GM : FnOk P w K mg base CX0 1 fM fdM ["words", "place", "what", "index"] (spMade Cs) := ok_made FM T
  have GK : FnOk P w K mg base CX0 1 fK fdK ["e"] (spMarks K Cs) := ok_marks FK T
  have GS : FnOk P w K mg base CX0 4 fS fdS ["found", "due"] (spSame 4) := ok_same FS T.toGlo mS bS 4
  refine F.ok scLaw (fun vs H Q E h => ?_) (fun cdv A outer s H vs Q E hr h => ?_)
  · obtain ⟨a, ns, rfl, _⟩ := h
    rfl
  · obtain ⟨a, ns, rfl, hS, k⟩ := h
    refine ⟨_, (pss_cons (ps_set (i := 1) scLaw.nd rfl (Or.inl rfl) (pe_call GB (hr.mono (by omega)) rfl mB FB.kp bB .nil pass0 (pa_cons (pv 0) pa_nil)))
  (pss_cons (ps_set (i := 2) scLaw.nd rfl (Or.inl rfl) (pe_op Gk.oAddT (pe_op Gk.oAddT (pe_call GW (hr.mono (by omega)) rfl mW FW.kp bW .nil pass0 (pa_cons (pv 1) (pa_cons pe_bl (pa_cons (pe_lst pa_nil) pa_nil)))) pe_str) (pe_call GW (hr.mono (by omega)) rfl mW FW.kp bW .nil pass0 (pa_cons (pv 1) (pa_cons pe_bl (pa_cons (pe_lst pa_nil) pa_nil))))))
  (pss_cons (ps_par (i := 3) (j := 4) (by rfl) scLaw.nd rfl rfl (by decide) rfl rfl (pa_cons (pe_call GP (hr.mono (by omega)) rfl mP FP.kp bP .nil pass0 (pa_cons (pv 1) (pa_cons (pe_op op_pow pe_int pe_int) pa_nil))) (pa_cons (pe_call GP (hr.mono (by omega)) rfl mP FP.kp bP .nil pass0 (pa_cons (pv 1) (pa_cons pe_int pa_nil))) pa_nil)) (by rfl))
  (pss_cons (ps_set (i := 5) scLaw.nd rfl (Or.inl rfl) (pe_ix (Gk.eIxT K) (pe_tup (pa_cons (pe_tup (pa_cons (pv 2) (pa_cons pe_non pa_nil))) (pa_cons (pe_tup (pa_cons (pv 2) (pa_cons (pv 3) (pa_cons (pe_tup (pa_cons pe_str (pa_cons (pv 4) pa_nil))) pa_nil)))) (pa_cons (pe_tup (pa_cons (pe_slice sl_str (pv 2) po_none (po_some pe_int)) (pa_cons (pv 2) pa_nil))) pa_nil)))) (pe_call GP (hr.mono (by omega)) rfl mP FP.kp bP .nil pass0 (pa_cons (pv 1) (pa_cons pe_int pa_nil))) (fun _ _ => rfl)))
  (pss_cons (ps_set (i := 6) scLaw.nd rfl (Or.inl rfl) (pe_call GM (hr.mono (by omega)) rfl mM FM.kp bM .nil pass0 (pa_cons (pv 2) (pa_cons (pv 3) (pa_cons (pv 5) (pa_cons (pv 4) pa_nil))))))
  (pss_cons (ps_for PassesOwn.never rfl (pi_range1 (by rfl) T.range (pa_cons (pe_callB (Gk.eLen K) (by rfl) T.len PySem.boot_len (pa_cons (pv 6) pa_nil)) pa_nil)) (pg_name (i := 7) scLaw.nd rfl (Or.inr rfl))
    (pss_one (ps_if (PW.pt (pw_or (pt_not (pt_val (pe_callB (cIsX K) (by rfl) T.iis (by decide +kernel) (pa_cons (pe_ix (Gk.eIxL K) (pv 6) (pv 7) (fun _ _ => rfl)) (pa_cons (pe_glob (v := .ref CP) rfl T.mgP rfl) pa_nil))))) (pw_or (pt_not (pt_val (pe_callB (cIsX K) (by rfl) T.iis (by decide +kernel) (pa_cons (pe_ix (Gk.eIxL K) (pv 6) (pv 7) (fun _ _ => rfl)) (pa_cons (pe_bltn (v := .ty "ValueError") (by rfl) T.ve (by decide +kernel) rfl) pa_nil))))) (pw_or1 (pt_cmpR (Gk.eNeD K hr.units) (pe_call GK (hr.mono (by omega)) rfl mK FK.kp bK .nil pass0 (pa_cons (pe_ix (Gk.eIxL K) (pv 6) (pv 7) (fun _ _ => rfl)) pa_nil)) (pe_lc (own := [("at", 10)]) (g := gName 10) (tt := tYes) rfl scLaw.nd (pi_range1 (by rfl) T.range (pa_cons (pe_callB (Gk.eLen K) (by rfl) T.len PySem.boot_len (pa_cons (pv 6) pa_nil)) pa_nil)) (blkOk_by (N := ["script", "bag", "words", "place", "index", "what", "made", "k", "base", "fields", "at"]) (sc := defScope sLaw) (by decide +kernel)) (fun _ _ _ _ _ => pg_name (i := 10) scLaw.nd rfl (Or.inl rfl)) (fun _ _ _ _ _ => pts_nil) (fun _ _ _ _ _ => (pe_cmpR op_eq (pv 10) (pv 7) (nomark _)))) (nomark _))))))
      (pss_one (ps_ret pe_bl))
      pss_nil)))
  (pss_cons (ps_set (i := 8) scLaw.nd rfl (Or.inl rfl) (pe_exc T.plainP T.mgP T.kpP (pv 2)))
  (pss_cons (ps_if (PW.pt (pw_or (pt_not (pt_val (pe_callB (cIsX K) (by rfl) T.iis (by decide +kernel) (pa_cons (pv 8) (pa_cons (pe_bltn (v := .ty "ValueError") (by rfl) T.ve (by decide +kernel) rfl) pa_nil))))) (pw_or1 (pt_cmpR (Gk.eNeD K hr.units) (pe_call GK (hr.mono (by omega)) rfl mK FK.kp bK .nil pass0 (pa_cons (pv 8) pa_nil)) (pe_op op_rep (pe_lst (pa_cons pe_bl pa_nil)) (pe_callB (Gk.eLen K) (by rfl) T.len PySem.boot_len (pa_cons (pv 6) pa_nil))) (nomark _)))))
    (pss_one (ps_ret pe_bl))
    pss_nil)
  (pss_cons (ps_set (i := 9) scLaw.nd rfl (Or.inl rfl) (pe_tup (pa_cons (pe_errF K (pe_ix (Gk.eIxL K) (pv 6) pe_int (fun _ _ => rfl))) (pa_cons (pe_errF K (pe_ix (Gk.eIxL K) (pv 6) pe_int (fun _ _ => rfl))) (pa_cons (pe_errF K (pe_ix (Gk.eIxL K) (pv 6) pe_int (fun _ _ => rfl))) (pa_cons (pe_errF K (pe_ix (Gk.eIxL K) (pv 6) pe_int (fun _ _ => rfl))) pa_nil))))))
  (pss_cons (ps_if (pt_not (pt_val (pe_call GS (hr.mono (by omega)) rfl mS FS.kp bS .nil pass0 (pa_cons (pv 9) (pa_cons (pe_tup (pa_cons (pv 3) (pa_cons (pv 5) (pa_cons (pv 5) (pa_cons (pv 4) pa_nil))))) pa_nil)))))
    (pss_one (ps_ret pe_bl))
    pss_nil)
  (pss_cons (ps_set (i := 9) scLaw.nd rfl (Or.inl rfl) (pe_tup (pa_cons (pe_errF K (pe_mkEK (k := 0) T.mk0 (T.kp 0 (by decide)) (T.mgC 0 (by decide)) (hr.mono (by omega)) (pv 4))) (pa_cons (pe_errF K (pe_mkEK (k := 0) T.mk1 (T.kp 1 (by decide)) (T.mgC 1 (by decide)) (hr.mono (by omega)) (pv 5))) (pa_cons (pe_errF K (pe_mkEK (k := 0) T.mk2 (T.kp 2 (by decide)) (T.mgC 2 (by decide)) (hr.mono (by omega)) (pv 5))) (pa_cons (pe_errF K (pe_mkEK (k := 0) T.mk3 (T.kp 3 (by decide)) (T.mgC 3 (by decide)) (hr.mono (by omega)) (pv 3))) pa_nil))))))
  (pss_one (ps_ret (pe_call GS (hr.mono (by omega)) rfl mS FS.kp bS .nil pass0 (pa_cons (pv 9) (pa_cons (pe_tup (pa_cons (pv 4) (pa_cons (pv 5) (pa_cons (pv 5) (pa_cons (pv 3) pa_nil))))) pa_nil)))))))))))))))), ?_⟩
    show tSeq _ _ _ [some (.ref a), none, none, none, none, none, none, none, none, none, none] H
    repeat walk_at "go1"
    refine ⟨a, ns, rfl, hS, fun p q H1 hp hq e1 B1 => ?_⟩
    repeat walk_at "go1"
    refine ⟨by show 0 ≤ sizeLine; decide, fun u1 hu1 => ?_⟩
    repeat walk_at "go1"
    refine ⟨p, q, u1, ns, 0, 0, false, rfl, B1.new hu1, by decide, upd_same, (ne_of_none B1.ce hu1).symm, fun w1 j1 r1 H2 hw1 hj1 B2 _ => ?_⟩
    repeat walk_at "go1"
    have sp1 : (Str.ofString " ").length = 1 := by decide +kernel
    refine Gk.addT (by rw [sp1, sizeLine_eq]; omega) ?_
    repeat walk_at "go1"
    refine ⟨by show 0 ≤ sizeLine; decide, fun u2 hu2 => ?_⟩
    repeat walk_at "go1"
    refine ⟨p, q, u2, ns, j1, r1, true, rfl, B2.new hu2, by omega, upd_same, (ne_of_none B2.ce hu2).symm, fun w2 j2 r2 H3 hw2 hj2 B3 _ => ?_⟩
    have lw : (w1 ++ Str.ofString " " ++ w2).length ≤ 41 := by rw [Str.length_append, Str.length_append, sp1]; omega
    refine Gk.addT (by rw [Str.length_append, sp1, sizeLine_eq]; omega) ?_
    generalize w1 ++ Str.ofString " " ++ w2 = wo at lw ⊢
    repeat walk_at "go1"
    refine ⟨p, q, ns, j2, r2, _, rfl, B3, by omega, by decide, by decide, fun place j3 r3 H4 _ _ hj3 B4 _ => ?_⟩
    repeat walk_at "go1"
    refine ⟨p, q, ns, j3, r3, 400, rfl, B4, by omega, by decide, by decide, fun index j4 r4 H5 _ _ hj4 B5 _ => ?_⟩
    repeat walk_at "go1"
    refine ⟨_, _, rfl, ?_⟩
    show tSeq _ _ _ [some (.ref a), some (.ref p), some (.str wo), some (.int place), some (.int index), none, none, none, none, none, none] H5
    have v2 : ([some (.ref a), some (.ref p), some (.str wo), some (.int place), some (.int index), none, none, none, none, none, none] : L2.St)[2]? = some (some (.str wo)) := rfl
    have v3 : ([some (.ref a), some (.ref p), some (.str wo), some (.int place), some (.int index), none, none, none, none, none, none] : L2.St)[3]? = some (some (.int place)) := rfl
    have v4 : ([some (.ref a), some (.ref p), some (.str wo), some (.int place), some (.int index), none, none, none, none, none, none] : L2.St)[4]? = some (some (.int index)) := rfl
    have m2 (x y : V) : ∀ p ∈ [(fun u _ => u = x : V → Hp → Prop), fun u _ => u = y], Mono p := am_cons (eqMono x) (am_cons (eqMono y) am_nil)
    have eA := evp_tup (evp_cons (evp_of (Evl.ev_var (H := H5) v2)) (eqMono _) (evp_cons (evp_of (Evl.ev_c (v := .non))) (eqMono _) evp_nil)) (m2 _ _) (by show 2 ≤ 100000; decide)
    have eD := evp_tup (evp_cons (evp_of (Evl.ev_c (H := H5) (v := .str (Str.ofString "use")))) (eqMono _) (evp_cons (evp_of (Evl.ev_var v4)) (eqMono _) evp_nil)) (m2 _ _) (by show 2 ≤ 100000; decide)
    have eB := evp_tup (evp_cons (evp_of (Evl.ev_var (H := H5) v2)) (eqMono _) (evp_cons (evp_of (Evl.ev_var v3)) (eqMono _) (evp_cons eD (tupMono (m2 _ _)) evp_nil))) (am_cons (eqMono _) (am_cons (eqMono _) (am_cons (tupMono (m2 _ _)) am_nil))) (by show 3 ≤ 100000; decide)
    have eC := evp_tup (evp_cons (evp_of (evSl (i := 3) (Evl.ev_var (H := H5) v2) (by omega))) (eqMono _) (evp_cons (evp_of (Evl.ev_var v2)) (eqMono _) evp_nil)) (m2 _ _) (by show 2 ≤ 100000; decide)
    have mB := tupMono (am_cons (eqMono (.str wo)) (am_cons (eqMono (.int place)) (am_cons (tupMono (m2 (.str (Str.ofString "use")) (.int index))) am_nil)))
    have eT := evp_tup (evp_cons eA (tupMono (m2 _ _)) (evp_cons eB mB (evp_cons eC (tupMono (m2 _ _)) evp_nil))) (am_cons (tupMono (m2 _ _)) (am_cons mB (am_cons (tupMono (m2 _ _)) am_nil))) (by show 3 ≤ 100000; decide)
    refine Gk.seq (Gk.asg (Gk.op ?_))
    refine eT H5 (Ex.refl _) _ fun v H6 x6 hv => ?_
    obtain ⟨t, vs, rfl, ht, al⟩ := hv
    obtain ⟨_, _, rfl, ⟨t1, _, rfl, ht1, al1⟩, alb⟩ := al.uncons
    obtain ⟨_, _, rfl, ⟨t2, _, rfl, ht2, al2⟩, alc⟩ := alb.uncons
    obtain ⟨_, _, rfl, ⟨t3, _, rfl, ht3, al3⟩, ald⟩ := alc.uncons
    obtain rfl := ald.done
    obtain ⟨_, _, rfl, rfl, al1b⟩ := al1.uncons
    obtain ⟨_, _, rfl, rfl, al1c⟩ := al1b.uncons
    obtain rfl := al1c.done
    obtain ⟨_, _, rfl, rfl, al2b⟩ := al2.uncons
    obtain ⟨_, _, rfl, rfl, al2c⟩ := al2b.uncons
    obtain ⟨_, _, rfl, ⟨t4, _, rfl, ht4, al4⟩, al2d⟩ := al2c.uncons
    obtain rfl := al2d.done
    obtain ⟨_, _, rfl, rfl, al4b⟩ := al4.uncons
    obtain ⟨_, _, rfl, rfl, al4c⟩ := al4b.uncons
    obtain rfl := al4c.done
    obtain ⟨_, _, rfl, rfl, al3b⟩ := al3.uncons
    obtain ⟨_, _, rfl, rfl, al3c⟩ := al3b.uncons
    obtain rfl := al3c.done
    clear al alb alc ald al1 al1b al1c al2 al2b al2c al2d al3 al3b al3c al4 al4b al4c
    have s1 : Same 3 (.ref t1) (.ref t1) H6 := Same.t ht1 ht1 (by show 2 ≤ 1000; decide) (two .s .n)
    have s4 : Same 2 (.ref t4) (.ref t4) H6 := Same.t ht4 ht4 (by show 2 ≤ 1000; decide) (two .s .i)
    have s2 : Same 3 (.ref t2) (.ref t2) H6 := Same.t ht2 ht2 (by show 3 ≤ 1000; decide) (three .s .i s4)
    have s3 : Same 3 (.ref t3) (.ref t3) H6 := Same.t ht3 ht3 (by show 2 ≤ 1000; decide) (two .s .s)
    have B6 : BagAt H6 p q ns j4 r4 := ⟨x6 _ _ B5.ob, x6 _ _ B5.ce, B5.r0⟩
    repeat walk_at "go1"
    refine ⟨p, q, ns, j4, r4, 3, rfl, B6, by omega, by decide, by decide, fun got j5 r5 H7 g0 g1 _ _ hk => ?_⟩
    have tp : ∀ b xs, H6 b = some (.tup xs) → H7 b = some (.tup xs) := fun b xs h => by
      rw [hk b (ne_of h B6.ob (by intro z; cases z))]
      exact h
    obtain ⟨what, hwt, W⟩ : ∃ what, atI [V.ref t1, .ref t2, .ref t3] got = some what ∧ Same 3 what what H7 := by
      obtain rfl | rfl | rfl : got = 0 ∨ got = 1 ∨ got = 2 := by omega
      · exact ⟨.ref t1, rfl, s1.tp tp⟩
      · exact ⟨.ref t2, rfl, s2.tp tp⟩
      · exact ⟨.ref t3, rfl, s3.tp tp⟩
    refine Gk.ixT (SqT.of (tp _ _ ht)) hwt ?_
    clear tp hk s1 s2 s3 s4 B6 eA eB eC eD eT mB m2
    repeat walk_at "go1"
    refine ⟨_, _, _, _, rfl, fun pm xs H8 hpm x8 hm am => ?_⟩
    have lx : xs.length = 38 := am.len
    repeat walk_at "go1"
    refine ⟨(xs.length : Int), rfl, by omega, by omega, Gk.forR (lo := 0) (n := (xs.length : Int).toNat) (fun i σ' H' => ∃ x : Option V, σ' = [some (.ref a), some (.ref p), some (.str wo), some (.int place), some (.int index), some what, some (.ref pm), x, none, none, none] ∧ Ex H8 H') ⟨none, rfl, Ex.refl _⟩ ?_ ?_⟩
    · rintro i σ' H' hi ⟨x, rfl, x'⟩
      have hi38 : i < 38 := by omega
      have hm' := x' _ _ hm
      obtain ⟨_, hv, ee, rfl, he⟩ := preds_at (am.ex (predsMono _ _ _ _) x') hi38
      have ai : atI xs (0 + (i : Int)) = some (.ref ee) := by rw [Int.zero_add]; exact atI_nat hv
      repeat walk_at "go1"
      refine ⟨ee, Cs i, _, true, rfl, he, T.ex i hi38, T.isP i hi38, ?_⟩
      repeat walk_at "go1"
      refine ⟨ee, Cs i, _, true, rfl, he, T.ex i hi38, T.isV i hi38, ?_⟩
      repeat walk_at "go1"
      refine ⟨ee, Cs i, fun j => decide (i = j), rfl, he, T.ex i hi38, fun j hj => T.isC i j hi38 hj, fun pk Hk hpk xk hk => ?_⟩
      have hmk := xk _ _ hm'
      repeat walk_at "go1"
      refine ⟨(xs.length : Int), rfl, by omega, by omega, fun Dl hD => lc_range (lo := 0) (n := (xs.length : Int).toNat) (fun n H' => H' Dl = some (.lst ((List.range n).map fun j => .bl (decide (i = j)))) ∧ Ex Hk H') ⟨upd_same, Ex.new hD⟩ ?_ ?_⟩
      · rintro n H9 hn ⟨h9, x9⟩
        repeat walk_at "go1"
        refine ⟨rfl, ?_⟩
        repeat walk_at "go1"
        refine ⟨_, h9, by rw [List.length_map, List.length_range, sizeLine_eq]; omega, ?_, Ex.mut x9 hD⟩
        rw [upd_same, List.range_succ, List.map_append]
        have e : decide (V.int (0 + (n : Int)) = V.int (0 + (i : Int))) = decide (i = n) := by
          by_cases hin : i = n
          · subst hin
            rw [decide_eq_true rfl, decide_eq_true rfl]
          · rw [decide_eq_false hin, decide_eq_false fun z => hin (by have := V.int.inj z; omega)]
        rw [e]
        rfl
      · rintro H9 ⟨h9, x9⟩
        have e38 : (xs.length : Int).toNat = 38 := by omega
        rw [e38] at h9
        refine Gk.neD (.lst (SqL.of (x9 _ _ hk)) (dpB K H9 _ _)) (.lst (SqL.of h9) (dpB K H9 _ _)) (shB _ _) (shB _ _) ?_
        rw [eqB]
        repeat walk_at "go1"
        exact ⟨_, rfl, (x'.trans xk).trans x9⟩
    · rintro σ' H' ⟨x, rfl, x'⟩
      have hm' := x' _ _ hm
      have am' := am.ex (predsMono _ _ _ _) x'
      have W' := (W.ex x8).ex x'
      refine Gk.seq (Gk.asg ?_)
      refine (evExc (Evl.ev_var (v := .str wo) rfl)) H' (Ex.refl _) _ fun v H9 x9 hb => ?_
      obtain ⟨eb, rfl, hb⟩ := hb
      repeat walk_at "go1"
      refine ⟨eb, CP, _, true, rfl, hb, T.exP, T.isPV, ?_⟩
      repeat walk_at "go1"
      refine ⟨eb, CP, fun _ => false, rfl, hb, T.exP, fun j hj => T.isPC j hj, fun pk Hk hpk xk hk => ?_⟩
      have hmk := xk _ _ (x9 _ _ hm')
      repeat walk_at "go1"
      refine ⟨by show 1 ≤ sizeLine; decide, fun pl hpl => ?_⟩
      have xl : Ex Hk (upd Hk pl (.lst [V.bl false])) := Ex.new hpl
      have hml := xl _ _ hmk
      have hkl := xl _ _ hk
      have hll : upd Hk pl (.lst [V.bl false]) pl = some (.lst [V.bl false]) := upd_same
      generalize upd Hk pl (.lst [V.bl false]) = Hl at *
      repeat walk_at "go1"
      refine ⟨pl, (xs.length : Int), [V.bl false], rfl, rfl, hll, by omega, by omega, by show 1 * (xs.length : Int).toNat ≤ sizeLine; rw [sizeLine_eq]; omega, fun pr hpr => ?_⟩
      have e38 : (xs.length : Int).toNat = 38 := by omega
      rw [e38]
      have xr : Ex Hl (upd Hl pr (.lst (List.replicate 38 [V.bl false]).flatten)) := Ex.new hpr
      have hrr : upd Hl pr (.lst (List.replicate 38 [V.bl false]).flatten) pr = some (.lst ((List.range 38).map fun _ => V.bl false)) := upd_same
      generalize upd Hl pr (.lst (List.replicate 38 [V.bl false]).flatten) = Hr at *
      refine Gk.neD (.lst (SqL.of (xr _ _ hkl)) (dpB K Hr (fun _ => false) _)) (.lst (SqL.of hrr) (dpB K Hr (fun _ => false) _)) (shB _ _) (shB _ _) ?_
      rw [eqB]
      have xR : Ex H' Hr := ((x9.trans xk).trans xl).trans xr
      have hmr := xR _ _ hm'
      have amr := am'.ex (predsMono _ _ _ _) xR
      have Wr := W'.ex xR
      clear hrr hpr hml hll hkl hpl hmk hk hpk hb
      repeat walk_at "go1"
      obtain ⟨_, hv0, e0, d0, rfl, r0⟩ := amr.at (j := 0) (p := Fr (Cs 0) "place" (.int place)) rfl
      obtain ⟨_, hv1, e1', d1, rfl, r1'⟩ := amr.at (j := 1) (p := Fr (Cs 1) "what" what) rfl
      obtain ⟨_, hv2, e2', d2, rfl, r2'⟩ := amr.at (j := 2) (p := Fr (Cs 2) "what" what) rfl
      obtain ⟨_, hv3, e3', d3, rfl, r3'⟩ := amr.at (j := 3) (p := Fr (Cs 3) "index" (.int index)) rfl
      have lk (f : Str) (v : V) : List.lookup f [(f, v)] = some v := by simp [List.lookup]
      have ix (j : Nat) (v : V) (σ : L2.St) (h0 : σ[6]? = some (some (.ref pm))) (h : xs[j]? = some v) : Ev (tOp (rIxL K) (tVar 6) (tC (.int (j : Int)))) σ Hr v := Evl.ev_op (Evl.ev_var h0) Evl.ev_c (Evl.rv_ixL (SqL.of hmr) (atI_nat h))
      refine (evF (ix 0 _ _ rfl hv0) T.ef0 r0 (lk _ _)) Hr (Ex.refl _) _ fun G1 y1 => ?_
      repeat walk_at "go1"
      refine (evF (ix 1 _ _ rfl hv1) T.ef1 r1' (lk _ _)) G1 y1 _ fun G2 y2 => ?_
      repeat walk_at "go1"
      refine (evF (ix 2 _ _ rfl hv2) T.ef2 r2' (lk _ _)) G2 (y1.trans y2) _ fun G3 y3 => ?_
      repeat walk_at "go1"
      refine (evF (ix 3 _ _ rfl hv3) T.ef3 r3' (lk _ _)) G3 ((y1.trans y2).trans y3) _ fun G4 y4 => ?_
      have Y := ((y1.trans y2).trans y3).trans y4
      repeat walk_at "go1"
      refine ⟨by show 4 ≤ sizeLine; decide, fun tf htf => ?_⟩
      have W5 := (Wr.ex Y).ex (Ex.new (o := .tup [.int place, what, what, .int index]) htf)
      have hf5 : upd G4 tf (.tup [.int place, what, what, .int index]) tf = some (.tup [.int place, what, what, .int index]) := upd_same
      generalize upd G4 tf (.tup [.int place, what, what, .int index]) = G5 at *
      repeat walk_at "go1"
      refine ⟨by show 4 ≤ sizeLine; decide, fun tg htg => ?_⟩
      have x6 : Ex G5 (upd G5 tg (.tup [.int place, what, what, .int index])) := Ex.new htg
      have W6 := W5.ex x6
      have hf6 := x6 _ _ hf5
      have hg6 : upd G5 tg (.tup [.int place, what, what, .int index]) tg = some (.tup [.int place, what, what, .int index]) := upd_same
      generalize upd G5 tg (.tup [.int place, what, what, .int index]) = G6 at *
      repeat walk_at "go1"
      refine ⟨.ref tf, .ref tg, rfl, Same.t hf6 hg6 (by show 4 ≤ 1000; decide) (four .i W6 W6 .i), fun G7 x7 => ?_⟩
      have W7 := W6.ex x7
      repeat walk_at "go1"
      refine (evFM (Evl.ev_var (v := .int index) rfl) T.ef0) G7 (Ex.refl _) _ fun K1 z1 => ?_
      repeat walk_at "go1"
      refine (evFM (Evl.ev_var (v := what) rfl) T.ef1) K1 (Ex.refl _) _ fun K2 z2 => ?_
      repeat walk_at "go1"
      refine (evFM (Evl.ev_var (v := what) rfl) T.ef2) K2 (Ex.refl _) _ fun K3 z3 => ?_
      repeat walk_at "go1"
      refine (evFM (Evl.ev_var (v := .int place) rfl) T.ef3) K3 (Ex.refl _) _ fun K4 z4 => ?_
      have Z := ((z1.trans z2).trans z3).trans z4
      repeat walk_at "go1"
      refine ⟨by show 4 ≤ sizeLine; decide, fun th hth => ?_⟩
      have W8 := (W7.ex Z).ex (Ex.new (o := .tup [.int index, what, what, .int place]) hth)
      have hh8 : upd K4 th (.tup [.int index, what, what, .int place]) th = some (.tup [.int index, what, what, .int place]) := upd_same
      generalize upd K4 th (.tup [.int index, what, what, .int place]) = K5 at *
      repeat walk_at "go1"
      refine ⟨by show 4 ≤ sizeLine; decide, fun tk htk => ?_⟩
      have x9 : Ex K5 (upd K5 tk (.tup [.int index, what, what, .int place])) := Ex.new htk
      have hh9 := x9 _ _ hh8
      have hk9 : upd K5 tk (.tup [.int index, what, what, .int place]) tk = some (.tup [.int index, what, what, .int place]) := upd_same
      repeat walk_at "go1"
      exact ⟨.ref th, .ref tk, rfl, Same.t hh9 hk9 (by show 4 ≤ 1000; decide) (four .i (W8.ex x9) (W8.ex x9) .i), fun K7 x7 => k K7⟩
end
end K0
namespace K0
open PySem L2
/-- what the written part says of one class -/
structure CF (K : PySem.W.Frag) (n : Str) (C CP : Addr) : Prop where
  ns : PySem.W.nsIn K mainGlobals n = some (some (.ref C))
  cl : ∃ nm q N bs sn sub ab col dd k0 k1 k2 k3 k5, K.lookup C = some (PySem.excClassObj nm q C N bs [.ref CP, .type "ValueError", .type "Exception", .type "BaseException", .type "object"] true sn sub ab col dd k0 k1 k2 k3 k5 "ValueError.__new__")
  kp : PySem.W.keepIn K (.ref C) = true
  ga : PySem.W.findIn K (.ref C) "__getattribute__" = some (some (.builtin "BaseException.__getattribute__"))
  gg : PySem.W.findIn K (.ref C) "__getattr__" = some none
  ca : PySem.W.findIn K (.ref C) "__class__" = some (some (.builtin "object.__class__"))
  ty : PySem.W.typeIn K (.ref C) = some (.type "type")
  hd : PySem.W.hasDictIn K C = true
theorem CF.sub {K : PySem.W.Frag} {n : Str} {C CP : Addr} (c : CF K n C CP) (v : Value) : PySem.W.mroIn K C v = some (([.ref C, .ref CP, .type "ValueError", .type "Exception", .type "BaseException", .type "object"] : List Value).contains v) := by
  obtain ⟨nm, q, N, bs, sn, sub, ab, col, dd, k0, k1, k2, k3, k5, h1⟩ := c.cl
  unfold PySem.W.mroIn PySem.W.clsIn
  rw [h1]
  rfl
structure CG (K : PySem.W.Frag) (CP : Addr) : Prop where
  ns : PySem.W.nsIn K mainGlobals "PaidError" = some (some (.ref CP))
  cl : ∃ nm q N bs sn sub ab col dd k0 k1 k2 k3 k5, K.lookup CP = some (PySem.excClassObj nm q CP N bs [.type "ValueError", .type "Exception", .type "BaseException", .type "object"] true sn sub ab col dd k0 k1 k2 k3 k5 "ValueError.__new__")
  kp : PySem.W.keepIn K (.ref CP) = true
  ga : PySem.W.findIn K (.ref CP) "__getattribute__" = some (some (.builtin "BaseException.__getattribute__"))
  gg : PySem.W.findIn K (.ref CP) "__getattr__" = some none
  ca : PySem.W.findIn K (.ref CP) "__class__" = some (some (.builtin "object.__class__"))
  ty : PySem.W.typeIn K (.ref CP) = some (.type "type")
  hd : PySem.W.hasDictIn K CP = true
theorem CG.sub {K : PySem.W.Frag} {CP : Addr} (c : CG K CP) (v : Value) : PySem.W.mroIn K CP v = some (([.ref CP, .type "ValueError", .type "Exception", .type "BaseException", .type "object"] : List Value).contains v) := by
  obtain ⟨nm, q, N, bs, sn, sub, ab, col, dd, k0, k1, k2, k3, k5, h1⟩ := c.cl
  unfold PySem.W.mroIn PySem.W.clsIn
  rw [h1]
  rfl
/-- the class's own lines -/
structure CO (K : PySem.W.Frag) : Prop where
  hn : PySem.W.specialIn K (.builtin "object.__class__") "__get__" = some (some (.builtin "getset_descriptor.__get__"))
  ht : PySem.W.takesIn K (.builtin "object.__class__") = some true
theorem CF.exc {K : PySem.W.Frag} {n : Str} {C CP : Addr} (c : CF K n C CP) (o : CO K) : ExcC K C :=
  ⟨c.ga, c.gg, by show PySem.W.mroIn K C _ = _; rw [c.sub]; simp, c.hd, c.ca, o.hn, o.ht, by rw [c.sub]; simp⟩
theorem CG.exc {K : PySem.W.Frag} {CP : Addr} (c : CG K CP) (o : CO K) : ExcC K CP :=
  ⟨c.ga, c.gg, by show PySem.W.mroIn K CP _ = _; rw [c.sub]; simp, c.hd, c.ca, o.hn, o.ht, by rw [c.sub]; simp⟩
theorem kit_ref {K : PySem.W.Frag} {C D : Addr} {b : Bool} (hc : (PySem.W.clsIn K D).isSome = true) (ht : PySem.W.typeIn K (.ref D) = some (.type "type")) (hs : C ≠ D → PySem.W.mroIn K C (.ref D) = some b) (he : C = D → b = true) : IsA K C (.ref D) b := by
  refine ⟨.ref D, fun u r => r, ?_⟩
  unfold PySem.W.kitOne
  by_cases h : C = D
  · subst h
    rw [if_pos (by simp), he rfl]
  · rw [if_neg (by simpa using h)]
    show (if ((PySem.W.clsIn K D).isSome && PySem.W.typeIn K (.ref D) == some (.type "type")) = true then PySem.W.mroIn K C (.ref D) else none) = some b
    rw [if_pos (by rw [hc, ht] <;> rfl), hs h]
theorem kit_ve {K : PySem.W.Frag} {C : Addr} (hs : PySem.W.mroIn K C (.type "ValueError") = some true) : IsA K C (.ty "ValueError") true := by
  refine ⟨.type "ValueError", fun u r => r, ?_⟩
  unfold PySem.W.kitOne
  rw [if_neg (by simp)]
  show (if PySem.W.kitMeta "ValueError" = true then PySem.W.mroIn K C (.type "ValueError") else none) = some true
  rw [if_pos (by decide +kernel), hs]
theorem CF.cs {K : PySem.W.Frag} {n : Str} {C CP : Addr} (c : CF K n C CP) : (PySem.W.clsIn K C).isSome = true := by
  obtain ⟨nm, q, N, bs, sn, sub, ab, col, dd, k0, k1, k2, k3, k5, h1⟩ := c.cl
  unfold PySem.W.clsIn
  rw [h1]
  rfl
theorem CG.cs {K : PySem.W.Frag} {CP : Addr} (c : CG K CP) : (PySem.W.clsIn K CP).isSome = true := by
  obtain ⟨nm, q, N, bs, sn, sub, ab, col, dd, k0, k1, k2, k3, k5, h1⟩ := c.cl
  unfold PySem.W.clsIn
  rw [h1]
  rfl
/-- all classes of the list are told -/
def AllCF (K : PySem.W.Frag) (CP : Addr) : List Str → List Addr → Prop
  | [], [] => True
  | n :: ns, C :: Cs => CF K n C CP ∧ AllCF K CP ns Cs
  | _, _ => False
theorem AllCF.nil {K : PySem.W.Frag} {CP : Addr} : AllCF K CP [] [] := trivial
theorem AllCF.cons {K : PySem.W.Frag} {CP C : Addr} {n : Str} {ns : List Str} {Cs : List Addr} (h : CF K n C CP) (r : AllCF K CP ns Cs) : AllCF K CP (n :: ns) (C :: Cs) := ⟨h, r⟩
theorem AllCF.at {K : PySem.W.Frag} {CP : Addr} : ∀ {ns : List Str} {Cs : List Addr}, AllCF K CP ns Cs → ∀ j, j < ns.length → CF K (ns.getD j "") (Cs.getD j 0) CP
  | [], _, _, _, h => absurd h (Nat.not_lt_zero _)
  | n :: ns, [], h, _, _ => h.elim
  | n :: ns, C :: Cs, h, 0, _ => h.1
  | n :: ns, C :: Cs, h, j + 1, hj => AllCF.at (ns := ns) (Cs := Cs) h.2 j (Nat.lt_of_succ_lt_succ hj)
theorem AllCF.len {K : PySem.W.Frag} {CP : Addr} : ∀ {ns : List Str} {Cs : List Addr}, AllCF K CP ns Cs → Cs.length = ns.length
  | [], [], _ => rfl
  | [], _ :: _, h => h.elim
  | _ :: _, [], h => h.elim
  | _ :: ns, _ :: Cs, h => congrArg Nat.succ (AllCF.len h.2)
def AllPl (K : PySem.W.Frag) : List Addr → Prop
  | [] => True
  | C :: Cs => PySem.W.excIn K C [.type "ValueError", .type "Exception", .type "BaseException", .type "object"] "ValueError.__new__" = true ∧ AllPl K Cs
theorem AllPl.at {K : PySem.W.Frag} : ∀ {Cs : List Addr}, AllPl K Cs → ∀ j, j < Cs.length → PySem.W.excIn K (Cs.getD j 0) [.type "ValueError", .type "Exception", .type "BaseException", .type "object"] "ValueError.__new__" = true
  | [], _, _, h => absurd h (Nat.not_lt_zero _)
  | C :: Cs, h, 0, _ => h.1
  | C :: Cs, h, j + 1, hj => AllPl.at (Cs := Cs) h.2 j (Nat.lt_of_succ_lt_succ hj)
theorem CF.mk2 {K : PySem.W.Frag} {n : Str} {C CP : Addr} {nm q : Str} {N : Addr} {bs : List Value} {sn : List Str} {sub : List Value} {ab : Bool} {col : Option Bool} {dd : Option Addr} {k0 k1 k2 k3 k5 : Option Value}
    (p0 : PySem.W.nsIn K mainGlobals n = some (some (.ref C)))
    (p1 : K.lookup C = some (PySem.excClassObj nm q C N bs [.ref CP, .type "ValueError", .type "Exception", .type "BaseException", .type "object"] true sn sub ab col dd k0 k1 k2 k3 k5 "ValueError.__new__"))
    (p3 : PySem.W.keepIn K (.ref C) = true) (p4 : PySem.W.findIn K (.ref C) "__getattribute__" = some (some (.builtin "BaseException.__getattribute__"))) (p5 : PySem.W.findIn K (.ref C) "__getattr__" = some none)
    (p6 : PySem.W.findIn K (.ref C) "__class__" = some (some (.builtin "object.__class__"))) (p7 : PySem.W.typeIn K (.ref C) = some (.type "type")) (p8 : PySem.W.hasDictIn K C = true) : CF K n C CP :=
  ⟨p0, ⟨_, _, _, _, _, _, _, _, _, _, _, _, _, _, p1⟩, p3, p4, p5, p6, p7, p8⟩
theorem CG.mk2 {K : PySem.W.Frag} {CP : Addr} {nm q : Str} {N : Addr} {bs : List Value} {sn : List Str} {sub : List Value} {ab : Bool} {col : Option Bool} {dd : Option Addr} {k0 k1 k2 k3 k5 : Option Value}
    (p0 : PySem.W.nsIn K mainGlobals "PaidError" = some (some (.ref CP)))
    (p1 : K.lookup CP = some (PySem.excClassObj nm q CP N bs [.type "ValueError", .type "Exception", .type "BaseException", .type "object"] true sn sub ab col dd k0 k1 k2 k3 k5 "ValueError.__new__"))
    (p3 : PySem.W.keepIn K (.ref CP) = true) (p4 : PySem.W.findIn K (.ref CP) "__getattribute__" = some (some (.builtin "BaseException.__getattribute__"))) (p5 : PySem.W.findIn K (.ref CP) "__getattr__" = some none)
    (p6 : PySem.W.findIn K (.ref CP) "__class__" = some (some (.builtin "object.__class__"))) (p7 : PySem.W.typeIn K (.ref CP) = some (.type "type")) (p8 : PySem.W.hasDictIn K CP = true) : CG K CP :=
  ⟨p0, ⟨_, _, _, _, _, _, _, _, _, _, _, _, _, _, p1⟩, p3, p4, p5, p6, p7, p8⟩
theorem err_mk2 {prog : Program} {K : PySem.W.Frag} {st : Stmt} {C fI cc cda : Addr} {f qual : Str} {nm q : Str} {N : Addr} {bs bm : List Value} {sn : List Str} {sub : List Value} {ab : Bool} {col : Option Bool} {dd : Option Addr} {k0 k1 k2 k3 k5 : Option Value}
    {oc : Value} {od : Option Addr} {doc pm : Value} {an : Option Addr} {ct : Value} {osl : Array (Option Value)} {a1 : Value} {b1 : Option Addr} {vs : Array Value} {sl1 : Array (Option Value)} {file : Str} {tf : Tok} {a2 : Value} {b2 : Option Addr} {sl2 : Array (Option Value)}
    (e0 : K.lookup C = some (PySem.excClassObj nm q C N bs bm true sn sub ab col dd k0 k1 k2 k3 k5 "ValueError.__new__")) (e1 : PySem.HandSPX.refsVE bm = true)
    (e2 : PySem.W.findIn K (.ref C) "__setattr__" = some (some (.builtin "object.__setattr__"))) (e3 : PySem.W.findIn K (.ref C) "__getattribute__" = some (some (.builtin "BaseException.__getattribute__")))
    (e4 : PySem.W.findIn K (.ref C) "__getattr__" = some none) (e5 : PySem.W.findIn K (.ref C) f = some none) (e6 : PySem.W.findIn K (.ref C) "__init__" = some (some (.ref fI))) (e7 : PySem.W.typeIn K (.ref fI) = some (.type "function"))
    (e8 : PySem.W.keepIn K (.ref C) = true) (e9 : PySem.W.hasDictIn K C = true)
    (e10 : K.lookup fI = some ⟨oc, od, .func (PySem.W.ksFn "__init__" qual (defArgs st) (defBody st) (defScope st) .none .none doc pm an (.ref cda) ct cc), osl⟩)
    (e11 : PySem.W.codeIn K (.ref cda) qual = true) (e12 : K.lookup cda = some ⟨a1, b1, .fields vs, sl1⟩) (e13 : vs[2]? = some (.str file tf)) (e14 : ((prog.main.file : Str) == file) = true)
    (e15 : K.lookup cc = some ⟨a2, b2, .cell (some (.ref C)), sl2⟩) (e16 : PySem.W.mroIn K C (.ref C) = some true) (e17 : PySem.W.nsIn K cStatics "thirdparty.any" = some none)
    (e18 : PySem.W.ks_superIn K C C "__init__" = some (some (.builtin "ValueError.__init__"))) (e19 : PySem.W.subIn K (.ref C) (.type "ValueError") = some true) (e20 : (prog.main.scope.names.lookup ("super" : Str)).isSome = false) :
    PySem.K0X.ErrC prog K st C fI cc cda f qual :=
  ⟨⟨_, _, _, _, _, _, _, _, _, _, _, _, _, _, _, e0, e1⟩, e2, e3, e4, e5, e6, e7, e8, e9, ⟨_, _, _, _, _, _, _, e10⟩, e11, ⟨_, _, _, _, _, _, e12, e13, e14⟩, ⟨_, _, _, e15⟩, e16, e17, e18, e19, e20⟩
theorem getD_at {l : List Addr} {i : Nat} (h : i < l.length) : l.getD i 0 = l[i] := by
  rw [List.getD_eq_getElem?_getD, List.getElem?_eq_getElem h]
  rfl
theorem nodup_at {l : List Addr} (h : l.Nodup) : ∀ i j (hi : i < l.length) (hj : j < l.length), l[i] = l[j] → i = j := by
  have p := List.pairwise_iff_getElem.mp h
  intro i j hi hj e
  rcases Nat.lt_trichotomy i j with h1 | h1 | h1
  · exact absurd e (p i j hi hj h1)
  · exact h1
  · exact absurd e.symm (p j i hj hi h1)
theorem nodup_getD {l : List Addr} (h : l.Nodup) {i j : Nat} (hi : i < l.length) (hj : j < l.length) (e : l.getD i 0 = l.getD j 0) : i = j := by
  rw [getD_at hi, getD_at hj] at e
  exact nodup_at h i j hi hj e
theorem cls_of {P : Program} {w : World} {K : PySem.W.Frag} {h : Heap} {mg : Str → Option Value} {CP : Addr} {Cs : List Addr} {i0 i1 i2 i3 cc0 cc1 cc2 cc3 cd0 cd1 cd2 cd3 : Addr} (X : K.In h) (G : h.Ns mainGlobals mg) (g : Glo mg)
    (a : AllCF K CP cn Cs) (b : CG K CP) (o : CO K) (pl : AllPl K (Cs.drop 4)) (plP : PySem.W.excIn K CP [.type "ValueError", .type "Exception", .type "BaseException", .type "object"] "ValueError.__new__" = true) (nd : (CP :: Cs).Nodup)
    (e0 : PySem.K0X.ErrC P K PySem.K0X.sBadText (Cs.getD 0 0) i0 cc0 cd0 "place" "BadText.__init__") (e1 : PySem.K0X.ErrC P K PySem.K0X.sNotChecked (Cs.getD 1 0) i1 cc1 cd1 "what" "NotChecked.__init__")
    (e2 : PySem.K0X.ErrC P K PySem.K0X.sNotRight (Cs.getD 2 0) i2 cc2 cd2 "what" "NotRight.__init__") (e3 : PySem.K0X.ErrC P K PySem.K0X.sNotLet (Cs.getD 3 0) i3 cc3 cd3 "index" "NotLet.__init__")
    (sup : mg "super" = none) (ve : mg "ValueError" = none) : Cls P w K mg (fun j => Cs.getD j 0) CP := by
  have hl : Cs.length = 38 := a.len
  have at_ (j : Nat) (hj : j < 38) := a.at j (show j < cn.length from hj)
  have hne (i : Nat) (hi : i < 38) : Cs.getD i 0 ≠ CP := fun z => by
    have := (List.nodup_cons.mp nd).1
    have e1 : Cs.getD i 0 = Cs[i]'(by omega) := getD_at (by omega)
    rw [← z, e1] at this
    exact this (List.getElem_mem _)
  have hsub (i j : Nat) (hi : i < 38) (hj : j < 38) (hn : Cs.getD i 0 ≠ Cs.getD j 0) : PySem.W.mroIn K (Cs.getD i 0) (.ref (Cs.getD j 0)) = some (decide (i = j)) := by
    have h1 : i ≠ j := fun z => hn (by rw [z])
    have h2 := hne j hj
    rw [(at_ i hi).sub, decide_eq_false h1]
    revert hn h2
    generalize Cs.getD i 0 = x, Cs.getD j 0 = y
    intro hn h2
    simp [Ne.symm hn, h2]
  have hsubP (j : Nat) (hj : j < 38) (_ : CP ≠ Cs.getD j 0) : PySem.W.mroIn K CP (.ref (Cs.getD j 0)) = some false := by
    have h2 := hne j hj
    rw [b.sub]
    revert h2
    generalize Cs.getD j 0 = y
    intro h2
    simp [h2]
  have vb (C : Addr) : PySem.W.subIn K (.ref C) (.type "BaseException") = PySem.W.mroIn K C (.type "BaseException") := rfl
  exact {
    toGlo := g,
    mgC := fun j hj => PySem.W.mg_of X G (at_ j hj).ns,
    kp := fun j hj => (at_ j hj).kp,
    ex := fun j hj => (at_ j hj).exc o,
    isC := fun i j hi hj => kit_ref (at_ j hj).cs (at_ j hj).ty (hsub i j hi hj) (fun he => decide_eq_true (nodup_getD (List.nodup_cons.mp nd).2 (by omega) (by omega) he)),
    isP := fun i hi => kit_ref b.cs b.ty (fun _ => by rw [(at_ i hi).sub]; simp) (fun _ => rfl),
    isV := fun i hi => kit_ve (by rw [(at_ i hi).sub]; simp),
    plain := fun i h4 hi => by
      have z := pl.at (i - 4) (by rw [List.length_drop]; omega)
      rw [List.getD_eq_getElem?_getD, List.getElem?_drop, ← List.getD_eq_getElem?_getD] at z
      have e : 4 + (i - 4) = i := by omega
      rw [e] at z
      exact z,
    mgP := PySem.W.mg_of X G b.ns, kpP := b.kp, exP := b.exc o,
    isPC := fun j hj => kit_ref (at_ j hj).cs (at_ j hj).ty (hsubP j hj) (fun he => absurd he.symm (hne j hj)),
    isPV := kit_ve (by rw [b.sub]; simp), plainP := plP,
    mk0 := fun A R s mb v ar ha X' G' B' hb' hl' hd' hq => PySem.K0X.made_BadText e0 ha X' G' sup B' hb' hl' hd' hq,
    mk1 := fun A R s mb v ar ha X' G' B' hb' hl' hd' hq => PySem.K0X.made_NotChecked e1 ha X' G' sup B' hb' hl' hd' hq,
    mk2 := fun A R s mb v ar ha X' G' B' hb' hl' hd' hq => PySem.K0X.made_NotRight e2 ha X' G' sup B' hb' hl' hd' hq,
    mk3 := fun A R s mb v ar ha X' G' B' hb' hl' hd' hq => PySem.K0X.made_NotLet e3 ha X' G' sup B' hb' hl' hd' hq,
    ef0 := ⟨e0.ga, e0.gg, by rw [vb, (at_ 0 (by decide)).sub]; simp, e0.hd, e0.noN⟩,
    ef1 := ⟨e1.ga, e1.gg, by rw [vb, (at_ 1 (by decide)).sub]; simp, e1.hd, e1.noN⟩,
    ef2 := ⟨e2.ga, e2.gg, by rw [vb, (at_ 2 (by decide)).sub]; simp, e2.hd, e2.noN⟩,
    ef3 := ⟨e3.ga, e3.gg, by rw [vb, (at_ 3 (by decide)).sub]; simp, e3.hd, e3.noN⟩,
    iis := g.isinstance, ve := ve }
theorem all_mk {l : PySem.W.OpenLaw} {w : World} {K : PySem.W.Frag} {h : Heap} {mg : Str → Option Value} {fa CP C0 C1 C2 C3 : Addr} {Cr : List Addr} {i0 i1 i2 i3 cc0 cc1 cc2 cc3 cda0 cda1 cda2 cda3 : Addr} (X : K.In h) (G : h.Ns mainGlobals mg) (hfa : mg "law" = some (.ref fa))
    {f0 : Addr} {od0 an0 : Option Addr} {sl0 : Array (Option Value)} {oc0 kV0 dc0 pm0 cd0 ct0 : Value}
    {f1 : Addr} {od1 an1 : Option Addr} {sl1 : Array (Option Value)} {oc1 kV1 dc1 pm1 cd1 ct1 : Value}
    {f2 : Addr} {od2 an2 : Option Addr} {sl2 : Array (Option Value)} {oc2 kV2 dc2 pm2 cd2 ct2 : Value}
    {f3 : Addr} {od3 an3 : Option Addr} {sl3 : Array (Option Value)} {oc3 kV3 dc3 pm3 cd3 ct3 : Value}
    {f4 : Addr} {od4 an4 : Option Addr} {sl4 : Array (Option Value)} {oc4 kV4 dc4 pm4 cd4 ct4 : Value}
    {f5 : Addr} {od5 an5 : Option Addr} {sl5 : Array (Option Value)} {oc5 kV5 dc5 pm5 cd5 ct5 : Value}
    {f6 : Addr} {od6 an6 : Option Addr} {sl6 : Array (Option Value)} {oc6 kV6 dc6 pm6 cd6 ct6 : Value}
    (a0 : PySem.W.nsIn K mainGlobals "_law_bag" = some (some (.ref f0))) (l0 : K.lookup f0 = some ⟨oc0, od0, .func (PySem.W.fnOf "_law_bag" "_law_bag" (defArgs sLawBag) (defBody sLawBag) (defScope sLawBag) .none kV0 dc0 pm0 an0 cd0 ct0), sl0⟩) (c0 : PySem.W.codeIn K cd0 "_law_bag" = true) (k0 : PySem.W.keepIn K (.ref f0) = true)
    (a1 : PySem.W.nsIn K mainGlobals "_law_pick" = some (some (.ref f1))) (l1 : K.lookup f1 = some ⟨oc1, od1, .func (PySem.W.fnOf "_law_pick" "_law_pick" (defArgs sLawPick) (defBody sLawPick) (defScope sLawPick) .none kV1 dc1 pm1 an1 cd1 ct1), sl1⟩) (c1 : PySem.W.codeIn K cd1 "_law_pick" = true) (k1 : PySem.W.keepIn K (.ref f1) = true)
    (a2 : PySem.W.nsIn K mainGlobals "_law_word" = some (some (.ref f2))) (l2 : K.lookup f2 = some ⟨oc2, od2, .func (PySem.W.fnOf "_law_word" "_law_word" (defArgs sLawWord) (defBody sLawWord) (defScope sLawWord) .none kV2 dc2 pm2 an2 cd2 ct2), sl2⟩) (c2 : PySem.W.codeIn K cd2 "_law_word" = true) (k2 : PySem.W.keepIn K (.ref f2) = true)
    (a3 : PySem.W.nsIn K mainGlobals "_law_same" = some (some (.ref f3))) (l3 : K.lookup f3 = some ⟨oc3, od3, .func (PySem.W.fnOf "_law_same" "_law_same" (defArgs sLawSame) (defBody sLawSame) (defScope sLawSame) .none kV3 dc3 pm3 an3 cd3 ct3), sl3⟩) (c3 : PySem.W.codeIn K cd3 "_law_same" = true) (k3 : PySem.W.keepIn K (.ref f3) = true)
    (a4 : PySem.W.nsIn K mainGlobals "_law_marks" = some (some (.ref f4))) (l4 : K.lookup f4 = some ⟨oc4, od4, .func (PySem.W.fnOf "_law_marks" "_law_marks" (defArgs sLawMarks) (defBody sLawMarks) (defScope sLawMarks) .none kV4 dc4 pm4 an4 cd4 ct4), sl4⟩) (c4 : PySem.W.codeIn K cd4 "_law_marks" = true) (k4 : PySem.W.keepIn K (.ref f4) = true)
    (a5 : PySem.W.nsIn K mainGlobals "_law_made" = some (some (.ref f5))) (l5 : K.lookup f5 = some ⟨oc5, od5, .func (PySem.W.fnOf "_law_made" "_law_made" (defArgs sLawMade) (defBody sLawMade) (defScope sLawMade) .none kV5 dc5 pm5 an5 cd5 ct5), sl5⟩) (c5 : PySem.W.codeIn K cd5 "_law_made" = true) (k5 : PySem.W.keepIn K (.ref f5) = true)
    (a6 : PySem.W.nsIn K mainGlobals "law" = some (some (.ref f6))) (l6 : K.lookup f6 = some ⟨oc6, od6, .func (PySem.W.fnOf "law" "law" (defArgs sLaw) (defBody sLaw) (defScope sLaw) .none kV6 dc6 pm6 an6 cd6 ct6), sl6⟩) (c6 : PySem.W.codeIn K cd6 "law" = true) (k6 : PySem.W.keepIn K (.ref f6) = true)
    (z0 : PySem.W.nsIn K mainGlobals "len" = some none) (z1 : PySem.W.nsIn K mainGlobals "abs" = some none) (z2 : PySem.W.nsIn K mainGlobals "int" = some none) (z3 : PySem.W.nsIn K mainGlobals "list" = some none) (z4 : PySem.W.nsIn K mainGlobals "range" = some none) (z5 : PySem.W.nsIn K mainGlobals "str" = some none) (z6 : PySem.W.nsIn K mainGlobals "isinstance" = some none) (z7 : PySem.W.nsIn K mainGlobals "tuple" = some none) (z8 : PySem.W.nsIn K mainGlobals "bool" = some none) (z9 : PySem.W.nsIn K mainGlobals "super" = some none) (z10 : PySem.W.nsIn K mainGlobals "ValueError" = some none)
    (a : AllCF K CP cn (C0 :: C1 :: C2 :: C3 :: Cr)) (b : CG K CP) (o : CO K) (pl : AllPl K Cr) (plP : PySem.W.excIn K CP [.type "ValueError", .type "Exception", .type "BaseException", .type "object"] "ValueError.__new__" = true) (nd : (CP :: C0 :: C1 :: C2 :: C3 :: Cr).Nodup)
    (e0 : PySem.K0X.ErrC l.prog K PySem.K0X.sBadText C0 i0 cc0 cda0 "place" "BadText.__init__") (e1 : PySem.K0X.ErrC l.prog K PySem.K0X.sNotChecked C1 i1 cc1 cda1 "what" "NotChecked.__init__")
    (e2 : PySem.K0X.ErrC l.prog K PySem.K0X.sNotRight C2 i2 cc2 cda2 "what" "NotRight.__init__") (e3 : PySem.K0X.ErrC l.prog K PySem.K0X.sNotLet C3 i3 cc3 cda3 "index" "NotLet.__init__") :
    ∃ fd : FuncData, (∀ (s : Shared) (v : Value), BindsTo s fd ⟨[v], []⟩ [("script", v)]) ∧ ∀ base : Heap, K.In base → base.Ns mainGlobals mg → FnOk l.prog w K mg base CX0 5 fa fd ["script"] (spLaw K) := by
  have e := hfa.symm.trans (PySem.W.mg_of X G a6)
  cases e
  have g : Glo mg := ⟨PySem.W.mg_none_of X G z0, PySem.W.mg_none_of X G z1, PySem.W.mg_none_of X G z2, PySem.W.mg_none_of X G z3, PySem.W.mg_none_of X G z4, PySem.W.mg_none_of X G z5, PySem.W.mg_none_of X G z6, PySem.W.mg_none_of X G z7, PySem.W.mg_none_of X G z8⟩
  have T : Cls l.prog w K mg (fun j => (C0 :: C1 :: C2 :: C3 :: Cr).getD j 0) CP := cls_of (Cs := C0 :: C1 :: C2 :: C3 :: Cr) X G g a b o pl plP nd e0 e1 e2 e3 (PySem.W.mg_none_of X G z9) (PySem.W.mg_none_of X G z10)
  have F0 := fun_mk (st := sLawBag) l0 c0 k0
  have F1 := fun_mk (st := sLawPick) l1 c1 k1
  have F2 := fun_mk (st := sLawWord) l2 c2 k2
  have F3 := fun_mk (st := sLawSame) l3 c3 k3
  have F4 := fun_mk (st := sLawMarks) l4 c4 k4
  have F5 := fun_mk (st := sLawMade) l5 c5 k5
  have F6 := fun_mk (st := sLaw) l6 c6 k6
  have b0 := F0.binds (ps := ["script"]) fun _ _ _ _ _ _ us hl => match us, hl with | [_], _ => rfl
  have b1 := F1.binds (ps := ["bag", "many"]) fun _ _ _ _ _ _ us hl => match us, hl with | [_, _], _ => rfl
  have b2 := F2.binds (ps := ["bag", "capital", "used"]) fun _ _ _ _ _ _ us hl => match us, hl with | [_, _, _], _ => rfl
  have b3 := F3.binds (ps := ["found", "due"]) fun _ _ _ _ _ _ us hl => match us, hl with | [_, _], _ => rfl
  have b4 := F4.binds (ps := ["e"]) fun _ _ _ _ _ _ us hl => match us, hl with | [_], _ => rfl
  have b5 := F5.binds (ps := ["words", "place", "what", "index"]) fun _ _ _ _ _ _ us hl => match us, hl with | [_, _, _, _], _ => rfl
  exact ⟨PySem.W.fnOf "law" "law" (defArgs sLaw) (defBody sLaw) (defScope sLaw) .none kV6 dc6 pm6 an6 cd6 ct6, fun s v => .of_eq rfl, fun base _ _ => ok_law F6 T F0 (PySem.W.mg_of X G a0) b0 F1 (PySem.W.mg_of X G a1) b1 F2 (PySem.W.mg_of X G a2) b2 F5 (PySem.W.mg_of X G a5) b5 F4 (PySem.W.mg_of X G a4) b4 F3 (PySem.W.mg_of X G a3) b3⟩
theorem walk {l : PySem.W.OpenLaw} {q : Program} {loose : List Str} {XP : (Str → Option Value) → Heap → Prop} {YP : World → Heap → Prop} {d : DefRec} {K : Params → PySem.W.Frag} (hn : l.most = some 63) (hdf : d.params.defaults = [])
    (hY : ∀ (w : World) (h : Heap), YP w h → (K w.params).In h)
    (F : ∀ (w : World) (mg : Str → Option Value) (fa : Addr) (h : Heap), (K w.params).In h → h.Ns mainGlobals mg → mg d.name = some (.ref fa) →
      ∃ fd : FuncData, (∀ (s : Shared) (u : Value), BindsTo s fd ⟨[u], []⟩ [("script", u)]) ∧ ∀ base : Heap, (K w.params).In base → base.Ns mainGlobals mg → FnOk l.prog w (K w.params) mg base CX0 5 fa fd ["script"] (spLaw (K w.params))) :
    PySem.W.WalkO q loose XP YP l.row.toRowW d [] (fun f vs => PySem.call f vs) :=
  L2.walk_of (n := 63) (k := 5) (x := "script") (CX := fun _ => CX0) (sp := fun w => spLaw (K w.params)) hn (by decide) hdf ⟨rfl, by decide, by decide⟩ hY F (fun _ _ a ns hl _ hS => ⟨a, ns, rfl, hS, fun _ => rfl⟩) fun _ _ _ _ _ z => z
end K0
open PySem PySem.W PyProof.Rows
set_option maxRecDepth 100000 in
set_option maxHeartbeats 0 in
theorem PySem.Challenge.cw_cellspaid_k00_errors_holds : PySem.Challenge.rw_cellspaid_k00_errors.Holds := by
  w_on; o_law; k_head; (case hw => w_witness2)
  k_fill
  refine K0.walk (l := PySem.Challenge.rw_cellspaid_k00_errors) rfl rfl (fun w h Y => PySem.W.kIn_of Y) ?F
  case F =>
    intro w mg fa h KX G hmg
    refine' K0.all_mk KX G hmg ?a0 ?l0 ?c0 ?k0 ?a1 ?l1 ?c1 ?k1 ?a2 ?l2 ?c2 ?k2 ?a3 ?l3 ?c3 ?k3 ?a4 ?l4 ?c4 ?k4 ?a5 ?l5 ?c5 ?k5 ?a6 ?l6 ?c6 ?k6 ?z0 ?z1 ?z2 ?z3 ?z4 ?z5 ?z6 ?z7 ?z8 ?z9 ?z10 ?A ?B ?O ?PL ?PP ?ND ?E0 ?E1 ?E2 ?E3
    (case B => refine' K0.CG.mk2 ?p0 ?p1 ?p3 ?p4 ?p5 ?p6 ?p7 ?p8; (case p0 => k_is); (case p1 => k_is); (case p3 => k_is); (case p4 => k_is); (case p5 => k_is); (case p6 => k_is); (case p7 => k_is); (case p8 => k_is))
    (case A =>

      refine' K0.AllCF.cons ?x0 ?y0; (case x0 => refine' K0.CF.mk2 ?p0 ?p1 ?p3 ?p4 ?p5 ?p6 ?p7 ?p8; (case p0 => k_is); (case p1 => k_is); (case p3 => k_is); (case p4 => k_is); (case p5 => k_is); (case p6 => k_is); (case p7 => k_is); (case p8 => k_is)); (case y0 =>
      refine' K0.AllCF.cons ?x1 ?y1; (case x1 => refine' K0.CF.mk2 ?p0 ?p1 ?p3 ?p4 ?p5 ?p6 ?p7 ?p8; (case p0 => k_is); (case p1 => k_is); (case p3 => k_is); (case p4 => k_is); (case p5 => k_is); (case p6 => k_is); (case p7 => k_is); (case p8 => k_is)); (case y1 =>
      refine' K0.AllCF.cons ?x2 ?y2; (case x2 => refine' K0.CF.mk2 ?p0 ?p1 ?p3 ?p4 ?p5 ?p6 ?p7 ?p8; (case p0 => k_is); (case p1 => k_is); (case p3 => k_is); (case p4 => k_is); (case p5 => k_is); (case p6 => k_is); (case p7 => k_is); (case p8 => k_is)); (case y2 =>
      refine' K0.AllCF.cons ?x3 ?y3; (case x3 => refine' K0.CF.mk2 ?p0 ?p1 ?p3 ?p4 ?p5 ?p6 ?p7 ?p8; (case p0 => k_is); (case p1 => k_is); (case p3 => k_is); (case p4 => k_is); (case p5 => k_is); (case p6 => k_is); (case p7 => k_is); (case p8 => k_is)); (case y3 =>
      refine' K0.AllCF.cons ?x4 ?y4; (case x4 => refine' K0.CF.mk2 ?p0 ?p1 ?p3 ?p4 ?p5 ?p6 ?p7 ?p8; (case p0 => k_is); (case p1 => k_is); (case p3 => k_is); (case p4 => k_is); (case p5 => k_is); (case p6 => k_is); (case p7 => k_is); (case p8 => k_is)); (case y4 =>
      refine' K0.AllCF.cons ?x5 ?y5; (case x5 => refine' K0.CF.mk2 ?p0 ?p1 ?p3 ?p4 ?p5 ?p6 ?p7 ?p8; (case p0 => k_is); (case p1 => k_is); (case p3 => k_is); (case p4 => k_is); (case p5 => k_is); (case p6 => k_is); (case p7 => k_is); (case p8 => k_is)); (case y5 =>
      refine' K0.AllCF.cons ?x6 ?y6; (case x6 => refine' K0.CF.mk2 ?p0 ?p1 ?p3 ?p4 ?p5 ?p6 ?p7 ?p8; (case p0 => k_is); (case p1 => k_is); (case p3 => k_is); (case p4 => k_is); (case p5 => k_is); (case p6 => k_is); (case p7 => k_is); (case p8 => k_is)); (case y6 =>
      refine' K0.AllCF.cons ?x7 ?y7; (case x7 => refine' K0.CF.mk2 ?p0 ?p1 ?p3 ?p4 ?p5 ?p6 ?p7 ?p8; (case p0 => k_is); (case p1 => k_is); (case p3 => k_is); (case p4 => k_is); (case p5 => k_is); (case p6 => k_is); (case p7 => k_is); (case p8 => k_is)); (case y7 =>
      refine' K0.AllCF.cons ?x8 ?y8; (case x8 => refine' K0.CF.mk2 ?p0 ?p1 ?p3 ?p4 ?p5 ?p6 ?p7 ?p8; (case p0 => k_is); (case p1 => k_is); (case p3 => k_is); (case p4 => k_is); (case p5 => k_is); (case p6 => k_is); (case p7 => k_is); (case p8 => k_is)); (case y8 =>
      refine' K0.AllCF.cons ?x9 ?y9; (case x9 => refine' K0.CF.mk2 ?p0 ?p1 ?p3 ?p4 ?p5 ?p6 ?p7 ?p8; (case p0 => k_is); (case p1 => k_is); (case p3 => k_is); (case p4 => k_is); (case p5 => k_is); (case p6 => k_is); (case p7 => k_is); (case p8 => k_is)); (case y9 =>
      refine' K0.AllCF.cons ?x10 ?y10; (case x10 => refine' K0.CF.mk2 ?p0 ?p1 ?p3 ?p4 ?p5 ?p6 ?p7 ?p8; (case p0 => k_is); (case p1 => k_is); (case p3 => k_is); (case p4 => k_is); (case p5 => k_is); (case p6 => k_is); (case p7 => k_is); (case p8 => k_is)); (case y10 =>
      refine' K0.AllCF.cons ?x11 ?y11; (case x11 => refine' K0.CF.mk2 ?p0 ?p1 ?p3 ?p4 ?p5 ?p6 ?p7 ?p8; (case p0 => k_is); (case p1 => k_is); (case p3 => k_is); (case p4 => k_is); (case p5 => k_is); (case p6 => k_is); (case p7 => k_is); (case p8 => k_is)); (case y11 =>
      refine' K0.AllCF.cons ?x12 ?y12; (case x12 => refine' K0.CF.mk2 ?p0 ?p1 ?p3 ?p4 ?p5 ?p6 ?p7 ?p8; (case p0 => k_is); (case p1 => k_is); (case p3 => k_is); (case p4 => k_is); (case p5 => k_is); (case p6 => k_is); (case p7 => k_is); (case p8 => k_is)); (case y12 =>
      refine' K0.AllCF.cons ?x13 ?y13; (case x13 => refine' K0.CF.mk2 ?p0 ?p1 ?p3 ?p4 ?p5 ?p6 ?p7 ?p8; (case p0 => k_is); (case p1 => k_is); (case p3 => k_is); (case p4 => k_is); (case p5 => k_is); (case p6 => k_is); (case p7 => k_is); (case p8 => k_is)); (case y13 =>
      refine' K0.AllCF.cons ?x14 ?y14; (case x14 => refine' K0.CF.mk2 ?p0 ?p1 ?p3 ?p4 ?p5 ?p6 ?p7 ?p8; (case p0 => k_is); (case p1 => k_is); (case p3 => k_is); (case p4 => k_is); (case p5 => k_is); (case p6 => k_is); (case p7 => k_is); (case p8 => k_is)); (case y14 =>
      refine' K0.AllCF.cons ?x15 ?y15; (case x15 => refine' K0.CF.mk2 ?p0 ?p1 ?p3 ?p4 ?p5 ?p6 ?p7 ?p8; (case p0 => k_is); (case p1 => k_is); (case p3 => k_is); (case p4 => k_is); (case p5 => k_is); (case p6 => k_is); (case p7 => k_is); (case p8 => k_is)); (case y15 =>
      refine' K0.AllCF.cons ?x16 ?y16; (case x16 => refine' K0.CF.mk2 ?p0 ?p1 ?p3 ?p4 ?p5 ?p6 ?p7 ?p8; (case p0 => k_is); (case p1 => k_is); (case p3 => k_is); (case p4 => k_is); (case p5 => k_is); (case p6 => k_is); (case p7 => k_is); (case p8 => k_is)); (case y16 =>
      refine' K0.AllCF.cons ?x17 ?y17; (case x17 => refine' K0.CF.mk2 ?p0 ?p1 ?p3 ?p4 ?p5 ?p6 ?p7 ?p8; (case p0 => k_is); (case p1 => k_is); (case p3 => k_is); (case p4 => k_is); (case p5 => k_is); (case p6 => k_is); (case p7 => k_is); (case p8 => k_is)); (case y17 =>
      refine' K0.AllCF.cons ?x18 ?y18; (case x18 => refine' K0.CF.mk2 ?p0 ?p1 ?p3 ?p4 ?p5 ?p6 ?p7 ?p8; (case p0 => k_is); (case p1 => k_is); (case p3 => k_is); (case p4 => k_is); (case p5 => k_is); (case p6 => k_is); (case p7 => k_is); (case p8 => k_is)); (case y18 =>
      refine' K0.AllCF.cons ?x19 ?y19; (case x19 => refine' K0.CF.mk2 ?p0 ?p1 ?p3 ?p4 ?p5 ?p6 ?p7 ?p8; (case p0 => k_is); (case p1 => k_is); (case p3 => k_is); (case p4 => k_is); (case p5 => k_is); (case p6 => k_is); (case p7 => k_is); (case p8 => k_is)); (case y19 =>
      refine' K0.AllCF.cons ?x20 ?y20; (case x20 => refine' K0.CF.mk2 ?p0 ?p1 ?p3 ?p4 ?p5 ?p6 ?p7 ?p8; (case p0 => k_is); (case p1 => k_is); (case p3 => k_is); (case p4 => k_is); (case p5 => k_is); (case p6 => k_is); (case p7 => k_is); (case p8 => k_is)); (case y20 =>
      refine' K0.AllCF.cons ?x21 ?y21; (case x21 => refine' K0.CF.mk2 ?p0 ?p1 ?p3 ?p4 ?p5 ?p6 ?p7 ?p8; (case p0 => k_is); (case p1 => k_is); (case p3 => k_is); (case p4 => k_is); (case p5 => k_is); (case p6 => k_is); (case p7 => k_is); (case p8 => k_is)); (case y21 =>
      refine' K0.AllCF.cons ?x22 ?y22; (case x22 => refine' K0.CF.mk2 ?p0 ?p1 ?p3 ?p4 ?p5 ?p6 ?p7 ?p8; (case p0 => k_is); (case p1 => k_is); (case p3 => k_is); (case p4 => k_is); (case p5 => k_is); (case p6 => k_is); (case p7 => k_is); (case p8 => k_is)); (case y22 =>
      refine' K0.AllCF.cons ?x23 ?y23; (case x23 => refine' K0.CF.mk2 ?p0 ?p1 ?p3 ?p4 ?p5 ?p6 ?p7 ?p8; (case p0 => k_is); (case p1 => k_is); (case p3 => k_is); (case p4 => k_is); (case p5 => k_is); (case p6 => k_is); (case p7 => k_is); (case p8 => k_is)); (case y23 =>
      refine' K0.AllCF.cons ?x24 ?y24; (case x24 => refine' K0.CF.mk2 ?p0 ?p1 ?p3 ?p4 ?p5 ?p6 ?p7 ?p8; (case p0 => k_is); (case p1 => k_is); (case p3 => k_is); (case p4 => k_is); (case p5 => k_is); (case p6 => k_is); (case p7 => k_is); (case p8 => k_is)); (case y24 =>
      refine' K0.AllCF.cons ?x25 ?y25; (case x25 => refine' K0.CF.mk2 ?p0 ?p1 ?p3 ?p4 ?p5 ?p6 ?p7 ?p8; (case p0 => k_is); (case p1 => k_is); (case p3 => k_is); (case p4 => k_is); (case p5 => k_is); (case p6 => k_is); (case p7 => k_is); (case p8 => k_is)); (case y25 =>
      refine' K0.AllCF.cons ?x26 ?y26; (case x26 => refine' K0.CF.mk2 ?p0 ?p1 ?p3 ?p4 ?p5 ?p6 ?p7 ?p8; (case p0 => k_is); (case p1 => k_is); (case p3 => k_is); (case p4 => k_is); (case p5 => k_is); (case p6 => k_is); (case p7 => k_is); (case p8 => k_is)); (case y26 =>
      refine' K0.AllCF.cons ?x27 ?y27; (case x27 => refine' K0.CF.mk2 ?p0 ?p1 ?p3 ?p4 ?p5 ?p6 ?p7 ?p8; (case p0 => k_is); (case p1 => k_is); (case p3 => k_is); (case p4 => k_is); (case p5 => k_is); (case p6 => k_is); (case p7 => k_is); (case p8 => k_is)); (case y27 =>
      refine' K0.AllCF.cons ?x28 ?y28; (case x28 => refine' K0.CF.mk2 ?p0 ?p1 ?p3 ?p4 ?p5 ?p6 ?p7 ?p8; (case p0 => k_is); (case p1 => k_is); (case p3 => k_is); (case p4 => k_is); (case p5 => k_is); (case p6 => k_is); (case p7 => k_is); (case p8 => k_is)); (case y28 =>
      refine' K0.AllCF.cons ?x29 ?y29; (case x29 => refine' K0.CF.mk2 ?p0 ?p1 ?p3 ?p4 ?p5 ?p6 ?p7 ?p8; (case p0 => k_is); (case p1 => k_is); (case p3 => k_is); (case p4 => k_is); (case p5 => k_is); (case p6 => k_is); (case p7 => k_is); (case p8 => k_is)); (case y29 =>
      refine' K0.AllCF.cons ?x30 ?y30; (case x30 => refine' K0.CF.mk2 ?p0 ?p1 ?p3 ?p4 ?p5 ?p6 ?p7 ?p8; (case p0 => k_is); (case p1 => k_is); (case p3 => k_is); (case p4 => k_is); (case p5 => k_is); (case p6 => k_is); (case p7 => k_is); (case p8 => k_is)); (case y30 =>
      refine' K0.AllCF.cons ?x31 ?y31; (case x31 => refine' K0.CF.mk2 ?p0 ?p1 ?p3 ?p4 ?p5 ?p6 ?p7 ?p8; (case p0 => k_is); (case p1 => k_is); (case p3 => k_is); (case p4 => k_is); (case p5 => k_is); (case p6 => k_is); (case p7 => k_is); (case p8 => k_is)); (case y31 =>
      refine' K0.AllCF.cons ?x32 ?y32; (case x32 => refine' K0.CF.mk2 ?p0 ?p1 ?p3 ?p4 ?p5 ?p6 ?p7 ?p8; (case p0 => k_is); (case p1 => k_is); (case p3 => k_is); (case p4 => k_is); (case p5 => k_is); (case p6 => k_is); (case p7 => k_is); (case p8 => k_is)); (case y32 =>
      refine' K0.AllCF.cons ?x33 ?y33; (case x33 => refine' K0.CF.mk2 ?p0 ?p1 ?p3 ?p4 ?p5 ?p6 ?p7 ?p8; (case p0 => k_is); (case p1 => k_is); (case p3 => k_is); (case p4 => k_is); (case p5 => k_is); (case p6 => k_is); (case p7 => k_is); (case p8 => k_is)); (case y33 =>
      refine' K0.AllCF.cons ?x34 ?y34; (case x34 => refine' K0.CF.mk2 ?p0 ?p1 ?p3 ?p4 ?p5 ?p6 ?p7 ?p8; (case p0 => k_is); (case p1 => k_is); (case p3 => k_is); (case p4 => k_is); (case p5 => k_is); (case p6 => k_is); (case p7 => k_is); (case p8 => k_is)); (case y34 =>
      refine' K0.AllCF.cons ?x35 ?y35; (case x35 => refine' K0.CF.mk2 ?p0 ?p1 ?p3 ?p4 ?p5 ?p6 ?p7 ?p8; (case p0 => k_is); (case p1 => k_is); (case p3 => k_is); (case p4 => k_is); (case p5 => k_is); (case p6 => k_is); (case p7 => k_is); (case p8 => k_is)); (case y35 =>
      refine' K0.AllCF.cons ?x36 ?y36; (case x36 => refine' K0.CF.mk2 ?p0 ?p1 ?p3 ?p4 ?p5 ?p6 ?p7 ?p8; (case p0 => k_is); (case p1 => k_is); (case p3 => k_is); (case p4 => k_is); (case p5 => k_is); (case p6 => k_is); (case p7 => k_is); (case p8 => k_is)); (case y36 =>
      refine' K0.AllCF.cons ?x37 ?y37; (case x37 => refine' K0.CF.mk2 ?p0 ?p1 ?p3 ?p4 ?p5 ?p6 ?p7 ?p8; (case p0 => k_is); (case p1 => k_is); (case p3 => k_is); (case p4 => k_is); (case p5 => k_is); (case p6 => k_is); (case p7 => k_is); (case p8 => k_is)); (case y37 =>
      exact K0.AllCF.nil)))))))))))))))))))))))))))))))))))))))
    (case a0 => k_is); (case l0 => k_is); (case c0 => k_is); (case k0 => k_is); (case a1 => k_is); (case l1 => k_is); (case c1 => k_is); (case k1 => k_is)
    (case a2 => k_is); (case l2 => k_is); (case c2 => k_is); (case k2 => k_is); (case a3 => k_is); (case l3 => k_is); (case c3 => k_is); (case k3 => k_is)
    (case a4 => k_is); (case l4 => k_is); (case c4 => k_is); (case k4 => k_is); (case a5 => k_is); (case l5 => k_is); (case c5 => k_is); (case k5 => k_is)
    (case a6 => k_is); (case l6 => k_is); (case c6 => k_is); (case k6 => k_is); (case z0 => k_is); (case z1 => k_is); (case z2 => k_is); (case z3 => k_is)
    (case z4 => k_is); (case z5 => k_is); (case z6 => k_is); (case z7 => k_is); (case z8 => k_is); (case z9 => k_is); (case z10 => k_is)
    (case O => refine' ⟨?_, ?_⟩ <;> k_is)
    (case PP => k_exc)
    (case PL => exact ⟨by k_exc, by k_exc, by k_exc, by k_exc, by k_exc, by k_exc, by k_exc, by k_exc, by k_exc, by k_exc, by k_exc, by k_exc, by k_exc, by k_exc, by k_exc, by k_exc, by k_exc, by k_exc, by k_exc, by k_exc, by k_exc, by k_exc, by k_exc, by k_exc, by k_exc, by k_exc, by k_exc, by k_exc, by k_exc, by k_exc, by k_exc, by k_exc, by k_exc, by k_exc, trivial⟩)
    (case ND => decide)
    (case E0 =>
      refine' K0.err_mk2 ?e0_0 ?e0_1 ?e0_2 ?e0_3 ?e0_4 ?e0_5 ?e0_6 ?e0_7 ?e0_8 ?e0_9 ?e0_10 ?e0_11 ?e0_12 ?e0_13 ?e0_14 ?e0_15 ?e0_16 ?e0_17 ?e0_18 ?e0_19 ?e0_20
      (case e0_0 => k_is)
      (case e0_1 => decide +kernel)
      (case e0_2 => k_is)
      (case e0_3 => k_is)
      (case e0_4 => k_is)
      (case e0_5 => k_is)
      (case e0_6 => k_is)
      (case e0_7 => k_is)
      (case e0_8 => k_is)
      (case e0_9 => k_is)
      (case e0_10 => k_is)
      (case e0_11 => k_is)
      (case e0_12 => k_is)
      (case e0_13 => rfl)
      (case e0_14 => decide +kernel)
      (case e0_15 => k_is)
      (case e0_16 => k_is)
      (case e0_17 => k_is)
      (case e0_18 => ks_is)
      (case e0_19 => k_is)
      (case e0_20 => decide +kernel))
    (case E1 =>
      refine' K0.err_mk2 ?e1_0 ?e1_1 ?e1_2 ?e1_3 ?e1_4 ?e1_5 ?e1_6 ?e1_7 ?e1_8 ?e1_9 ?e1_10 ?e1_11 ?e1_12 ?e1_13 ?e1_14 ?e1_15 ?e1_16 ?e1_17 ?e1_18 ?e1_19 ?e1_20
      (case e1_0 => k_is)
      (case e1_1 => decide +kernel)
      (case e1_2 => k_is)
      (case e1_3 => k_is)
      (case e1_4 => k_is)
      (case e1_5 => k_is)
      (case e1_6 => k_is)
      (case e1_7 => k_is)
      (case e1_8 => k_is)
      (case e1_9 => k_is)
      (case e1_10 => k_is)
      (case e1_11 => k_is)
      (case e1_12 => k_is)
      (case e1_13 => rfl)
      (case e1_14 => decide +kernel)
      (case e1_15 => k_is)
      (case e1_16 => k_is)
      (case e1_17 => k_is)
      (case e1_18 => ks_is)
      (case e1_19 => k_is)
      (case e1_20 => decide +kernel))
    (case E2 =>
      refine' K0.err_mk2 ?e2_0 ?e2_1 ?e2_2 ?e2_3 ?e2_4 ?e2_5 ?e2_6 ?e2_7 ?e2_8 ?e2_9 ?e2_10 ?e2_11 ?e2_12 ?e2_13 ?e2_14 ?e2_15 ?e2_16 ?e2_17 ?e2_18 ?e2_19 ?e2_20
      (case e2_0 => k_is)
      (case e2_1 => decide +kernel)
      (case e2_2 => k_is)
      (case e2_3 => k_is)
      (case e2_4 => k_is)
      (case e2_5 => k_is)
      (case e2_6 => k_is)
      (case e2_7 => k_is)
      (case e2_8 => k_is)
      (case e2_9 => k_is)
      (case e2_10 => k_is)
      (case e2_11 => k_is)
      (case e2_12 => k_is)
      (case e2_13 => rfl)
      (case e2_14 => decide +kernel)
      (case e2_15 => k_is)
      (case e2_16 => k_is)
      (case e2_17 => k_is)
      (case e2_18 => ks_is)
      (case e2_19 => k_is)
      (case e2_20 => decide +kernel))
    (case E3 =>
      refine' K0.err_mk2 ?e3_0 ?e3_1 ?e3_2 ?e3_3 ?e3_4 ?e3_5 ?e3_6 ?e3_7 ?e3_8 ?e3_9 ?e3_10 ?e3_11 ?e3_12 ?e3_13 ?e3_14 ?e3_15 ?e3_16 ?e3_17 ?e3_18 ?e3_19 ?e3_20
      (case e3_0 => k_is)
      (case e3_1 => decide +kernel)
      (case e3_2 => k_is)
      (case e3_3 => k_is)
      (case e3_4 => k_is)
      (case e3_5 => k_is)
      (case e3_6 => k_is)
      (case e3_7 => k_is)
      (case e3_8 => k_is)
      (case e3_9 => k_is)
      (case e3_10 => k_is)
      (case e3_11 => k_is)
      (case e3_12 => k_is)
      (case e3_13 => rfl)
      (case e3_14 => decide +kernel)
      (case e3_15 => k_is)
      (case e3_16 => k_is)
      (case e3_17 => k_is)
      (case e3_18 => ks_is)
      (case e3_19 => k_is)
      (case e3_20 => decide +kernel))
