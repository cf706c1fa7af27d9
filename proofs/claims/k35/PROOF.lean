import PyProof.Rows.All
import Wide.All
import OpenK.AllK
import Wide.FinOn
import HandS.ForMost
import HandS.Exc
import HandS.TryOnly
import HandS.ExcOwn
import HandS.WordsExc
import HandS.IsInst
import HandS.Wide
import HandS.WideBits
import HandS.SortInts
import HandS.Style
import HandS.More
import HandS.Conv
import HandS.Small
import HandS.RaiseMore
import HandS.Walk
import HandS.SetFor
import KE.DataFind
import KE.DataCmp
import KE.SortData
import HandS.Deep
import HandS.Strs
import HandS.Text
import HandS.MapJoin
import HandS.SortKw
import HandS.Steps
import PySem.Challenge.RW_fewshapes_k35_kinds_and_sums_written
set_option Elab.async false
set_option linter.all false
set_option maxRecDepth 100000
set_option maxHeartbeats 4000000
namespace Fs
open PySem PySem.Spec PyProof.Rows L2
abbrev Fg := PySem.W.Frag
/-! ### readings: one name an operation, whatever the kinds -/
def rAddS : R2 := fun x y H Q => ∃ i j, x = .str i ∧ y = .str j ∧ i.length + j.length ≤ sizeLine ∧ Q (.str (i ++ j)) H
def uAdd : R2 := fun x y H Q => rI0 (fun i j => .int (i + j)) x y H Q ∨ (rAddS x y H Q ∨ rCat x y H Q)
def uSub : R2 := rI0 fun i j => .int (i - j)
def uMul : R2 := fun x y H Q => rI CMulX (fun i j => .int (i * j)) x y H Q ∨ (rI CMul (fun i j => .int (i * j)) x y H Q ∨ rRep x y H Q)
def uDiv : R2 := rI CDivW fun i j => .int (i / j)
def uMod : R2 := rI (fun _ j => 0 < j) fun i j => .int (i % j)
def uPow : R2 := rI CPow fun i j => .int (i ^ j.toNat)
def uAnd : R2 := rI0 fun i j => .int (Builtin.bitAnd i j)
def uOr : R2 := rI0 fun i j => .int (Builtin.bitOr i j)
def uLt : R2 := rI0 fun i j => .bl (decide (i < j))
def uLe : R2 := rI0 fun i j => .bl (decide (i ≤ j))
def uGt : R2 := rI0 fun i j => .bl (decide (j < i))
def uGe : R2 := rI0 fun i j => .bl (decide (j ≤ i))
def uEq (K : Fg) : R2 := fun x y H Q => rEq x y H Q ∨ rEqD K x y H Q
def uNe (K : Fg) : R2 := fun x y H Q => rNe x y H Q ∨ rNeD K x y H Q
def uIn (K : Fg) : R2 := rIn K false
def rIsN : R2 := fun x y H Q => y = .non ∧ Q (.bl (decide (x = .non))) H
def rNotN : R2 := fun x y H Q => y = .non ∧ Q (.bl (!decide (x = .non))) H
def uIs : R2 := fun x y H Q => rIsN x y H Q ∨ rIsB x y H Q
def uIsNot : R2 := fun x y H Q => rNotN x y H Q ∨ rNotB x y H Q
def uIx (K : Fg) : R2 := rIx K
def uSl (K : Fg) : V → Option Int → Option Int → Hp → VK → Prop := fun x lo hi H Q => rSlL K x lo hi H Q ∨ rSlS x lo hi H Q
def uNeg : V → Hp → VK → Prop := rU fun i => .int (-i)
abbrev RC := List V → Hp → VK → Prop
def uLen (K : Fg) : RC := fun xs H Q => ∃ x n, xs = [x] ∧ LenV K x H n ∧ Q (.int n) H
def rMax2 : RC := fun xs H Q => ∃ i j, xs = [.int i, .int j] ∧ Q (.int (if j > i then j else i)) H
def rMin2 : RC := fun xs H Q => ∃ i j, xs = [.int i, .int j] ∧ Q (.int (if j < i then j else i)) H
def uMax (K : Fg) : RC := fun xs H Q => rMax2 xs H Q ∨ rMax K xs H Q
def uMin (K : Fg) : RC := fun xs H Q => rMin2 xs H Q ∨ rMin K xs H Q
def rInt1 : RC := fun xs H Q => (∃ i, xs = [.int i] ∧ Q (.int i) H) ∨ ∃ k, xs = [.bl k] ∧ Q (.int (if k then 1 else 0)) H
def rIntS : RC := fun xs H Q => ∃ a n, xs = [.str a] ∧ PySem.intText? a = some n ∧ a.length ≤ 640 ∧ Q (.int n) H
def uInt : RC := fun xs H Q => rInt1 xs H Q ∨ rIntS xs H Q
def uAbs : RC := fun xs H Q => ∃ i, xs = [.int i] ∧ Q (.int (if i < 0 then -i else i)) H
def uIsi (K : Fg) : RC := rIsi K
def uSum (K : Fg) : RC := rSum K
def rListOf (K : Fg) : RC := fun xs H Q => ∃ p ys, xs = [.ref p] ∧ (SqL K H p ys ∨ SqT K H p ys) ∧ ∀ l, H l = none → Q (.ref l) (upd H l (.lst ys))
def uSet : TSet := fun o i v H Q => rSetL o i v H Q ∨ rSetD o i v H Q
def uList (K : Fg) : RC := fun xs H Q => rListOf K xs H Q ∨ rListD xs H Q
def rStrI : RC := fun xs H Q => ∃ i, xs = [.int i] ∧ i.natAbs.log2 < 1920 ∧ Q (.str (toString i)) H
def rStrS : RC := fun xs H Q => ∃ a, xs = [.str a] ∧ Q (.str a) H
def uStr : RC := fun xs H Q => rStrI xs H Q ∨ rStrS xs H Q
/-- raise C(..): the wish of an error of the class at C -/
def tRz (E : XK) (C : Addr) : TS := fun _ _ H => E (.ref C) none H
/-- a promise at calls that let nothing out -/
def sp0 (sp : Sp) : Sp := fun vs H Q _ => sp vs H Q E0
/-- what the readings lean on: the written part, where the classes stand -/
structure Gx where
  K : Fg
  C : String → Addr
section
variable {X : Cx}
theorem o_add : OpR X (binaryOp .Add) uAdd := op_add.or (op_add_str.or op_cat)
theorem o_sub : OpR X (binaryOp .Sub) uSub := op_sub
theorem o_mul : OpR X (binaryOp .Mult) uMul := op_mulX.or (op_mul.or op_rep)
theorem o_div : OpR X (binaryOp .FloorDiv) uDiv := op_fdivW
theorem o_mod : OpR X (binaryOp .Mod) uMod := op_mod
theorem o_lt : OpR X (compareOp .Lt) uLt := op_lt
theorem o_le : OpR X (compareOp .LtE) uLe := op_le
theorem o_gt : OpR X (compareOp .Gt) uGt := op_gt
theorem o_ge : OpR X (compareOp .GtE) uGe := op_ge
theorem o_eq (hu : X.A.units + 64 < cLine) : OpR X (compareOp .Eq) (uEq X.K) := op_eq.or (op_eqD hu)
theorem o_ne (hu : X.A.units + 64 < cLine) : OpR X (compareOp .NotEq) (uNe X.K) := op_ne.or (op_neD hu)
theorem o_in : OpR X (compareOp .In) (uIn X.K) := op_in_seq
theorem o_ix : IxR X (uIx X.K) := ix_seq
theorem o_sl : SlR X (uSl X.K) := sl_list.or sl_str
theorem k_len : CallR X (.builtin "len") (uLen X.K) := call_len
theorem k_max (hc : X.calm = true) : CallR X (.builtin "max") (uMax X.K) := (call_max2 hc).or (cr_max hc)
theorem k_min (hc : X.calm = true) : CallR X (.builtin "min") (uMin X.K) := (call_min2 hc).or (cr_min hc)
theorem k_int : CallR X (.type "int") uInt := call_int1.or call_int_str
theorem k_abs : CallR X (.builtin "abs") uAbs := call_abs
theorem k_isi : CallR X (.builtin "isinstance") (uIsi X.K) := call_isi
theorem k_sum (hc : X.calm = true) : CallR X (.builtin "sum") (uSum X.K) := cr_sum hc
theorem s_any (hu : X.A.units + 1 < cLine) : PSet X uSet := by
  intro pins s σ H o i v ov iv u Q I ro ri rv h
  rcases h with h | h
  · exact set_list pins s σ H o i v ov iv u Q I ro ri rv h
  · exact set_dict hu pins s σ H o i v ov iv u Q I ro ri rv h
theorem k_list (hc : X.calm = true) : CallR X (.type "list") (uList X.K) := call_list_of.or (call_list_dK hc)
theorem k_str : CallR X (.type "str") uStr := call_str_int.or SkE.call_str_str
/-- slots of names -/
theorem pgn (i : Nat) {x : Str} {pos : Pos} (hN : X.N.Nodup) (hi : X.N[i]? = some x := by rfl) (hx : Loc X.env.scope x := by first | exact Or.inl rfl | exact Or.inr rfl) (hf : X.fn x = true ∨ X.env.scope.names.lookup x = some .local := by first | exact .inl rfl | exact .inr rfl) : PG X (.Name x pos) (gName i) := pg_name hN hi hx hf
theorem pst (i : Nat) {x : Str} {e : Expr} {te : TE} {pos pos' : Pos} (hN : X.N.Nodup) (he : PE X e te) (hi : X.N[i]? = some x := by rfl) (hx : Loc X.env.scope x := by first | exact Or.inl rfl | exact Or.inr rfl) (hs : swapsWith e (some (.Name x pos')) pos.line X.env = pure false := by rfl) (hf : X.fn x = true ∨ X.env.scope.names.lookup x = some .local := by first | exact .inl rfl | exact .inr rfl) :
    PS X (.Assign [.Name x pos'] e pos) (tAsg te (gName i)) := ps_set hN hi hx he hs hf
end
/-! ### calls that let nothing out -/
section
variable {X : Cx} {k : Nat} {f : Addr} {fd : FuncData} {ps : List Str} {sp : Sp} {x : Str} {p pos : Pos} {e : Expr} {es : List Expr} {t : TA}
theorem pcall (F : FnOk X.prog X.w X.K X.mg X.base CX0 k f fd ps (sp0 sp)) (hr : Room k X.A) (hg : Gl X x) (hm : X.mg x = some (.ref f)) (hk : PySem.W.keepIn X.K (.ref f) = true) (hb : Binds X.K fd ps []) (ha : PA X (e :: es) t)
    (hdb : (x == ("__debug__" : Str)) = false := by decide) (he : starEach (e :: es) X.env = (false, eval e X.env) :: starEach es X.env := by rfl) (hpl : (backTo pos (starEach es X.env)).any (·.1) = false := by rfl) :
    PE X (.Call (.Name x p) (e :: es) [] pos) (tCall sp [] E0 t) := pe_call (sp := sp0 sp) F hr hg hm hk hb .nil pass0 ha hdb he hpl
theorem prz0 {st : Stmt} {C : Addr} : PS X st (tRz E0 C) := ⟨fun _ _ _ _ _ _ h => h.elim⟩
end
/-! ### steps of a reading -/
section
variable {K : Fg} {D : Ends} {σ : L2.St} {H : Hp} {t u : TS} {te ta tb tc : TE} {c c2 : TT} {g : TG} {Q : VK} {QB : Bool → Hp → Prop} {QA : List V → Hp → Prop} {x y v : V} {i j : Int} {b : Bool} {a p l : Addr} {xs ys : List V} {z s : Str}
theorem i_seq (h : t { D with nx := u D } σ H) : tSeq t u D σ H := h
theorem i_next (h : D.nx σ H) : tNext D σ H := h
theorem i_asg (h : te σ H fun x H1 => g x σ H1 D.nx) : tAsg te g D σ H := h
theorem i_gname {n : Nat} {R : L2.St → Hp → Prop} (h : R (σ.set n (some v)) H) : gName n v σ H R := h
theorem i_ifS (h : c σ H fun b H1 => if b = true then t D σ H1 else u D σ H1) : tIfS c t u D σ H := h
theorem i_ret (h : te σ H D.rt) : tRet te D σ H := h
theorem i_retN (h : D.rt .non H) : tRetN D σ H := h
theorem i_drop (h : te σ H fun _ H1 => D.nx σ H1) : tDrop te D σ H := h
theorem i_brk (h : D.bk σ H) : tBreak D σ H := h
theorem i_aug {n : Nat} {ti : TIp} (hx : σ[n]? = some (some x)) (h : te σ H fun y H1 => ti x y H1 fun z H2 => D.nx (σ.set n (some z)) H2) : tAug n te ti D σ H := ⟨x, hx, h⟩
theorem i_ipI {f : Int → Int → Int} (h : Q (.int (f i j)) H) : ipI f (.int i) (.int j) H Q := ⟨i, j, rfl, rfl, h⟩
theorem i_var {n : Nat} (hx : σ[n]? = some (some v)) (h : Q v H) : tVar n σ H Q := ⟨v, hx, h⟩
theorem i_c (h : Q v H) : tC v σ H Q := h
theorem i_op {r : R2} (h : ta σ H fun x H1 => tb σ H1 fun y H2 => r x y H2 Q) : tOp r ta tb σ H Q := h
theorem i_un {r : V → Hp → VK → Prop} (h : ta σ H fun x H1 => r x H1 Q) : tUn r ta σ H Q := h
theorem i_call {sp : Sp} {E : XK} {t : TA} (h : t σ H fun vs H1 => sp vs H1 Q E) : tCall sp [] E t σ H Q := by
  have e : (fun vs H1 => sp (vs ++ []) H1 Q E) = fun vs H1 => sp vs H1 Q E := by
    funext vs H1
    rw [List.append_nil]
  show t σ H fun vs H1 => sp (vs ++ []) H1 Q E
  rw [e]
  exact h
theorem i_cb {r : RC} {t : TA} (h : t σ H fun vs H1 => r vs H1 Q) : tCB r t σ H Q := h
theorem i_nil (h : QA [] H) : tNil σ H QA := h
theorem i_cons {tr : TA} (h : ta σ H fun x H1 => tr σ H1 fun xs H2 => QA (x :: xs) H2) : tCons ta tr σ H QA := h
theorem i_bm {T : String} {r : V → List V → Hp → VK → Prop} {t : TA} (h : ta σ H fun x H1 => tyV K T x H1 ∧ t σ H1 fun xs H2 => r x xs H2 Q) : tBM K T r ta t σ H Q := h
theorem i_bm0 {T : String} {r : V → List V → Hp → VK → Prop} (h : ta σ H fun x H1 => tyV K T x H1 ∧ r x [] H1 Q) : tBM0 K T r ta σ H Q := h
theorem i_lst {t : TA} (h : t σ H fun xs H1 => xs.length ≤ sizeLine ∧ ∀ p, H1 p = none → Q (.ref p) (upd H1 p (.lst xs))) : tLst t σ H Q := h
theorem i_tup {t : TA} (h : t σ H fun xs H1 => xs.length ≤ sizeLine ∧ ∀ p, H1 p = none → Q (.ref p) (upd H1 p (.tup xs))) : tTup t σ H Q := h
theorem i_sl {r : V → Option Int → Option Int → Hp → VK → Prop} {tl th : TO} (h : te σ H fun x H1 => tl σ H1 fun l H2 => th σ H2 fun u H3 => r x l u H3 Q) : tSl r te tl th σ H Q := h
theorem i_nopart {R : Option Int → Hp → Prop} (h : R none H) : tNoPart σ H R := h
theorem i_part {R : Option Int → Hp → Prop} (h : te σ H fun x H1 => ∃ i, x = .int i ∧ R (some i) H1) : tPart te σ H R := h
theorem i_exint {R : Int → Prop} (h : R i) : ∃ j, V.int i = .int j ∧ R j := ⟨i, rfl, h⟩
theorem i_exbl {R : Bool → Prop} (h : R b) : ∃ j, V.bl b = .bl j ∧ R j := ⟨b, rfl, h⟩
theorem i_if (h : c σ H fun b H1 => if b = true then ta σ H1 Q else tb σ H1 Q) : tIf c ta tb σ H Q := h
theorem i_andV (h : ta σ H fun x H1 => ∃ c, x = .bl c ∧ if c = true then tb σ H1 Q else Q (.bl false) H1) : tAndV ta tb σ H Q := h
theorem i_orV (h : ta σ H fun x H1 => ∃ c, x = .bl c ∧ if c = true then Q (.bl true) H1 else tb σ H1 Q) : tOrV ta tb σ H Q := h
theorem i_notV (h : ta σ H fun x H1 => ∃ c, x = .bl c ∧ Q (.bl (!c)) H1) : tNotV ta σ H Q := h
theorem i_test (h : te σ H fun x H1 => ∃ k, x = .bl k ∧ QB k H1) : tTest te σ H QB := h
theorem i_B (h : te σ H fun x H1 => ∃ k, x = .bl k ∧ QB k H1) : tB te σ H QB := h
theorem i_and (h : c σ H fun b H1 => if b = true then c2 σ H1 QB else QB false H1) : tAnd c c2 σ H QB := h
theorem i_or (h : c σ H fun b H1 => if b = true then QB true H1 else c2 σ H1 QB) : tOr c c2 σ H QB := h
theorem i_not (h : c σ H fun b H1 => QB (!b) H1) : tNot c σ H QB := h
theorem i_yes (h : QB true H) : tYes σ H QB := h
theorem i_chain {r r' : R2} (h : ta σ H fun x H1 => tb σ H1 fun y H2 => r x y H2 fun z H3 => ∃ k, z = .bl k ∧ (if k = true then tc σ H3 fun w' H4 => r' y w' H4 Q else Q (.bl false) H3)) : tChain r r' ta tb tc σ H Q := h
/-! numbers -/
theorem i_add (h : Q (.int (i + j)) H) : uAdd (.int i) (.int j) H Q := .inl ⟨i, j, rfl, rfl, h⟩
theorem i_addS (hz : z.length + s.length ≤ sizeLine) (h : Q (.str (z ++ s)) H) : uAdd (.str z) (.str s) H Q := .inr (.inl ⟨z, s, rfl, rfl, hz, h⟩)
theorem i_addL (h1 : H a = some (.lst xs)) (h2 : H p = some (.lst ys)) (hz : xs.length + ys.length ≤ sizeLine) (h : ∀ q, H q = none → Q (.ref q) (upd H q (.lst (xs ++ ys)))) : uAdd (.ref a) (.ref p) H Q := .inr (.inr ⟨a, p, xs, ys, rfl, rfl, h1, h2, hz, h⟩)
theorem i_sub (h : Q (.int (i - j)) H) : uSub (.int i) (.int j) H Q := ⟨i, j, rfl, rfl, h⟩
theorem i_mulL (h1 : -(2 ^ 64) < i ∧ i < 2 ^ 64) (h : Q (.int (i * j)) H) : uMul (.int i) (.int j) H Q := .inr (.inl ⟨i, j, rfl, rfl, .inl h1, h⟩)
theorem i_mulR (h1 : -(2 ^ 64) < j ∧ j < 2 ^ 64) (h : Q (.int (i * j)) H) : uMul (.int i) (.int j) H Q := .inr (.inl ⟨i, j, rfl, rfl, .inr h1, h⟩)
theorem i_div (h1 : CDivW i j) (h : Q (.int (i / j)) H) : uDiv (.int i) (.int j) H Q := ⟨i, j, rfl, rfl, h1, h⟩
theorem div_ok (h0 : 0 < j) (h1 : j < 2 ^ 64) : CDivW i j := wide_div (b := 64) h0 (by omega) (by decide) (by decide)
theorem i_mod (h1 : 0 < j) (h : Q (.int (i % j)) H) : uMod (.int i) (.int j) H Q := ⟨i, j, rfl, rfl, h1, h⟩
theorem i_pow (h1 : CPow i j) (h : Q (.int (i ^ j.toNat)) H) : uPow (.int i) (.int j) H Q := ⟨i, j, rfl, rfl, h1, h⟩
theorem i_band (h : Q (.int (Builtin.bitAnd i j)) H) : uAnd (.int i) (.int j) H Q := ⟨i, j, rfl, rfl, h⟩
theorem i_bor (h : Q (.int (Builtin.bitOr i j)) H) : uOr (.int i) (.int j) H Q := ⟨i, j, rfl, rfl, h⟩
theorem i_neg (h : Q (.int (-i)) H) : uNeg (.int i) H Q := ⟨i, rfl, h⟩
theorem i_lt (h : Q (.bl (decide (i < j))) H) : uLt (.int i) (.int j) H Q := ⟨i, j, rfl, rfl, h⟩
theorem i_le (h : Q (.bl (decide (i ≤ j))) H) : uLe (.int i) (.int j) H Q := ⟨i, j, rfl, rfl, h⟩
theorem i_gt (h : Q (.bl (decide (j < i))) H) : uGt (.int i) (.int j) H Q := ⟨i, j, rfl, rfl, h⟩
theorem i_ge (h : Q (.bl (decide (j ≤ i))) H) : uGe (.int i) (.int j) H Q := ⟨i, j, rfl, rfl, h⟩
theorem dec_VI : decide (V.int i = V.int j) = decide (i = j) := by rw [Bool.eq_iff_iff]; simp
theorem dec_VS : decide (V.str z = V.str s) = decide (z = s) := by rw [Bool.eq_iff_iff]; simp
theorem i_eqI (h : Q (.bl (decide (i = j))) H) : uEq K (.int i) (.int j) H Q := .inl ⟨rfl, by rw [dec_VI]; exact h⟩
theorem i_neI (h : Q (.bl (!decide (i = j))) H) : uNe K (.int i) (.int j) H Q := .inl ⟨rfl, by rw [dec_VI]; exact h⟩
theorem i_eqS (h : Q (.bl (decide (z = s))) H) : uEq K (.str z) (.str s) H Q := .inl ⟨rfl, by rw [dec_VS]; exact h⟩
theorem i_neS (h : Q (.bl (!decide (z = s))) H) : uNe K (.str z) (.str s) H Q := .inl ⟨rfl, by rw [dec_VS]; exact h⟩
theorem i_eqIS (h : Q (.bl false) H) : uEq K (.int i) (.str s) H Q := .inl ⟨rfl, by rw [decide_eq_false (fun z => nomatch z)]; exact h⟩
theorem i_neIS (h : Q (.bl true) H) : uNe K (.int i) (.str s) H Q := .inl ⟨rfl, by rw [decide_eq_false (fun z => nomatch z)]; exact h⟩
theorem i_eqIN (h : Q (.bl false) H) : uEq K (.int i) .non H Q := .inl ⟨rfl, by rw [decide_eq_false (fun z => nomatch z)]; exact h⟩
theorem i_neIN (h : Q (.bl true) H) : uNe K (.int i) .non H Q := .inl ⟨rfl, by rw [decide_eq_false (fun z => nomatch z)]; exact h⟩
theorem i_eqNI (h : Q (.bl false) H) : uEq K .non (.int i) H Q := .inl ⟨rfl, by rw [decide_eq_false (fun z => nomatch z)]; exact h⟩
theorem i_neNI (h : Q (.bl true) H) : uNe K .non (.int i) H Q := .inl ⟨rfl, by rw [decide_eq_false (fun z => nomatch z)]; exact h⟩
theorem i_neNN (h : Q (.bl false) H) : uNe K .non .non H Q := .inl ⟨rfl, by rw [decide_eq_true rfl]; exact h⟩
theorem i_isN (h : Q (.bl (decide (x = .non))) H) : uIs x .non H Q := .inl ⟨rfl, h⟩
theorem i_notN (h : Q (.bl (!decide (x = .non))) H) : uIsNot x .non H Q := .inl ⟨rfl, h⟩
theorem i_isB {b2 : Bool} (h : Q (.bl (decide (b = b2))) H) : uIs (.bl b) (.bl b2) H Q := .inr ⟨b, b2, rfl, rfl, h⟩
theorem i_notB {b2 : Bool} (h : Q (.bl (!decide (b = b2))) H) : uIsNot (.bl b) (.bl b2) H Q := .inr ⟨b, b2, rfl, rfl, h⟩
theorem i_max2 (h : Q (.int (if j > i then j else i)) H) : uMax K [.int i, .int j] H Q := .inl ⟨i, j, rfl, h⟩
theorem i_min2 (h : Q (.int (if j < i then j else i)) H) : uMin K [.int i, .int j] H Q := .inl ⟨i, j, rfl, h⟩
theorem i_sumL {ns : List Int} (hs : SqL K H a (ns.map V.int)) (h : Q (.int ns.sum) H) : uSum K [.ref a] H Q := ⟨a, ns, rfl, hs, h⟩
theorem i_intI (h : Q (.int i) H) : uInt [.int i] H Q := .inl (.inl ⟨i, rfl, h⟩)
theorem i_intB (h : Q (.int (if b then 1 else 0)) H) : uInt [.bl b] H Q := .inl (.inr ⟨b, rfl, h⟩)
theorem i_abs (h : Q (.int (if i < 0 then -i else i)) H) : uAbs [.int i] H Q := ⟨i, rfl, h⟩
theorem i_lenL (hs : SqL K H a xs) (h : Q (.int xs.length) H) : uLen K [.ref a] H Q := ⟨_, xs.length, rfl, .inl ⟨xs, hs, rfl⟩, h⟩
theorem i_lenS (hz : s.length ≤ sizeLine) (h : Q (.int s.length) H) : uLen K [.str s] H Q := ⟨_, s.length, rfl, ⟨hz, rfl⟩, h⟩
theorem i_ixL (hs : SqL K H a xs) (ha : atI xs i = some v) (h : Q v H) : uIx K (.ref a) (.int i) H Q := .inl ⟨a, xs, i, v, rfl, rfl, hs, ha, h⟩
theorem i_ixT (hs : SqT K H a xs) (ha : atI xs i = some v) (h : Q v H) : uIx K (.ref a) (.int i) H Q := .inr (.inl ⟨a, xs, i, v, rfl, rfl, hs, ha, h⟩)
theorem i_slL {lo hi : Option Int} (hs : SqL K H a xs) (h : ∀ p, H p = none → Q (.ref p) (upd H p (.lst (cutV xs lo hi)))) : uSl K (.ref a) lo hi H Q := .inl ⟨a, xs, rfl, hs, h⟩
theorem i_inL (hs : SqL K H a xs) (hx : flatV x = true) (hf : xs.all flatV = true) (h : Q (.bl (inV x xs)) H) : uIn K x (.ref a) H Q := ⟨a, xs, rfl, .inl hs, hx, hf, h⟩
theorem i_gsub {to ti : TE} {ts : TSet} {R : L2.St → Hp → Prop} (h : to σ H fun o H1 => ti σ H1 fun i H2 => ts o i v H2 fun H3 => R σ H3) : gSub to ti ts v σ H R := h
theorem i_app (hs : H a = some (.lst xs)) (hz : xs.length < sizeLine) (h : Q .non (upd H a (.lst (xs ++ [v])))) : rAppend (.ref a) [v] H Q := ⟨a, xs, v, rfl, rfl, hs, hz, h⟩
/-! isinstance of what is no object -/
theorem i_isiII (h : Q (.bl true) H) : uIsi K [.int i, .ty "int"] H Q := ⟨_, _, _, _, true, rfl, .ty _, .base (.int i), kit_ty (by decide +kernel), h⟩
theorem i_isiIB (h : Q (.bl false) H) : uIsi K [.int i, .ty "bool"] H Q := ⟨_, _, _, _, false, rfl, .ty _, .base (.int i), kit_ty (by decide +kernel), h⟩
theorem i_isiIS (h : Q (.bl false) H) : uIsi K [.int i, .ty "str"] H Q := ⟨_, _, _, _, false, rfl, .ty _, .base (.int i), kit_ty (by decide +kernel), h⟩
theorem i_isiIL (h : Q (.bl false) H) : uIsi K [.int i, .ty "list"] H Q := ⟨_, _, _, _, false, rfl, .ty _, .base (.int i), kit_ty (by decide +kernel), h⟩
theorem i_isiSI (h : Q (.bl false) H) : uIsi K [.str s, .ty "int"] H Q := ⟨_, _, _, _, false, rfl, .ty _, .base (.str s), kit_ty (by decide +kernel), h⟩
theorem i_isiSB (h : Q (.bl false) H) : uIsi K [.str s, .ty "bool"] H Q := ⟨_, _, _, _, false, rfl, .ty _, .base (.str s), kit_ty (by decide +kernel), h⟩
theorem i_isiSS (h : Q (.bl true) H) : uIsi K [.str s, .ty "str"] H Q := ⟨_, _, _, _, true, rfl, .ty _, .base (.str s), kit_ty (by decide +kernel), h⟩
theorem i_isiSL (h : Q (.bl false) H) : uIsi K [.str s, .ty "list"] H Q := ⟨_, _, _, _, false, rfl, .ty _, .base (.str s), kit_ty (by decide +kernel), h⟩
theorem i_isiBI (h : Q (.bl true) H) : uIsi K [.bl b, .ty "int"] H Q := ⟨_, _, _, _, true, rfl, .ty _, .base (.bl b), kit_ty (by decide +kernel), h⟩
theorem i_isiBB (h : Q (.bl true) H) : uIsi K [.bl b, .ty "bool"] H Q := ⟨_, _, _, _, true, rfl, .ty _, .base (.bl b), kit_ty (by decide +kernel), h⟩
theorem i_isiBS (h : Q (.bl false) H) : uIsi K [.bl b, .ty "str"] H Q := ⟨_, _, _, _, false, rfl, .ty _, .base (.bl b), kit_ty (by decide +kernel), h⟩
theorem i_isiNI (h : Q (.bl false) H) : uIsi K [.non, .ty "int"] H Q := ⟨_, _, _, _, false, rfl, .ty _, .base .non, kit_ty (by decide +kernel), h⟩
theorem i_isiNB (h : Q (.bl false) H) : uIsi K [.non, .ty "bool"] H Q := ⟨_, _, _, _, false, rfl, .ty _, .base .non, kit_ty (by decide +kernel), h⟩
theorem i_isiLL (e : H a = some (.lst xs)) (h : Q (.bl true) H) : uIsi K [.ref a, .ty "list"] H Q := ⟨_, _, _, _, true, rfl, .ty _, .base (.lst e), kit_ty (by decide +kernel), h⟩
/-! a test that changes nothing, its answer known -/
/-! ways -/
theorem i_ite {d A B : Prop} [Decidable d] (h1 : d → A) (h2 : ¬ d → B) : if decide d = true then A else B := by
  by_cases h : d
  · rw [if_pos (decide_eq_true h)]; exact h1 h
  · rw [if_neg (by simp [h])]; exact h2 h
theorem i_T {d : Bool} {A B : Prop} (hd : d = true) (h : A) : if d = true then A else B := by rw [if_pos hd]; exact h
theorem i_F {d : Bool} {A B : Prop} (hd : d = false) (h : B) : if d = true then A else B := by rw [if_neg (by simp [hd])]; exact h
end
/-! ### heaps -/
theorem same_new {H : Hp} {p : Addr} {o : HO} (h : H p = none) : Same H (upd H p o) := fun b x e => by
  rw [upd_ne (ne_of_none e h)]
  exact e
/-- what was known at H0 stays, though an object that H0 did not know is turned -/
theorem same_mut {H0 H : Hp} {p : Addr} {o : HO} (s : Same H0 H) (h : H0 p = none) : Same H0 (upd H p o) := fun b x e => by
  rw [upd_ne (ne_of_none e h)]
  exact s b x e
theorem sq_of {K : Fg} {H : Hp} {a : Addr} {xs : List V} (h : H a = some (.lst xs)) : SqL K H a xs := .inl (.inl h)
theorem st_of {K : Fg} {H : Hp} {a : Addr} {xs : List V} (h : H a = some (.tup xs)) : SqT K H a xs := .inl (.inl h)
theorem at_nat {xs : List V} {n : Nat} {v : V} {i : Int} (e : i = (n : Int)) (h : xs[n]? = some v) : atI xs i = some v := by
  rw [e]; exact atI_nat h
theorem sz_le {n : Nat} (h : n ≤ 1000000) : n ≤ sizeLine := Nat.le_trans h (by decide)
theorem sz_lt {n : Nat} (h : n < 1000000) : n < sizeLine := Nat.lt_of_lt_of_le h (by decide)
/-- what stands outside a region is kept -/
def Keep (R : Addr → Prop) (H H' : Hp) : Prop := ∀ a o, ¬ R a → H a = some o → H' a = some o
theorem Keep.refl (R : Addr → Prop) (H : Hp) : Keep R H H := fun _ _ _ h => h
theorem Keep.trans {R : Addr → Prop} {H H1 H2 : Hp} (a : Keep R H H1) (b : Keep R H1 H2) : Keep R H H2 := fun x o n h => b x o n (a x o n h)
/-! ### loops -/
def LoopK (J : It) (g : TG) (tb : TS) (D : Ends) (σ : L2.St) (H : Hp) : Prop := ∃ W : Nat → Nat → L2.St → Hp → Prop, (∃ m, W 0 m σ H) ∧ ∀ i m σ H, W i m σ H →
  (J.stop i H ∧ D.nx σ H) ∨ (J.go i H ∧ ∃ N : L2.St → Hp → Prop, (∀ σ' H', N σ' H' → ∃ m', m' < m ∧ W (i + 1) m' σ' H') ∧ ∀ x H', J.yld i H x H' → g x σ H' fun σ2 H2 => tb { D with nx := N, ct := N, bk := D.nx } σ2 H2)
def LcK (J : It) (g : TG) (tt : TT) (te : TE) (vs : List Nat) (σ : L2.St) (H1 : Hp) (Q : VK) : Prop := ∀ D, H1 D = none → ∃ W : Nat → Nat → Hp → Prop, (∃ m, W 0 m (upd H1 D (.lst []))) ∧ ∀ i m H, W i m H →
  (J.stop i H ∧ Q (.ref D) H) ∨ (J.go i H ∧ ∃ Nx : Hp → Prop, (∀ H', Nx H' → ∃ m', m' < m ∧ W (i + 1) m' H') ∧ ∀ x H', J.yld i H x H' → g x (wipe σ vs) H' fun σ2 H2 => wipe σ2 vs = wipe σ vs ∧ tt σ2 H2 fun b H3 =>
    if b = true then te σ2 H3 fun y H4 => ∃ acc, H4 D = some (.lst acc) ∧ acc.length < sizeLine ∧ Nx (upd H4 D (.lst (acc ++ [y]))) else Nx H3)
def RngA1 (vs : List V) (H : Hp) (R : It → Hp → Prop) : Prop := ∃ j : Int, vs = [.int j] ∧ -(2 ^ 62) ≤ j ∧ j < 2 ^ 62 ∧ R (Itr 0 j.toNat) H
def RngA2 (vs : List V) (H : Hp) (R : It → Hp → Prop) : Prop := ∃ i j : Int, vs = [.int i, .int j] ∧ (-(2 ^ 62) ≤ i ∧ i < 2 ^ 62 ∧ -(2 ^ 62) ≤ j ∧ j < 2 ^ 62) ∧ R (Itr i (j - i).toNat) H
def RngA3 (vs : List V) (H : Hp) (R : It → Hp → Prop) : Prop := ∃ (i j c : Int) (n : Nat), vs = [.int i, .int j, .int c] ∧ RgC i j c n ∧ R (Itc i c n) H
def LstA (K : Fg) (x : V) (H : Hp) (R : It → Hp → Prop) : Prop := ∃ a, x = .ref a ∧ (∃ xs, SqL K H a xs) ∧ R (Itl K a) H
def TupA (K : Fg) (x : V) (H : Hp) (R : It → Hp → Prop) : Prop := ∃ a, x = .ref a ∧ (∃ xs, SqT K H a xs) ∧ R (Itt K a) H
def EnumA (K : Fg) (vs : List V) (H : Hp) (R : It → Hp → Prop) : Prop := ∃ a xs, vs = [.ref a] ∧ SqL K H a xs ∧ R (Ite K a) H
def ZipA (K : Fg) (vs : List V) (H : Hp) (R : It → Hp → Prop) : Prop := ∃ a b xs ys, vs = [.ref a, .ref b] ∧ SqL K H a xs ∧ SqL K H b ys ∧ R (Itz K a b) H
def StrA (v : V) (H : Hp) (R : It → Hp → Prop) : Prop := ∃ x, v = .str x ∧ R (Its x) H
section
variable {K : Fg} {D : Ends} {σ : L2.St} {H : Hp} {tb : TS} {te : TE} {ta : TA} {c tt : TT} {g : TG} {Q : VK} {wi : TI} {R : It → Hp → Prop} {J : It} {vs : List Nat} {i j lo : Int} {n : Nat} {a b : Addr} {xs ys : List V} {z : Str}
theorem i_for (h : wi σ H fun J H1 => LoopK J g tb D σ H1) : tFor wi g tb D σ H := h
theorem i_lc (h : wi σ H fun J H1 => LcK J g tt te vs σ H1 Q) : tLc wi g tt te vs σ H Q := h
theorem i_rng1 (h : ta σ H fun vs H1 => RngA1 vs H1 R) : iRng1 ta σ H R := h
theorem i_rng2 (h : ta σ H fun vs H1 => RngA2 vs H1 R) : iRng2 ta σ H R := h
theorem i_rng3 (h : ta σ H fun vs H1 => RngA3 vs H1 R) : iRng3 ta σ H R := h
theorem i_list (h : te σ H fun x H1 => LstA K x H1 R) : iList K te σ H R := h
theorem i_tupl (h : te σ H fun x H1 => TupA K x H1 R) : iTup K te σ H R := h
theorem i_enum (h : ta σ H fun vs H1 => EnumA K vs H1 R) : iEnum K ta σ H R := h
theorem i_zip (h : ta σ H fun vs H1 => ZipA K vs H1 R) : iZip K ta σ H R := h
theorem i_str (h : te σ H fun x H1 => StrA x H1 R) : iStr te σ H R := h
theorem i_rngA1 (h : -(2 ^ 62) ≤ j ∧ j < 2 ^ 62) (k : R (Itr 0 j.toNat) H) : RngA1 [.int j] H R := ⟨j, rfl, h.1, h.2, k⟩
theorem i_lstA (h : SqL K H a xs) (k : R (Itl K a) H) : LstA K (.ref a) H R := ⟨a, rfl, ⟨xs, h⟩, k⟩
theorem i_enumA (h : SqL K H a xs) (k : R (Ite K a) H) : EnumA K [.ref a] H R := ⟨a, xs, rfl, h, k⟩
theorem i_strA (k : R (Its z) H) : StrA (.str z) H R := ⟨z, rfl, k⟩
theorem lk_range (Pv : Nat → L2.St → Hp → Prop) (h0 : Pv 0 σ H)
    (hs : ∀ i σ H, i < n → Pv i σ H → g (.int (lo + i)) σ H fun σ2 H2 => tb { D with nx := Pv (i + 1), ct := Pv (i + 1), bk := D.nx } σ2 H2) (hd : ∀ σ H, Pv n σ H → D.nx σ H) : LoopK (Itr lo n) g tb D σ H := for_range Pv h0 hs hd
def TurnK (W : Nat → L2.St → Hp → Prop) (m : Nat) (tb : TS) (D : Ends) (σ : L2.St) (H : Hp) : Prop := ∃ N : L2.St → Hp → Prop, (∀ σ' H', N σ' H' → ∃ m', m' < m ∧ W m' σ' H') ∧ tb { D with nx := N, ct := N, bk := D.nx } σ H
theorem i_turn {W : Nat → L2.St → Hp → Prop} {m : Nat} (h : tb { D with nx := fun σ2 H2 => ∃ m', m' < m ∧ W m' σ2 H2, ct := fun σ2 H2 => ∃ m', m' < m ∧ W m' σ2 H2, bk := D.nx } σ H) : TurnK W m tb D σ H := ⟨_, fun _ _ z => z, h⟩
theorem i_while (W : Nat → L2.St → Hp → Prop) (m0 : Nat) (h0 : W m0 σ H)
    (hs : ∀ m σ' H', W m σ' H' → c σ' H' fun b H1 => if b = true then TurnK W m tb D σ' H1 else D.nx σ' H1) : tWhile c tb D σ H := ⟨W, ⟨m0, h0⟩, hs⟩
/-- a comprehension -/
theorem lck {G : Hp → Prop} {Y : Nat → Hp → V → Hp → Prop} (w : Walk J n G Y) (Pv : Addr → Nat → Hp → Prop) (h0 : ∀ D, H D = none → Pv D 0 (upd H D (.lst []))) (hG : ∀ D i H, i ≤ n → Pv D i H → G H)
    (hs : ∀ D i x H H', i < n → Pv D i H → Y i H x H' → g x (wipe σ vs) H' fun σ2 H2 => wipe σ2 vs = wipe σ vs ∧ tt σ2 H2 fun b H3 =>
      if b = true then te σ2 H3 fun y H4 => ∃ acc, H4 D = some (.lst acc) ∧ acc.length < sizeLine ∧ Pv D (i + 1) (upd H4 D (.lst (acc ++ [y]))) else Pv D (i + 1) H3) (hd : ∀ D H', H D = none → Pv D n H' → Q (.ref D) H') : LcK J g tt te vs σ H Q :=
  fun D hD => lc_it w (Pv D) (h0 D hD) (hG D) (hs D) (fun H' p => hd D H' hD p)
/-- one that changes nothing: which turns give, and what -/
def given (f : Nat → Option V) : Nat → List V
  | 0 => []
  | n + 1 => given f n ++ (match f n with | some y => [y] | none => [])
theorem given_len (f : Nat → Option V) : ∀ n, (given f n).length ≤ n
  | 0 => Nat.le_refl _
  | n + 1 => by
    have h := given_len f n
    unfold given
    rw [List.length_append]
    cases f n <;> simp <;> omega
theorem lck_pure {G : Hp → Prop} {Y : Nat → Hp → V → Hp → Prop} (w : Walk J n G Y) (hn : n ≤ 100000) (f : Nat → Option V) (hG : ∀ H', Same H H' → G H')
    (turn : ∀ i x H1 H2 (KK : V → Hp → Prop) (NN : Hp → Prop), i < n → Same H H1 → Y i H1 x H2 → (∀ y H4, f i = some y → Same H1 H4 → KK y H4) → (∀ H3, f i = none → Same H1 H3 → NN H3) →
      g x (wipe σ vs) H2 fun σ2 H2 => wipe σ2 vs = wipe σ vs ∧ tt σ2 H2 fun b H3 => if b = true then te σ2 H3 KK else NN H3)
    (fin : ∀ p H', H p = none → Same H H' → H' p = some (.lst (given f n)) → Q (.ref p) H') : LcK J g tt te vs σ H Q := by
  refine lck w (fun D i H' => H D = none ∧ Same H H' ∧ H' D = some (.lst (given f i))) (fun D hD => ⟨hD, same_new hD, upd_same⟩) (fun D i H' _ p => hG H' p.2.1) (fun D i x H1 H2 hi p y => ?_) (fun D H' hD p => fin D H' hD p.2.1 p.2.2)
  obtain ⟨p0, p1, p2⟩ := p
  refine turn i x H1 H2 _ _ hi p1 y (fun y H4 hf s4 => ?_) (fun H3 hf s3 => ?_)
  · refine ⟨given f i, s4 _ _ p2, sz_lt (by have := given_len f i; omega), p0, same_mut (p1.trans s4) p0, ?_⟩
    rw [upd_same]
    show some (HO.lst (given f i ++ [y])) = some (HO.lst (given f i ++ (match f i with | some y => [y] | none => [])))
    rw [hf]
  · refine ⟨p0, p1.trans s3, ?_⟩
    rw [s3 _ _ p2]
    show some (HO.lst (given f i)) = some (HO.lst (given f i ++ (match f i with | some y => [y] | none => [])))
    rw [hf, List.append_nil]
end
/-- where classes stand -/
def cAt (l : List (String × Addr)) (n : String) : Addr := (l.lookup n).getD 0
/-! ### attributes of one's own objects -/
def tFl (C : Addr) (ta : TE) (f : Str) : TE := fun σ H Q => ta σ H fun x H1 => ∃ p dx fs v, x = .ref p ∧ H1 p = some (.ins C dx fs) ∧ fs.lookup f = some v ∧ Q v H1
def tFls (C : Addr) (ta tv : TE) (f : Str) : TS := fun D σ H => tv σ H fun y H1 => ta σ H1 fun x H2 => ∃ p dx fs, x = .ref p ∧ H2 p = some (.ins C dx fs) ∧ fs.length < 1000 ∧ D.nx σ (upd H2 p (.ins C dx (putF f y fs)))
/-! ### making, and methods, that let nothing out -/
section
variable {K : Fg} {D : Ends} {σ : L2.St} {H : Hp} {ta tv : TE} {Q : VK} {C p dx : Addr} {f : Str} {fs : List (Str × V)} {v y : V} {ys : List V}
def FlA (C : Addr) (f : Str) (x : V) (H : Hp) (Q : VK) : Prop := ∃ p dx fs v, x = .ref p ∧ H p = some (.ins C dx fs) ∧ fs.lookup f = some v ∧ Q v H
theorem i_fl (h : ta σ H fun x H1 => FlA C f x H1 Q) : tFl C ta f σ H Q := h
def FlsA (C : Addr) (f : Str) (y x : V) (H : Hp) (R : Hp → Prop) : Prop := ∃ p dx fs, x = .ref p ∧ H p = some (.ins C dx fs) ∧ fs.length < 1000 ∧ R (upd H p (.ins C dx (putF f y fs)))
theorem i_fls (h : tv σ H fun y H1 => ta σ H1 fun x H2 => FlsA C f y x H2 fun H3 => D.nx σ H3) : tFls C ta tv f D σ H := h
def MkA (C : Addr) (sp : Sp) (E : XK) (vs : List V) (H : Hp) (Q : VK) : Prop := ∀ x dx, H x = none → H dx = none → dx ≠ x → sp (.ref x :: vs) (upd (upd H dx (.own x)) x (.ins C dx [])) (fun v H2 => v = .non ∧ Q (.ref x) H2) E
theorem i_make {sp : Sp} {E : XK} {t : TA} (h : t σ H fun vs H1 => MkA C sp E vs H1 Q) : tMake C sp [] E t σ H Q := by
  have e : (fun vs H1 => MkA C sp E (vs ++ []) H1 Q) = fun vs H1 => MkA C sp E vs H1 Q := by
    funext vs H1
    rw [List.append_nil]
  show t σ H fun vs H1 => MkA C sp E (vs ++ []) H1 Q
  rw [e]
  exact h
def MtA (C : Addr) (m : Str) (x : V) (H : Hp) (R : Hp → Prop) : Prop := ∃ p dx fs, x = .ref p ∧ H p = some (.ins C dx fs) ∧ fs.lookup m = none ∧ R H
theorem i_meth {sp : Sp} {E : XK} {t : TA} {m : Str} (h : ta σ H fun x H1 => MtA C m x H1 fun H1 => t σ H1 fun vs H2 => sp (x :: vs) H2 Q E) : tMeth C m sp [] E ta t σ H Q := by
  have e : (fun x H1 => MtA C m x H1 fun H1 => t σ H1 fun vs H2 => sp (x :: (vs ++ [])) H2 Q E) = fun x H1 => MtA C m x H1 fun H1 => t σ H1 fun vs H2 => sp (x :: vs) H2 Q E := by
    funext x H1
    simp only [List.append_nil]
  show ta σ H fun x H1 => MtA C m x H1 fun H1 => t σ H1 fun vs H2 => sp (x :: (vs ++ [])) H2 Q E
  rw [e]
  exact h
end
/-! ### lists of ints in order -/
/-! ### sorted(..) of lists of ints -/
abbrev Rw := Addr × List Int
/-! ### in, of lists in lists -/
/-! ### sorted(set(..)) of a list of ints -/
/-! ### len(set(..)) of a list of ints -/
/-! ### xs[2::2] -/
def ev2 (xs : List V) : List V := (List.range ((xs.length - 1) / 2)).filterMap fun i => xs[2 + 2 * i]?
def Sl2A (K : Fg) (x : V) (H1 : Hp) (Q : VK) : Prop := ∃ a xs, x = .ref a ∧ SqL K H1 a xs ∧ ∀ p, H1 p = none → Q (.ref p) (upd H1 p (.lst (ev2 xs)))
def tSl2 (K : Fg) (te : TE) : TE := fun σ H Q => te σ H fun x H1 => Sl2A K x H1 Q
theorem vals_pick {xs : List V} {us : List Value} (h : Vals xs us) : ∀ is : List Nat, Vals (is.filterMap fun i => xs[i]?) (is.filterMap fun i => us[i]?)
  | [] => .nil
  | i :: is => by
    have ih := vals_pick h is
    have hl := h.length
    rw [List.filterMap_cons, List.filterMap_cons]
    by_cases hi : i < xs.length
    · obtain ⟨u, hu, ru⟩ := h.get (List.getElem?_eq_getElem hi)
      rw [List.getElem?_eq_getElem hi, hu]
      exact .cons ru ih
    · rw [List.getElem?_eq_none (by omega), List.getElem?_eq_none (by omega)]
      exact ih
theorem pick2 (us : List Value) : (slicePick us.toArray (some 2) none (some 2)).toList = (List.range ((us.length - 1) / 2)).filterMap fun i => us[2 + 2 * i]? := by
  unfold slicePick
  have e : sliceRange (sliceBounds (some 2) none (some 2) us.toArray.size).1 (sliceBounds (some 2) none (some 2) us.toArray.size).2.1 (sliceBounds (some 2) none (some 2) us.toArray.size).2.2 = (List.range ((us.length - 1) / 2)).map fun i => 2 + 2 * i := by
    have b1 : (sliceBounds (some 2) none (some 2) us.toArray.size).1 = max 0 (min 2 (us.length : Int)) := by
      rw [List.size_toArray]; rfl
    have b2 : (sliceBounds (some 2) none (some 2) us.toArray.size).2.1 = (us.length : Int) := by
      rw [List.size_toArray]; rfl
    have b3 : (sliceBounds (some 2) none (some 2) us.toArray.size).2.2 = 2 := rfl
    rw [b1, b2, b3]
    unfold sliceRange
    simp only [show (2 : Int) > 0 by decide, if_true]
    by_cases h : 2 < us.length
    · rw [if_pos (by omega), show ((us.length : Int) - max 0 (min 2 (us.length : Int)) + 2 - 1) / 2 = (((us.length - 1) / 2 : Nat) : Int) by omega, Int.toNat_natCast]
      refine List.map_congr_left fun k _ => ?_
      omega
    · rw [if_neg (by omega), show (us.length - 1) / 2 = 0 by omega]; rfl
  rw [e, List.filterMap_map]
  have ef : ((fun i => us.toArray[i]?) ∘ fun i => 2 + 2 * i) = fun i => us[2 + 2 * i]? := by
    funext i
    show us.toArray[2 + 2 * i]? = _
    rw [List.getElem?_toArray]
  show (List.filterMap ((fun i => us.toArray[i]?) ∘ fun i => 2 + 2 * i) (List.range ((us.length - 1) / 2))).toArray.toList = _
  rw [ef, List.toList_toArray]
theorem pe_sl2 {X : Cx} {e : Expr} {te : TE} {k k2 : Nat} {p1 p2 p3 pos : Pos} (he : PE X e te) : PE X (.Subscript e (.Slice (some (.Constant (.int 2) k p1)) none (some (.Constant (.int 2) k2 p2)) p3) pos) (tSl2 X.K te) := by
  refine ⟨fun pins s σ H Q I h => ?_⟩
  refine Subscript_ (thn (he.run pins s σ H _ I h) fun v s1 ⟨x, H1, I1, r1, q1⟩ => ?_)
  obtain ⟨a, xs, rfl, hx, q⟩ := q1
  cases r1
  have hlo : PO X (some (.Constant (.int 2) k p1)) (tPart (tC (.int 2))) := po_some pe_int
  have hst : PO X (some (.Constant (.int 2) k2 p2)) (tPart (tC (.int 2))) := po_some pe_int
  refine wpAny_Slice (thn (hlo.run pins s1 σ H1 (fun o H2 => o = some 2 ∧ H2 = H1) I1 ⟨2, rfl, rfl, rfl⟩) fun vl s2 ⟨l, H2, I2, pl, el, e2⟩ => ?_)
  subst el e2
  refine thn (po_none.run pins s2 σ H2 (fun o H3 => o = none ∧ H3 = H2) I2 ⟨rfl, rfl⟩) fun vu s3 ⟨u, H3, I3, pu, eu, e3⟩ => ?_
  subst eu e3
  refine thn (hst.run pins s3 σ H3 (fun o H4 => o = some 2 ∧ H4 = H3) I3 ⟨2, rfl, rfl, rfl⟩) fun vs s4 ⟨o, H4, I4, ps, eo, e4⟩ => ?_
  subst eo e4
  have I5 : Inv X pins σ H4 { s4 with heap := s4.heap.push { cls := .type "slice", data := .fields #[vl, vu, vs] } } := I4.kept (t' := s4.toks) fun b ob q => Heap.get?_push_of_some _ q
  obtain ⟨its, r, ht, hz⟩ := I5.list hx
  have hlen := r.length
  refine tail_any (ops := [.ref a, .ref s4.heap.objs.size]) ht.isList.typeIs (PySem.slot_list_getitem.lookup) ?_ (by with_unfolding_all rfl)
  refine wpAny_getItem_list_slice ht.isList (Heap.IsSliceOf.new _ vl vu vs) pl pu ps (by decide) ?_ (by rw [List.size_toArray]; omega)
  have hv : Vals (ev2 xs) (slicePick its.toArray (some 2) none (some 2)).toList := by
    rw [pick2]
    unfold ev2
    rw [hlen]
    have := vals_pick r ((List.range ((its.length - 1) / 2)).map fun i => 2 + 2 * i)
    rw [List.filterMap_map, List.filterMap_map] at this
    exact this
  have hle : (ev2 xs).length ≤ xs.length := by
    unfold ev2
    refine Nat.le_trans (List.length_filterMap_le _ _) ?_
    rw [List.length_range]; omega
  refine ⟨.ref _, _, I5.laid (t' := s4.toks) (o := .lst (ev2 xs)) (fun b ob q => Heap.get?_push_of_some _ q) (Nat.le_refl _) ?_, rfl, q _ (I5.hok.fresh (Nat.le_refl _))⟩
  exact ⟨Nat.le_trans hle hz, _, 0, hv, by rw [Array.toArray_toList]; exact Heap.get?_push_size _ rfl⟩
/-! ### sorted(ints, reverse=True) -/
def uSortR (K : Fg) : List V → List V → Hp → VK → Prop := rSortedKw K true [.bl true]
theorem k_sortR {X : Cx} : CallRK X (.builtin "sorted") [Str.ofString "reverse"] (uSortR X.K) := cr_sortedRev
/-! ### a sign in a text -/
def uNotInS : R2 := rNotInS
theorem o_notInS {X : Cx} : OpR X (compareOp .NotIn) uNotInS := op_notInS
/-! ### sep.join(texts) -/
def uJoin (K : Fg) : V → List V → Hp → VK → Prop := fun x xs H Q => ∃ a p, ∃ ys : List Str, x = .str a ∧ xs = [.ref p] ∧ (SqL K H p (ys.map V.str) ∨ SqT K H p (ys.map V.str)) ∧ (ys.map (·.length)).sum + ys.length * a.length ≤ 16777216 ∧ Q (.str (Txt.join a ys)) H
def t_is_whole (G : Gx) (E : XK) : TS :=
      (tRet (tAndV (tCB (uIsi G.K) (tCons (tVar 0) (tCons (tC (.ty "int")) tNil))) (tNotV (tCB (uIsi G.K) (tCons (tVar 0) (tCons (tC (.ty "bool")) tNil))))))
def sp_is_whole (G : Gx) : Sp := fun vs H Q E => vs.length = 1 ∧ t_is_whole G E { nx := fun _ H' => Q .non H', rt := Q } (start ["thing"] vs) H
def t_is_kind (G : Gx) (E : XK) : TS :=
      (tSeq (tIfS (tB (tCB (uIsi G.K) (tCons (tVar 0) (tCons (tC (.ty "str")) tNil)))) (tRet (tOp (uEq G.K) (tVar 0) (tC (.str "cubes")))) tNext)
      (tRet (tAndV (tCall (sp_is_whole G) [] E (tCons (tVar 0) tNil)) (tChain uLe uLe (tC (.int 3)) (tVar 0) (tC (.int 12))))))
def sp_is_kind (G : Gx) : Sp := fun vs H Q E => vs.length = 1 ∧ t_is_kind G E { nx := fun _ H' => Q .non H', rt := Q } (start ["thing"] vs) H
def t_are_kinds (G : Gx) (E : XK) : TS :=
      (tSeq (tIfS (tOr (tNot (tB (tCB (uIsi G.K) (tCons (tVar 0) (tCons (tC (.ty "list")) tNil))))) (tNot (tTest (tChain uLe uLe (tC (.int 1)) (tCB (uLen G.K) (tCons (tVar 0) tNil)) (tC (.int 5)))))) (tRet (tC (.bl false))) tNext)
      (tSeq (tIfS (tTest (tOp (uNe G.K) (tLc (iList G.K (tVar 0)) (gName 1) (tNot (tB (tCall (sp_is_kind G) [] E0 (tCons (tVar 1) tNil)))) (tVar 1) [1]) (tLst tNil))) (tRet (tC (.bl false))) tNext)
      (tRet (tOp (uEq G.K) (tLc (iEnum G.K (tCons (tVar 0) tNil)) (gTup G.K 2 (gCons (gName 2) (gCons (gName 1) gNil))) (tTest (tOp (uIn G.K) (tVar 1) (tSl (uSl G.K) (tVar 0) tNoPart (tPart (tVar 2))))) (tVar 2) [2, 1]) (tLst tNil)))))
def sp_are_kinds (G : Gx) : Sp := fun vs H Q E => vs.length = 1 ∧ t_are_kinds G E { nx := fun _ H' => Q .non H', rt := Q } (start ["thing", "kind", "k"] vs) H
def t_show_kinds (G : Gx) (E : XK) : TS :=
      (tSeq (tIfS (tNot (tB (tCall (sp_are_kinds G) [] E (tCons (tVar 0) tNil)))) (tRz E (G.C "NoKinds")) tNext)
      (tRet (tM1 (uJoin G.K) (tC (.str " ")) (tLc (iList G.K (tVar 0)) (gName 1) tYes (tCB uStr (tCons (tVar 1) tNil)) [1]))))
def sp_show_kinds (G : Gx) : Sp := fun vs H Q E => vs.length = 1 ∧ t_show_kinds G E { nx := fun _ H' => Q .non H', rt := Q } (start ["kinds", "kind"] vs) H
def t_is_whole_v2 (G : Gx) (E : XK) : TS :=
      (tRet (tAndV (tCB (uIsi G.K) (tCons (tVar 0) (tCons (tC (.ty "int")) tNil))) (tAndV (tNotV (tCB (uIsi G.K) (tCons (tVar 0) (tCons (tC (.ty "bool")) tNil)))) (tOp uGe (tVar 0) (tC (.int 0))))))
def sp_is_whole_v2 (G : Gx) : Sp := fun vs H Q E => vs.length = 1 ∧ t_is_whole_v2 G E { nx := fun _ H' => Q .non H', rt := Q } (start ["thing"] vs) H
def t_is_written_sum (G : Gx) (E : XK) : TS :=
      (tSeq (tIfS (tOr (tNot (tB (tCall (sp_is_whole_v2 G) [] E (tCons (tVar 0) tNil)))) (tOr (tTest (tOp uGt (tVar 0) (tC (.int 200)))) (tNot (tB (tCB (uIsi G.K) (tCons (tVar 1) (tCons (tC (.ty "list")) tNil))))))) (tRet (tC (.bl false))) tNext)
      (tSeq (tIfS (tTest (tOp (uNe G.K) (tLc (iList G.K (tVar 1)) (gName 2) (tOr (tNot (tB (tCall (sp_is_whole_v2 G) [] E0 (tCons (tVar 2) tNil)))) (tTest (tOp (uEq G.K) (tVar 2) (tC (.int 0))))) (tVar 2) [2]) (tLst tNil))) (tRet (tC (.bl false))) tNext)
      (tRet (tAndV (tOp (uEq G.K) (tCB (uSum G.K) (tCons (tVar 1) tNil)) (tVar 0)) (tOp (uEq G.K) (tVar 1) (tCKw (uSortR G.K) (tCons (tVar 1) tNil) (tCons (tC (.bl true)) tNil)))))))
def sp_is_written_sum (G : Gx) : Sp := fun vs H Q E => vs.length = 2 ∧ t_is_written_sum G E { nx := fun _ H' => Q .non H', rt := Q } (start ["n", "parts", "part"] vs) H
def t_sum_text (G : Gx) (E : XK) : TS :=
      (tSeq (tIfS (tTest (tOp (uEq G.K) (tVar 1) (tLst tNil))) (tRet (tOp uAdd (tCB uStr (tCons (tVar 0) tNil)) (tC (.str " =")))) tNext)
      (tRet (tOp uAdd (tOp uAdd (tCB uStr (tCons (tVar 0) tNil)) (tC (.str " = "))) (tM1 (uJoin G.K) (tC (.str " + ")) (tLc (iList G.K (tVar 1)) (gName 2) tYes (tCB uStr (tCons (tVar 2) tNil)) [2])))))
def sp_sum_text (G : Gx) : Sp := fun vs H Q E => vs.length = 2 ∧ t_sum_text G E { nx := fun _ H' => Q .non H', rt := Q } (start ["n", "parts", "part"] vs) H
def t_show_sum (G : Gx) (E : XK) : TS :=
      (tSeq (tIfS (tNot (tB (tCall (sp_is_written_sum G) [] E (tCons (tVar 0) (tCons (tVar 1) tNil))))) (tRz E (G.C "NoSum")) tNext)
      (tRet (tCall (sp_sum_text G) [] E (tCons (tVar 0) (tCons (tVar 1) tNil)))))
def sp_show_sum (G : Gx) : Sp := fun vs H Q E => vs.length = 2 ∧ t_show_sum G E { nx := fun _ H' => Q .non H', rt := Q } (start ["n", "parts"] vs) H
def t_read_figures_v2 (G : Gx) (E : XK) : TS :=
      (tSeq (tIfS (tOr (tNot (tTest (tChain uLe uLe (tC (.int 1)) (tCB (uLen G.K) (tCons (tVar 0) tNil)) (tC (.int 9))))) (tTest (tOp (uNe G.K) (tLc (iStr (tVar 0)) (gName 1) (tTest (tOp uNotInS (tVar 1) (tC (.str "0123456789")))) (tVar 1) [1]) (tLst tNil)))) (tRz E (G.C "NoText")) tNext)
      (tRet (tCB uInt (tCons (tVar 0) tNil))))
def sp_read_figures_v2 (G : Gx) : Sp := fun vs H Q E => vs.length = 1 ∧ t_read_figures_v2 G E { nx := fun _ H' => Q .non H', rt := Q } (start ["word", "sign"] vs) H
def t_read_kind_v2 (G : Gx) (E : XK) : TS :=
      (tSeq (tIfS (tTest (tOp (uEq G.K) (tVar 0) (tC (.str "cubes")))) (tRet (tVar 0)) tNext)
      (tRet (tCall (sp_read_figures_v2 G) [] E (tCons (tVar 0) tNil))))
def sp_read_kind_v2 (G : Gx) : Sp := fun vs H Q E => vs.length = 1 ∧ t_read_kind_v2 G E { nx := fun _ H' => Q .non H', rt := Q } (start ["word"] vs) H
def t_read_kinds (G : Gx) (E : XK) : TS :=
      (tSeq (tIfS (tNot (tB (tCB (uIsi G.K) (tCons (tVar 0) (tCons (tC (.ty "str")) tNil))))) (tRz E (G.C "NoText")) tNext)
      (tSeq (tAsg (tLc (iList G.K (tM1 rSplitAny (tVar 0) (tC (.str " ")))) (gName 2) tYes (tCall (sp_read_kind_v2 G) [] E0 (tCons (tVar 2) tNil)) [2]) (gName 1))
      (tSeq (tIfS (tOr (tNot (tB (tCall (sp_are_kinds G) [] E (tCons (tVar 1) tNil)))) (tTest (tOp (uNe G.K) (tCall (sp_show_kinds G) [] E (tCons (tVar 1) tNil)) (tVar 0)))) (tRz E (G.C "NoText")) tNext)
      (tRet (tVar 1)))))
def sp_read_kinds (G : Gx) : Sp := fun vs H Q E => vs.length = 1 ∧ t_read_kinds G E { nx := fun _ H' => Q .non H', rt := Q } (start ["text", "kinds", "word"] vs) H
def t_read_sum (G : Gx) (E : XK) : TS :=
      (tSeq (tIfS (tNot (tB (tCB (uIsi G.K) (tCons (tVar 0) (tCons (tC (.ty "str")) tNil))))) (tRz E (G.C "NoText")) tNext)
      (tSeq (tAsg (tM1 rSplitAny (tVar 0) (tC (.str " "))) (gName 1))
      (tSeq (tAsg (tCall (sp_read_figures_v2 G) [] E (tCons (tOp (uIx G.K) (tVar 1) (tC (.int 0))) tNil)) (gName 2))
      (tSeq (tAsg (tLc (iList G.K (tSl2 G.K (tVar 1))) (gName 4) tYes (tCall (sp_read_figures_v2 G) [] E0 (tCons (tVar 4) tNil)) [4]) (gName 3))
      (tSeq (tIfS (tOr (tNot (tB (tCall (sp_is_written_sum G) [] E (tCons (tVar 2) (tCons (tVar 3) tNil))))) (tTest (tOp (uNe G.K) (tCall (sp_sum_text G) [] E (tCons (tVar 2) (tCons (tVar 3) tNil))) (tVar 0)))) (tRz E (G.C "NoText")) tNext)
      (tRet (tTup (tCons (tVar 2) (tCons (tVar 3) tNil)))))))))
def sp_read_sum (G : Gx) : Sp := fun vs H Q E => vs.length = 1 ∧ t_read_sum G E { nx := fun _ H' => Q .non H', rt := Q } (start ["text", "words", "n", "parts", "word"] vs) H
def t_law_cell_v2 (G : Gx) (E : XK) : TS :=
      (tSeq (tIfS (tTest (tOp uLt (tVar 1) (tCB (uLen G.K) (tCons (tVar 0) tNil)))) (tRet (tOp (uIx G.K) (tVar 0) (tVar 1))) tNext)
      (tRet (tOp uAdd (tOp uAdd (tOp uMul (tOp uMul (tC (.int 107)) (tVar 1)) (tVar 1)) (tOp uMul (tC (.int 89)) (tVar 1))) (tC (.int 22)))))
def sp_law_cell_v2 (G : Gx) : Sp := fun vs H Q E => vs.length = 2 ∧ t_law_cell_v2 G E { nx := fun _ H' => Q .non H', rt := Q } (start ["script", "k"] vs) H
def t_law_mixed (G : Gx) (E : XK) : TS :=
      (tSeq (tAsg (tOp uMod (tOp uAdd (tOp uAdd (tOp uAdd (tOp uMul (tVar 0) (tC (.int 48271))) (tOp uMul (tOp uMul (tC (.int 7919)) (tVar 1)) (tVar 1))) (tOp uMul (tC (.int 104729)) (tVar 1))) (tC (.int 11))) (tC (.int 2147483647))) (gName 2))
      (tSeq (tAsg (tLst (tCons (tC (.int 2147483629)) (tCons (tC (.int 2147483587)) (tCons (tC (.int 2147483579)) (tCons (tC (.int 2147483563)) (tCons (tC (.int 2147483549)) (tCons (tC (.int 2147483543)) (tCons (tC (.int 2147483497)) tNil)))))))) (gName 3))
      (tSeq (tAsg (tOp uMod (tOp uMul (tVar 2) (tVar 2)) (tOp (uIx G.K) (tVar 3) (tOp uMod (tVar 1) (tC (.int 7))))) (gName 2))
      (tRet (tOp uDiv (tOp uAdd (tOp uMul (tVar 2) (tC (.int 16811))) (tOp uMod (tVar 0) (tC (.int 5)))) (tC (.int 8)))))))
def sp_law_mixed (G : Gx) : Sp := fun vs H Q E => vs.length = 2 ∧ t_law_mixed G E { nx := fun _ H' => Q .non H', rt := Q } (start ["cell", "k", "number", "some"] vs) H
def t_law_kinds_v3 (G : Gx) (E : XK) : TS :=
      (tSeq (tAsg (tOp uAdd (tLstRg (tRg2 (tC (.int 3)) (tC (.int 13)))) (tLst (tCons (tC (.str "cubes")) tNil))) (gName 1))
      (tSeq (tAsg (tLst tNil) (gName 2))
      (tSeq (tFor (iRng1 (tCons (tOp uAdd (tC (.int 1)) (tOp uMod (tVar 0) (tC (.int 5)))) tNil)) (gName 3) (tDrop (tBM G.K "list" rAppend (tVar 2) (tCons (tBM G.K "list" rPopAt (tVar 1) (tCons (tOp uMod (tCall (sp_law_mixed G) [] E (tCons (tVar 0) (tCons (tVar 3) tNil))) (tCB (uLen G.K) (tCons (tVar 1) tNil))) tNil)) tNil))))
      (tRet (tVar 2)))))
def sp_law_kinds_v3 (G : Gx) : Sp := fun vs H Q E => vs.length = 1 ∧ t_law_kinds_v3 G E { nx := fun _ H' => Q .non H', rt := Q } (start ["cell", "left", "found", "k"] vs) H
def t_law_sum_text (G : Gx) (E : XK) : TS :=
      (tSeq (tIfS (tTest (tOp (uEq G.K) (tVar 1) (tLst tNil))) (tRet (tOp uAdd (tCB uStr (tCons (tVar 0) tNil)) (tC (.str " =")))) tNext)
      (tRet (tOp uAdd (tOp uAdd (tCB uStr (tCons (tVar 0) tNil)) (tC (.str " = "))) (tM1 (uJoin G.K) (tC (.str " + ")) (tLc (iList G.K (tVar 1)) (gName 2) tYes (tCB uStr (tCons (tVar 2) tNil)) [2])))))
def sp_law_sum_text (G : Gx) : Sp := fun vs H Q E => vs.length = 2 ∧ t_law_sum_text G E { nx := fun _ H' => Q .non H', rt := Q } (start ["n", "parts", "part"] vs) H
def t_law_parts (G : Gx) (E : XK) : TS :=
      (tSeq (tAsg (tOp uMod (tVar 0) (tC (.int 201))) (gName 1))
      (tSeq (tAsg (tVar 1) (gName 2))
      (tSeq (tAsg (tLst tNil) (gName 3))
      (tSeq (tAsg (tOp (uIx G.K) (tLst (tCons (tC (.int 1)) (tCons (tC (.int 3)) (tCons (tC (.int 20)) (tCons (tC (.int 200)) tNil))))) (tOp uMod (tOp uDiv (tVar 0) (tC (.int 201))) (tC (.int 4)))) (gName 4))
      (tSeq (tWhile (tTest (tOp uGt (tVar 2) (tC (.int 0)))) (tSeq (tAsg (tOp uAdd (tC (.int 1)) (tOp uMod (tCall (sp_law_mixed G) [] E (tCons (tVar 0) (tCons (tCB (uLen G.K) (tCons (tVar 3) tNil)) tNil))) (tCB (uMin G.K) (tCons (tVar 2) (tCons (tVar 4) tNil))))) (gName 5))
      (tSeq (tDrop (tBM G.K "list" rAppend (tVar 3) (tCons (tVar 5) tNil)))
      (tAsg (tOp uSub (tVar 2) (tVar 5)) (gName 2)))))
      (tRet (tLst (tCons (tVar 1) (tCons (tCKw (uSortR G.K) (tCons (tVar 3) tNil) (tCons (tC (.bl true)) tNil)) tNil)))))))))
def sp_law_parts (G : Gx) : Sp := fun vs H Q E => vs.length = 1 ∧ t_law_parts G E { nx := fun _ H' => Q .non H', rt := Q } (start ["cell", "n", "left", "parts", "most", "part"] vs) H
def t_law_k35 (G : Gx) (E : XK) : TS :=
      (tSeq (tAsg tDNewK (gName 1))
      (tSeq (tFor (iRng1 (tCons (tCB (uMax G.K) (tCons (tC (.int 8)) (tCons (tCB (uMin G.K) (tCons (tCB (uLen G.K) (tCons (tVar 0) tNil)) (tCons (tC (.int 60)) tNil))) tNil))) tNil)) (gName 2) (tSeq (tAsg (tCB uAbs (tCons (tCall (sp_law_cell_v2 G) [] E (tCons (tVar 0) (tCons (tVar 2) tNil))) tNil)) (gName 3))
      (tSeq (tAsg (tCall (sp_law_kinds_v3 G) [] E (tCons (tCall (sp_law_mixed G) [] E (tCons (tVar 3) (tCons (tVar 2) tNil))) tNil)) (gName 4))
      (tSeq (tAsg (tCB (uList G.K) (tCons (tVar 4) tNil)) (gName 5))
      (tSeq (tAsg (tM1 (uJoin G.K) (tC (.str " ")) (tLc (iList G.K (tVar 4)) (gName 11) tYes (tCB uStr (tCons (tVar 11) tNil)) [11])) (gName 6))
      (tSeq (tIfS (tOr (tTest (tOp (uNe G.K) (tCall (sp_show_kinds G) [] E (tCons (tVar 5) tNil)) (tVar 6))) (tTest (tOp (uNe G.K) (tVar 5) (tVar 4)))) (tRet (tC (.bl false))) tNext)
      (tSeq (tIfS (tTest (tOp (uNe G.K) (tDGet2 (tVar 1) (tVar 6) (tVar 4)) (tVar 4))) (tRet (tC (.bl false))) tNext)
      (tSeq (tAsg (tVar 4) (gSub (tVar 1) (tVar 6) uSet))
      (tSeq (tAsg (tCall (sp_read_kinds G) [] E (tCons (tVar 6) tNil)) (gName 7))
      (tSeq (tIfS (tOr (tTest (tOp (uNe G.K) (tVar 7) (tVar 4))) (tTest (tOp (uNe G.K) (tLc (iList G.K (tVar 7)) (gName 11) (tB (tCB (uIsi G.K) (tCons (tVar 11) (tCons (tC (.ty "bool")) tNil)))) (tVar 11) [11]) (tLst tNil)))) (tRet (tC (.bl false))) tNext)
      (tSeq (tDrop (tBM G.K "list" rAppend (tVar 7) (tCons (tC (.int 3)) tNil)))
      (tSeq (tAsg (tCall (sp_law_parts G) [] E (tCons (tCall (sp_law_mixed G) [] E (tCons (tVar 3) (tCons (tC (.int 30)) tNil))) tNil)) (gLst G.K 2 (gCons (gName 8) (gCons (gName 9) gNil))))
      (tSeq (tAsg (tCB (uList G.K) (tCons (tVar 9) tNil)) (gName 5))
      (tSeq (tAsg (tCall (sp_law_sum_text G) [] E (tCons (tVar 8) (tCons (tVar 9) tNil))) (gName 6))
      (tSeq (tIfS (tOr (tTest (tOp (uNe G.K) (tCall (sp_show_sum G) [] E (tCons (tVar 8) (tCons (tVar 5) tNil))) (tVar 6))) (tTest (tOp (uNe G.K) (tVar 5) (tVar 9)))) (tRet (tC (.bl false))) tNext)
      (tSeq (tAsg (tCall (sp_read_sum G) [] E (tCons (tVar 6) tNil)) (gName 10))
      (tSeq (tIfS (tOr (tTest (tOp (uNe G.K) (tVar 10) (tTup (tCons (tVar 8) (tCons (tVar 9) tNil))))) (tNot (tB (tCB (uIsi G.K) (tCons (tOp (uIx G.K) (tVar 10) (tC (.int 1))) (tCons (tC (.ty "list")) tNil)))))) (tRet (tC (.bl false))) tNext)
      (tSeq (tDrop (tBM G.K "list" rAppend (tOp (uIx G.K) (tVar 10) (tC (.int 1))) (tCons (tC (.int 0)) tNil)))
      (tIfS (tOr (tTest (tOp (uNe G.K) (tCall (sp_read_sum G) [] E (tCons (tVar 6) tNil)) (tTup (tCons (tVar 8) (tCons (tVar 9) tNil))))) (tTest (tOp (uNe G.K) (tCall (sp_read_kinds G) [] E (tCons (tCall (sp_show_kinds G) [] E (tCons (tVar 4) tNil)) tNil)) (tVar 4)))) (tRet (tC (.bl false))) tNext)))))))))))))))))))
      (tRet (tC (.bl true)))))
def sp_law_k35 (G : Gx) : Sp := fun vs H Q E => vs.length = 1 ∧ t_law_k35 G E { nx := fun _ H' => Q .non H', rt := Q } (start ["script", "before", "k", "cell", "kinds", "given", "text", "told", "n", "parts", "found", "kind"] vs) H
local macro_rules | `(tactic| wtm_at "w1") => `(tactic| with_reducible first
  | refine i_seq ?_ | refine i_asg ?_ | refine i_gname ?_ | refine i_ifS ?_ | refine i_ret ?_ | refine i_drop ?_ | refine i_next ?_ | refine i_brk ?_ | refine i_retN ?_
  | refine i_op ?_ | refine i_var rfl ?_ | refine i_c ?_ | refine i_call ?_ | refine i_cb ?_ | refine i_cons ?_ | refine i_nil ?_ | refine i_un ?_
  | refine i_test ?_ | refine i_B ?_ | refine i_not ?_ | refine i_exbl ?_ | refine i_exint ?_
  | refine i_andV ?_ | refine i_orV ?_ | refine i_notV ?_ | refine i_if ?_ | refine i_chain ?_ | refine i_yes ?_
  | refine i_add ?_ | refine i_sub ?_ | refine i_lt ?_ | refine i_le ?_ | refine i_gt ?_ | refine i_ge ?_ | refine i_eqI ?_ | refine i_neI ?_ | refine i_eqS ?_ | refine i_neS ?_ | refine i_eqIS ?_ | refine i_neIS ?_
  | refine i_eqIN ?_ | refine i_neIN ?_ | refine i_eqNI ?_ | refine i_neNI ?_ | refine i_neNN ?_
  | refine i_isN ?_ | refine i_notN ?_ | refine i_isB ?_ | refine i_notB ?_ | refine i_max2 ?_ | refine i_min2 ?_ | refine i_intI ?_ | refine i_intB ?_ | refine i_abs ?_ | refine i_neg ?_ | refine i_band ?_ | refine i_bor ?_
  | refine i_isiII ?_ | refine i_isiIB ?_ | refine i_isiIS ?_ | refine i_isiIL ?_ | refine i_isiSI ?_ | refine i_isiSB ?_ | refine i_isiSS ?_ | refine i_isiSL ?_ | refine i_isiBI ?_ | refine i_isiBB ?_ | refine i_isiBS ?_ | refine i_isiNI ?_ | refine i_isiNB ?_
  | refine i_bm ?_ | refine i_bm0 ?_ | refine i_lst ?_ | refine i_tup ?_ | refine i_sl ?_ | refine i_nopart ?_ | refine i_part ?_ | refine i_gsub ?_ | refine i_aug rfl ?_ | refine i_ipI ?_
  | refine i_for ?_ | refine i_lc ?_ | refine i_rng1 ?_ | refine i_rng2 ?_ | refine i_rng3 ?_ | refine i_list ?_ | refine i_tupl ?_ | refine i_enum ?_ | refine i_zip ?_ | refine i_str ?_ | refine i_strA ?_
  | refine i_fl ?_ | refine i_fls ?_ | refine i_make ?_ | refine i_meth ?_
  | refine i_T rfl ?_ | refine i_F rfl ?_)
local macro_rules | `(tactic| wtm_at "num") => `(tactic| first | decide | omega)
local macro_rules | `(tactic| wtm_at "w2") => `(tactic| first
  | ((with_reducible refine i_pow ?_ ?_); · exact ⟨by decide, by decide, by decide⟩)
  | ((with_reducible refine i_mod ?_ ?_); · wtm_at "num")
  | ((with_reducible refine i_mulL ?_ ?_); · wtm_at "num")
  | ((with_reducible refine i_mulR ?_ ?_); · wtm_at "num")
  | ((with_reducible refine i_div ?_ ?_); · exact div_ok (by wtm_at "num") (by wtm_at "num")))
local macro_rules | `(tactic| wtm_at "w") => `(tactic| repeat (first | wtm_at "w1" | wtm_at "w2"))
local macro_rules | `(tactic| wtm_at "ao") => `(tactic| (with_reducible first | refine i_and ?_ | refine i_or ?_))
local macro_rules | `(tactic| wtm_at "ix") => `(tactic| (refine i_ixL (sq_of (by assumption)) (by rfl) ?_; wtm_at "w"))
local macro_rules | `(tactic| wtm_at "wa") => `(tactic| repeat (first | wtm_at "w1" | wtm_at "ao" | wtm_at "w2"))
/-! ### kinds and their numbers -/
/-- a kind: 3 to 12, or "cubes" -/
def IsKd (v : V) : Prop := (∃ s : Int, v = .int s ∧ 3 ≤ s ∧ s ≤ 12) ∨ v = .str "cubes"
/-- the k-th number of a kind -/
def dotsV : V → Int → Int
  | .int s, k => k + (s - 2) * (k * (k - 1) / 2)
  | _, k => k * k * k
section
variable {G : Gx} {H : Hp} {Q : VK} {E : XK}
theorem u_is_whole_int {n : Int} (h : Q (.bl true) H) : sp_is_whole G [.int n] H Q E := by
  refine ⟨rfl, ?_⟩
  unfold t_is_whole
  wtm_at "w"
  exact h
theorem u_is_kind_int {n : Int} (h : Q (.bl (decide (3 ≤ n ∧ n ≤ 12))) H) : sp_is_kind G [.int n] H Q E := by
  refine ⟨rfl, ?_⟩
  unfold t_is_kind
  wtm_at "w"
  refine u_is_whole_int ?_
  wtm_at "w"
  refine i_ite (fun h3 => ?_) (fun h3 => ?_)
  · wtm_at "w"
    rw [show decide (3 ≤ n ∧ n ≤ 12) = decide (n ≤ 12) by simp [h3]] at h
    exact h
  · rw [show decide (3 ≤ n ∧ n ≤ 12) = false by simp [h3]] at h
    exact h
theorem u_is_kind_cubes (h : Q (.bl true) H) : sp_is_kind G [.str "cubes"] H Q E := by
  refine ⟨rfl, ?_⟩
  unfold t_is_kind
  wtm_at "w"
  rw [decide_eq_true rfl]
  exact h
theorem u_is_kind {v : V} (hv : IsKd v) (h : Q (.bl true) H) : sp_is_kind G [v] H Q E := by
  rcases hv with ⟨s, rfl, h1, h2⟩ | rfl
  · refine u_is_kind_int ?_
    rw [decide_eq_true ⟨h1, h2⟩]
    exact h
  · exact u_is_kind_cubes h
end
/-! ### a part of the heap of one's own -/
structure Wd where
  R : Addr → Prop
  I : Hp → Prop
  tr : ∀ H a, I H → R a → H a ≠ none
  up : ∀ H a o, I H → ¬ R a → I (upd H a o)
  sm : ∀ H H', I H → Same H H' → I H'
structure Kp (W : Wd) (H H' : Hp) : Prop where
  i : W.I H'
  k : Keep W.R H H'
structure At (W : Wd) (H : Hp) (a : Addr) (o : HO) : Prop where
  h : H a = some o
  r : ¬ W.R a
section
variable {W : Wd} {H H0 H1 H2 : Hp} {a p : Addr} {o : HO}
theorem Kp.refl (i : W.I H) : Kp W H H := ⟨i, Keep.refl _ _⟩
theorem Kp.trans (x : Kp W H H1) (y : Kp W H1 H2) : Kp W H H2 := ⟨y.i, x.k.trans y.k⟩
theorem Wd.notR (i : W.I H) (h : H p = none) : ¬ W.R p := fun r => W.tr H p i r h
theorem Kp.free (x : Kp W H H1) (h : H1 p = none) : H p = none := by
  cases e : H p with
  | none => rfl
  | some o =>
    have n := Wd.notR x.i h
    rw [x.k p o n e] at h
    cases h
theorem Kp.at (x : Kp W H H1) (z : At W H a o) : At W H1 a o := ⟨x.k a o z.r z.h, z.r⟩
theorem Kp.same (x : Kp W H0 H) (s : Same H H1) : Kp W H0 H1 := ⟨W.sm _ _ x.i s, fun b u n e => s _ _ (x.k b u n e)⟩
theorem Kp.new (x : Kp W H0 H) (h : H p = none) : Kp W H0 (upd H p o) := x.same (same_new h)
theorem At.new (i : W.I H) (h : H p = none) : At W (upd H p o) p o := ⟨upd_same, Wd.notR i h⟩
theorem At.same (z : At W H a o) (s : Same H H1) : At W H1 a o := ⟨s _ _ z.h, z.r⟩
theorem At.upd {o2 : HO} (z : At W H a o) (n : a ≠ p) : At W (upd H p o2) a o := ⟨by rw [upd_ne n]; exact z.h, z.r⟩
end
/-! ### the deck -/
/-! ### numbers of a kind in order -/
theorem tri_succ (k : Int) : (k + 1) * k / 2 = k * (k - 1) / 2 + k := by
  have e : (k + 1) * k = k * (k - 1) + k * 2 := by
    rw [Int.add_mul, Int.mul_sub]; omega
  rw [e, Int.add_mul_ediv_right _ _ (by decide)]
theorem dots_succ_int (s k : Int) : dotsV (.int s) (k + 1) = dotsV (.int s) k + (1 + k * (s - 2)) := by
  unfold dotsV
  have e : k + 1 - 1 = k := by omega
  simp only [e]
  rw [tri_succ, Int.mul_add, Int.mul_comm (s - 2) k]
  omega
theorem cube_succ (k : Int) : (k + 1) * (k + 1) * (k + 1) = k * k * k + (3 * (k * k) + 3 * k + 1) := by
  have e : (k + 1) * (k + 1) = k * k + 2 * k + 1 := by rw [Int.add_mul, Int.mul_add]; omega
  rw [e, Int.add_mul, Int.add_mul, Int.mul_add, Int.mul_add, Int.mul_assoc 2 k k]
  have : k * k * k + k * k * 1 = k * k * k + k * k := by rw [Int.mul_one]
  omega
theorem dots_lt {v : V} (hv : IsKd v) {k : Int} (hk : 1 ≤ k) : dotsV v k + 1 ≤ dotsV v (k + 1) := by
  rcases hv with ⟨s, rfl, h1, h2⟩ | rfl
  · rw [dots_succ_int]
    have : 0 ≤ k * (s - 2) := Int.mul_nonneg (by omega) (by omega)
    omega
  · show k * k * k + 1 ≤ (k + 1) * (k + 1) * (k + 1)
    rw [cube_succ]
    have : 0 ≤ k * k := Int.mul_nonneg (by omega) (by omega)
    omega
theorem dots_one {v : V} (hv : IsKd v) : dotsV v 1 = 1 := by
  rcases hv with ⟨s, rfl, h1, h2⟩ | rfl
  · show 1 + (s - 2) * (1 * (1 - 1) / 2) = 1
    rw [show (1 * (1 - 1) / 2 : Int) = 0 by decide]; omega
  · rfl
theorem dots_mono {v : V} (hv : IsKd v) : ∀ (n : Nat) {k : Int}, 1 ≤ k → dotsV v k + n ≤ dotsV v (k + n)
  | 0, k, hk => by simp
  | n + 1, k, hk => by
    have h1 := dots_mono hv n hk
    have h2 := dots_lt hv (k := k + n) (by omega)
    have e : k + ((n + 1 : Nat) : Int) = k + n + 1 := by omega
    rw [e]; omega
theorem dots_le {v : V} (hv : IsKd v) {i j : Int} (h1 : 1 ≤ i) (h2 : i ≤ j) : dotsV v i + (j - i) ≤ dotsV v j := by
  have h := dots_mono hv (j - i).toNat h1
  have e : i + ((j - i).toNat : Int) = j := by omega
  rw [e] at h
  omega
theorem dots_ge {v : V} (hv : IsKd v) {k : Int} (hk : 1 ≤ k) : k ≤ dotsV v k := by
  have h := dots_le hv (i := 1) (j := k) (by omega) hk
  rw [dots_one hv] at h
  omega
/-! ### == of lists of plain things -/
def toD : V → PyData
  | .non => .none
  | .bl b => .bool b
  | .int i => .int i
  | .str s => .str s
  | _ => .none
def sV : V → Bool
  | .non => true
  | .int _ => true
  | .str s => PyData.strOk s
  | _ => false
theorem dp_sV {K : Fg} {H : Hp} : ∀ {v : V}, sV v = true → Dp K H v (toD v)
  | .non, _ => .non
  | .int i, _ => .int i
  | .str s, _ => .str s
  | .bl _, h => by cases h
  | .byt _, h => by cases h
  | .flt _, h => by cases h
  | .ref _, h => by cases h
  | .ty _, h => by cases h
theorem dpAll_sV {K : Fg} {H : Hp} : ∀ {xs : List V}, xs.all sV = true → DpAll K H xs (xs.map toD)
  | [], _ => .nil
  | x :: r, h => by
    rw [List.all_cons, Bool.and_eq_true] at h
    exact .cons (dp_sV h.1) (dpAll_sV h.2)
theorem lay_sV : ∀ {v : V}, sV v = true → (toD v).canLay0 = true ∧ (toD v).depth = 0
  | .non, _ => ⟨by simp [toD, PyData.canLay0], by simp [toD, PyData.depth]⟩
  | .int i, _ => ⟨by simp [toD, PyData.canLay0], by simp [toD, PyData.depth]⟩
  | .str s, h => ⟨by have h' : PyData.strOk s = true := h
                     simpa [toD, PyData.canLay0] using h', by simp [toD, PyData.depth]⟩
  | .bl _, h => by cases h
  | .byt _, h => by cases h
  | .flt _, h => by cases h
  | .ref _, h => by cases h
  | .ty _, h => by cases h
theorem layAll_sV : ∀ {xs : List V}, xs.all sV = true → PyData.canLayAll0 (xs.map toD) = true ∧ PyData.depthAll (xs.map toD) = 0
  | [], _ => ⟨by simp [PyData.canLayAll0], by simp [PyData.depthAll]⟩
  | x :: r, h => by
    rw [List.all_cons, Bool.and_eq_true] at h
    have h1 := lay_sV h.1
    have h2 := layAll_sV h.2
    exact ⟨by simp [PyData.canLayAll0, h1.1, h2.1], by simp [PyData.depthAll, h1.2, h2.2]⟩
theorem shaped_L {xs : List V} (h : xs.all sV = true) : SeqAt.shaped (.list (xs.map toD)) = true := by
  have h2 := layAll_sV h
  unfold SeqAt.shaped
  simp [PyData.canLay0, PyData.depth, h2.1, h2.2]
theorem eqv_sV : ∀ {x y : V}, sV x = true → sV y = true → PyData.eqv (toD x) (toD y) = decide (x = y)
  | .non, .non, _, _ => by simp [toD, PyData.eqv]
  | .non, .int _, _, _ => by simp [toD, PyData.eqv]
  | .non, .str _, _, _ => by simp [toD, PyData.eqv]
  | .int _, .non, _, _ => by simp [toD, PyData.eqv]
  | .int i, .int j, _, _ => by simp only [toD, PyData.eqv]; rw [Bool.eq_iff_iff]; simp
  | .int _, .str _, _, _ => by simp [toD, PyData.eqv]
  | .str _, .non, _, _ => by simp [toD, PyData.eqv]
  | .str _, .int _, _, _ => by simp [toD, PyData.eqv]
  | .str _, .str _, _, _ => by simp only [toD, PyData.eqv]; rw [Bool.eq_iff_iff]; simp
  | .bl _, _, h, _ => by cases h
  | .byt _, _, h, _ => by cases h
  | .flt _, _, h, _ => by cases h
  | .ref _, _, h, _ => by cases h
  | .ty _, _, h, _ => by cases h
  | _, .bl _, _, h => by cases h
  | _, .byt _, _, h => by cases h
  | _, .flt _, _, h => by cases h
  | _, .ref _, _, h => by cases h
  | _, .ty _, _, h => by cases h
theorem eqvAll_sV : ∀ {xs ys : List V}, xs.all sV = true → ys.all sV = true → PyData.eqvAll (xs.map toD) (ys.map toD) = decide (xs = ys)
  | [], [], _, _ => by simp [PyData.eqvAll]
  | [], _ :: _, _, _ => by simp [PyData.eqvAll]
  | _ :: _, [], _, _ => by simp [PyData.eqvAll]
  | x :: r, y :: q, h1, h2 => by
    rw [List.all_cons, Bool.and_eq_true] at h1 h2
    simp only [List.map_cons, PyData.eqvAll, eqv_sV h1.1 h2.1, eqvAll_sV h1.2 h2.2]
    rw [Bool.eq_iff_iff]
    simp
section
variable {K : Fg} {H : Hp} {Q : VK} {a b : Addr} {xs ys : List V}
theorem i_eqL (h1 : SqL K H a xs) (h2 : SqL K H b ys) (s1 : xs.all sV = true) (s2 : ys.all sV = true) (h : Q (.bl (decide (xs = ys))) H) : uEq K (.ref a) (.ref b) H Q :=
  .inr ⟨_, _, .lst h1 (dpAll_sV s1), .lst h2 (dpAll_sV s2), shaped_L s1, shaped_L s2, by
    have e : PyData.eqv (.list (xs.map toD)) (.list (ys.map toD)) = decide (xs = ys) := by simp only [PyData.eqv]; exact eqvAll_sV s1 s2
    rw [e]; exact h⟩
theorem i_neL (h1 : SqL K H a xs) (h2 : SqL K H b ys) (s1 : xs.all sV = true) (s2 : ys.all sV = true) (h : Q (.bl (!decide (xs = ys))) H) : uNe K (.ref a) (.ref b) H Q :=
  .inr ⟨_, _, .lst h1 (dpAll_sV s1), .lst h2 (dpAll_sV s2), shaped_L s1, shaped_L s2, by
    have e : PyData.eqv (.list (xs.map toD)) (.list (ys.map toD)) = decide (xs = ys) := by simp only [PyData.eqv]; exact eqvAll_sV s1 s2
    rw [e]; exact h⟩
end
theorem ints_sV (ns : List Int) : (ns.map V.int).all sV = true := by
  induction ns with
  | nil => rfl
  | cons n r ih => rw [List.map_cons, List.all_cons, ih]; rfl
theorem kd_sV {v : V} (h : IsKd v) : sV v = true := by
  rcases h with ⟨s, rfl, _⟩ | rfl
  · rfl
  · decide +kernel
theorem kd_flat {v : V} (h : IsKd v) : flatV v = true := by
  rcases h with ⟨s, rfl, _⟩ | rfl <;> rfl
theorem kds_sV {ks : List V} (h : ∀ v ∈ ks, IsKd v) : ks.all sV = true := by
  rw [List.all_eq_true]; exact fun v hv => kd_sV (h v hv)
theorem kds_flat {ks : List V} (h : ∀ v ∈ ks, IsKd v) : ks.all flatV = true := by
  rw [List.all_eq_true]; exact fun v hv => kd_flat (h v hv)
theorem eqV_kd {v w : V} (hv : IsKd v) (hw : IsKd w) : eqV v w = decide (v = w) := by
  rcases hv with ⟨s, rfl, _⟩ | rfl <;> rcases hw with ⟨t, rfl, _⟩ | rfl
  · simp only [eqV]; rw [Bool.eq_iff_iff]; simp
  · simp [eqV]
  · simp [eqV]
  · simp [eqV]
theorem inV_kd {v : V} {ks : List V} (hv : IsKd v) (hk : ∀ w ∈ ks, IsKd w) : inV v ks = decide (v ∈ ks) := by
  rw [Bool.eq_iff_iff]
  simp only [inV, List.any_eq_true, decide_eq_true_eq]
  constructor
  · rintro ⟨x, hx, e⟩
    rw [eqV_kd (hk x hx) hv] at e
    rw [← of_decide_eq_true e]; exact hx
  · intro h
    exact ⟨v, h, by rw [eqV_kd hv hv]; simp⟩
/-! ### slices -/
theorem cut_take {xs : List V} {n : Nat} (h : n ≤ xs.length) : cutV xs none (some (n : Int)) = xs.take n := by
  unfold cutV
  rw [show HT.sIx xs.length 0 none = 0 from HT.sIx_none _ _, HT.sIx_nat]
  simp [Nat.min_eq_left h]
/-! ### kinds -/
structure KdL (ks : List V) : Prop where
  kd : ∀ v ∈ ks, IsKd v
  nd : ks.Nodup
  lo : 1 ≤ ks.length
  hi : ks.length ≤ 5
section
variable {G : Gx} {H : Hp} {Q : VK} {E : XK} {a : Addr} {ks : List V}
theorem given_none (n : Nat) : given (fun _ => none) n = [] := by
  induction n with
  | zero => rfl
  | succ n ih => show given _ n ++ [] = []; rw [ih]; rfl
theorem u_are_kinds (ha : H a = some (.lst ks)) (hk : KdL ks) (h : ∀ H', Same H H' → Q (.bl true) H') : sp_are_kinds G [.ref a] H Q E := by
  refine ⟨rfl, ?_⟩
  unfold t_are_kinds
  wtm_at "wa"
  refine i_isiLL ha ?_
  wtm_at "wa"
  refine i_lenL (sq_of ha) ?_
  wtm_at "wa"
  have h1 := hk.lo
  have h5 := hk.hi
  refine i_T (by simp; omega) ?_
  wtm_at "wa"
  refine i_F (by simp; omega) ?_
  wtm_at "wa"
  refine i_lstA (sq_of ha) ?_
  refine lck_pure walk_list (by omega) (fun _ => none) (fun H' s => sq_of (s _ _ ha)) (fun i x H1 H2 KK NN hi s y hK hN => ?_) (fun p H1 np s1 e1 => ?_)
  · obtain ⟨rfl, hx⟩ := y
    wtm_at "w"
    refine ⟨rfl, ?_⟩
    wtm_at "w"
    refine u_is_kind (hk.kd x (List.mem_of_getElem? hx)) ?_
    wtm_at "w"
    exact hN _ rfl (fun _ _ z => z)
  · rw [given_none] at e1
    wtm_at "w"
    refine ⟨Nat.zero_le _, fun q nq => ?_⟩
    refine i_neL (xs := []) (ys := []) (sq_of (by rw [upd_ne (ne_of_none e1 nq)]; exact e1)) (sq_of upd_same) rfl rfl ?_
    wtm_at "w"
    have s2 : Same H (upd H1 q (.lst [])) := s1.trans (same_new nq)
    generalize upd H1 q (.lst []) = H2 at s2 ⊢
    refine i_enumA (sq_of (s2 _ _ ha)) ?_
    refine lck_pure walk_enum (by omega) (fun _ => none) (fun H' s => sq_of (s _ _ (s2 _ _ ha))) (fun i x H3 H4 KK NN hi s y hK hN => ?_) (fun p H3 np s3 e3 => ?_)
    · obtain ⟨T, x1, x2, rfl, nT, rfl, h1', h2'⟩ := y
      cases h1'
      have e4 : (upd H3 T (.tup [.int (i : Nat), x2])) a = some (.lst ks) := by
        rw [upd_ne (ne_of_none (s _ _ (s2 _ _ ha)) nT)]; exact s _ _ (s2 _ _ ha)
      have s4 : Same H3 (upd H3 T (.tup [.int (i : Nat), x2])) := same_new nT
      refine ⟨T, _, rfl, st_of upd_same, rfl, _, _, rfl, ?_⟩
      generalize upd H3 T (.tup [.int (i : Nat), x2]) = H4 at e4 s4 ⊢
      refine ⟨_, _, rfl, rfl, ?_⟩
      refine ⟨rfl, ?_⟩
      wtm_at "w"
      refine i_slL (sq_of e4) fun q2 nq2 => ?_
      rw [cut_take (by omega)]
      have hx2 : x2 ∈ ks := List.mem_of_getElem? h2'
      refine i_inL (sq_of upd_same) (kd_flat (hk.kd _ hx2)) (kds_flat fun v hv => hk.kd v (List.mem_of_mem_take hv)) ?_
      wtm_at "w"
      rw [inV_kd (hk.kd _ hx2) (fun v hv => hk.kd v (List.mem_of_mem_take hv))]
      refine i_F ?_ ?_
      · rw [decide_eq_false]
        intro hm
        obtain ⟨j, hj, ej⟩ := List.getElem_of_mem hm
        rw [List.length_take] at hj
        rw [List.getElem_take] at ej
        have e5 : ks[j]? = some x2 := by rw [List.getElem?_eq_getElem (by omega), ej]
        have := nd_ix hk.nd e5 h2'
        omega
      · exact hN _ rfl (s4.trans (same_new nq2))
    · rw [given_none] at e3
      wtm_at "w"
      refine ⟨Nat.zero_le _, fun q2 nq2 => ?_⟩
      refine i_eqL (xs := []) (ys := []) (sq_of (by rw [upd_ne (ne_of_none e3 nq2)]; exact e3)) (sq_of upd_same) rfl rfl ?_
      exact h _ ((s2.trans s3).trans (same_new nq2))
end
/-! ### a dict that is used as a set of ints -/
/-- at f a dict whose keys are the ints ks -/
def DI (H : Hp) (f : Addr) (ks : List Int) : Prop := ∃ kvs, H f = some (.dK kvs) ∧ kvs.map (·.1) = ks.map Sum.inl
theorem DI.same {H H' : Hp} {f : Addr} {ks : List Int} (d : DI H f ks) (s : Same H H') : DI H' f ks := by
  obtain ⟨kvs, e, k⟩ := d
  exact ⟨kvs, s _ _ e, k⟩
theorem DI.len {H : Hp} {f : Addr} {ks : List Int} {kvs : List (Key × V)} (k : kvs.map (·.1) = ks.map Sum.inl) : kvs.length = ks.length := by
  have := congrArg List.length k
  simpa using this
/-! ### stocks -/
def IsDot (ks : List V) (x : Int) : Prop := ∃ v ∈ ks, ∃ k : Int, 1 ≤ k ∧ dotsV v k = x
structure StockOf (ks : List V) (b : Int) (L : List Int) : Prop where
  up : L.Pairwise (· < ·)
  mem : ∀ x, x ∈ L ↔ x ≤ b ∧ IsDot ks x
/-! ### what stands in a heap -/
theorem upd_old {H : Hp} {a p : Addr} {o u : HO} (np : H p = none) (e : H a = some o) : upd H p u a = some o := by rw [upd_ne (ne_of_none e np)]; exact e
theorem same_at {H H' : Hp} {a : Addr} {o : HO} (s : Same H H') (e : H a = some o) : H' a = some o := s a o e
theorem upd_oth {H : Hp} {a p : Addr} {o u : HO} (n : a ≠ p) (e : H a = some o) : upd H p u a = some o := by rw [upd_ne n]; exact e
theorem i_tyL {K : Fg} {H : Hp} {a : Addr} {xs : List V} {P : Prop} (e : H a = some (.lst xs)) (h : P) : tyV K "list" (.ref a) H ∧ P := ⟨.inl ⟨rfl, _, sq_of e⟩, h⟩
theorem i_new {n : Nat} {P : Prop} (hn : n ≤ 1000) (h : P) : n ≤ sizeLine ∧ P := ⟨sz_le (by omega), h⟩
theorem i_popAt {H : Hp} {l : Addr} {xs : List V} {i : Int} {k : Nat} {Q : VK} (e : H l = some (.lst xs)) (ei : i = (k : Int)) (hk : k < xs.length) (hz : xs.length ≤ 1000) (h : Q xs[k] (upd H l (.lst (xs.eraseIdx k)))) : rPopAt (.ref l) [.int i] H Q :=
  ⟨l, xs, i, k, xs[k], rfl, rfl, e, by omega, by omega, by rw [seqIndex_of (by omega) (by omega), ei]; rfl, List.getElem?_eq_getElem hk, h⟩
theorem i_ulist {K : Fg} {H : Hp} {p : Addr} {ys : List V} {Q : VK} (e : SqL K H p ys) (h : ∀ l, H l = none → Q (.ref l) (upd H l (.lst ys))) : uList K [.ref p] H Q := .inl ⟨p, ys, rfl, .inl e, h⟩
local macro_rules | `(tactic| wtm_at "hp") => `(tactic| solve_by_elim (maxDepth := 14) only [*, upd_same, upd_old, same_at, sq_of, st_of])
/-! ### drawing -/
def kinds11 : List V := [.int 3, .int 4, .int 5, .int 6, .int 7, .int 8, .int 9, .int 10, .int 11, .int 12, .str "cubes"]
theorem kinds11_kd {x : V} (h : x ∈ kinds11) : IsKd x := by
  simp only [kinds11, List.mem_cons, List.not_mem_nil, or_false] at h
  rcases h with rfl | rfl | rfl | rfl | rfl | rfl | rfl | rfl | rfl | rfl | rfl
  all_goals first | exact .inr rfl | exact .inl ⟨_, rfl, by decide, by decide⟩
theorem kinds11_nd : kinds11.Nodup := by decide
theorem erase_perm : ∀ (l : List V) {k : Nat} (h : k < l.length), ([l[k]] ++ l.eraseIdx k).Perm l
  | [], _, h => absurd h (Nat.not_lt_zero _)
  | x :: r, 0, _ => List.Perm.refl _
  | x :: r, k + 1, h => by
    have h' : k < r.length := by simpa using h
    show (r[k] :: x :: r.eraseIdx k).Perm (x :: r)
    exact (List.Perm.swap _ _ _).trans ((erase_perm r h').cons x)
theorem perm_pop {ks rest : List V} {k : Nat} (hk : k < rest.length) : ((ks ++ [rest[k]]) ++ rest.eraseIdx k).Perm (ks ++ rest) := by
  rw [List.append_assoc]
  exact (erase_perm rest hk).append_left ks
theorem kdl_of {ks rest : List V} (p : (ks ++ rest).Perm kinds11) (h1 : 1 ≤ ks.length) (h5 : ks.length ≤ 5) : KdL ks :=
  ⟨fun v hv => kinds11_kd (p.mem_iff.mp (List.mem_append_left _ hv)), (List.nodup_append.mp (p.nodup_iff.mpr kinds11_nd)).1, h1, h5⟩
/-! ### the law's own stock -/
/-! ### a store by a cell -/
/-! ### tables -/
def tab (n : Nat) (g : Nat → V) : List V := (List.range n).map g
/-! ### the fewest unlike ones -/
theorem StockOf.pos {ks : List V} {b : Int} {L : List Int} (h : StockOf ks b L) (hk : ∀ v ∈ ks, IsKd v) {x : Int} (hx : x ∈ L) : 1 ≤ x := by
  obtain ⟨_, v, hv, k, h1, rfl⟩ := (h.mem x).mp hx
  have := dots_ge (hk v hv) h1
  omega
theorem up_len : ∀ {l : List Int} {lo hi : Int}, l.Pairwise (· < ·) → (∀ x ∈ l, lo ≤ x ∧ x ≤ hi) → lo ≤ hi + 1 → (l.length : Int) ≤ hi + 1 - lo
  | [], lo, hi, _, _, h => by simp; omega
  | x :: r, lo, hi, p, h, hh => by
    rw [List.pairwise_cons] at p
    have h1 := h x (by simp)
    have h2 := up_len (l := r) (lo := x + 1) (hi := hi) p.2 (fun y hy => ⟨by have := p.1 y hy; omega, (h y (List.mem_cons_of_mem _ hy)).2⟩) (by omega)
    rw [List.length_cons]; omega
theorem StockOf.len {ks : List V} {b : Int} {L : List Int} (h : StockOf ks b L) (hk : ∀ v ∈ ks, IsKd v) (hb : 0 ≤ b) : (L.length : Int) ≤ b := by
  have := up_len (lo := 1) (hi := b) h.up (fun x hx => ⟨h.pos hk hx, ((h.mem x).mp hx).1⟩) (by omega)
  omega
/-- at qs the rows of a stock -/
structure LRows (H : Hp) (qs : List Addr) (f : Nat → Nat → V) (i n : Nat) : Prop where
  len : qs.length = i + 1
  row : ∀ j q, qs[j]? = some q → H q = some (.lst (tab (n + 1) (f j)))
theorem LRows.same {H H' : Hp} {qs : List Addr} {f : Nat → Nat → V} {i n : Nat} (r : LRows H qs f i n) (s : Same H H') : LRows H' qs f i n := ⟨r.len, fun j q h => s _ _ (r.row j q h)⟩
/-! ### the law's own rows of unlike ones -/
/-! [f(store) for turn in range(m)] -/
/-! ### more steps -/
/-! ### how many unlike sums -/
section
variable {G : Gx} {H : Hp} {Q : VK} {E : XK} {a : Addr} {ks : List V}
theorem StockOf.lim {b : Int} {L : List Int} (h : StockOf ks b L) (hk : ∀ v ∈ ks, IsKd v) (hb : b ≤ 1000) : ∀ x ∈ L, 1 ≤ x ∧ x ≤ 1000 := fun x hx => ⟨h.pos hk hx, by have := ((h.mem x).mp hx).1; omega⟩
end
/-! ### the fewest parts -/
open Classical in
noncomputable def minI (ns : List Int) : Int := if h : ∃ m, m ∈ ns ∧ ∀ y ∈ ns, m ≤ y then h.choose else 0
theorem minI_eq {ns : List Int} {m : Int} (h1 : m ∈ ns) (h2 : ∀ y ∈ ns, m ≤ y) : m = minI ns := by
  have h : ∃ m, m ∈ ns ∧ ∀ y ∈ ns, m ≤ y := ⟨m, h1, h2⟩
  unfold minI
  rw [dif_pos h]
  have a := h.choose_spec
  have := h2 _ a.1
  have := a.2 _ h1
  omega
theorem min_ex : ∀ {ns : List Int}, ns ≠ [] → ∃ m, m ∈ ns ∧ ∀ y ∈ ns, m ≤ y
  | [], h => absurd rfl h
  | [x], _ => ⟨x, by simp, by simp⟩
  | x :: y :: r, _ => by
    obtain ⟨m, h1, h2⟩ := min_ex (ns := y :: r) (by simp)
    by_cases z : x ≤ m
    · exact ⟨x, by simp, fun w hw => by
        rcases List.mem_cons.mp hw with e | e
        · omega
        · have := h2 w e; omega⟩
    · exact ⟨m, List.mem_cons_of_mem _ h1, fun w hw => by
        rcases List.mem_cons.mp hw with e | e
        · omega
        · exact h2 w e⟩
/-- what the fewest of n is the least of, but for the one part more -/
def befores (S : List Int) (f : Nat → Int) (n : Nat) : List Int := S.filterMap fun p => if p ≤ (n : Int) then some (f ((n : Int) - p).toNat) else none
noncomputable def fewT (S : List Int) : Nat → Nat → Int
  | 0 => fun _ => 0
  | n + 1 => fun t => if t = n + 1 then 1 + minI (befores S (fewT S n) (n + 1)) else fewT S n t
noncomputable def fewF (S : List Int) (n : Nat) : Int := fewT S n n
theorem fewT_eq (S : List Int) : ∀ (n t : Nat), t ≤ n → fewT S n t = fewF S t
  | 0, t, h => by
    have : t = 0 := by omega
    subst this; rfl
  | n + 1, t, h => by
    by_cases z : t = n + 1
    · subst z; rfl
    · show (if t = n + 1 then _ else fewT S n t) = _
      rw [if_neg z]
      exact fewT_eq S n t (by omega)
theorem fewF_zero (S : List Int) : fewF S 0 = 0 := rfl
theorem befores_ext {S : List Int} {f g : Nat → Int} {n : Nat} (hp : ∀ p ∈ S, 1 ≤ p) (h : ∀ t < n, f t = g t) : befores S f n = befores S g n := by
  unfold befores
  refine filterMap_ext S fun p hm => ?_
  by_cases z : p ≤ (n : Int)
  · rw [if_pos z, if_pos z, h _ (by have := hp p hm; omega)]
  · rw [if_neg z, if_neg z]
where
  filterMap_ext : ∀ {α β : Type} {f g : α → Option β} (l : List α), (∀ a ∈ l, f a = g a) → l.filterMap f = l.filterMap g
    | _, _, _, _, [], _ => rfl
    | _, _, f, g, a :: l, h => by
      rw [List.filterMap_cons, List.filterMap_cons, h a (by simp), filterMap_ext l fun b hb => h b (List.mem_cons_of_mem _ hb)]
theorem fewF_succ {S : List Int} (hp : ∀ p ∈ S, 1 ≤ p) (n : Nat) : fewF S (n + 1) = 1 + minI (befores S (fewF S) (n + 1)) := by
  show (if n + 1 = n + 1 then 1 + minI (befores S (fewT S n) (n + 1)) else _) = _
  rw [if_pos rfl, befores_ext hp fun t ht => fewT_eq S n t (by omega)]
theorem mem_befores {S : List Int} {f : Nat → Int} {n : Nat} {x : Int} : x ∈ befores S f n ↔ ∃ p ∈ S, p ≤ (n : Int) ∧ x = f ((n : Int) - p).toNat := by
  unfold befores
  rw [List.mem_filterMap]
  constructor
  · rintro ⟨p, hp, e⟩
    by_cases z : p ≤ (n : Int)
    · rw [if_pos z] at e
      exact ⟨p, hp, z, (Option.some.inj e).symm⟩
    · rw [if_neg z] at e; cases e
  · rintro ⟨p, hp, z, rfl⟩
    exact ⟨p, hp, by rw [if_pos z]⟩
theorem befores_ne {S : List Int} {f : Nat → Int} {n : Nat} (h1 : 1 ∈ S) (hn : 1 ≤ n) : befores S f n ≠ [] := fun e => by
  have : f ((n : Int) - 1).toNat ∈ befores S f n := mem_befores.mpr ⟨1, h1, by omega, rfl⟩
  rw [e] at this; cases this
theorem fewF_ex {S : List Int} (hp : ∀ p ∈ S, 1 ≤ p) (h1 : 1 ∈ S) {n : Nat} (hn : 1 ≤ n) : ∃ p : Nat, (p : Int) ∈ S ∧ p ≤ n ∧ 1 ≤ p ∧ fewF S n = fewF S (n - p) + 1 := by
  obtain ⟨m, rfl⟩ : ∃ m, n = m + 1 := ⟨n - 1, by omega⟩
  rw [fewF_succ hp]
  obtain ⟨v, h3, h4⟩ := min_ex (befores_ne (f := fewF S) h1 hn)
  rw [← minI_eq h3 h4]
  obtain ⟨p, hm, hle, rfl⟩ := mem_befores.mp h3
  have := hp p hm
  refine ⟨p.toNat, by rw [show (p.toNat : Int) = p by omega]; exact hm, by omega, by omega, ?_⟩
  rw [show (((m + 1 : Nat) : Int) - p).toNat = m + 1 - p.toNat by omega]
  omega
theorem fewF_nn {S : List Int} (hp : ∀ p ∈ S, 1 ≤ p) (h1 : 1 ∈ S) : ∀ n, 0 ≤ fewF S n := by
  intro n
  induction n using Nat.strongRecOn with
  | _ n ih =>
    by_cases z : n = 0
    · subst z; rw [fewF_zero]; omega
    · obtain ⟨p, _, h2, h3, e⟩ := fewF_ex hp h1 (n := n) (by omega)
      have := ih (n - p) (by omega)
      omega
theorem fewF_pos {S : List Int} (hp : ∀ p ∈ S, 1 ≤ p) (h1 : 1 ∈ S) {n : Nat} (hn : 1 ≤ n) : 1 ≤ fewF S n := by
  obtain ⟨p, _, h2, h3, e⟩ := fewF_ex hp h1 hn
  have := fewF_nn hp h1 (n - p)
  omega
theorem stock_one {ks : List V} {b : Int} {L : List Int} (h : StockOf ks b L) (hk : KdL ks) (hb : 1 ≤ b) : 1 ∈ L := by
  obtain ⟨v, hv⟩ : ∃ v, v ∈ ks := List.exists_mem_of_length_pos (by have := hk.lo; omega)
  exact (h.mem 1).mpr ⟨hb, v, hv, 1, by omega, dots_one (hk.kd v hv)⟩
/-! ### the first of unlike ones -/
def firstP (P : Nat → Bool) : Nat → Option Nat
  | 0 => none
  | t + 1 => match firstP P t with
    | some a => some a
    | none => if P t then some t else none
theorem firstP_some {P : Nat → Bool} : ∀ {t a : Nat}, firstP P t = some a → a < t ∧ P a = true ∧ ∀ j < a, P j = false
  | 0, _, h => by cases h
  | t + 1, a, h => by
    unfold firstP at h
    cases e : firstP P t with
    | some b =>
      rw [e] at h
      cases h
      obtain ⟨h1, h2, h3⟩ := firstP_some e
      exact ⟨by omega, h2, h3⟩
    | none =>
      rw [e] at h
      by_cases z : P t = true
      · simp only [z, if_true, Option.some.injEq] at h
        subst h
        refine ⟨by omega, z, fun j hj => ?_⟩
        exact firstP_none e j hj
      · simp only [z] at h
        cases h
where
  firstP_none {P : Nat → Bool} : ∀ {t : Nat}, firstP P t = none → ∀ j < t, P j = false
    | 0, _, j, hj => absurd hj (Nat.not_lt_zero _)
    | t + 1, h, j, hj => by
      unfold firstP at h
      cases e : firstP P t with
      | some b => rw [e] at h; cases h
      | none =>
        rw [e] at h
        by_cases z : P t = true
        · simp [z] at h
        · by_cases y : j = t
          · subst y; simpa using z
          · exact firstP_none e j (by omega)
theorem firstP_ex {P : Nat → Bool} {t a : Nat} (h1 : a < t) (h2 : P a = true) : ∃ b, firstP P t = some b := by
  cases e : firstP P t with
  | none =>
    have := firstP_some.firstP_none e a h1
    rw [h2] at this; cases this
  | some b => exact ⟨b, rfl⟩
theorem getD_mem {S : List Int} {j : Nat} (hj : j < S.length) : S.getD j 0 ∈ S := by
  rw [List.getD_eq_getElem?_getD, List.getElem?_eq_getElem hj]
  exact List.getElem_mem _
/-! ### a list of draws -/
/-! ### levels of the fewest -/
/-! ### which need so many -/
/-! ### places -/
theorem dots_zero {v : V} (hv : IsKd v) : dotsV v 0 = 0 := by
  rcases hv with ⟨s, rfl, h1, h2⟩ | rfl
  · show 0 + (s - 2) * (0 * (0 - 1) / 2) = 0
    rw [show (0 * (0 - 1) / 2 : Int) = 0 by decide]; omega
  · rfl
theorem dots_mon {v : V} (hv : IsKd v) {i j : Int} (h1 : 0 ≤ i) (h2 : i ≤ j) : dotsV v i + (j - i) ≤ dotsV v j := by
  by_cases z : i = 0
  · subst z
    rw [dots_zero hv]
    by_cases y : j = 0
    · subst y; rw [dots_zero hv]; omega
    · have := dots_ge hv (k := j) (by omega); omega
  · exact dots_le hv (by omega) h2
structure IsPl (v : V) (n k : Int) : Prop where
  one : 1 ≤ k
  up : n ≤ dotsV v k
  lo : dotsV v (k - 1) < n
theorem IsPl.of {v : V} (hv : IsKd v) {n k : Int} (h1 : 1 ≤ k) (e : dotsV v k = n) : IsPl v n k := by
  refine ⟨h1, by omega, ?_⟩
  have := dots_mon hv (i := k - 1) (j := k) (by omega) (by omega)
  omega
/-! ### bits -/
theorem bits_lt {X n : Nat} (h : ∀ i, n ≤ i → X.testBit i = false) : X < 2 ^ n := Nat.lt_pow_two_of_testBit X h
/-- the numbers to b that need at most c -/
structure BLev (S : List Int) (b : Nat) (c : Int) (X : Nat) : Prop where
  nn : 0 ≤ c
  bit : ∀ u, X.testBit u = true ↔ u ≤ b ∧ fewF S u ≤ c
theorem BLev.lt {S : List Int} {b : Nat} {c : Int} {X : Nat} (l : BLev S b c X) : X < 2 ^ (b + 1) := bits_lt fun i hi => by
  cases e : X.testBit i with
  | false => rfl
  | true => have := ((l.bit i).mp e).1; omega
theorem BLev.all {S : List Int} {b : Nat} {c : Int} {X : Nat} (l : BLev S b c X) : X = 2 ^ (b + 1) - 1 ↔ ∀ u ≤ b, fewF S u ≤ c := by
  constructor
  · intro h u hu
    have e : X.testBit u = true := by rw [h, Nat.testBit_two_pow_sub_one]; simp; omega
    exact ((l.bit u).mp e).2
  · intro h
    refine Nat.eq_of_testBit_eq fun i => ?_
    rw [Nat.testBit_two_pow_sub_one, Bool.eq_iff_iff, l.bit]
    simp only [decide_eq_true_eq]
    constructor
    · rintro ⟨h1, _⟩; omega
    · intro h1; exact ⟨by omega, h i (by omega)⟩
/-! ### of one kind -/
/-! ### the fewest, looked at -/
/-! ### sums as lists -/
def XS (S : List Int) (m : Nat) (t : Int) : Prop := ∃ l : List Int, (∀ x ∈ l, x ∈ S) ∧ l.length = m ∧ l.sum = t
theorem sum_erase {p : Int} : ∀ {l : List Int}, p ∈ l → (l.erase p).sum + p = l.sum
  | [], h => by cases h
  | x :: r, h => by
    rw [List.erase_cons]
    by_cases e : x = p
    · subst e; simp; omega
    · have hr : p ∈ r := by
        rcases List.mem_cons.mp h with z | z
        · exact absurd z.symm e
        · exact z
      have ih := sum_erase hr
      rw [if_neg (by simpa using e), List.sum_cons, List.sum_cons]
      omega
theorem sum_nn : ∀ {l : List Int}, (∀ x ∈ l, 1 ≤ x) → (l.length : Int) ≤ l.sum
  | [], _ => by simp
  | x :: r, h => by
    have := sum_nn (l := r) fun y hy => h y (List.mem_cons_of_mem _ hy)
    have := h x (by simp)
    rw [List.sum_cons, List.length_cons]
    omega
section
variable {S S' : List Int} {m : Nat} {t p : Int}
theorem XS.zero : XS S 0 t ↔ t = 0 := by
  constructor
  · rintro ⟨l, _, h, e⟩
    have : l = [] := List.eq_nil_of_length_eq_zero h
    subst this
    exact e.symm
  · rintro rfl
    exact ⟨[], by simp, rfl, rfl⟩
theorem XS.mono (h : ∀ x ∈ S, x ∈ S') : XS S m t → XS S' m t := by
  rintro ⟨l, h1, h2, h3⟩
  exact ⟨l, fun x hx => h x (h1 x hx), h2, h3⟩
theorem XS.cons (hm : p ∈ S) (h : XS S m (t - p)) : XS S (m + 1) t := by
  obtain ⟨l, h1, h2, h3⟩ := h
  refine ⟨p :: l, fun x hx => ?_, by simp [h2], by rw [List.sum_cons]; omega⟩
  rcases List.mem_cons.mp hx with rfl | z
  · exact hm
  · exact h1 x z
theorem XS.nn (hp : ∀ x ∈ S, 1 ≤ x) (h : XS S m t) : (m : Int) ≤ t := by
  obtain ⟨l, h1, h2, h3⟩ := h
  have := sum_nn (l := l) fun x hx => hp x (h1 x hx)
  omega
theorem XS.step (hS : ∀ x, x ∈ S' ↔ x ∈ S ∨ x = p) : XS S' (m + 1) t ↔ XS S (m + 1) t ∨ XS S' m (t - p) := by
  constructor
  · rintro ⟨l, h1, h2, h3⟩
    by_cases hp : p ∈ l
    · refine .inr ⟨l.erase p, fun x hx => h1 x (List.mem_of_mem_erase hx), ?_, ?_⟩
      · rw [List.length_erase_of_mem hp]; omega
      · have := sum_erase hp; omega
    · refine .inl ⟨l, fun x hx => ?_, h2, h3⟩
      rcases (hS x).mp (h1 x hx) with z | z
      · exact z
      · subst z; exact absurd hx hp
  · rintro (h | h)
    · exact h.mono fun x hx => (hS x).mpr (.inl hx)
    · exact h.cons ((hS p).mpr (.inr rfl))
end
theorem take_mem {S : List Int} {j : Nat} {p : Int} (h : S[j]? = some p) (x : Int) : x ∈ S.take (j + 1) ↔ x ∈ S.take j ∨ x = p := by
  rw [List.take_succ, h]
  simp
/-! ### the first of the fewest -/
noncomputable def fOk (S : List Int) (n : Nat) (m : Int) (j : Nat) : Bool := decide (S.getD j 0 ≤ (n : Int)) && decide (fewF (S.take (j + 1)) (n - (S.getD j 0).toNat) = m)
noncomputable def fsum (S : List Int) : Nat → Nat → List Int
  | 0, _ => []
  | m + 1, n => match firstP (fOk S n m) S.length with
    | some j => S.getD j 0 :: fsum S m (n - (S.getD j 0).toNat)
    | none => []
theorem getD_get {S : List Int} {j : Nat} (h : j < S.length) : S[j]? = some (S.getD j 0) := by
  rw [List.getD_eq_getElem?_getD, List.getElem?_eq_getElem h]; rfl
/-- a stock to look at: its first is 1, all from 1 on -/
structure Stk (S : List Int) : Prop where
  pos : ∀ x ∈ S, 1 ≤ x
  one : S[0]? = some 1
theorem Stk.lt {S : List Int} (k : Stk S) : 0 < S.length := by
  have := k.one
  cases S with
  | nil => simp at this
  | cons x r => simp
theorem Stk.mem1 {S : List Int} (k : Stk S) {j : Nat} : 1 ∈ S.take (j + 1) := by
  have := k.one
  cases S with
  | nil => simp at this
  | cons x r => have e : x = 1 := by simpa using this
                subst e; simp
theorem Stk.mem {S : List Int} (k : Stk S) : 1 ∈ S := List.mem_of_mem_take (i := 0 + 1) k.mem1
theorem few_pos {S : List Int} (k : Stk S) {n : Nat} (h : 0 < n) : ∃ m : Nat, fewF S n = ((m + 1 : Nat) : Int) := by
  have := fewF_pos k.pos k.mem (n := n) h
  exact ⟨(fewF S n).toNat - 1, by omega⟩
theorem Stk.of {ks : List V} {b : Int} {L : List Int} (hL : StockOf ks b L) (hk : KdL ks) (hb : 1 ≤ b) : Stk L := by
  have hp : ∀ x ∈ L, 1 ≤ x := fun x hx => hL.pos hk.kd hx
  refine ⟨hp, ?_⟩
  have h1 := stock_one hL hk hb
  have up := hL.up
  cases L with
  | nil => cases h1
  | cons x r =>
    have hx := hp x (by simp)
    rcases List.mem_cons.mp h1 with e | e
    · rw [← e]; rfl
    · have := (List.pairwise_cons.mp up).1 1 e
      omega
/-! ### rows of rows -/
structure QRows (H : Hp) (qs : List Addr) (f : Nat → Nat → V) (i w : Nat) : Prop where
  len : qs.length = i
  row : ∀ j q, qs[j]? = some q → H q = some (.lst (tab w (f j)))
section
variable {H H' : Hp} {qs : List Addr} {f : Nat → Nat → V} {i w : Nat}
theorem QRows.same (r : QRows H qs f i w) (s : Same H H') : QRows H' qs f i w := ⟨r.len, fun j q h => s _ _ (r.row j q h)⟩
theorem QRows.at {j : Nat} {jv : Int} (r : QRows H qs f i w) (e : jv = (j : Int)) (hj : j < i) : ∃ q, atI (qs.map V.ref) jv = some (.ref q) ∧ H q = some (.lst (tab w (f j))) := by
  have h : j < qs.length := by have := r.len; omega
  exact ⟨qs[j], at_nat e (by rw [List.getElem?_map, List.getElem?_eq_getElem h]; rfl), r.row j _ (List.getElem?_eq_getElem h)⟩
theorem QRows.nil : QRows H [] f 0 w := ⟨rfl, fun j q h => by simp at h⟩
end
/-! ### == of lists of lists of ints -/
theorem toD_ints (ns : List Int) : (ns.map V.int).map toD = ns.map PyData.int := by
  rw [List.map_map]; rfl
theorem dp_ints {K : Fg} {H : Hp} {p : Addr} {ns : List Int} (h : SqL K H p (ns.map V.int)) : Dp K H (.ref p) (.list (ns.map PyData.int)) := by
  have := dpAll_sV (K := K) (H := H) (ints_sV ns)
  rw [toD_ints] at this
  exact .lst h this
theorem i_neG {K : Fg} {H : Hp} {Q : VK} {x y : V} {d e : PyData} (h1 : Dp K H x d) (h2 : Dp K H y e) (s1 : SeqAt.shaped d = true) (s2 : SeqAt.shaped e = true) (h : Q (.bl (!PyData.eqv d e)) H) : uNe K x y H Q := .inr ⟨d, e, h1, h2, s1, s2, h⟩
/-! ### tables of the fewest -/
/-! ### the first sum -/
structure FsI (S G0 fs : List Int) (c left N : Nat) : Prop where
  g : fs ++ fsum S c left = G0
  f : fewF S left = (c : Int)
  n : left ≤ N
  l : fs.length + c ≤ N
theorem FsI.pos {S G0 fs : List Int} {c left N : Nat} (k : Stk S) (i : FsI S G0 fs c left N) (h : 0 < left) : ∃ c', c = c' + 1 := by
  obtain ⟨m, hm⟩ := few_pos k h
  have := i.f
  exact ⟨m, by omega⟩
/-! ### so many parts, as bits -/
/-! ### the fewest, reckoned -/
/-! ### papers -/
/-! ### given lists -/
/-! ### a Keeper -/
def kfs (ol : Addr) (b : Int) : List (Str × V) := putF "bound" (.int b) (putF "own" (.ref ol) [])
structure Kpr (C : Addr) (H : Hp) (kk ol : Addr) (b : Nat) (ks : List V) : Prop where
  o : ∃ dx, H kk = some (.ins C dx (kfs ol b))
  l : H ol = some (.lst ks)
theorem Kpr.same {C : Addr} {H H' : Hp} {kk ol : Addr} {b : Nat} {ks : List V} (k : Kpr C H kk ol b ks) (s : Same H H') : Kpr C H' kk ol b ks := by
  obtain ⟨dx, e⟩ := k.o
  exact ⟨⟨dx, s _ _ e⟩, s _ _ k.l⟩
/-! ### how many need so many -/
noncomputable def cntF (L : List Int) (b : Nat) (c : Int) : Nat := ((List.range (b + 1)).filter fun u => decide (fewF L u = c)).length
section
variable {H : Hp} {Q : VK} {σ : L2.St} {ty td : TE} {f : Addr} {ks : List Int} {n : Int}
theorem DI.some {H : Hp} {f : Addr} {ks : List Int} (d : DI H f ks) : ∃ o, H f = some o := by
  obtain ⟨kvs, e, _⟩ := d
  exact ⟨_, e⟩
end
/-- the numbers of a level, each once -/
structure LevN (L : List Int) (b : Nat) (c : Int) (xs : List Int) : Prop where
  nd : xs.Nodup
  mem : ∀ x, x ∈ xs ↔ ∃ u : Nat, x = u ∧ u ≤ b ∧ fewF L u = c
theorem LevN.len {L : List Int} {b : Nat} {c : Int} {xs : List Int} (l : LevN L b c xs) : xs.length = cntF L b c := by
  have e : xs.Perm (((List.range (b + 1)).filter fun u => decide (fewF L u = c)).map fun (u : Nat) => (u : Int)) := by
    refine (List.perm_ext_iff_of_nodup l.nd ?_).mpr fun x => ?_
    · unfold List.Nodup
      rw [List.pairwise_map]
      exact ((List.nodup_range).filter _).imp fun h z => h (by exact_mod_cast z)
    · rw [l.mem, List.mem_map]
      constructor
      · rintro ⟨u, rfl, hu, e⟩
        exact ⟨u, List.mem_filter.mpr ⟨List.mem_range.mpr (by omega), decide_eq_true e⟩, rfl⟩
      · rintro ⟨u, hu, rfl⟩
        obtain ⟨h1, h2⟩ := List.mem_filter.mp hu
        exact ⟨u, rfl, by have := List.mem_range.mp h1; omega, of_decide_eq_true h2⟩
  rw [e.length_eq, List.length_map]; rfl
/-! ### a Keeper asked -/
/-! ### how many sums, by how many parts -/
def cst (p : Nat) (f : Nat → Nat → Nat) (t k : Nat) : Nat := f t k + if h : 1 ≤ p ∧ p ≤ t ∧ 1 ≤ k then cst p f (t - p) (k - 1) else 0
termination_by t
decreasing_by omega
def ust (p : Nat) (f : Nat → Nat) (t : Nat) : Nat := f t + if h : 1 ≤ p ∧ p ≤ t then ust p f (t - p) else 0
termination_by t
decreasing_by omega
def crow (S : List Int) : Nat → Nat → Nat := S.foldl (fun f p => cst p.toNat f) fun t k => if t = 0 ∧ k = 0 then 1 else 0
def urow (S : List Int) : Nat → Nat := S.foldl (fun f p => ust p.toNat f) fun t => if t = 0 then 1 else 0
theorem crow_snoc {S : List Int} {i : Nat} {p : Int} (h : S[i]? = some p) : crow (S.take (i + 1)) = cst p.toNat (crow (S.take i)) := by
  unfold crow
  rw [List.take_succ, h]; simp
theorem urow_app (S : List Int) (p : Int) : urow (S ++ [p]) = ust p.toNat (urow S) := by
  unfold urow
  rw [List.foldl_append]; rfl
theorem ust_le {p : Nat} {f : Nat → Nat} {t : Nat} (h : 1 ≤ p) (ht : p ≤ t) : ust p f t = f t + ust p f (t - p) := by
  rw [ust, dif_pos ⟨h, ht⟩]
theorem ust_lt {p : Nat} {f : Nat → Nat} {t : Nat} (ht : t < p) : ust p f t = f t := by
  rw [ust, dif_neg (by omega), Nat.add_zero]
theorem cst_lt {p : Nat} {f : Nat → Nat → Nat} {t k : Nat} (ht : t < p) : cst p f t k = f t k := by
  rw [cst, dif_neg (by omega), Nat.add_zero]
theorem cst_zero {p : Nat} {f : Nat → Nat → Nat} {t : Nat} : cst p f t 0 = f t 0 := by
  rw [cst, dif_neg (by omega), Nat.add_zero]
theorem cst_le {p : Nat} {f : Nat → Nat → Nat} {t k : Nat} (h : 1 ≤ p) (ht : p ≤ t) : cst p f t (k + 1) = f t (k + 1) + cst p f (t - p) k := by
  rw [cst, dif_pos ⟨h, ht, by omega⟩, Nat.add_sub_cancel]
theorem cst_none {p : Nat} {f : Nat → Nat → Nat} (hp : 1 ≤ p) (h : ∀ t k, t < k → f t k = 0) : ∀ n t k, t ≤ n → t < k → cst p f t k = 0 := by
  intro n
  induction n with
  | zero =>
    intro t k ht hk
    rw [cst_lt (by omega), h t k hk]
  | succ n ih =>
    intro t k ht hk
    by_cases z : p ≤ t
    · obtain ⟨k, rfl⟩ : ∃ k', k = k' + 1 := ⟨k - 1, by omega⟩
      rw [cst_le hp z, h t _ hk, ih (t - p) k (by omega) (by omega)]
    · rw [cst_lt (by omega), h t k hk]
theorem fold_none : ∀ (S : List Int) (f : Nat → Nat → Nat), (∀ x ∈ S, 1 ≤ x) → (∀ t k, t < k → f t k = 0) → ∀ t k, t < k → (S.foldl (fun f p => cst p.toNat f) f) t k = 0
  | [], f, _, h => h
  | p :: S, f, hp, h => by
    have p1 := hp p (by simp)
    exact fold_none S _ (fun x hx => hp x (List.mem_cons_of_mem _ hx)) fun t k hk => cst_none (by omega) h t t k (Nat.le_refl _) hk
theorem crow_none {S : List Int} (hp : ∀ x ∈ S, 1 ≤ x) {t k : Nat} (h : t < k) : crow S t k = 0 := fold_none S _ hp (fun t k hk => by rw [if_neg (by omega)]) t k h
/-! sums over k -/
def ksum (g : Nat → Nat) : Nat → Nat
  | 0 => 0
  | n + 1 => ksum g n + g n
theorem ksum_ext {g h : Nat → Nat} : ∀ {n : Nat}, (∀ k < n, g k = h k) → ksum g n = ksum h n
  | 0, _ => rfl
  | n + 1, e => by
    show ksum g n + g n = ksum h n + h n
    rw [ksum_ext fun k hk => e k (by omega), e n (by omega)]
theorem ksum_add {g h : Nat → Nat} : ∀ n, ksum (fun k => g k + h k) n = ksum g n + ksum h n
  | 0 => rfl
  | n + 1 => by
    show ksum (fun k => g k + h k) n + (g n + h n) = (ksum g n + g n) + (ksum h n + h n)
    rw [ksum_add n]; omega
theorem ksum_front {g : Nat → Nat} : ∀ n, ksum g (n + 1) = g 0 + ksum (fun k => g (k + 1)) n
  | 0 => by show 0 + g 0 = g 0 + 0; omega
  | n + 1 => by
    show ksum g (n + 1) + g (n + 1) = g 0 + (ksum (fun k => g (k + 1)) n + g (n + 1))
    rw [ksum_front n]; omega
theorem ksum_more {g : Nat → Nat} {n : Nat} : ∀ {m : Nat}, n ≤ m → (∀ k, n ≤ k → k < m → g k = 0) → ksum g m = ksum g n
  | 0, h, _ => by have : n = 0 := by omega
                  subst this; rfl
  | m + 1, h, z => by
    by_cases e : n = m + 1
    · subst e; rfl
    · show ksum g m + g m = _
      rw [ksum_more (m := m) (by omega) fun k h1 h2 => z k h1 (by omega), z m (by omega) (by omega), Nat.add_zero]
theorem ksum_ge {g : Nat → Nat} {k : Nat} : ∀ {n : Nat}, k < n → g k ≤ ksum g n
  | n + 1, h => by
    show g k ≤ ksum g n + g n
    by_cases e : k = n
    · subst e; omega
    · have := ksum_ge (g := g) (k := k) (n := n) (by omega); omega
/-- all of them, however many parts -/
theorem cst_sum {p : Nat} {f : Nat → Nat → Nat} {u : Nat → Nat} (hp : 1 ≤ p) (h : ∀ t k, t < k → f t k = 0) (hu : ∀ t, ksum (f t) (t + 1) = u t) : ∀ n t, t ≤ n → ksum (cst p f t) (t + 1) = ust p u t := by
  intro n
  induction n with
  | zero =>
    intro t ht
    have : t = 0 := by omega
    subst this
    rw [ust_lt (by omega), ← hu]
    exact ksum_ext fun k hk => cst_lt (by omega)
  | succ n ih =>
    intro t ht
    by_cases z : p ≤ t
    · rw [ust_le hp z, ← hu, ← ih (t - p) (by omega), ksum_front, ksum_front, cst_zero]
      rw [ksum_ext (h := fun k => f t (k + 1) + cst p f (t - p) k) fun k _ => cst_le hp z, ksum_add]
      rw [ksum_more (g := cst p f (t - p)) (n := t - p + 1) (m := t) (by omega) fun k h1 h2 => cst_none hp h (t - p) (t - p) k (Nat.le_refl _) (by omega)]
      omega
    · rw [ust_lt (by omega), ← hu]
      exact ksum_ext fun k hk => cst_lt (by omega)
theorem fold_sum : ∀ (S : List Int) (f : Nat → Nat → Nat) (u : Nat → Nat), (∀ x ∈ S, 1 ≤ x) → (∀ t k, t < k → f t k = 0) → (∀ t, ksum (f t) (t + 1) = u t) → ∀ t, ksum ((S.foldl (fun f p => cst p.toNat f) f) t) (t + 1) = (S.foldl (fun f p => ust p.toNat f) u) t
  | [], f, u, _, _, h => h
  | p :: S, f, u, hp, h0, h => by
    have p1 := hp p (by simp)
    exact fold_sum S _ _ (fun x hx => hp x (List.mem_cons_of_mem _ hx)) (fun t k hk => cst_none (by omega) h0 t t k (Nat.le_refl _) hk) fun t => cst_sum (by omega) h0 h t t (Nat.le_refl _)
theorem crow_sum {S : List Int} (hp : ∀ x ∈ S, 1 ≤ x) (t : Nat) : ksum (crow S t) (t + 1) = urow S t :=
  fold_sum S _ _ hp (fun t k hk => by rw [if_neg (by omega)]) (fun t => by
    cases t with
    | zero => rfl
    | succ t =>
      have e : ksum (fun k => if t + 1 = 0 ∧ k = 0 then 1 else 0) (t + 1 + 1) = ksum (fun _ => 0) (t + 1 + 1) := ksum_ext fun k _ => by rw [if_neg (by omega)]
      have z : ∀ n, ksum (fun _ => 0) n = 0 := by
        intro n; induction n with
        | zero => rfl
        | succ n ih => show ksum (fun _ => 0) n + 0 = 0; rw [ih]
      show ksum (fun k => if t + 1 = 0 ∧ k = 0 then 1 else 0) (t + 1 + 1) = if t + 1 = 0 then 1 else 0
      rw [e, z, if_neg (by omega)]) t
theorem crow_le {S : List Int} (hp : ∀ x ∈ S, 1 ≤ x) (t k : Nat) : crow S t k ≤ urow S t := by
  by_cases h : t < k
  · rw [crow_none hp h]; omega
  · rw [← crow_sum hp t]; exact ksum_ge (by omega)
/-! how many at most -/
def kseq : Nat → Nat
  | 0 => 2 ^ 64
  | p + 1 => (kseq p * 10 ^ (p + 1)) / (10 ^ (p + 1) - 9 ^ (p + 1)) + 1
theorem pow_gap (p : Nat) : 9 ^ (p + 1) < 10 ^ (p + 1) := Nat.pow_lt_pow_left (by decide) (by omega)
theorem kseq_ok (p : Nat) : kseq p * 10 ^ (p + 1) + kseq (p + 1) * 9 ^ (p + 1) ≤ kseq (p + 1) * 10 ^ (p + 1) := by
  have g := pow_gap p
  generalize h9 : 9 ^ (p + 1) = a at *
  generalize h10 : 10 ^ (p + 1) = b at *
  have e : kseq (p + 1) = kseq p * b / (b - a) + 1 := by show (kseq p * 10 ^ (p + 1)) / (10 ^ (p + 1) - 9 ^ (p + 1)) + 1 = _; rw [h9, h10]
  have d := Nat.div_add_mod (kseq p * b) (b - a)
  have m := Nat.mod_lt (kseq p * b) (show 0 < b - a by omega)
  have k1 : kseq p * b ≤ kseq (p + 1) * (b - a) := by
    rw [e, Nat.add_mul, Nat.one_mul, Nat.mul_comm (kseq p * b / (b - a))]; omega
  have k2 : kseq (p + 1) * (b - a) + kseq (p + 1) * a = kseq (p + 1) * b := by rw [← Nat.mul_add]; congr 1; omega
  omega
theorem kseq_mono (p : Nat) : kseq p ≤ kseq (p + 1) := by
  have h := kseq_ok p
  have g : 0 < 10 ^ (p + 1) := Nat.pow_pos (by decide)
  exact Nat.le_of_mul_le_mul_right (c := 10 ^ (p + 1)) (by omega) g
def Bnd (f : Nat → Nat) (K : Nat) : Prop := ∀ t, f t * 2 ^ 64 * 9 ^ t ≤ K * 10 ^ t
theorem Bnd.mono {f : Nat → Nat} {K K' : Nat} (h : Bnd f K) (k : K ≤ K') : Bnd f K' := fun t => Nat.le_trans (h t) (Nat.mul_le_mul_right _ k)
theorem Bnd.step {f : Nat → Nat} {p : Nat} (h : Bnd f (kseq p)) : Bnd (ust (p + 1) f) (kseq (p + 1)) := by
  have key : ∀ n t, t ≤ n → ust (p + 1) f t * 2 ^ 64 * 9 ^ t ≤ kseq (p + 1) * 10 ^ t := by
    intro n
    induction n with
    | zero =>
      intro t ht
      rw [ust_lt (by omega)]
      exact (h.mono (kseq_mono p)) t
    | succ n ih =>
      intro t ht
      by_cases z : p + 1 ≤ t
      · obtain ⟨s, rfl⟩ : ∃ s, t = p + 1 + s := ⟨t - (p + 1), by omega⟩
        rw [ust_le (by omega) z, Nat.add_sub_cancel_left]
        have a := h (p + 1 + s)
        have b := ih s (by omega)
        have c := kseq_ok p
        rw [Nat.pow_add] at a ⊢
        rw [Nat.pow_add 10] at a ⊢
        generalize 9 ^ (p + 1) = A at *
        generalize 10 ^ (p + 1) = B at *
        generalize 9 ^ s = A' at *
        generalize 10 ^ s = B' at *
        generalize ust (p + 1) f s = U at *
        generalize f (p + 1 + s) = F at *
        generalize kseq p = K at *
        generalize kseq (p + 1) = K' at *
        generalize (2 : Nat) ^ 64 = D at *
        have e1 : (F + U) * D * (A * A') = F * D * (A * A') + A * (U * D * A') := by
          rw [Nat.add_mul, Nat.add_mul]; congr 1
          rw [Nat.mul_left_comm]
        rw [e1]
        have e2 : A * (U * D * A') ≤ A * (K' * B') := Nat.mul_le_mul_left _ b
        have e3 : K * (B * B') + A * (K' * B') ≤ K' * (B * B') := by
          have : (K * B + K' * A) * B' ≤ K' * B * B' := Nat.mul_le_mul_right _ c
          rw [Nat.add_mul] at this
          rw [← Nat.mul_assoc, ← Nat.mul_assoc, ← Nat.mul_assoc, Nat.mul_comm A K']
          exact this
        omega
      · rw [ust_lt (by omega)]
        exact (h.mono (kseq_mono p)) t
  exact fun t => key t t (Nat.le_refl _)
theorem up_last {S : List Int} {x : Int} (up : S.Pairwise (· < ·)) (hx : x ∈ S) (hle : ∀ y ∈ S, y ≤ x) : ∃ S0, S = S0 ++ [x] ∧ ∀ y ∈ S0, y < x := by
  rcases List.eq_nil_or_concat S with rfl | ⟨S0, y, rfl⟩
  · cases hx
  · rw [List.concat_eq_append] at *
    have h := (List.pairwise_append.mp up).2.2
    have hy : y = x := by
      rcases List.mem_append.mp hx with z | z
      · have := h x z y (by simp); have := hle y (by simp); omega
      · exact (List.mem_singleton.mp z).symm
    subst hy
    exact ⟨S0, rfl, fun z hz => h z hz y (by simp)⟩
theorem urow_bnd : ∀ (N : Nat) (S : List Int), S.Pairwise (· < ·) → (∀ x ∈ S, 1 ≤ x ∧ x ≤ N) → Bnd (urow S) (kseq N)
  | 0, S, _, h => by
    have : S = [] := by
      cases S with
      | nil => rfl
      | cons x r => have := h x (by simp); omega
    subst this
    intro t
    show (if t = 0 then 1 else 0) * 2 ^ 64 * 9 ^ t ≤ 2 ^ 64 * 10 ^ t
    split
    · rw [Nat.one_mul]; exact Nat.mul_le_mul_left _ (Nat.pow_le_pow_left (by decide) _)
    · simp
  | N + 1, S, up, h => by
    by_cases z : ((N + 1 : Nat) : Int) ∈ S
    · obtain ⟨S0, rfl, h0⟩ := up_last up z fun y hy => (h y hy).2
      rw [urow_app, Int.toNat_natCast]
      exact (urow_bnd N S0 (List.pairwise_append.mp up).1 fun x hx => ⟨(h x (List.mem_append_left _ hx)).1, by have := h0 x hx; omega⟩).step
    · refine (urow_bnd N S up fun x hx => ⟨(h x hx).1, ?_⟩).mono (kseq_mono N)
      have := (h x hx).2
      have ne : x ≠ ((N + 1 : Nat) : Int) := fun e => z (e ▸ hx)
      omega
theorem bnd_at {f : Nat → Nat} {K M T : Nat} (h : Bnd f K) (c : K * 10 ^ T < M * 2 ^ 64 * 9 ^ T) {t : Nat} (ht : t ≤ T) : f t < M := by
  obtain ⟨s, rfl⟩ : ∃ s, T = t + s := ⟨T - t, by omega⟩
  have a := h t
  have p9 : 0 < 9 ^ (t + s) := Nat.pow_pos (by decide)
  have le : 9 ^ s ≤ 10 ^ s := Nat.pow_le_pow_left (by decide) _
  rw [Nat.pow_add 10] at c
  refine Nat.lt_of_not_le fun z => ?_
  have b : M * 2 ^ 64 * 9 ^ (t + s) ≤ f t * 2 ^ 64 * 9 ^ (t + s) := Nat.mul_le_mul_right _ (Nat.mul_le_mul_right _ z)
  have d : f t * 2 ^ 64 * 9 ^ (t + s) ≤ K * (10 ^ t * 10 ^ s) := by
    rw [Nat.pow_add 9, ← Nat.mul_assoc, ← Nat.mul_assoc]
    exact Nat.mul_le_mul a le
  omega
theorem urow_lt {S : List Int} (up : S.Pairwise (· < ·)) (h : ∀ x ∈ S, 1 ≤ x ∧ x ≤ 200) {t : Nat} (ht : t ≤ 200) : urow S t < 2 ^ 64 :=
  bnd_at (urow_bnd 200 S up h) (by decide +kernel) ht
/-! packed -/
def psum (g : Nat → Nat) : Nat → Nat
  | 0 => 0
  | n + 1 => psum g n + g n * 2 ^ (64 * n)
theorem psum_lt {g : Nat → Nat} : ∀ {n : Nat}, (∀ k < n, g k < 2 ^ 64) → psum g n < 2 ^ (64 * n)
  | 0, _ => by show 0 < 2 ^ (64 * 0); decide
  | n + 1, h => by
    show psum g n + g n * 2 ^ (64 * n) < _
    have a := psum_lt (g := g) (n := n) fun k hk => h k (by omega)
    have b := h n (by omega)
    rw [show 64 * (n + 1) = 64 + 64 * n by omega, Nat.pow_add]
    have c : (g n + 1) * 2 ^ (64 * n) ≤ 2 ^ 64 * 2 ^ (64 * n) := Nat.mul_le_mul_right _ (by omega)
    rw [Nat.add_mul, Nat.one_mul] at c
    omega
/-- a row's number -/
def prow (S : List Int) (t : Nat) : Nat := psum (crow S t) (t + 1)
/-! ### Counts -/
def cfs (sp rp : Addr) : List (Str × V) := putF "rows" (.ref rp) (putF "values_let" (.ref sp) [])
/-- counts to n of a stock -/
structure Cnt (C : Addr) (H : Hp) (x : Addr) (S : List Int) (n : Nat) : Prop where
  o : ∃ dx sp rp qs, H x = some (.ins C dx (cfs sp rp)) ∧ H sp = some (.lst (S.map V.int)) ∧ H rp = some (.lst (qs.map V.ref)) ∧ QRows H qs (fun j u => .int (prow (S.take j) u : Nat)) (S.length + 1) (n + 1)
theorem Cnt.same {C : Addr} {H H' : Hp} {x : Addr} {S : List Int} {n : Nat} (c : Cnt C H x S n) (s : Same H H') : Cnt C H' x S n := by
  obtain ⟨dx, sp, rp, qs, e1, e2, e3, e4⟩ := c.o
  exact ⟨dx, sp, rp, qs, s _ _ e1, s _ _ e2, s _ _ e3, e4.same s⟩
/-- a stock that is counted -/
structure StkC (S : List Int) (n : Nat) : Prop where
  up : S.Pairwise (· < ·)
  lim : ∀ x ∈ S, 1 ≤ x ∧ x ≤ 200
  n : n ≤ 200
theorem StkC.pos {S : List Int} {n : Nat} (k : StkC S n) : ∀ x ∈ S, 1 ≤ x := fun x hx => (k.lim x hx).1
theorem StkC.take {S : List Int} {n : Nat} (k : StkC S n) (j : Nat) : StkC (S.take j) n := ⟨k.up.sublist (List.take_sublist _ _), fun x hx => k.lim x (List.mem_of_mem_take hx), k.n⟩
theorem StkC.lt {S : List Int} {n : Nat} (k : StkC S n) {t : Nat} (ht : t ≤ n) (j : Nat) : crow S t j < 2 ^ 64 := Nat.lt_of_le_of_lt (crow_le k.pos t j) (urow_lt k.up k.lim (Nat.le_trans ht k.n))
theorem StkC.row {S : List Int} {n : Nat} (k : StkC S n) {t : Nat} (ht : t ≤ n) : prow S t < 2 ^ (64 * (t + 1)) := psum_lt fun j _ => k.lt ht j
theorem StkC.len {S : List Int} {n : Nat} (k : StkC S n) : S.length ≤ 200 := by
  have := up_len (lo := 1) (hi := 200) k.up (fun x hx => k.lim x hx) (by decide)
  omega
/-! ### all sums, listed -/
/-- a node -/
structure NdOk (S : List Int) (n c : Nat) (nd : List Int × Nat) : Prop where
  mem : ∀ x ∈ nd.1, x ∈ S
  len : nd.1.length = c
  le : nd.2 + c ≤ n
/-- nodes in a heap -/
structure NdL (R : Addr → Prop) (H : Hp) (qs : List Addr) (ns : List (List Int × Nat)) : Prop where
  len : qs.length = ns.length
  at_ : ∀ (j : Nat) (q : Addr) (nd : List Int × Nat), qs[j]? = some q → ns[j]? = some nd → ∃ pp, H q = some (.lst [.ref pp, .int (nd.2 : Nat)]) ∧ H pp = some (.lst (nd.1.map V.int)) ∧ ¬ R q ∧ ¬ R pp
theorem NdL.nil {R : Addr → Prop} {H : Hp} : NdL R H [] [] := ⟨rfl, fun j q nd h => by simp at h⟩
theorem g_two {K : Fg} {H : Hp} {σ : L2.St} {R : L2.St → Hp → Prop} {i j : Nat} {q : Addr} {x y : V} (e : H q = some (.lst [x, y])) (h : R ((σ.set i (some x)).set j (some y)) H) : gLst K 2 (gCons (gName i) (gCons (gName j) gNil)) (.ref q) σ H R :=
  ⟨q, [x, y], rfl, sq_of e, rfl, x, [y], rfl, y, [], rfl, rfl, h⟩
/-! ### joins -/
/-! ### what is a sum -/
structure SumOk (L : List Int) (n : Int) (xs : List Int) : Prop where
  mem : ∀ x ∈ xs, x ∈ L
  sum : xs.sum = n
  fall : xs.Pairwise (· ≥ ·)
/-! ### the first sum is one -/
theorem up_getD {S : List Int} (up : S.Pairwise (· < ·)) {i j : Nat} (h : i ≤ j) (hj : j < S.length) : S.getD i 0 ≤ S.getD j 0 := by
  by_cases z : i = j
  · subst z; exact Int.le_refl _
  · have := List.pairwise_iff_getElem.mp up i j (by omega) hj (by omega)
    rw [List.getD_eq_getElem?_getD, List.getD_eq_getElem?_getD, List.getElem?_eq_getElem hj, List.getElem?_eq_getElem (show i < S.length by omega)]
    exact Int.le_of_lt this
/-! ### few are enough -/
/-! ### all sums, one by one -/
/-- nodes as tuples -/
structure NdT (R : Addr → Prop) (H : Hp) (qs : List Addr) (ns : List (List Int × Nat)) : Prop where
  len : qs.length = ns.length
  at_ : ∀ (j : Nat) (q : Addr) (nd : List Int × Nat), qs[j]? = some q → ns[j]? = some nd → ∃ pp, H q = some (.tup [.ref pp, .int (nd.2 : Nat)]) ∧ H pp = some (.lst (nd.1.map V.int)) ∧ ¬ R q ∧ ¬ R pp
theorem NdT.nil {R : Addr → Prop} {H : Hp} : NdT R H [] [] := ⟨rfl, fun j q nd h => by simp at h⟩
theorem NdT.one {R : Addr → Prop} {H : Hp} {q pp : Addr} {nd : List Int × Nat} (a : H q = some (.tup [.ref pp, .int (nd.2 : Nat)])) (b : H pp = some (.lst (nd.1.map V.int))) (c : ¬ R q) (d : ¬ R pp) : NdT R H [q] [nd] := by
  refine ⟨rfl, fun j q' nd' h1 h2 => ?_⟩
  have z : j = 0 := by
    have := (List.getElem?_eq_some_iff.mp h1).1
    simpa using this
  subst z
  have e1 : q = q' := by simpa using h1
  have e2 : nd = nd' := by simpa using h2
  subst e1; subst e2
  exact ⟨pp, a, b, c, d⟩
/-- a beginning of a sum -/
structure Beg (S : List Int) (n : Nat) (nd : List Int × Nat) : Prop where
  mem : ∀ x ∈ nd.1, x ∈ S
  sum : nd.1.sum + (nd.2 : Int) = n
  fall : nd.1.Pairwise (· ≥ ·)
theorem Beg.ok {S : List Int} {n : Nat} {nd : List Int × Nat} (hp : ∀ x ∈ S, 1 ≤ x) (b : Beg S n nd) : NdOk S n nd.1.length nd := ⟨b.mem, rfl, by
  have := sum_nn (l := nd.1) fun x hx => hp x (b.mem x hx)
  have := b.sum
  omega⟩
/-! ### the first sum is the least -/
theorem eqv_rowI (a b : List Int) : PyData.eqv (.list (a.map PyData.int)) (.list (b.map PyData.int)) = decide (a = b) := by
  simp only [PyData.eqv]
  induction a generalizing b with
  | nil => cases b <;> simp [PyData.eqvAll]
  | cons x r ih =>
    cases b with
    | nil => simp [PyData.eqvAll]
    | cons y q =>
      simp only [List.map_cons, PyData.eqvAll, ih q, PyData.eqv]
      rw [Bool.eq_iff_iff]
      simp
/-! ### sums by their numbers -/
def fcnt (S : List Int) (n k j : Nat) : Nat := if (S.getD j 0).toNat ≤ n then crow (S.take (j + 1)) (n - (S.getD j 0).toNat) k else 0
theorem crow_nil (n k : Nat) : crow [] n k = if n = 0 ∧ k = 0 then 1 else 0 := rfl
theorem crow_split {S : List Int} (hp : ∀ x ∈ S, 1 ≤ x) (n k : Nat) : ∀ s, s ≤ S.length → crow (S.take s) n (k + 1) = ksum (fcnt S n k) s
  | 0, _ => by rw [List.take_zero, crow_nil, if_neg (by omega)]; rfl
  | s + 1, h => by
    have hs : s < S.length := by omega
    have p1 := hp _ (getD_mem hs)
    have ih := crow_split hp n k s (by omega)
    show _ = ksum (fcnt S n k) s + fcnt S n k s
    rw [← ih]
    unfold fcnt
    have e := crow_snoc (getD_get hs)
    by_cases z : (S.getD s 0).toNat ≤ n
    · rw [if_pos z, e, cst_le (by omega) z]
    · rw [if_neg z, e, cst_lt (by omega)]; rfl
theorem crow_pos_iff {S : List Int} (hp : ∀ x ∈ S, 1 ≤ x) : ∀ s, s ≤ S.length → ∀ n k : Nat, 0 < crow (S.take s) n k ↔ XS (S.take s) k n
  | 0, _, n, k => by
    rw [List.take_zero, crow_nil]
    constructor
    · intro h
      by_cases z : n = 0 ∧ k = 0
      · obtain ⟨rfl, rfl⟩ := z; exact XS.zero.mpr rfl
      · rw [if_neg z] at h; omega
    · rintro ⟨l, h1, h2, h3⟩
      have : l = [] := List.eq_nil_iff_forall_not_mem.mpr fun x hx => by cases h1 x hx
      subst this
      have e1 : n = 0 := by simp at h3; omega
      have e2 : k = 0 := by simpa using h2.symm
      rw [if_pos ⟨e1, e2⟩]; omega
  | s + 1, h, n, k => by
    have hs : s < S.length := by omega
    have p1 := hp _ (getD_mem hs)
    have hm := take_mem (getD_get hs)
    have hpt : ∀ x ∈ S.take (s + 1), 1 ≤ x := fun x hx => hp x (List.mem_of_mem_take hx)
    rw [crow_snoc (getD_get hs)]
    induction n using Nat.strongRecOn generalizing k with
    | ind n ihn =>
      cases k with
      | zero =>
        rw [cst_zero, crow_pos_iff hp s (by omega) n 0, XS.zero, XS.zero]
      | succ k =>
        have ih := crow_pos_iff hp s (by omega) n (k + 1)
        rw [XS.step hm, ← ih]
        by_cases z : (S.getD s 0).toNat ≤ n
        · rw [cst_le (by omega) z]
          have ih2 := ihn (n - (S.getD s 0).toNat) (by omega) k
          rw [show (n : Int) - S.getD s 0 = ((n - (S.getD s 0).toNat : Nat) : Int) by omega]
          constructor
          · intro w
            by_cases u : 0 < crow (S.take s) n (k + 1)
            · exact .inl u
            · exact .inr (ih2.mp (by omega))
          · rintro (w | w)
            · omega
            · have := ih2.mpr w; omega
        · rw [cst_lt (by omega)]
          constructor
          · exact .inl
          · rintro (w | w)
            · exact w
            · have := w.nn hpt; omega
theorem crow_00 (S : List Int) : crow S 0 0 = 1 := by
  have : ∀ (S : List Int) (f : Nat → Nat → Nat), f 0 0 = 1 → (S.foldl (fun f p => cst p.toNat f) f) 0 0 = 1 := by
    intro S
    induction S with
    | nil => intro f h; exact h
    | cons p q ih => intro f h; exact ih _ (by show cst p.toNat f 0 0 = 1; rw [cst_zero]; exact h)
  exact this S _ rfl
/-- the sum of a number -/
noncomputable def nth (S : List Int) : Nat → Nat → Nat → List Int
  | 0, _, _ => []
  | k + 1, n, x => match firstP (fun j => decide (x < ksum (fcnt S n k) (j + 1))) S.length with
    | some j => S.getD j 0 :: nth S k (n - (S.getD j 0).toNat) (x - ksum (fcnt S n k) j)
    | none => []
/-- where its first part stands -/
theorem nth_at {S : List Int} (hp : ∀ x ∈ S, 1 ≤ x) {s n k x : Nat} (hs : s ≤ S.length) (hx : x < crow (S.take s) n (k + 1)) :
    ∃ j, j < s ∧ firstP (fun j => decide (x < ksum (fcnt S n k) (j + 1))) S.length = some j ∧ ksum (fcnt S n k) j ≤ x ∧ x < ksum (fcnt S n k) (j + 1) ∧ (∀ i < j, ksum (fcnt S n k) (i + 1) ≤ x) ∧
      (S.getD j 0).toNat ≤ n ∧ x - ksum (fcnt S n k) j < crow (S.take (j + 1)) (n - (S.getD j 0).toNat) k ∧ nth S (k + 1) n x = S.getD j 0 :: nth S k (n - (S.getD j 0).toNat) (x - ksum (fcnt S n k) j) := by
  rw [crow_split hp n k s hs] at hx
  have hs0 : s ≠ 0 := fun z => by subst z; exact Nat.not_lt_zero _ hx
  obtain ⟨j, ej⟩ := firstP_ex (P := fun j => decide (x < ksum (fcnt S n k) (j + 1))) (t := S.length) (a := s - 1) (by omega) (decide_eq_true (by rw [show s - 1 + 1 = s by omega]; exact hx))
  obtain ⟨hj, pj, nj⟩ := firstP_some ej
  have pj' : x < ksum (fcnt S n k) (j + 1) := of_decide_eq_true pj
  have nj' : ∀ i < j, ksum (fcnt S n k) (i + 1) ≤ x := fun i hi => by have := of_decide_eq_false (nj i hi); omega
  have hjs : j < s := Nat.lt_of_not_le fun z => by
    have := nj' (s - 1) (by omega)
    rw [show s - 1 + 1 = s by omega] at this; omega
  have hlo : ksum (fcnt S n k) j ≤ x := by
    cases j with
    | zero => exact Nat.zero_le _
    | succ i => exact nj' i (by omega)
  have hf : 0 < fcnt S n k j := by
    have e : ksum (fcnt S n k) (j + 1) = ksum (fcnt S n k) j + fcnt S n k j := rfl
    omega
  have hle : (S.getD j 0).toNat ≤ n := Nat.le_of_not_lt fun z => by
    unfold fcnt at hf; rw [if_neg (by omega)] at hf; omega
  refine ⟨j, hjs, ej, hlo, pj', nj', hle, ?_, ?_⟩
  · have e : ksum (fcnt S n k) (j + 1) = ksum (fcnt S n k) j + fcnt S n k j := rfl
    have e2 : fcnt S n k j = crow (S.take (j + 1)) (n - (S.getD j 0).toNat) k := if_pos hle
    omega
  · show (match firstP (fun j => decide (x < ksum (fcnt S n k) (j + 1))) S.length with
      | some j => S.getD j 0 :: nth S k (n - (S.getD j 0).toNat) (x - ksum (fcnt S n k) j)
      | none => []) = _
    rw [ej]
theorem nth_ok {S : List Int} (hp : ∀ x ∈ S, 1 ≤ x) (up : S.Pairwise (· < ·)) : ∀ {k s n x : Nat}, s ≤ S.length → x < crow (S.take s) n k → SumOk (S.take s) n (nth S k n x) ∧ (nth S k n x).length = k
  | 0, s, n, x, hs, hx => by
    have h0 : 0 < crow (S.take s) n 0 := by omega
    have := XS.zero.mp ((crow_pos_iff hp s hs n 0).mp h0)
    exact ⟨⟨fun x hx => (by cases hx), by show (0 : Int) = n; omega, List.Pairwise.nil⟩, rfl⟩
  | k + 1, s, n, x, hs, hx => by
    obtain ⟨j, hj, _, _, _, _, hle, hx', e⟩ := nth_at hp hs hx
    have hjl : j < S.length := by omega
    have p1 := hp _ (getD_mem hjl)
    obtain ⟨ih, il⟩ := nth_ok hp up (s := j + 1) (by omega) hx'
    rw [e]
    have mj : S.getD j 0 ∈ S.take s := by
      rw [List.mem_take_iff_getElem]
      refine ⟨j, by omega, ?_⟩
      rw [List.getD_eq_getElem?_getD, List.getElem?_eq_getElem hjl]; rfl
    refine ⟨⟨fun y hy => ?_, ?_, List.pairwise_cons.mpr ⟨fun y hy => ?_, ih.fall⟩⟩, by rw [List.length_cons, il]⟩
    · rcases List.mem_cons.mp hy with rfl | z
      · exact mj
      · have := ih.mem y z
        have hsub : S.take (j + 1) ⊆ S.take s := (List.take_prefix_take_left (by omega)).subset
        exact hsub this
    · rw [List.sum_cons, ih.sum]; omega
    · have hy' := ih.mem y hy
      rw [List.mem_take_iff_getElem] at hy'
      obtain ⟨i, hi, rfl⟩ := hy'
      have := up_getD up (i := i) (j := j) (by omega) hjl
      have e2 : S.getD i 0 = S[i]'(by omega) := by rw [List.getD_eq_getElem?_getD, List.getElem?_eq_getElem]; rfl
      show S[i] ≤ S.getD j 0
      omega
def rnk (S : List Int) : List Int → Nat → Nat
  | [], _ => 0
  | y :: r, n => ksum (fcnt S n r.length) (S.idxOf y) + rnk S r (n - y.toNat)
theorem up_idxOf {S : List Int} (up : S.Pairwise (· < ·)) {j : Nat} (hj : j < S.length) : S.idxOf (S.getD j 0) = j := by
  have e : S.getD j 0 = S[j] := by rw [List.getD_eq_getElem?_getD, List.getElem?_eq_getElem hj]; rfl
  rw [e]
  have nd : S.Nodup := up.imp fun h => by omega
  exact nd.idxOf_getElem j hj
theorem rnk_nth {S : List Int} (hp : ∀ x ∈ S, 1 ≤ x) (up : S.Pairwise (· < ·)) : ∀ {k s n x : Nat}, s ≤ S.length → x < crow (S.take s) n k → rnk S (nth S k n x) n = x
  | 0, s, n, x, hs, hx => by
    have h1 : crow (S.take s) n 0 ≤ 1 := by
      have h0 : 0 < crow (S.take s) n 0 := by omega
      have := XS.zero.mp ((crow_pos_iff hp s hs n 0).mp h0)
      have : n = 0 := by omega
      subst this; rw [crow_00]; omega
    show 0 = x; omega
  | k + 1, s, n, x, hs, hx => by
    obtain ⟨j, hj, _, hlo, _, _, hle, hx', e⟩ := nth_at hp hs hx
    have hjl : j < S.length := by omega
    rw [e]
    have il := (nth_ok hp up (s := j + 1) (by omega) hx').2
    show ksum (fcnt S n (nth S k (n - (S.getD j 0).toNat) (x - ksum (fcnt S n k) j)).length) (S.idxOf (S.getD j 0)) + rnk S (nth S k (n - (S.getD j 0).toNat) (x - ksum (fcnt S n k) j)) (n - (S.getD j 0).toNat) = x
    rw [il, up_idxOf up hjl, rnk_nth hp up (s := j + 1) (by omega) hx']
    omega
theorem nth_mono {S : List Int} (hp : ∀ x ∈ S, 1 ≤ x) (up : S.Pairwise (· < ·)) : ∀ {k s n x y : Nat}, s ≤ S.length → x ≤ y → y < crow (S.take s) n k → nth S k n x ≤ nth S k n y
  | 0, s, n, x, y, _, _, _ => List.le_refl _
  | k + 1, s, n, x, y, hs, hxy, hy => by
    obtain ⟨i, hi, _, ilo, ihi, ino, ile, ix, e1⟩ := nth_at hp hs (Nat.lt_of_le_of_lt hxy hy)
    obtain ⟨j, hj, _, jlo, jhi, jno, jle, jx, e2⟩ := nth_at hp hs hy
    have hij : i ≤ j := Nat.le_of_not_lt fun z => by have := ino j z; omega
    rw [e1, e2, List.cons_le_cons_iff]
    by_cases z : i = j
    · subst z
      exact .inr ⟨rfl, nth_mono hp up (s := i + 1) (by omega) (by omega) jx⟩
    · left
      have := List.pairwise_iff_getElem.mp up i j (by omega) (by omega) (by omega)
      have a1 : S.getD i 0 = S[i]'(by omega) := by rw [List.getD_eq_getElem?_getD, List.getElem?_eq_getElem]; rfl
      have a2 : S.getD j 0 = S[j]'(by omega) := by rw [List.getD_eq_getElem?_getD, List.getElem?_eq_getElem]; rfl
      omega
/-! ### more kinds, more sums -/
/-! ### the parts that may stand first -/
structure Frs (H : Hp) (p : Addr) (S : List Int) (s n k t : Nat) (qs : List Addr) : Prop where
  h : H p = some (.lst (qs.map V.ref))
  len : qs.length = t
  le : t ≤ s
  at_ : ∀ i q, qs[i]? = some q → (S.getD i 0).toNat ≤ n ∧ H q = some (.tup [.int (S.getD i 0), .int ((i + 1 : Nat) : Int), .int (fcnt S n k i : Nat)])
  no : ∀ i, t ≤ i → i < s → n < (S.getD i 0).toNat
theorem Frs.sum {H : Hp} {p : Addr} {S : List Int} {s n k t : Nat} {qs : List Addr} (x : Frs H p S s n k t qs) : ksum (fcnt S n k) s = ksum (fcnt S n k) t := ksum_more x.le fun i h1 h2 => by
  unfold fcnt; rw [if_neg (by have := x.no i h1 h2; omega)]
/-! ### sorted(set(..)) -/
section
variable {G : Gx} {H : Hp} {Q : VK} {E : XK}
theorem u_law_cell_v2 {a : Addr} {ns : List Int} {k : Int} (hs : SqL G.K H a (ns.map V.int)) (h0 : 0 ≤ k) (h1 : k < 1000) (h : ∀ c, Q (.int c) H) : sp_law_cell_v2 G [.ref a, .int k] H Q E := by
  refine ⟨rfl, ?_⟩
  unfold t_law_cell_v2
  wtm_at "w"
  refine i_lenL hs ?_
  wtm_at "w"
  refine i_ite (fun hlt => ?_) (fun hlt => ?_)
  · wtm_at "w"
    rw [List.length_map] at hlt
    have hlt' : k.toNat < ns.length := by omega
    refine i_ixL hs (at_nat (n := k.toNat) (by omega) (v := .int ns[k.toNat]) (by rw [List.getElem?_map, List.getElem?_eq_getElem hlt']; rfl)) ?_
    exact h _
  · wtm_at "w"
    exact h _
theorem u_law_mixed {c k : Int} (h0 : 0 ≤ k) (h1 : k < 1000) (h : ∀ r H', Same H H' → 0 ≤ r → Q (.int r) H') : sp_law_mixed G [.int c, .int k] H Q E := by
  refine ⟨rfl, ?_⟩
  unfold t_law_mixed
  wtm_at "w"
  refine i_new (by simp) fun l nl => ?_
  wtm_at "w"
  have s1 : Same H (upd H l (.lst ([2147483629, 2147483587, 2147483579, 2147483563, 2147483549, 2147483543, 2147483497].map V.int))) := same_new nl
  have e1 : (upd H l (.lst ([2147483629, 2147483587, 2147483579, 2147483563, 2147483549, 2147483543, 2147483497].map V.int))) l = some (.lst ([2147483629, 2147483587, 2147483579, 2147483563, 2147483549, 2147483543, 2147483497].map V.int)) := upd_same
  show uIx _ _ _ (upd H l (.lst ([2147483629, 2147483587, 2147483579, 2147483563, 2147483549, 2147483543, 2147483497].map V.int))) _
  generalize upd H l (.lst ([2147483629, 2147483587, 2147483579, 2147483563, 2147483549, 2147483543, 2147483497].map V.int)) = H1 at s1 e1 ⊢
  have m0 := Int.emod_nonneg (c * 48271 + 7919 * k * k + 104729 * k + 11) (show (2147483647 : Int) ≠ 0 by decide)
  have m1 := Int.emod_lt_of_pos (c * 48271 + 7919 * k * k + 104729 * k + 11) (show (0 : Int) < 2147483647 by decide)
  generalize (c * 48271 + 7919 * k * k + 104729 * k + 11) % 2147483647 = m at m0 m1
  have hj : (k % 7).toNat < 7 := by omega
  obtain ⟨d, ed, hd⟩ : ∃ d : Int, ([2147483629, 2147483587, 2147483579, 2147483563, 2147483549, 2147483543, 2147483497] : List Int)[(k % 7).toNat]? = some d ∧ 0 < d := by
    generalize (k % 7).toNat = j at hj
    match j, hj with
    | 0, _ => exact ⟨_, rfl, by decide⟩
    | 1, _ => exact ⟨_, rfl, by decide⟩
    | 2, _ => exact ⟨_, rfl, by decide⟩
    | 3, _ => exact ⟨_, rfl, by decide⟩
    | 4, _ => exact ⟨_, rfl, by decide⟩
    | 5, _ => exact ⟨_, rfl, by decide⟩
    | 6, _ => exact ⟨_, rfl, by decide⟩
  refine i_ixL (sq_of e1) (at_nat (n := (k % 7).toNat) (by omega) (v := .int d) (by rw [List.getElem?_map, ed]; rfl)) ?_
  refine i_mod hd ?_
  have z0 := Int.emod_nonneg (m * m) (show d ≠ 0 by omega)
  wtm_at "w"
  refine h _ _ s1 (Int.ediv_nonneg ?_ (by decide))
  have := Int.emod_nonneg c (show (5 : Int) ≠ 0 by decide)
  have := Int.mul_nonneg z0 (show (0 : Int) ≤ 16811 by decide)
  omega
theorem rg_kinds : rgV 3 13 ++ [V.str "cubes"] = kinds11 := by decide
theorem i_lstRg2 {σ : L2.St} {i j : Int} (ok : RgOk i j) (h : ∀ p, H p = none → Q (.ref p) (upd H p (.lst (rgV i j)))) : tLstRg (tRg2 (tC (.int i)) (tC (.int j))) σ H Q := ⟨i, j, rfl, rfl, ok, h⟩
theorem u_law_kinds_v3 {c : Int} (h : ∀ p ks H', Same H H' → H p = none → H' p = some (.lst ks) → KdL ks → Q (.ref p) H') : sp_law_kinds_v3 G [.int c] H Q E := by
  refine ⟨rfl, ?_⟩
  unfold t_law_kinds_v3
  wtm_at "w"
  refine i_lstRg2 (.of_le (by decide) (by decide) (by decide) (by decide)) fun q nq => ?_
  wtm_at "w"
  refine i_new (by simp) fun q2 nq2 => ?_
  refine i_addL (xs := rgV 3 13) (ys := [.str "cubes"]) (upd_old nq2 upd_same) upd_same (by decide) fun l nl => ?_
  rw [rg_kinds]
  have s1 : Same H (upd (upd (upd H q (.lst (rgV 3 13))) q2 (.lst [.str "cubes"])) l (.lst kinds11)) := ((same_new nq).trans (same_new nq2)).trans (same_new nl)
  have nlH : H l = none := (same_new nq).free ((same_new nq2).free nl)
  have e1 : (upd (upd (upd H q (.lst (rgV 3 13))) q2 (.lst [.str "cubes"])) l (.lst kinds11)) l = some (.lst kinds11) := upd_same
  generalize upd (upd (upd H q (.lst (rgV 3 13))) q2 (.lst [.str "cubes"])) l (.lst kinds11) = H1 at s1 e1 ⊢
  wtm_at "w"
  refine i_new (by simp) fun f nf => ?_
  have nlf : l ≠ f := ne_of_none e1 nf
  have nfH : H f = none := s1.free nf
  wtm_at "w"
  refine i_rngA1 (by omega) ?_
  have hm0 := Int.emod_nonneg c (show (5 : Int) ≠ 0 by decide)
  have hm5 := Int.emod_lt_of_pos c (show (0 : Int) < 5 by decide)
  refine lk_range (n := (1 + c % 5).toNat) (fun i σ H' => Same H H' ∧ ∃ ks rest y3, σ = [some (.int c), some (.ref l), some (.ref f), y3] ∧ H' f = some (.lst ks) ∧ H' l = some (.lst rest) ∧ ks.length = i ∧ rest.length = 11 - i ∧ (ks ++ rest).Perm kinds11) ⟨s1.trans (same_new nf), [], kinds11, none, rfl, upd_same, upd_old nf e1, rfl, rfl, List.Perm.refl _⟩ ?_ ?_
  · rintro i σ H2 hi ⟨s2, ks, rest, y3, rfl, ef, el, l1, l2, pm⟩
    wtm_at "w"
    refine i_tyL ef ?_
    wtm_at "w"
    refine i_tyL el ?_
    wtm_at "w"
    refine u_law_mixed (by omega) (by omega) fun r H3 s3 r0 => ?_
    wtm_at "w"
    refine i_lenL (sq_of (s3 _ _ el)) ?_
    have hlen : 0 < (rest.length : Int) := by omega
    refine i_mod hlen ?_
    have g0 := Int.emod_nonneg r (show (rest.length : Int) ≠ 0 by omega)
    have g1 := Int.emod_lt_of_pos r hlen
    wtm_at "w"
    have hk : (r % (rest.length : Int)).toNat < rest.length := by omega
    refine i_popAt (k := (r % (rest.length : Int)).toNat) (s3 _ _ el) (by omega) hk (by omega) ?_
    wtm_at "w"
    refine i_app (upd_oth nlf.symm (s3 _ _ ef)) (sz_lt (by omega)) ?_
    refine ⟨same_mut (same_mut (s2.trans s3) nlH) nfH, ks ++ [rest[(r % (rest.length : Int)).toNat]], rest.eraseIdx (r % (rest.length : Int)).toNat, some (.int (0 + i)), rfl, upd_same, upd_oth nlf upd_same, by simp [l1], by rw [List.length_eraseIdx_of_lt hk]; omega, (perm_pop hk).trans pm⟩
  · rintro σ H2 ⟨s2, ks, rest, y3, rfl, ef, el, l1, l2, pm⟩
    wtm_at "w"
    exact h f ks H2 s2 nfH ef (kdl_of pm (by omega) (by omega))
end
/-! ### lists of sums, sorted -/
theorem perm_sub : ∀ {D M : List (List Int)}, D.Nodup → (∀ x ∈ D, x ∈ M) → M.length ≤ D.length → M.Perm D
  | [], M, _, _, h => by
    have : M = [] := List.length_eq_zero_iff.mp (Nat.le_zero.mp h)
    rw [this]
  | x :: D, M, h, hs, hl => by
    obtain ⟨h1, h2⟩ := List.nodup_cons.mp h
    have hx := hs x List.mem_cons_self
    have p := List.perm_cons_erase hx
    have e := p.length_eq
    rw [List.length_cons] at e hl
    refine p.trans (List.Perm.cons x (perm_sub h2 (fun y hy => ?_) (by omega)))
    have ne : y ≠ x := fun z => h1 (z ▸ hy)
    exact (List.mem_erase_of_ne ne).mpr (hs y (List.mem_cons_of_mem _ hy))
theorem eq_srt {D M : List (List Int)} (h1 : D.Pairwise (· ≤ ·)) (h2 : M.Pairwise (· ≤ ·)) (p : M.Perm D) : M = D := p.eq_of_pairwise (fun _ _ _ _ a b => List.le_antisymm a b) h2 h1
noncomputable def nths (S : List Int) (n k : Nat) : List (List Int) := (List.range (crow S n k)).map (nth S k n)
noncomputable def nall (S : List Int) (n : Nat) : Nat → List (List Int)
  | 0 => []
  | k + 1 => nall S n k ++ nths S n k
section
variable {S : List Int} (hp : ∀ x ∈ S, 1 ≤ x) (up : S.Pairwise (· < ·))
include hp up
theorem nth_okA {k n x : Nat} (h : x < crow S n k) : SumOk S n (nth S k n x) ∧ (nth S k n x).length = k := by
  have := nth_ok hp up (k := k) (s := S.length) (n := n) (x := x) (Nat.le_refl _) (by rw [List.take_length]; exact h)
  rwa [List.take_length] at this
theorem rnk_nthA {k n x : Nat} (h : x < crow S n k) : rnk S (nth S k n x) n = x := rnk_nth hp up (Nat.le_refl S.length) (by rw [List.take_length]; exact h)
theorem nths_mem {n k : Nat} {r : List Int} (h : r ∈ nths S n k) : SumOk S n r ∧ r.length = k := by
  obtain ⟨x, hx, rfl⟩ := List.mem_map.mp h
  exact nth_okA hp up (List.mem_range.mp hx)
theorem nths_nd (n k : Nat) : (nths S n k).Nodup := by
  unfold nths List.Nodup
  rw [List.pairwise_map]
  refine List.Pairwise.imp_of_mem (fun {a b} ha hb hne z => hne ?_) List.nodup_range
  rw [← rnk_nthA hp up (List.mem_range.mp ha), ← rnk_nthA hp up (List.mem_range.mp hb), z]
theorem nths_srt (n k : Nat) : (nths S n k).Pairwise (· ≤ ·) := by
  unfold nths
  rw [List.pairwise_map]
  refine List.Pairwise.imp_of_mem (fun {a b} ha hb hlt => ?_) List.pairwise_lt_range
  exact nth_mono hp up (Nat.le_refl S.length) (Nat.le_of_lt hlt) (by rw [List.take_length]; exact List.mem_range.mp hb)
omit hp up in
theorem nths_len (n k : Nat) : (nths S n k).length = crow S n k := by unfold nths; rw [List.length_map, List.length_range]
omit hp up in
theorem nall_len (n : Nat) : ∀ k, (nall S n k).length = ksum (crow S n) k
  | 0 => rfl
  | k + 1 => by
    show (nall S n k ++ nths S n k).length = _
    rw [List.length_append, nall_len n k, nths_len]; rfl
theorem nall_mem {n : Nat} {r : List Int} : ∀ {k : Nat}, r ∈ nall S n k → SumOk S n r ∧ r.length < k
  | 0, h => by cases h
  | k + 1, h => by
    rcases List.mem_append.mp h with z | z
    · have := nall_mem z
      exact ⟨this.1, by omega⟩
    · have := nths_mem hp up z
      exact ⟨this.1, by omega⟩
theorem nall_nd (n : Nat) : ∀ k, (nall S n k).Nodup
  | 0 => List.nodup_nil
  | k + 1 => by
    refine List.nodup_append.mpr ⟨nall_nd n k, nths_nd hp up n k, fun a ha b hb z => ?_⟩
    have h1 := (nall_mem hp up ha).2
    have h2 := (nths_mem hp up hb).2
    rw [z] at h1
    omega
theorem nall_k (n k : Nat) : ∀ m, (nall S n m).filter (fun r => decide (r.length = k)) = if k < m then nths S n k else []
  | 0 => by rw [if_neg (by omega)]; rfl
  | m + 1 => by
    show (nall S n m ++ nths S n m).filter _ = _
    rw [List.filter_append, nall_k n k m]
    by_cases h : k = m
    · subst h
      rw [if_neg (by omega), if_pos (by omega), List.nil_append, List.filter_eq_self]
      intro r hr
      exact decide_eq_true (nths_mem hp up hr).2
    · have e : (nths S n m).filter (fun r => decide (r.length = k)) = [] := by
        rw [List.filter_eq_nil_iff]
        intro r hr z
        have := (nths_mem hp up hr).2
        have := of_decide_eq_true z
        omega
      rw [e, List.append_nil]
      by_cases h2 : k < m
      · rw [if_pos h2, if_pos (by omega)]
      · rw [if_neg h2, if_neg (by omega)]
end
structure SmR (S : List Int) (t : Nat) (M : List (List Int)) : Prop where
  mem : ∀ r, SumOk S t r ↔ r ∈ M
  srt : M.Pairwise (· ≤ ·)
  len : M.length = urow S t
section
variable {S : List Int} {t : Nat} {M : List (List Int)} (R : SmR S t M) (hp : ∀ x ∈ S, 1 ≤ x) (up : S.Pairwise (· < ·))
include R hp up
theorem SmR.perm : M.Perm (nall S t (t + 1)) := perm_sub (nall_nd hp up t (t + 1)) (fun x hx => (R.mem x).mp (nall_mem hp up hx).1) (by rw [R.len, nall_len, crow_sum hp]; exact Nat.le_refl _)
theorem SmR.nd : M.Nodup := (R.perm hp up).nodup_iff.mpr (nall_nd hp up t (t + 1))
theorem SmR.k (k : Nat) : M.filter (fun r => decide (r.length = k)) = nths S t k := by
  refine eq_srt (nths_srt hp up t k) (R.srt.filter _) ?_
  have p := (R.perm hp up).filter (fun r => decide (r.length = k))
  rw [nall_k hp up] at p
  by_cases h : k < t + 1
  · rwa [if_pos h] at p
  · rw [if_neg h] at p
    have e : nths S t k = [] := by
      unfold nths
      rw [crow_none hp (by omega)]; rfl
    rw [e]; exact p
theorem SmR.kl (k : Nat) : (M.filter (fun r => decide (r.length = k))).length = crow S t k := by rw [R.k hp up, nths_len]
theorem SmR.le : ∀ k : Nat, (M.filter (fun r => decide (r.length ≤ k))).length = ksum (crow S t) (k + 1)
  | 0 => by
    have e : (fun r : List Int => decide (r.length ≤ 0)) = fun r => decide (r.length = 0) := by
      funext r; rw [Bool.eq_iff_iff, decide_eq_true_iff, decide_eq_true_iff]; omega
    rw [e, R.kl hp up]
    exact (Nat.zero_add _).symm
  | k + 1 => by
    have ih := SmR.le k
    have h2 := R.kl hp up (k + 1)
    have e : ∀ M : List (List Int), (M.filter (fun r => decide (r.length ≤ k + 1))).length = (M.filter (fun r => decide (r.length ≤ k))).length + (M.filter (fun r => decide (r.length = k + 1))).length := by
      intro M
      induction M with
      | nil => rfl
      | cons r M ih =>
        simp only [List.filter_cons]
        by_cases c1 : r.length ≤ k
        · rw [if_pos (by simp; omega), if_pos (by simp; omega), if_neg (by simp; omega)]
          simp only [List.length_cons]; omega
        · by_cases c2 : r.length = k + 1
          · rw [if_pos (by simp; omega), if_neg (by simp; omega), if_pos (by simp; omega)]
            simp only [List.length_cons]; omega
          · rw [if_neg (by simp; omega), if_neg (by simp; omega), if_neg (by simp; omega)]
            exact ih
    rw [e, ih, h2]; rfl
end
/-! ### sums of unlike parts, listed -/
structure SmI (H : Hp) (q : Addr) (S : List Int) (t : Nat) (Bs : List Rw) : Prop where
  h : H q = some (.lst (Bs.map fun b => .ref b.1))
  b : ∀ b ∈ Bs, H b.1 = some (.lst (b.2.map V.int))
  r : SmR S t (Bs.map (·.2))
  lim : Bs.length < 16000000
theorem SmI.same {H H' : Hp} {q : Addr} {S : List Int} {t : Nat} {Bs : List Rw} (x : SmI H q S t Bs) (s : Same H H') : SmI H' q S t Bs := ⟨s _ _ x.h, fun b hb => s _ _ (x.b b hb), x.r, x.lim⟩
theorem given_gen {α : Type} {S : List α} {g : α → Option V} : given (fun j => (S[j]?).bind g) S.length = S.filterMap g := by
  have h : ∀ n ≤ S.length, given (fun j => (S[j]?).bind g) n = (S.take n).filterMap g := by
    intro n
    induction n with
    | zero => intro _; rfl
    | succ n ih =>
      intro hn
      show given _ n ++ (match (S[n]?).bind g with | some y => [y] | none => []) = _
      rw [ih (by omega), List.take_add_one, List.getElem?_eq_getElem (by omega), List.filterMap_append]
      congr 1
      show (match (some S[n]).bind g with | some y => [y] | none => []) = List.filterMap g [S[n]]
      cases e : g S[n] <;> simp [e]
  rw [h _ (Nat.le_refl _), List.take_length]
structure EvI (H : Hp) (ev : Addr) (L : List Int) (n : Nat) (es : List V) : Prop where
  h : H ev = some (.lst es)
  len : es.length = n + 1
  at_ : ∀ t, t ≤ n → ∃ q Bs, es[t]? = some (.ref q) ∧ SmI H q L t Bs
theorem EvI.same {H H' : Hp} {ev : Addr} {L : List Int} {n : Nat} {es : List V} (x : EvI H ev L n es) (s : Same H H') : EvI H' ev L n es := ⟨s _ _ x.h, x.len, fun t ht => by
  obtain ⟨q, Bs, h1, h2⟩ := x.at_ t ht
  exact ⟨q, Bs, h1, h2.same s⟩⟩
/-! ### numbers and kinds as texts -/
open TL in
def dig (n : Nat) : Str := Str.ofString (toString ((n : Nat) : Int))
open TL in
theorem dig_tl (n : Nat) : tl (dig n) = numL n := tl_num n
theorem dig_int {n : Nat} (h : n < 1000) : PySem.intText? (dig n) = some (n : Int) := TL.int_num (Nat.le_trans (TL.numL_len (k := 3) (by decide) (by omega)) (by decide))
theorem dig_len {n : Nat} (h : n < 1000) : 1 ≤ (dig n).length ∧ (dig n).length ≤ 3 := by
  rw [TL.len_tl, dig_tl]
  exact ⟨List.length_pos_iff.mpr (TL.numL_ne n), TL.numL_len (k := 3) (by decide) (by omega)⟩
theorem dig_free {n s : Nat} (h : s < 48 ∨ 57 < s) : s ∉ TL.tl (dig n) := by rw [dig_tl]; exact TL.numL_free h
theorem dig_sign {n c : Nat} (h : c ∈ TL.tl (dig n)) : 48 ≤ c ∧ c ≤ 57 := by
  refine ⟨Nat.le_of_not_lt fun z => dig_free (.inl z) h, Nat.le_of_not_lt fun z => dig_free (.inr z) h⟩
theorem dig_inj {m n : Nat} (h : dig m = dig n) : m = n := TL.numL_inj (by rw [← dig_tl, ← dig_tl, h])
def wrd : V → Str
  | .int i => dig i.toNat
  | _ => "cubes"
theorem dig_cubes (n : Nat) : dig n ≠ "cubes" := fun z => by
  have h := dig_free (n := n) (s := 99) (.inr (by decide))
  rw [z] at h
  exact h (by decide +kernel)
theorem wrd_len {v : V} (h : IsKd v) : (wrd v).length ≤ 5 := by
  rcases h with ⟨s, rfl, h1, h2⟩ | rfl
  · exact Nat.le_trans (dig_len (n := s.toNat) (by omega)).2 (by decide)
  · show Str.length (Str.ofString "cubes") ≤ 5
    decide +kernel
theorem wrd_free {v : V} (h : IsKd v) : 32 ∉ TL.tl (wrd v) := by
  rcases h with ⟨s, rfl, h1, h2⟩ | rfl
  · exact dig_free (.inl (by decide))
  · show 32 ∉ TL.tl (Str.ofString "cubes")
    decide +kernel
theorem wrd_inj {v w : V} (hv : IsKd v) (hw : IsKd w) (h : wrd v = wrd w) : v = w := by
  rcases hv with ⟨s, rfl, h1, h2⟩ | rfl
  · rcases hw with ⟨t, rfl, h3, h4⟩ | rfl
    · have := dig_inj h
      have : s = t := by omega
      rw [this]
    · exact absurd h (dig_cubes _)
  · rcases hw with ⟨t, rfl, h3, h4⟩ | rfl
    · exact absurd h.symm (dig_cubes _)
    · rfl
theorem wrds_inj : ∀ {ks ls : List V}, (∀ v ∈ ks, IsKd v) → (∀ v ∈ ls, IsKd v) → ks.map wrd = ls.map wrd → ks = ls
  | [], [], _, _, _ => rfl
  | [], _ :: _, _, _, h => by cases h
  | _ :: _, [], _, _, h => by cases h
  | v :: ks, w :: ls, h1, h2, h => by
    rw [List.map_cons, List.map_cons, List.cons.injEq] at h
    rw [wrd_inj (h1 v List.mem_cons_self) (h2 w List.mem_cons_self) h.1, wrds_inj (fun v hv => h1 v (List.mem_cons_of_mem _ hv)) (fun v hv => h2 v (List.mem_cons_of_mem _ hv)) h.2]
theorem joinL_len (S : List Nat) : ∀ ps : List (List Nat), (TL.joinL S ps).length ≤ (ps.map (·.length)).sum + ps.length * S.length
  | [] => Nat.zero_le _
  | [p] => by simp [TL.joinL]
  | p :: q :: r => by
    have ih := joinL_len S (q :: r)
    show (p ++ (S ++ TL.joinL S (q :: r))).length ≤ _
    rw [List.length_append, List.length_append, List.map_cons, List.sum_cons, List.length_cons, Nat.succ_mul]
    omega
theorem join_len (y : Str) (ps : List Str) : (Txt.join y ps).length ≤ (ps.map (·.length)).sum + ps.length * y.length := by
  rw [TL.join_eq, TL.len_tl, TL.tl_join]
  have h := joinL_len (TL.tl y) (ps.map TL.tl)
  rw [List.map_map, List.length_map] at h
  have e : ps.map ((fun x : List Nat => x.length) ∘ TL.tl) = ps.map (·.length) := List.map_congr_left fun p _ => (TL.len_tl p).symm
  rw [e, ← TL.len_tl] at h
  exact h
theorem sum_le {α : Type} (f : α → Nat) {c : Nat} : ∀ {l : List α}, (∀ x ∈ l, f x ≤ c) → (l.map f).sum ≤ l.length * c
  | [], _ => Nat.zero_le _
  | x :: l, h => by
    have ih := sum_le f (l := l) fun y hy => h y (List.mem_cons_of_mem _ hy)
    have := h x List.mem_cons_self
    rw [List.map_cons, List.sum_cons, List.length_cons, Nat.succ_mul]
    omega
def jn (ks : List V) : Str := Txt.join " " (ks.map wrd)
theorem sp_tl : TL.tl (Str.ofString " ") = [32] := by decide +kernel
theorem jn_split {ks : List V} (hk : KdL ks) : Txt.split (jn ks) " " = ks.map wrd := TL.split_join sp_tl (by decide +kernel) (fun e => by
  have := hk.lo
  rw [List.map_eq_nil_iff.mp e] at this
  simp at this) fun p hp => by
  obtain ⟨v, hv, rfl⟩ := List.mem_map.mp hp
  exact wrd_free (hk.kd v hv)
theorem jn_inj {ks ls : List V} (hk : KdL ks) (hl : KdL ls) (h : jn ks = jn ls) : ks = ls := wrds_inj hk.kd hl.kd (by rw [← jn_split hk, ← jn_split hl, h])
theorem jn_room {ks : List V} (hk : KdL ks) : ((ks.map wrd).map (·.length)).sum + (ks.map wrd).length * Str.length (Str.ofString " ") ≤ 1000 := by
  have h5 := hk.hi
  have h1 := sum_le (fun v => (wrd v).length) (c := 5) (l := ks) fun v hv => wrd_len (hk.kd v hv)
  rw [List.map_map, List.length_map, show Str.length (Str.ofString " ") = 1 by decide +kernel]
  have e : ks.map ((fun x : Str => x.length) ∘ wrd) = ks.map fun v => (wrd v).length := rfl
  rw [e]
  omega
theorem jn_len {ks : List V} (hk : KdL ks) : (jn ks).length ≤ 1000 := Nat.le_trans (join_len _ _) (jn_room hk)
section
variable {K : Fg} {G : Gx} {H : Hp} {Q : VK} {E : XK} {a : Addr} {ks : List V} {σ : L2.St} {iv : Nat}
theorem i_m1 {r : V → List V → Hp → VK → Prop} {to te : TE} (h : to σ H fun x H1 => (∃ a, x = .str a) ∧ te σ H1 fun y H2 => r x [y] H2 Q) : tM1 r to te σ H Q := h
theorem i_strV {n : Nat} (hn : n < 1000) (h : Q (.str (dig n)) H) : uStr [.int (n : Nat)] H Q := .inl ⟨n, rfl, by
  rw [Int.natAbs_natCast]
  refine Nat.lt_of_le_of_lt (Nat.log2_le_self n) (by omega), h⟩
theorem i_strS {s : Str} (h : Q (.str s) H) : uStr [.str s] H Q := .inr ⟨s, rfl, h⟩
theorem i_strK {v : V} (hv : IsKd v) (h : Q (.str (wrd v)) H) : uStr [v] H Q := by
  rcases hv with ⟨s, rfl, h1, h2⟩ | rfl
  · obtain ⟨n, rfl⟩ : ∃ n : Nat, s = (n : Int) := ⟨s.toNat, by omega⟩
    refine i_strV (by omega) ?_
    have e : wrd (.int (n : Int)) = dig n := by show dig (n : Int).toNat = _; rw [Int.toNat_natCast]
    rw [← e]; exact h
  · exact i_strS h
theorem i_join {p : Addr} {a : Str} {ys : List Str} (e : SqL K H p (ys.map V.str)) (hz : (ys.map (·.length)).sum + ys.length * a.length ≤ 16777216) (h : Q (.str (Txt.join a ys)) H) : uJoin K (.str a) [.ref p] H Q := ⟨a, p, ys, rfl, rfl, .inl e, hz, h⟩
/-- [str(kind) for kind in kinds] -/
theorem lc_wrds {p : Addr} (h2 : ∀ x, ((wipe σ [iv]).set iv (some x))[iv]? = some (some x)) (h3 : ∀ x, wipe ((wipe σ [iv]).set iv (some x)) [iv] = wipe σ [iv])
    (e : H p = some (.lst ks)) (hk : KdL ks) (h : ∀ q H', Same H H' → H q = none → H' q = some (.lst ((ks.map wrd).map V.str)) → Q (.ref q) H') :
    LcK (Itl G.K p) (gName iv) tYes (tCB uStr (tCons (tVar iv) tNil)) [iv] σ H Q := by
  have hk5 := hk.hi
  refine lck_pure walk_list (by omega) (fun j => (ks[j]?).bind fun v => some (.str (wrd v))) (fun H' s => sq_of (s _ _ e)) (fun j x H5 H6 KK NN hj s y hK hN => ?_) (fun q H3 nq s3 e3 => ?_)
  · obtain ⟨rfl, hx⟩ := y
    wtm_at "w"
    refine ⟨h3 _, ?_⟩
    wtm_at "w"
    refine i_var (h2 _) ?_
    wtm_at "w"
    refine i_strK (hk.kd x (List.mem_of_getElem? hx)) ?_
    exact hK _ _ (by rw [hx]; rfl) (fun _ _ z => z)
  · rw [given_gen] at e3
    have e4 : ks.filterMap (fun v => some (V.str (wrd v))) = (ks.map wrd).map V.str := by rw [List.map_map, ← List.filterMap_eq_map]; rfl
    rw [e4] at e3
    exact h q H3 s3 nq e3
theorem u_show_kinds (ha : H a = some (.lst ks)) (hk : KdL ks) (h : ∀ H', Same H H' → Q (.str (jn ks)) H') : sp_show_kinds G [.ref a] H Q E := by
  refine ⟨rfl, ?_⟩
  unfold t_show_kinds
  wtm_at "w"
  refine u_are_kinds ha hk fun H1 s1 => ?_
  wtm_at "w"
  refine i_m1 ?_
  wtm_at "w"
  refine ⟨⟨_, rfl⟩, ?_⟩
  wtm_at "w"
  refine i_lstA (sq_of (s1 _ _ ha)) ?_
  refine lc_wrds (fun _ => rfl) (fun _ => rfl) (s1 _ _ ha) hk fun q H2 s2 nq e2 => ?_
  refine i_join (sq_of e2) (Nat.le_trans (jn_room hk) (by decide)) ?_
  exact h _ (s1.trans s2)
theorem fig_in {c : Nat} (h1 : 48 ≤ c) (h2 : c ≤ 57) : decide (c ∈ (Str.ofString "0123456789").cps.toList) = true := by
  have e : (Str.ofString "0123456789").cps.toList = [48, 49, 50, 51, 52, 53, 54, 55, 56, 57] := by decide +kernel
  rw [e, decide_eq_true_iff]
  simp only [List.mem_cons, List.not_mem_nil, or_false]
  omega
theorem u_read_figures {n : Nat} (hn : n < 1000) (h : ∀ H', Same H H' → Q (.int n) H') : sp_read_figures_v2 G [.str (dig n)] H Q E := by
  refine ⟨rfl, ?_⟩
  unfold t_read_figures_v2
  have hl := dig_len hn
  have hsz : (dig n).cps.size = (dig n).length := rfl
  wtm_at "wa"
  refine i_lenS (sz_le (by omega)) ?_
  wtm_at "wa"
  refine i_T (decide_eq_true (by omega)) ?_
  wtm_at "wa"
  refine i_F (by rw [decide_eq_true (by omega)]; rfl) ?_
  wtm_at "wa"
  refine lck_pure walk_str (by omega) (fun _ => none) (fun _ _ => trivial) (fun i x H5 H6 KK NN hi s y hK hN => ?_) (fun p H1 np s1 e1 => ?_)
  · obtain ⟨rfl, c, hc, rfl⟩ := y
    have hd := dig_sign (n := n) (c := c) (by rw [Array.getElem?_eq_some_iff] at hc; obtain ⟨z1, z2⟩ := hc; rw [← z2]; exact Array.getElem_mem_toList z1)
    wtm_at "w"
    refine ⟨rfl, ?_⟩
    wtm_at "w"
    refine ⟨c, _, rfl, rfl, ?_⟩
    rw [fig_in hd.1 hd.2]
    wtm_at "w"
    exact hN _ rfl (fun _ _ z => z)
  · rw [given_none] at e1
    wtm_at "w"
    refine i_new (by simp) fun q nq => ?_
    refine i_neL (xs := []) (ys := []) (sq_of (upd_old nq e1)) (sq_of upd_same) rfl rfl ?_
    wtm_at "w"
    refine .inr ⟨dig n, n, rfl, dig_int hn, by omega, ?_⟩
    exact h _ (s1.trans (same_new nq))
theorem u_read_kind {v : V} (hv : IsKd v) (h : ∀ H', Same H H' → Q v H') : sp_read_kind_v2 G [.str (wrd v)] H Q E := by
  refine ⟨rfl, ?_⟩
  unfold t_read_kind_v2
  rcases hv with ⟨s, rfl, h1, h2⟩ | rfl
  · obtain ⟨n, rfl⟩ : ∃ n : Nat, s = (n : Int) := ⟨s.toNat, by omega⟩
    have e : wrd (.int (n : Int)) = dig n := by show dig (n : Int).toNat = _; rw [Int.toNat_natCast]
    rw [e]
    wtm_at "w"
    refine i_F (decide_eq_false (dig_cubes n)) ?_
    wtm_at "w"
    exact u_read_figures (by omega) h
  · wtm_at "w"
    exact h _ (fun _ _ z => z)
theorem i_split {a b : Str} (hb : (b.length == 0) = false) (hz : a.length + 2 ≤ sizeLine) (h : ∀ p, H p = none → Q (.ref p) (upd H p (.lst ((Txt.split a b).map V.str)))) : rSplitAny (.str a) [.str b] H Q := .inl ⟨a, b, rfl, rfl, hb, hz, h⟩
theorem u_read_kinds (hk : KdL ks) (h : ∀ p H', Same H H' → H p = none → H' p = some (.lst ks) → Q (.ref p) H') : sp_read_kinds G [.str (jn ks)] H Q E := by
  refine ⟨rfl, ?_⟩
  unfold t_read_kinds
  have hk5 := hk.hi
  have hjl := jn_len hk
  wtm_at "w"
  refine i_m1 ?_
  wtm_at "w"
  refine ⟨⟨_, rfl⟩, ?_⟩
  wtm_at "w"
  refine i_split (by decide +kernel) (by rw [sizeLine_eq]; omega) fun p1 np1 => ?_
  rw [jn_split hk]
  have s1 : Same H (upd H p1 (.lst ((ks.map wrd).map V.str))) := same_new np1
  have e1 : (upd H p1 (.lst ((ks.map wrd).map V.str))) p1 = some (.lst ((ks.map wrd).map V.str)) := upd_same
  generalize upd H p1 (.lst ((ks.map wrd).map V.str)) = H1 at s1 e1 ⊢
  refine i_lstA (sq_of e1) ?_
  refine lck_pure walk_list (by rw [List.length_map, List.length_map]; omega) (fun j => (ks[j]?).bind fun v => some v) (fun H' s => sq_of (s _ _ e1)) (fun j x H5 H6 KK NN hj s y hK hN => ?_) (fun p2 H2 np2 s2 e2 => ?_)
  · obtain ⟨rfl, hx⟩ := y
    rw [List.getElem?_map, List.getElem?_map] at hx
    obtain ⟨w, hw, rfl⟩ := Option.map_eq_some_iff.mp hx
    obtain ⟨v, hv, rfl⟩ := Option.map_eq_some_iff.mp hw
    wtm_at "w"
    refine ⟨rfl, ?_⟩
    wtm_at "w"
    refine u_read_kind (hk.kd v (List.mem_of_getElem? hv)) fun H7 s7 => ?_
    exact hK _ _ (by rw [hv]; rfl) s7
  · rw [List.length_map, List.length_map, given_gen] at e2
    have e3 : ks.filterMap (fun v => some v) = ks := List.filterMap_some
    rw [e3] at e2
    have s02 := s1.trans s2
    wtm_at "wa"
    refine u_are_kinds e2 hk fun H3 s3 => ?_
    wtm_at "wa"
    refine u_show_kinds (s3 _ _ e2) hk fun H4 s4 => ?_
    wtm_at "wa"
    refine i_F (by simp) ?_
    wtm_at "wa"
    have s24 := s3.trans s4
    exact h p2 H4 (s02.trans s24) (s1.free np2) (s24 _ _ e2)
end
/-! ### sums as texts -/
def stx (n : Nat) (ps : List Nat) : Str := if ps = [] then dig n ++ Str.ofString " =" else dig n ++ Str.ofString " = " ++ Txt.join (Str.ofString " + ") (ps.map dig)
def inter {α : Type} (c : α) : List α → List α
  | [] => []
  | [p] => [p]
  | p :: q :: r => p :: c :: inter c (q :: r)
theorem inter_map {α β : Type} (f : α → β) (c : α) : ∀ l : List α, (inter c l).map f = inter (f c) (l.map f)
  | [] => rfl
  | [p] => rfl
  | p :: q :: r => by
    show f p :: f c :: (inter c (q :: r)).map f = f p :: f c :: inter (f c) ((q :: r).map f)
    rw [inter_map f c (q :: r)]
theorem inter_ne {α : Type} (c : α) : ∀ {l : List α}, l ≠ [] → inter c l ≠ []
  | [], h => absurd rfl h
  | [p], _ => by simp [inter]
  | p :: q :: r, _ => by simp [inter]
theorem inter_mem {α : Type} {c x : α} : ∀ {l : List α}, x ∈ inter c l → x ∈ l ∨ x = c
  | [], h => by cases h
  | [p], h => .inl h
  | p :: q :: r, h => by
    rcases List.mem_cons.mp h with z | z
    · exact .inl (by rw [z]; exact List.mem_cons_self)
    · rcases List.mem_cons.mp z with z | z
      · exact .inr z
      · rcases inter_mem z with z | z
        · exact .inl (List.mem_cons_of_mem _ z)
        · exact .inr z
theorem joinL_inter : ∀ {ls : List (List Nat)}, TL.joinL [32] (inter [43] ls) = TL.joinL [32, 43, 32] ls
  | [] => rfl
  | [p] => rfl
  | [p, q] => rfl
  | p :: q :: q2 :: r => by
    have ih := joinL_inter (ls := q :: q2 :: r)
    show p ++ ([32] ++ ([43] ++ ([32] ++ TL.joinL [32] (inter [43] (q :: q2 :: r))))) = p ++ ([32, 43, 32] ++ TL.joinL [32, 43, 32] (q :: q2 :: r))
    rw [ih]; rfl
def wds (n : Nat) (ps : List Nat) : List Str := dig n :: Str.ofString "=" :: inter (Str.ofString "+") (ps.map dig)
theorem stx_join (n : Nat) (ps : List Nat) : stx n ps = Txt.join " " (wds n ps) := by
  refine TL.ext_tl ?_
  rw [TL.join_eq, TL.tl_join, sp_tl]
  unfold stx
  have e1 : TL.tl (Str.ofString " =") = [32, 61] := by decide +kernel
  have e2 : TL.tl (Str.ofString " = ") = [32, 61, 32] := by decide +kernel
  have e3 : TL.tl (Str.ofString " + ") = [32, 43, 32] := by decide +kernel
  have e4 : TL.tl (Str.ofString "=") = [61] := by decide +kernel
  have e5 : TL.tl (Str.ofString "+") = [43] := by decide +kernel
  cases ps with
  | nil =>
    rw [if_pos rfl, TL.tl_append, e1]
    show _ = TL.joinL [32] [TL.tl (dig n), TL.tl (Str.ofString "=")]
    rw [e4]; rfl
  | cons p ps =>
    rw [if_neg (by simp), TL.tl_append, TL.tl_append, e2, TL.join_eq, TL.tl_join, e3]
    have hne : (p :: ps).map dig ≠ [] := by simp
    have hi := inter_ne (Str.ofString "+") hne
    obtain ⟨y, ys, hy⟩ := List.exists_cons_of_ne_nil hi
    have hm : (inter (Str.ofString "+") ((p :: ps).map dig)).map TL.tl = inter [43] (((p :: ps).map dig).map TL.tl) := by rw [inter_map, e5]
    show _ = TL.joinL [32] (TL.tl (dig n) :: TL.tl (Str.ofString "=") :: (inter (Str.ofString "+") ((p :: ps).map dig)).map TL.tl)
    rw [e4]
    have hj : ∀ l : List (List Nat), l ≠ [] → TL.joinL [32] (TL.tl (dig n) :: [61] :: l) = TL.tl (dig n) ++ [32, 61, 32] ++ TL.joinL [32] l := by
      intro l hl
      obtain ⟨z, zs, rfl⟩ := List.exists_cons_of_ne_nil hl
      show TL.tl (dig n) ++ ([32] ++ ([61] ++ ([32] ++ TL.joinL [32] (z :: zs)))) = _
      rw [List.append_assoc]; rfl
    rw [hj _ (by rw [hy]; simp), hm, joinL_inter]
theorem stx_split (n : Nat) (ps : List Nat) : Txt.split (stx n ps) " " = wds n ps := by
  rw [stx_join]
  refine TL.split_join sp_tl (by decide +kernel) (by simp [wds]) fun p hp => ?_
  have d : ∀ m : Nat, 32 ∉ TL.tl (dig m) := fun m => dig_free (.inl (by decide))
  rcases List.mem_cons.mp hp with z | z
  · rw [z]; exact d n
  · rcases List.mem_cons.mp z with z | z
    · rw [z]; decide +kernel
    · rcases inter_mem z with z | z
      · obtain ⟨m, _, rfl⟩ := List.mem_map.mp z
        exact d m
      · rw [z]; decide +kernel
theorem ev_even {α : Type} : ∀ (c : α) (l : List α), ((List.range (((inter c l).length + 1) / 2)).filterMap fun i => (inter c l)[2 * i]?) = l
  | _, [] => by simp [inter]
  | _, [p] => by simp [inter, List.range_succ]
  | c, p :: q :: r => by
    have ih := ev_even c (q :: r)
    have hl : (inter c (p :: q :: r)).length = (inter c (q :: r)).length + 2 := rfl
    rw [hl, show ((inter c (q :: r)).length + 2 + 1) / 2 = ((inter c (q :: r)).length + 1) / 2 + 1 by omega, List.range_succ_eq_map, List.filterMap_cons]
    show p :: _ = _
    rw [List.filterMap_map]
    congr 1
theorem ev2_wds (n : Nat) (ps : List Nat) : ev2 ((wds n ps).map V.str) = (ps.map dig).map V.str := by
  have hm : (wds n ps).map V.str = V.str (dig n) :: V.str (Str.ofString "=") :: inter (V.str (Str.ofString "+")) ((ps.map dig).map V.str) := by
    show V.str _ :: V.str _ :: (inter (Str.ofString "+") (ps.map dig)).map V.str = _
    rw [inter_map]
  rw [hm]
  have h := ev_even (V.str (Str.ofString "+")) ((ps.map dig).map V.str)
  generalize (ps.map dig).map V.str = l at h ⊢
  unfold ev2
  rw [List.length_cons, List.length_cons, show ((inter (V.str (Str.ofString "+")) l).length + 1 + 1 - 1) / 2 = ((inter (V.str (Str.ofString "+")) l).length + 1) / 2 by omega]
  refine Eq.trans ?_ h
  congr 1
  funext i
  rw [show 2 + 2 * i = 2 * i + 2 by omega]; rfl
structure Wsm (n : Nat) (ps : List Nat) : Prop where
  le : n ≤ 200
  pos : ∀ p ∈ ps, 1 ≤ p
  sum : ps.sum = n
  fall : ps.Pairwise (· ≥ ·)
theorem Wsm.lim {n : Nat} {ps : List Nat} (w : Wsm n ps) {p : Nat} (hp : p ∈ ps) : p ≤ 200 := by
  have : ∀ {l : List Nat}, p ∈ l → p ≤ l.sum := by
    intro l
    induction l with
    | nil => intro h; cases h
    | cons x l ih =>
      intro h
      rw [List.sum_cons]
      rcases List.mem_cons.mp h with z | z
      · omega
      · have := ih z; omega
  have h1 := this hp
  have h2 := w.sum
  have h3 := w.le
  omega
theorem Wsm.len {n : Nat} {ps : List Nat} (w : Wsm n ps) : ps.length ≤ 200 := by
  have : ∀ {l : List Nat}, (∀ p ∈ l, 1 ≤ p) → l.length ≤ l.sum := by
    intro l
    induction l with
    | nil => intro _; exact Nat.le_refl _
    | cons x l ih =>
      intro h
      have := ih fun y hy => h y (List.mem_cons_of_mem _ hy)
      have := h x List.mem_cons_self
      rw [List.sum_cons, List.length_cons]; omega
  have h1 := this w.pos
  have h2 := w.sum
  have h3 := w.le
  omega
def nI (ps : List Nat) : List Int := ps.map fun (p : Nat) => (p : Int)
theorem nI_sum : ∀ ps : List Nat, (nI ps).sum = (ps.sum : Nat)
  | [] => rfl
  | p :: ps => by
    show (p : Int) + (nI ps).sum = ((p + ps.sum : Nat) : Int)
    rw [nI_sum ps]; omega
theorem stx_room {n : Nat} {ps : List Nat} (w : Wsm n ps) : ((ps.map dig).map (·.length)).sum + (ps.map dig).length * Str.length (Str.ofString " + ") ≤ 2000 := by
  have h1 := sum_le (fun p => (dig p).length) (c := 3) (l := ps) fun p hp => (dig_len (by have := w.lim hp; omega)).2
  have h2 := w.len
  rw [List.map_map, List.length_map, show Str.length (Str.ofString " + ") = 3 by decide +kernel]
  have e : ps.map ((fun x : Str => x.length) ∘ dig) = ps.map fun p => (dig p).length := rfl
  rw [e]; omega
theorem len_app (a b : Str) : (a ++ b).length = a.length + b.length := by rw [TL.len_tl, TL.len_tl, TL.len_tl, TL.tl_append, List.length_append]
theorem stx_len {n : Nat} {ps : List Nat} (w : Wsm n ps) : (stx n ps).length ≤ 3000 := by
  have h1 := (dig_len (n := n) (by have := w.le; omega)).2
  have h2 := join_len (Str.ofString " + ") (ps.map dig)
  have h3 := stx_room w
  unfold stx
  split
  · rw [len_app, show Str.length (Str.ofString " =") = 2 by decide +kernel]; omega
  · rw [len_app, len_app, show Str.length (Str.ofString " = ") = 3 by decide +kernel]; omega
section
variable {K : Fg} {G : Gx} {H : Hp} {Q : VK} {E : XK} {a : Addr} {n : Nat} {ps : List Nat} {σ : L2.St} {iv : Nat}
theorem lc_digs {p : Addr} (h2 : ∀ x, ((wipe σ [iv]).set iv (some x))[iv]? = some (some x)) (h3 : ∀ x, wipe ((wipe σ [iv]).set iv (some x)) [iv] = wipe σ [iv])
    (e : H p = some (.lst ((nI ps).map V.int))) (w : Wsm n ps) (h : ∀ q H', Same H H' → H q = none → H' q = some (.lst ((ps.map dig).map V.str)) → Q (.ref q) H') :
    LcK (Itl G.K p) (gName iv) tYes (tCB uStr (tCons (tVar iv) tNil)) [iv] σ H Q := by
  have hl := w.len
  have hll : ((nI ps).map V.int).length = ps.length := by unfold nI; rw [List.length_map, List.length_map]
  refine lck_pure walk_list (by omega) (fun j => (ps[j]?).bind fun v => some (.str (dig v))) (fun H' s => sq_of (s _ _ e)) (fun j x H5 H6 KK NN hj s y hK hN => ?_) (fun q H3 nq s3 e3 => ?_)
  · obtain ⟨rfl, hx⟩ := y
    unfold nI at hx
    rw [List.getElem?_map, List.getElem?_map] at hx
    obtain ⟨i, hi, rfl⟩ := Option.map_eq_some_iff.mp hx
    obtain ⟨v, hv, rfl⟩ := Option.map_eq_some_iff.mp hi
    wtm_at "w"
    refine ⟨h3 _, ?_⟩
    wtm_at "w"
    refine i_var (h2 _) ?_
    wtm_at "w"
    refine i_strV (by have := w.lim (List.mem_of_getElem? hv); omega) ?_
    exact hK _ _ (by rw [hv]; rfl) (fun _ _ z => z)
  · rw [hll, given_gen] at e3
    have e4 : ps.filterMap (fun v => some (V.str (dig v))) = (ps.map dig).map V.str := by rw [List.map_map, ← List.filterMap_eq_map]; rfl
    rw [e4] at e3
    exact h q H3 s3 nq e3
theorem nI_nil : ((nI ps).map V.int = []) ↔ ps = [] := by unfold nI; simp
theorem u_sum_text (ha : H a = some (.lst ((nI ps).map V.int))) (w : Wsm n ps) (h : ∀ H', Same H H' → Q (.str (stx n ps)) H') : sp_sum_text G [.int n, .ref a] H Q E := by
  refine ⟨rfl, ?_⟩
  unfold t_sum_text
  have hn := w.le
  have hd := (dig_len (n := n) (by omega)).2
  wtm_at "w"
  refine i_new (by simp) fun z nz => ?_
  have s1 : Same H (upd H z (.lst [])) := same_new nz
  refine i_eqL (ys := []) (sq_of (s1 _ _ ha)) (sq_of upd_same) (ints_sV _) rfl ?_
  generalize upd H z (.lst []) = H1 at s1 ⊢
  have hh := h
  unfold stx at hh
  wtm_at "w"
  refine i_ite (fun hz => ?_) (fun hz => ?_)
  · rw [if_pos (nI_nil.mp hz)] at hh
    wtm_at "w"
    refine i_strV (by omega) ?_
    wtm_at "w"
    refine i_addS (by rw [show Str.length (Str.ofString " =") = 2 by decide +kernel, sizeLine_eq]; omega) ?_
    exact hh _ s1
  · rw [if_neg (fun z => hz (nI_nil.mpr z))] at hh
    wtm_at "w"
    refine i_strV (by omega) ?_
    wtm_at "w"
    refine i_addS (by rw [show Str.length (Str.ofString " = ") = 3 by decide +kernel, sizeLine_eq]; omega) ?_
    refine i_m1 ?_
    wtm_at "w"
    refine ⟨⟨_, rfl⟩, ?_⟩
    wtm_at "w"
    refine i_lstA (sq_of (s1 _ _ ha)) ?_
    refine lc_digs (fun _ => rfl) (fun _ => rfl) (s1 _ _ ha) w fun q H2 s2 nq e2 => ?_
    have hr := stx_room w
    refine i_join (sq_of e2) (Nat.le_trans hr (by decide)) ?_
    refine i_addS ?_ ?_
    · rw [len_app, show Str.length (Str.ofString " = ") = 3 by decide +kernel, sizeLine_eq]
      have := join_len (Str.ofString " + ") (ps.map dig)
      omega
    · exact hh _ (s1.trans s2)
theorem u_law_sum_text (ha : H a = some (.lst ((nI ps).map V.int))) (w : Wsm n ps) (h : ∀ H', Same H H' → Q (.str (stx n ps)) H') : sp_law_sum_text G [.int n, .ref a] H Q E := u_sum_text (E := E) ha w h
theorem u_is_whole_v2 {i : Int} (h : Q (.bl (decide (0 ≤ i))) H) : sp_is_whole_v2 G [.int i] H Q E := by
  refine ⟨rfl, ?_⟩
  unfold t_is_whole_v2
  wtm_at "w"
  exact h
theorem fall_eq {xs ys : List Int} (h1 : xs.Pairwise (· ≥ ·)) (h2 : ys.Pairwise (· ≥ ·)) (p : xs.Perm ys) : xs = ys := p.eq_of_pairwise (le := fun a b : Int => a ≥ b) (fun a b _ _ x y => by omega) h1 h2
theorem nI_fall (w : Wsm n ps) : (nI ps).Pairwise (· ≥ ·) := by
  unfold nI
  rw [List.pairwise_map]
  exact w.fall.imp fun h => by omega
theorem i_sortR {K : Fg} {p : Addr} {ns : List Int} (e : SqL K H p (ns.map V.int)) (h : ∀ (ns' : List Int) (q : Addr), ns'.Perm ns → ns'.Pairwise (· ≥ ·) → H q = none → Q (.ref q) (upd H q (.lst (ns'.map V.int)))) : uSortR K [.ref p] [.bl true] H Q := ⟨p, ns, rfl, rfl, e, h⟩
theorem i_ckw {r : List V → List V → Hp → VK → Prop} {t tk : TA} (h : t σ H fun vs H1 => tk σ H1 fun zs H2 => r vs zs H2 Q) : tCKw r t tk σ H Q := h
theorem u_is_written_sum (ha : H a = some (.lst ((nI ps).map V.int))) (w : Wsm n ps) (h : ∀ H', Same H H' → Q (.bl true) H') : sp_is_written_sum G [.int n, .ref a] H Q E := by
  refine ⟨rfl, ?_⟩
  unfold t_is_written_sum
  have hn := w.le
  have hl := w.len
  have hll : ((nI ps).map V.int).length = ps.length := by unfold nI; rw [List.length_map, List.length_map]
  wtm_at "wa"
  refine u_is_whole_v2 ?_
  rw [decide_eq_true (by omega)]
  wtm_at "wa"
  refine i_F (decide_eq_false (by omega)) ?_
  wtm_at "wa"
  refine i_isiLL ha ?_
  wtm_at "wa"
  refine i_lstA (sq_of ha) ?_
  refine lck_pure walk_list (by omega) (fun _ => none) (fun H' s => sq_of (s _ _ ha)) (fun j x H5 H6 KK NN hj s y hK hN => ?_) (fun q H1 nq s1 e1 => ?_)
  · obtain ⟨rfl, hx⟩ := y
    unfold nI at hx
    rw [List.getElem?_map, List.getElem?_map] at hx
    obtain ⟨i, hi, rfl⟩ := Option.map_eq_some_iff.mp hx
    obtain ⟨v, hv, rfl⟩ := Option.map_eq_some_iff.mp hi
    have hv1 := w.pos v (List.mem_of_getElem? hv)
    wtm_at "wa"
    refine ⟨rfl, ?_⟩
    wtm_at "wa"
    refine u_is_whole_v2 ?_
    rw [decide_eq_true (by omega)]
    wtm_at "wa"
    refine i_F (decide_eq_false (by omega)) ?_
    exact hN _ rfl (fun _ _ z => z)
  · rw [given_none] at e1
    wtm_at "w"
    refine i_new (by simp) fun z nz => ?_
    have s12 : Same H1 (upd H1 z (.lst [])) := same_new nz
    refine i_neL (xs := []) (ys := []) (sq_of (s12 _ _ e1)) (sq_of upd_same) rfl rfl ?_
    generalize upd H1 z (.lst []) = H2 at s12 ⊢
    have s02 := s1.trans s12
    wtm_at "w"
    refine i_sumL (sq_of (s02 _ _ ha)) ?_
    rw [nI_sum, w.sum]
    wtm_at "w"
    refine i_T (decide_eq_true rfl) ?_
    wtm_at "w"
    refine i_ckw ?_
    wtm_at "w"
    refine i_sortR (sq_of (s02 _ _ ha)) fun ns' q3 pm hf nq3 => ?_
    have e' := fall_eq hf (nI_fall w) pm
    subst e'
    have s23 : Same H2 (upd H2 q3 (.lst ((nI ps).map V.int))) := same_new nq3
    refine i_eqL (sq_of ((s02.trans s23) _ _ ha)) (sq_of upd_same) (ints_sV _) (ints_sV _) ?_
    rw [decide_eq_true rfl]
    exact h _ (s02.trans s23)
theorem u_show_sum (ha : H a = some (.lst ((nI ps).map V.int))) (w : Wsm n ps) (h : ∀ H', Same H H' → Q (.str (stx n ps)) H') : sp_show_sum G [.int n, .ref a] H Q E := by
  refine ⟨rfl, ?_⟩
  unfold t_show_sum
  wtm_at "w"
  refine u_is_written_sum ha w fun H1 s1 => ?_
  wtm_at "w"
  exact u_sum_text (s1 _ _ ha) w fun H2 s2 => h _ (s1.trans s2)
theorem i_sl2 {te : TE} (h : te σ H fun x H1 => Sl2A K x H1 Q) : tSl2 K te σ H Q := h
theorem u_read_sum (w : Wsm n ps) (h : ∀ T p H', Same H H' → H T = none → H p = none → H' T = some (.tup [.int n, .ref p]) → H' p = some (.lst ((nI ps).map V.int)) → Q (.ref T) H') : sp_read_sum G [.str (stx n ps)] H Q E := by
  refine ⟨rfl, ?_⟩
  unfold t_read_sum
  have hn := w.le
  have hl := w.len
  have hsl := stx_len w
  wtm_at "w"
  refine i_m1 ?_
  wtm_at "w"
  refine ⟨⟨_, rfl⟩, ?_⟩
  wtm_at "w"
  refine i_split (by decide +kernel) (by rw [sizeLine_eq]; omega) fun p1 np1 => ?_
  rw [stx_split]
  have s1 : Same H (upd H p1 (.lst ((wds n ps).map V.str))) := same_new np1
  have e1 : (upd H p1 (.lst ((wds n ps).map V.str))) p1 = some (.lst ((wds n ps).map V.str)) := upd_same
  generalize upd H p1 (.lst ((wds n ps).map V.str)) = H1 at s1 e1 ⊢
  wtm_at "w"
  refine i_ixL (sq_of e1) (at_nat (n := 0) rfl rfl) ?_
  wtm_at "w"
  refine u_read_figures (by omega) fun H2 s2 => ?_
  have s02 := s1.trans s2
  wtm_at "w"
  refine i_sl2 ?_
  wtm_at "w"
  refine ⟨p1, _, rfl, sq_of (s2 _ _ e1), fun p3 np3 => ?_⟩
  rw [ev2_wds]
  have s23 : Same H2 (upd H2 p3 (.lst ((ps.map dig).map V.str))) := same_new np3
  have e3 : (upd H2 p3 (.lst ((ps.map dig).map V.str))) p3 = some (.lst ((ps.map dig).map V.str)) := upd_same
  generalize upd H2 p3 (.lst ((ps.map dig).map V.str)) = H3 at s23 e3 ⊢
  have s03 := s02.trans s23
  refine i_lstA (sq_of e3) ?_
  refine lck_pure walk_list (by rw [List.length_map, List.length_map]; omega) (fun j => (ps[j]?).bind fun v => some (.int (v : Nat))) (fun H' s => sq_of (s _ _ e3)) (fun j x H5 H6 KK NN hj s y hK hN => ?_) (fun p4 H4 np4 s4 e4 => ?_)
  · obtain ⟨rfl, hx⟩ := y
    rw [List.getElem?_map, List.getElem?_map] at hx
    obtain ⟨i, hi, rfl⟩ := Option.map_eq_some_iff.mp hx
    obtain ⟨v, hv, rfl⟩ := Option.map_eq_some_iff.mp hi
    wtm_at "w"
    refine ⟨rfl, ?_⟩
    wtm_at "w"
    refine u_read_figures (by have := w.lim (List.mem_of_getElem? hv); omega) fun H7 s7 => ?_
    exact hK _ _ (by rw [hv]; rfl) s7
  rw [List.length_map, List.length_map, given_gen] at e4
  have e5 : ps.filterMap (fun v => some (V.int (v : Nat))) = (nI ps).map V.int := by unfold nI; rw [List.map_map, ← List.filterMap_eq_map]; rfl
  rw [e5] at e4
  have s04 := s03.trans s4
  wtm_at "wa"
  refine u_is_written_sum e4 w fun H6 s6 => ?_
  wtm_at "wa"
  refine u_sum_text (s6 _ _ e4) w fun H7 s7 => ?_
  wtm_at "wa"
  refine i_F (by simp) ?_
  wtm_at "w"
  refine i_new (by simp) fun T nT => ?_
  have s47 := s6.trans s7
  have s78 := s47.trans (same_new (o := .tup [.int n, .ref p4]) nT)
  exact h T p4 _ (s04.trans s78) ((s04.trans s47).free nT) (s03.free np4) upd_same (s78 _ _ e4)
end
theorem perm_sumI {l m : List Int} (p : l.Perm m) : l.sum = m.sum := by
  induction p with
  | nil => rfl
  | cons x _ ih => rw [List.sum_cons, List.sum_cons, ih]
  | swap x y l => rw [List.sum_cons, List.sum_cons, List.sum_cons, List.sum_cons]; omega
  | trans _ _ a b => exact a.trans b
section
variable {K : Fg} {G : Gx} {H : Hp} {Q : VK} {E : XK} {a : Addr} {n : Nat} {ps : List Nat} {ks : List V} {σ : L2.St} {iv : Nat}
theorem nI_of : ∀ {l : List Int}, (∀ x ∈ l, 1 ≤ x) → nI (l.map Int.toNat) = l
  | [], _ => rfl
  | x :: l, h => by
    have ih := nI_of (l := l) fun y hy => h y (List.mem_cons_of_mem _ hy)
    have := h x List.mem_cons_self
    show ((x.toNat : Nat) : Int) :: nI (l.map Int.toNat) = _
    rw [ih]; congr 1; omega
theorem u_law_parts {c : Int} (h : ∀ p q (n : Nat) ps H', Same H H' → H p = none → H q = none → H' p = some (.lst [.int n, .ref q]) → H' q = some (.lst ((nI ps).map V.int)) → Wsm n ps → Q (.ref p) H') : sp_law_parts G [.int c] H Q E := by
  refine ⟨rfl, ?_⟩
  unfold t_law_parts
  wtm_at "w"
  obtain ⟨n, en, hn⟩ : ∃ n : Nat, c % 201 = (n : Int) ∧ n ≤ 200 := ⟨(c % 201).toNat, by omega, by omega⟩
  rw [en]
  refine i_new (by simp) fun f nf => ?_
  have s1 : Same H (upd H f (.lst [])) := same_new nf
  have e1 : (upd H f (.lst [])) f = some (.lst (([] : List Int).map V.int)) := upd_same
  generalize upd H f (.lst []) = H1 at s1 e1 ⊢
  wtm_at "w"
  refine i_new (by simp) fun z nz => ?_
  wtm_at "w"
  have s2 : Same H1 (upd H1 z (.lst [.int 1, .int 3, .int 20, .int 200])) := same_new nz
  obtain ⟨most, em, hm⟩ : ∃ most : Int, atI [V.int 1, V.int 3, V.int 20, V.int 200] (c / 201 % 4) = some (.int most) ∧ 1 ≤ most ∧ most ≤ 200 := by
    have : c / 201 % 4 = 0 ∨ c / 201 % 4 = 1 ∨ c / 201 % 4 = 2 ∨ c / 201 % 4 = 3 := by omega
    rcases this with w | w | w | w
    all_goals rw [w]; exact ⟨_, rfl, by decide, by decide⟩
  refine i_ixL (sq_of upd_same) em ?_
  generalize upd H1 z (.lst [.int 1, .int 3, .int 20, .int 200]) = H2 at s2 ⊢
  wtm_at "w"
  refine i_while (fun (left : Nat) σ H' => ∃ (l : List Int) (y5 : Option V), σ = [some (.int c), some (.int n), some (.int left), some (.ref f), some (.int most), y5] ∧ Same H H' ∧ H' f = some (.lst (l.map V.int)) ∧ (∀ x ∈ l, 1 ≤ x) ∧ l.sum + (left : Int) = n) n ⟨[], none, rfl, s1.trans s2, s2 _ _ e1, fun x hx => (by cases hx), by simp⟩ ?_
  rintro left σ H3 ⟨l, y5, rfl, s3, e3, hpos, hsum⟩
  have hge := sum_nn hpos
  wtm_at "w"
  refine i_ite (fun hz => ?_) (fun hz => ?_)
  · refine i_turn ?_
    wtm_at "w"
    refine i_lenL (sq_of e3) ?_
    rw [List.length_map]
    wtm_at "w"
    refine u_law_mixed (by omega) (by omega) fun r H4 s4 r0 => ?_
    wtm_at "w"
    obtain ⟨b, eb, hb1, hb2⟩ : ∃ b : Int, (if most < (left : Int) then most else (left : Int)) = b ∧ 1 ≤ b ∧ b ≤ left := ⟨_, rfl, by split <;> omega, by split <;> omega⟩
    rw [eb]
    have g0 := Int.emod_nonneg r (show b ≠ 0 by omega)
    have g1 := Int.emod_lt_of_pos r (show 0 < b by omega)
    refine i_tyL (s4 _ _ e3) ?_
    wtm_at "w"
    refine i_app (s4 _ _ e3) (sz_lt (by rw [List.length_map]; omega)) ?_
    wtm_at "w"
    refine ⟨(left - (1 + r % b)).toNat, by omega, l ++ [1 + r % b], some (.int (1 + r % b)), ?_, same_mut (s3.trans s4) nf, by rw [upd_same, List.map_append]; rfl, fun x hx => ?_, ?_⟩
    · rw [show (((left - (1 + r % b)).toNat : Nat) : Int) = (left : Int) - (1 + r % b) by omega]; rfl
    · rcases List.mem_append.mp hx with z | z
      · exact hpos x z
      · rw [List.mem_singleton.mp z]; omega
    · rw [List.sum_append]; simp; omega
  · have hl0 : left = 0 := by omega
    subst hl0
    wtm_at "w"
    refine i_ckw ?_
    wtm_at "w"
    refine i_sortR (sq_of e3) fun ns' q pm hf nq => ?_
    have s34 : Same H3 (upd H3 q (.lst (ns'.map V.int))) := same_new nq
    have e4 : (upd H3 q (.lst (ns'.map V.int))) q = some (.lst (ns'.map V.int)) := upd_same
    generalize upd H3 q (.lst (ns'.map V.int)) = H4 at s34 e4 ⊢
    wtm_at "w"
    refine i_new (by simp) fun p np => ?_
    have hpos' : ∀ x ∈ ns', 1 ≤ x := fun x hx => hpos x (pm.mem_iff.mp hx)
    have hsum' : ns'.sum = n := by rw [perm_sumI pm]; omega
    have en' := nI_of hpos'
    have s45 := same_new (o := .lst [.int (n : Nat), .ref q]) np
    refine h p q n (ns'.map Int.toNat) _ ((s3.trans s34).trans s45) ((s3.trans s34).free np) (s3.free nq) upd_same (by rw [en']; exact s45 _ _ e4) ⟨hn, fun x hx => ?_, ?_, ?_⟩
    · obtain ⟨y, hy, rfl⟩ := List.mem_map.mp hx
      have := hpos' y hy; omega
    · have h1 := nI_sum (ns'.map Int.toNat)
      rw [en'] at h1
      omega
    · rw [List.pairwise_map]
      exact hf.imp fun h => by omega
/-- the dict of writings -/
def DictOk (H : Hp) (b : Addr) (i : Nat) : Prop := ∃ kvs : List (Key × V), H b = some (.dK kvs) ∧ kvs.length ≤ i ∧ ∀ (t : Str) (v : V), valV kvs (Sum.inr t) = some v → ∃ a ks, v = .ref a ∧ H a = some (.lst ks) ∧ KdL ks ∧ t = jn ks
theorem DictOk.same {H H' : Hp} {b : Addr} {i : Nat} (d : DictOk H b i) (s : Same H H') : DictOk H' b i := by
  obtain ⟨kvs, h1, h2, h3⟩ := d
  refine ⟨kvs, s _ _ h1, h2, fun t v hv => ?_⟩
  obtain ⟨a, ks, e1, e2, e3⟩ := h3 t v hv
  exact ⟨a, ks, e1, s _ _ e2, e3⟩
theorem put_len (kvs : List (Key × V)) (k : Key) (v : V) : (putK kvs k v).length ≤ kvs.length + 1 := by
  unfold putK
  split
  · rw [List.length_map]; omega
  · simp
theorem i_get2 {td ty tx : TE} (h : td σ H fun x H1 => ∃ a, x = .ref a ∧ IsD H1 a ∧ ty σ H1 fun y H2 => tx σ H2 fun z H3 => ∃ o, DGet H3 a y o ∧ Q (o.getD z) H3) : tDGet2 td ty tx σ H Q := h
theorem i_neT {T1 T2 p1 p2 : Addr} {m : Int} {ns : List Int} (h1 : H T1 = some (.tup [.int m, .ref p1])) (h2 : H T2 = some (.tup [.int m, .ref p2])) (e1 : H p1 = some (.lst (ns.map V.int))) (e2 : H p2 = some (.lst (ns.map V.int))) (h : Q (.bl false) H) : uNe K (.ref T1) (.ref T2) H Q := by
  have hs : SeqAt.shaped (.tuple [.int m, .list (ns.map PyData.int)]) = true := by
    have h1 := layAll_sV (ints_sV ns)
    rw [toD_ints] at h1
    unfold SeqAt.shaped
    simp [PyData.canLay0, PyData.depth, PyData.canLayAll0, PyData.depthAll, h1.1, h1.2]
  refine i_neG (d := .tuple [.int m, .list (ns.map PyData.int)]) (e := .tuple [.int m, .list (ns.map PyData.int)]) (.tup (st_of h1) (.cons (.int m) (.cons (dp_ints (sq_of e1)) .nil))) (.tup (st_of h2) (.cons (.int m) (.cons (dp_ints (sq_of e2)) .nil))) hs hs ?_
  have e : PyData.eqv (.tuple [.int m, .list (ns.map PyData.int)]) (.tuple [.int m, .list (ns.map PyData.int)]) = true := by
    have h3 := eqv_rowI ns ns
    rw [decide_eq_true rfl] at h3
    simp only [PyData.eqv, PyData.eqvAll] at h3 ⊢
    simp [h3]
  rw [e]; exact h
theorem law_k35_ok {ns : List Int} (hs : SqL G.K H a (ns.map V.int)) (hl : ns.length ≤ 63) (hq : ∀ H', Q (.bl true) H') : sp_law_k35 G [.ref a] H Q E := by
  refine ⟨rfl, ?_⟩
  unfold t_law_k35
  wtm_at "w"
  intro b nb
  have s0 : Same H (upd H b (.dK [])) := same_new nb
  have d0 : DictOk (upd H b (.dK [])) b 0 := ⟨[], upd_same, Nat.le_refl _, fun t v h => by cases h⟩
  generalize upd H b (.dK []) = H0 at s0 d0 ⊢
  wtm_at "w"
  refine i_lenL (s0.seq hs) ?_
  wtm_at "w"
  obtain ⟨W, eW, hW⟩ : ∃ W : Int, (if (if (60 : Int) < ((ns.map V.int).length : Int) then (60 : Int) else ((ns.map V.int).length : Int)) > 8 then (if (60 : Int) < ((ns.map V.int).length : Int) then (60 : Int) else ((ns.map V.int).length : Int)) else 8) = W ∧ 0 ≤ W ∧ W ≤ 60 := ⟨_, rfl, by split <;> split <;> omega, by split <;> split <;> omega⟩
  rw [eW]
  refine i_rngA1 (by omega) ?_
  refine lk_range (n := W.toNat) (fun i σ H' => Same H H' ∧ DictOk H' b i ∧ ∃ y2 y3 y4 y5 y6 y7 y8 y9 y10 y11 : Option V, σ = [some (.ref a), some (.ref b), y2, y3, y4, y5, y6, y7, y8, y9, y10, y11]) ⟨s0, d0, _, _, _, _, _, _, _, _, _, _, rfl⟩ ?_ ?_
  · rintro i σ H1 hi ⟨s1, d1, y2, y3, y4, y5, y6, y7, y8, y9, y10, y11, rfl⟩
    rw [Int.zero_add]
    wtm_at "w"
    refine u_law_cell_v2 (s1.seq hs) (by omega) (by omega) fun c0 => ?_
    wtm_at "w"
    generalize (if c0 < 0 then -c0 else c0) = c
    refine u_law_mixed (by omega) (by omega) fun r1 H2 s2 r10 => ?_
    wtm_at "w"
    refine u_law_kinds_v3 fun kp ks H3 s3 nkp ek hk => ?_
    have hk5 := hk.hi
    wtm_at "w"
    refine i_ulist (sq_of ek) fun gp ngp => ?_
    have s34 : Same H3 (upd H3 gp (.lst ks)) := same_new ngp
    have eg : (upd H3 gp (.lst ks)) gp = some (.lst ks) := upd_same
    generalize upd H3 gp (.lst ks) = H4 at s34 eg ⊢
    have ek4 := s34 _ _ ek
    wtm_at "w"
    refine i_m1 ?_
    wtm_at "w"
    refine ⟨⟨_, rfl⟩, ?_⟩
    wtm_at "w"
    refine i_lstA (sq_of ek4) ?_
    refine lc_wrds (fun _ => rfl) (fun _ => rfl) ek4 hk fun q5 H5 s5 nq5 e5 => ?_
    refine i_join (sq_of e5) (Nat.le_trans (jn_room hk) (by decide)) ?_
    show gName 6 (.str (jn ks)) _ _ _
    wtm_at "wa"
    refine u_show_kinds (s5 _ _ eg) hk fun H6 s6 => ?_
    wtm_at "wa"
    refine i_F (by simp) ?_
    have s46 := s5.trans s6
    wtm_at "wa"
    refine i_neL (sq_of (s46 _ _ eg)) (sq_of (s46 _ _ ek4)) (kds_sV hk.kd) (kds_sV hk.kd) ?_
    wtm_at "wa"
    refine i_F (by simp) ?_
    have s16 := ((s2.trans s3).trans s34).trans s46
    have ek6 := s46 _ _ ek4
    have d6 := d1.same s16
    obtain ⟨kvs, eb6, hkl, hkv⟩ := d6
    wtm_at "wa"
    refine i_get2 ?_
    wtm_at "wa"
    refine ⟨b, rfl, .inl ⟨kvs, .of eb6⟩, ?_⟩
    wtm_at "wa"
    refine ⟨valV kvs (Sum.inr (jn ks)), .inl ⟨kvs, Sum.inr (jn ks), .of eb6, rfl, rfl⟩, ?_⟩
    have hget : ∃ z, (valV kvs (Sum.inr (jn ks))).getD (.ref kp) = .ref z ∧ H6 z = some (.lst ks) := by
      cases hv : valV kvs (Sum.inr (jn ks)) with
      | none => exact ⟨kp, rfl, ek6⟩
      | some v =>
        obtain ⟨z, ls, rfl, ez, hls, ej⟩ := hkv _ v hv
        rw [jn_inj hk hls ej]
        exact ⟨z, rfl, ez⟩
    obtain ⟨z6, ez6, eh6⟩ := hget
    rw [ez6]
    wtm_at "wa"
    refine i_neL (sq_of eh6) (sq_of ek6) (kds_sV hk.kd) (kds_sV hk.kd) ?_
    wtm_at "wa"
    refine i_F (by simp) ?_
    wtm_at "wa"
    refine .inr ⟨b, _, rfl, .inl ⟨kvs, Sum.inr (jn ks), eb6, rfl, sz_lt (by omega), rfl⟩, ?_⟩
    have nbk : ∀ {x : Addr} {xs : List V}, H6 x = some (.lst xs) → x ≠ b := fun e z => by rw [z, eb6] at e; cases e
    have d7 : DictOk (upd H6 b (.dK (putK kvs (Sum.inr (jn ks)) (.ref kp)))) b (i + 1) := by
      refine ⟨_, upd_same, Nat.le_trans (put_len _ _ _) (by omega), fun t v hv => ?_⟩
      rw [valV_put] at hv
      split at hv
      · rename_i ht
        refine ⟨kp, ks, (Option.some.inj hv).symm, upd_oth (nbk ek6) ek6, hk, by injection ht⟩
      · obtain ⟨z, ls, e1, e2, e3⟩ := hkv t v hv
        exact ⟨z, ls, e1, upd_oth (nbk e2) e2, e3⟩
    have s07 : Same H (upd H6 b (.dK (putK kvs (Sum.inr (jn ks)) (.ref kp)))) := same_mut (s1.trans s16) nb
    have ek7 : (upd H6 b (.dK (putK kvs (Sum.inr (jn ks)) (.ref kp)))) kp = some (.lst ks) := upd_oth (nbk ek6) ek6
    generalize upd H6 b (.dK (putK kvs (Sum.inr (jn ks)) (.ref kp))) = H7 at d7 s07 ek7 ⊢
    clear hkv eb6 nbk eh6 ez6
    wtm_at "wa"
    refine u_read_kinds hk fun tp H8 s8 ntp et => ?_
    wtm_at "wa"
    refine i_neL (sq_of et) (sq_of (s8 _ _ ek7)) (kds_sV hk.kd) (kds_sV hk.kd) ?_
    wtm_at "wa"
    refine i_F (by simp) ?_
    wtm_at "wa"
    refine i_lstA (sq_of et) ?_
    refine lck_pure walk_list (by omega) (fun _ => none) (fun H' s => sq_of (s _ _ et)) (fun j x H5 H6 KK NN hj s y hK hN => ?_) (fun q9 H9 nq9 s9 e9 => ?_)
    · obtain ⟨rfl, hx⟩ := y
      wtm_at "w"
      refine ⟨rfl, ?_⟩
      rcases hk.kd x (List.mem_of_getElem? hx) with ⟨s, rfl, _, _⟩ | rfl
      · wtm_at "w"
        exact hN _ rfl (fun _ _ z => z)
      · wtm_at "w"
        exact hN _ rfl (fun _ _ z => z)
    rw [given_none] at e9
    wtm_at "w"
    refine i_new (by simp) fun z10 nz10 => ?_
    have s910 : Same H9 (upd H9 z10 (.lst [])) := same_new nz10
    refine i_neL (xs := []) (ys := []) (sq_of (s910 _ _ e9)) (sq_of upd_same) rfl rfl ?_
    generalize upd H9 z10 (.lst []) = H10 at s910 ⊢
    have et10 := (s9.trans s910) _ _ et
    wtm_at "w"
    refine i_tyL et10 ?_
    wtm_at "w"
    refine i_app et10 (sz_lt (by omega)) ?_
    have s711 : Same H7 (upd H10 tp (.lst (ks ++ [.int 3]))) := same_mut ((s8.trans s9).trans s910) ntp
    generalize upd H10 tp (.lst (ks ++ [.int 3])) = H11 at s711 ⊢
    wtm_at "w"
    refine u_law_mixed (by omega) (by omega) fun r12 H12 s12 _ => ?_
    wtm_at "w"
    refine u_law_parts fun p13 q13 n ps H13 s13 np13 nq13 e13 eq13 w => ?_
    refine g_two e13 ?_
    wtm_at "w"
    refine i_ulist (sq_of eq13) fun gv ngv => ?_
    have s134 : Same H13 (upd H13 gv (.lst ((nI ps).map V.int))) := same_new ngv
    have egv : (upd H13 gv (.lst ((nI ps).map V.int))) gv = some (.lst ((nI ps).map V.int)) := upd_same
    generalize upd H13 gv (.lst ((nI ps).map V.int)) = H14 at s134 egv ⊢
    have eq14 := s134 _ _ eq13
    have s714 := ((s711.trans s12).trans s13).trans s134
    wtm_at "w"
    refine u_law_sum_text eq14 w fun H15 s15 => ?_
    wtm_at "wa"
    refine u_show_sum (s15 _ _ egv) w fun H16 s16' => ?_
    wtm_at "wa"
    refine i_F (by simp) ?_
    have s1416 := s15.trans s16'
    wtm_at "wa"
    refine i_neL (sq_of (s1416 _ _ egv)) (sq_of (s1416 _ _ eq14)) (ints_sV _) (ints_sV _) ?_
    wtm_at "wa"
    refine i_F (by simp) ?_
    wtm_at "wa"
    refine u_read_sum w fun T p17 H17 s17 nT np17 eT ep17 => ?_
    have s1417 := s1416.trans s17
    wtm_at "wa"
    refine i_new (by simp) fun U nU => ?_
    have s178 : Same H17 (upd H17 U (.tup [.int n, .ref q13])) := same_new nU
    refine i_neT (s178 _ _ eT) upd_same (s178 _ _ ep17) ((s1417.trans s178) _ _ eq14) ?_
    generalize upd H17 U (.tup [.int n, .ref q13]) = H18 at s178 ⊢
    wtm_at "wa"
    refine i_ixT (st_of (s178 _ _ eT)) (at_nat (n := 1) rfl rfl) ?_
    wtm_at "wa"
    refine i_isiLL (s178 _ _ ep17) ?_
    wtm_at "wa"
    refine i_ixT (st_of (s178 _ _ eT)) (at_nat (n := 1) rfl rfl) ?_
    refine i_tyL (s178 _ _ ep17) ?_
    wtm_at "wa"
    refine i_app (s178 _ _ ep17) (sz_lt (by have := w.len; unfold nI; rw [List.length_map, List.length_map]; omega)) ?_
    have s1619 : Same H16 (upd H18 p17 (.lst ((nI ps).map V.int ++ [.int 0]))) := same_mut (s17.trans s178) np17
    generalize upd H18 p17 (.lst ((nI ps).map V.int ++ [.int 0])) = H19 at s1619 ⊢
    have s719 := (s714.trans s1416).trans s1619
    wtm_at "wa"
    refine u_read_sum w fun T2 p20 H20 s20 nT2 np20 eT2 ep20 => ?_
    have s1420 := (s1416.trans s1619).trans s20
    wtm_at "wa"
    refine i_new (by simp) fun U2 nU2 => ?_
    have s201 : Same H20 (upd H20 U2 (.tup [.int n, .ref q13])) := same_new nU2
    refine i_neT (s201 _ _ eT2) upd_same (s201 _ _ ep20) ((s1420.trans s201) _ _ eq14) ?_
    generalize upd H20 U2 (.tup [.int n, .ref q13]) = H21 at s201 ⊢
    have s721 := (s719.trans s20).trans s201
    wtm_at "wa"
    refine u_show_kinds (s721 _ _ ek7) hk fun H22 s22 => ?_
    wtm_at "wa"
    refine u_read_kinds hk fun p23 H23 s23 np23 e23 => ?_
    have s723 := (s721.trans s22).trans s23
    wtm_at "wa"
    refine i_neL (sq_of e23) (sq_of (s723 _ _ ek7)) (kds_sV hk.kd) (kds_sV hk.kd) ?_
    wtm_at "wa"
    refine i_F (by simp) ?_
    wtm_at "wa"
    exact ⟨s07.trans s723, d7.same s723, _, _, _, _, _, _, _, _, _, _, rfl⟩
  · rintro σ H1 ⟨s1, d1, y2, y3, y4, y5, y6, y7, y8, y9, y10, y11, rfl⟩
    wtm_at "w"
    exact hq _
end
/-! ### the text of the row -/
def topS (i : Nat) : Stmt := PySem.Challenge.pw_fewshapes_k35_kinds_and_sums_written.main.body.getD i (.Pass ⟨0, 0, 0, 0⟩)
abbrev s_is_whole : Stmt := topS 10
theorem sc_is_whole : FnScope ["thing"] ["thing"] (defScope s_is_whole) := ⟨rfl, rfl, rfl, by decide +kernel, rfl, by decide +kernel, by decide +kernel⟩
abbrev s_is_kind : Stmt := topS 12
theorem sc_is_kind : FnScope ["thing"] ["thing"] (defScope s_is_kind) := ⟨rfl, rfl, rfl, by decide +kernel, rfl, by decide +kernel, by decide +kernel⟩
abbrev s_are_kinds : Stmt := topS 13
theorem sc_are_kinds : FnScope ["thing", "kind", "k"] ["thing"] (defScope s_are_kinds) := ⟨rfl, rfl, rfl, by decide +kernel, rfl, by decide +kernel, by decide +kernel⟩
abbrev s_show_kinds : Stmt := topS 17
theorem sc_show_kinds : FnScope ["kinds", "kind"] ["kinds"] (defScope s_show_kinds) := ⟨rfl, rfl, rfl, by decide +kernel, rfl, by decide +kernel, by decide +kernel⟩
abbrev s_is_whole_v2 : Stmt := topS 18
theorem sc_is_whole_v2 : FnScope ["thing"] ["thing"] (defScope s_is_whole_v2) := ⟨rfl, rfl, rfl, by decide +kernel, rfl, by decide +kernel, by decide +kernel⟩
abbrev s_is_written_sum : Stmt := topS 20
theorem sc_is_written_sum : FnScope ["n", "parts", "part"] ["n", "parts"] (defScope s_is_written_sum) := ⟨rfl, rfl, rfl, by decide +kernel, rfl, by decide +kernel, by decide +kernel⟩
abbrev s_sum_text : Stmt := topS 21
theorem sc_sum_text : FnScope ["n", "parts", "part"] ["n", "parts"] (defScope s_sum_text) := ⟨rfl, rfl, rfl, by decide +kernel, rfl, by decide +kernel, by decide +kernel⟩
abbrev s_show_sum : Stmt := topS 22
theorem sc_show_sum : FnScope ["n", "parts"] ["n", "parts"] (defScope s_show_sum) := ⟨rfl, rfl, rfl, by decide +kernel, rfl, by decide +kernel, by decide +kernel⟩
abbrev s_read_figures_v2 : Stmt := topS 23
theorem sc_read_figures_v2 : FnScope ["word", "sign"] ["word"] (defScope s_read_figures_v2) := ⟨rfl, rfl, rfl, by decide +kernel, rfl, by decide +kernel, by decide +kernel⟩
abbrev s_read_kind_v2 : Stmt := topS 24
theorem sc_read_kind_v2 : FnScope ["word"] ["word"] (defScope s_read_kind_v2) := ⟨rfl, rfl, rfl, by decide +kernel, rfl, by decide +kernel, by decide +kernel⟩
abbrev s_read_kinds : Stmt := topS 25
theorem sc_read_kinds : FnScope ["text", "kinds", "word"] ["text"] (defScope s_read_kinds) := ⟨rfl, rfl, rfl, by decide +kernel, rfl, by decide +kernel, by decide +kernel⟩
abbrev s_read_sum : Stmt := topS 26
theorem sc_read_sum : FnScope ["text", "words", "n", "parts", "word"] ["text"] (defScope s_read_sum) := ⟨rfl, rfl, rfl, by decide +kernel, rfl, by decide +kernel, by decide +kernel⟩
abbrev s_law_cell_v2 : Stmt := topS 28
theorem sc_law_cell_v2 : FnScope ["script", "k"] ["script", "k"] (defScope s_law_cell_v2) := ⟨rfl, rfl, rfl, by decide +kernel, rfl, by decide +kernel, by decide +kernel⟩
abbrev s_law_mixed : Stmt := topS 29
theorem sc_law_mixed : FnScope ["cell", "k", "number", "some"] ["cell", "k"] (defScope s_law_mixed) := ⟨rfl, rfl, rfl, by decide +kernel, rfl, by decide +kernel, by decide +kernel⟩
abbrev s_law_kinds_v3 : Stmt := topS 30
theorem sc_law_kinds_v3 : FnScope ["cell", "left", "found", "k"] ["cell"] (defScope s_law_kinds_v3) := ⟨rfl, rfl, rfl, by decide +kernel, rfl, by decide +kernel, by decide +kernel⟩
abbrev s_law_sum_text : Stmt := topS 33
theorem sc_law_sum_text : FnScope ["n", "parts", "part"] ["n", "parts"] (defScope s_law_sum_text) := ⟨rfl, rfl, rfl, by decide +kernel, rfl, by decide +kernel, by decide +kernel⟩
abbrev s_law_parts : Stmt := topS 34
theorem sc_law_parts : FnScope ["cell", "n", "left", "parts", "most", "part"] ["cell"] (defScope s_law_parts) := ⟨rfl, rfl, rfl, by decide +kernel, rfl, by decide +kernel, by decide +kernel⟩
abbrev s_law_k35 : Stmt := topS 35
theorem sc_law_k35 : FnScope ["script", "before", "k", "cell", "kinds", "given", "text", "told", "n", "parts", "found", "kind"] ["script"] (defScope s_law_k35) := ⟨rfl, rfl, rfl, by decide +kernel, rfl, by decide +kernel, by decide +kernel⟩
/-- what the top has left -/
structure Txt (G : Gx) (mg : Str → Option Value) where
  a_is_whole : Addr
  d_is_whole : FuncData
  F_is_whole : Fun G.K "is_whole" "is_whole" s_is_whole a_is_whole d_is_whole
  b_is_whole : Binds G.K d_is_whole ["thing"] []
  g_is_whole_shapes : mg "is_whole_shapes" = some (.ref a_is_whole)
  a_is_kind : Addr
  d_is_kind : FuncData
  F_is_kind : Fun G.K "is_kind" "is_kind" s_is_kind a_is_kind d_is_kind
  b_is_kind : Binds G.K d_is_kind ["thing"] []
  g_is_kind : mg "is_kind" = some (.ref a_is_kind)
  a_are_kinds : Addr
  d_are_kinds : FuncData
  F_are_kinds : Fun G.K "are_kinds" "are_kinds" s_are_kinds a_are_kinds d_are_kinds
  b_are_kinds : Binds G.K d_are_kinds ["thing"] []
  g_are_kinds : mg "are_kinds" = some (.ref a_are_kinds)
  a_show_kinds : Addr
  d_show_kinds : FuncData
  F_show_kinds : Fun G.K "show_kinds" "show_kinds" s_show_kinds a_show_kinds d_show_kinds
  b_show_kinds : Binds G.K d_show_kinds ["kinds"] []
  g_show_kinds : mg "show_kinds" = some (.ref a_show_kinds)
  a_is_whole_v2 : Addr
  d_is_whole_v2 : FuncData
  F_is_whole_v2 : Fun G.K "is_whole" "is_whole" s_is_whole_v2 a_is_whole_v2 d_is_whole_v2
  b_is_whole_v2 : Binds G.K d_is_whole_v2 ["thing"] []
  g_is_whole : mg "is_whole" = some (.ref a_is_whole_v2)
  g_is_whole_texts : mg "is_whole_texts" = some (.ref a_is_whole_v2)
  a_is_written_sum : Addr
  d_is_written_sum : FuncData
  F_is_written_sum : Fun G.K "is_written_sum" "is_written_sum" s_is_written_sum a_is_written_sum d_is_written_sum
  b_is_written_sum : Binds G.K d_is_written_sum ["n", "parts"] []
  g_is_written_sum : mg "is_written_sum" = some (.ref a_is_written_sum)
  a_sum_text : Addr
  d_sum_text : FuncData
  F_sum_text : Fun G.K "sum_text" "sum_text" s_sum_text a_sum_text d_sum_text
  b_sum_text : Binds G.K d_sum_text ["n", "parts"] []
  g_sum_text : mg "sum_text" = some (.ref a_sum_text)
  a_show_sum : Addr
  d_show_sum : FuncData
  F_show_sum : Fun G.K "show_sum" "show_sum" s_show_sum a_show_sum d_show_sum
  b_show_sum : Binds G.K d_show_sum ["n", "parts"] []
  g_show_sum : mg "show_sum" = some (.ref a_show_sum)
  a_read_figures_v2 : Addr
  d_read_figures_v2 : FuncData
  F_read_figures_v2 : Fun G.K "read_figures" "read_figures" s_read_figures_v2 a_read_figures_v2 d_read_figures_v2
  b_read_figures_v2 : Binds G.K d_read_figures_v2 ["word"] []
  g_read_figures : mg "read_figures" = some (.ref a_read_figures_v2)
  a_read_kind_v2 : Addr
  d_read_kind_v2 : FuncData
  F_read_kind_v2 : Fun G.K "read_kind" "read_kind" s_read_kind_v2 a_read_kind_v2 d_read_kind_v2
  b_read_kind_v2 : Binds G.K d_read_kind_v2 ["word"] []
  g_read_kind : mg "read_kind" = some (.ref a_read_kind_v2)
  a_read_kinds : Addr
  d_read_kinds : FuncData
  F_read_kinds : Fun G.K "read_kinds" "read_kinds" s_read_kinds a_read_kinds d_read_kinds
  b_read_kinds : Binds G.K d_read_kinds ["text"] []
  g_read_kinds : mg "read_kinds" = some (.ref a_read_kinds)
  a_read_sum : Addr
  d_read_sum : FuncData
  F_read_sum : Fun G.K "read_sum" "read_sum" s_read_sum a_read_sum d_read_sum
  b_read_sum : Binds G.K d_read_sum ["text"] []
  g_read_sum : mg "read_sum" = some (.ref a_read_sum)
  a_law_cell_v2 : Addr
  d_law_cell_v2 : FuncData
  F_law_cell_v2 : Fun G.K "_law_cell" "_law_cell" s_law_cell_v2 a_law_cell_v2 d_law_cell_v2
  b_law_cell_v2 : Binds G.K d_law_cell_v2 ["script", "k"] []
  g_law_cell : mg "_law_cell" = some (.ref a_law_cell_v2)
  a_law_mixed : Addr
  d_law_mixed : FuncData
  F_law_mixed : Fun G.K "_law_mixed" "_law_mixed" s_law_mixed a_law_mixed d_law_mixed
  b_law_mixed : Binds G.K d_law_mixed ["cell", "k"] []
  g_law_mixed : mg "_law_mixed" = some (.ref a_law_mixed)
  a_law_kinds_v3 : Addr
  d_law_kinds_v3 : FuncData
  F_law_kinds_v3 : Fun G.K "_law_kinds" "_law_kinds" s_law_kinds_v3 a_law_kinds_v3 d_law_kinds_v3
  b_law_kinds_v3 : Binds G.K d_law_kinds_v3 ["cell"] []
  g_law_kinds : mg "_law_kinds" = some (.ref a_law_kinds_v3)
  a_law_sum_text : Addr
  d_law_sum_text : FuncData
  F_law_sum_text : Fun G.K "_law_sum_text" "_law_sum_text" s_law_sum_text a_law_sum_text d_law_sum_text
  b_law_sum_text : Binds G.K d_law_sum_text ["n", "parts"] []
  g_law_sum_text : mg "_law_sum_text" = some (.ref a_law_sum_text)
  a_law_parts : Addr
  d_law_parts : FuncData
  F_law_parts : Fun G.K "_law_parts" "_law_parts" s_law_parts a_law_parts d_law_parts
  b_law_parts : Binds G.K d_law_parts ["cell"] []
  g_law_parts : mg "_law_parts" = some (.ref a_law_parts)
  a_law_k35 : Addr
  d_law_k35 : FuncData
  F_law_k35 : Fun G.K "law" "law" s_law_k35 a_law_k35 d_law_k35
  b_law_k35 : Binds G.K d_law_k35 ["script"] []
  g_law : mg "law" = some (.ref a_law_k35)
  n_abs : mg "abs" = none
  n_bool : mg "bool" = none
  n_enumerate : mg "enumerate" = none
  n_int : mg "int" = none
  n_isinstance : mg "isinstance" = none
  n_len : mg "len" = none
  n_list : mg "list" = none
  n_max : mg "max" = none
  n_min : mg "min" = none
  n_range : mg "range" = none
  n_sorted : mg "sorted" = none
  n_str : mg "str" = none
  n_sum : mg "sum" = none
  k_CUBES : Tok
  c_CUBES : mg "CUBES" = some (.str "cubes" k_CUBES)
  k_FEWEST_CORNERS : Tok
  c_FEWEST_CORNERS : mg "FEWEST_CORNERS" = some (.int 3 k_FEWEST_CORNERS)
  k_FIGURES : Tok
  c_FIGURES : mg "FIGURES" = some (.str "0123456789" k_FIGURES)
  k_MOST : Tok
  c_MOST : mg "MOST" = some (.int 200 k_MOST)
  k_MOST_CORNERS : Tok
  c_MOST_CORNERS : mg "MOST_CORNERS" = some (.int 12 k_MOST_CORNERS)
  k_MOST_KINDS : Tok
  c_MOST_KINDS : mg "MOST_KINDS" = some (.int 5 k_MOST_KINDS)
section
variable {P : Program} {w : World} {G : Gx} {mg : Str → Option Value} {base : Heap}
theorem ok_is_whole (T : Txt G mg) : FnOk P w G.K mg base CX0 1 T.a_is_whole T.d_is_whole ["thing"] (sp0 (sp_is_whole G)) := by
  refine T.F_is_whole.ok sc_is_whole (fun vs H Q E h => h.1) (fun cdv A outer s H vs Q E hr h => ⟨t_is_whole G E0, ?_, h.2⟩)
  exact (pss_one (ps_ret (pe_and (pe_callB k_isi (by rfl) T.n_isinstance (by decide +kernel) (pa_cons (pv 0) (pa_cons (pe_bltn (by rfl) T.n_int (by decide +kernel) rfl) pa_nil))) (pe_one (pe_not (pe_callB k_isi (by rfl) T.n_isinstance (by decide +kernel) (pa_cons (pv 0) (pa_cons (pe_bltn (by rfl) T.n_bool (by decide +kernel) rfl) pa_nil))))))))
theorem ok_is_kind (T : Txt G mg) : FnOk P w G.K mg base CX0 2 T.a_is_kind T.d_is_kind ["thing"] (sp0 (sp_is_kind G)) := by
  refine T.F_is_kind.ok sc_is_kind (fun vs H Q E h => h.1) (fun cdv A outer s H vs Q E hr h => ⟨t_is_kind G E0, ?_, h.2⟩)
  exact (pss_cons (ps_if (pt_val (pe_callB k_isi (by rfl) T.n_isinstance (by decide +kernel) (pa_cons (pv 0) (pa_cons (pe_bltn (by rfl) T.n_str (by decide +kernel) rfl) pa_nil)))) (pss_one (ps_ret (pe_cmpR (o_eq hr.units) (pv 0) (pe_glob (by rfl) T.c_CUBES ⟨_, rfl⟩) (nomark _)))) pss_nil)
      (pss_one (ps_ret (pe_and (pcall (ok_is_whole T) (hr.mono (by decide)) (by rfl) T.g_is_whole_shapes T.F_is_whole.kp T.b_is_whole (pa_cons (pv 0) pa_nil)) (pe_one (pe_chain o_le o_le (pe_glob (by rfl) T.c_FEWEST_CORNERS ⟨_, rfl⟩) (pv 0) (pe_glob (by rfl) T.c_MOST_CORNERS ⟨_, rfl⟩)))))))
theorem ok_are_kinds (T : Txt G mg) : FnOk P w G.K mg base CX0 3 T.a_are_kinds T.d_are_kinds ["thing"] (sp0 (sp_are_kinds G)) := by
  refine T.F_are_kinds.ok sc_are_kinds (fun vs H Q E h => h.1) (fun cdv A outer s H vs Q E hr h => ⟨t_are_kinds G E0, ?_, h.2⟩)
  exact (pss_cons (ps_if (PW.pt (pw_or (pt_not (pt_val (pe_callB k_isi (by rfl) T.n_isinstance (by decide +kernel) (pa_cons (pv 0) (pa_cons (pe_bltn (by rfl) T.n_list (by decide +kernel) rfl) pa_nil))))) (pw_or1 (pt_not (pt_chain o_le o_le pe_int (pe_callB k_len (by rfl) T.n_len (by decide +kernel) (pa_cons (pv 0) pa_nil)) (pe_glob (by rfl) T.c_MOST_KINDS ⟨_, rfl⟩)))))) (pss_one (ps_ret pe_bl)) pss_nil)
      (pss_cons (ps_if (pt_cmpR (o_ne hr.units) (pe_lc (own := [("kind", 1)]) (g := (gName 1)) (tt := (tNot (tB (tCall (sp_is_kind G) [] E0 (tCons (tVar 1) tNil))))) (by rfl) sc_are_kinds.nd  (pi_list (pv 0)) (blkOk_by (own := [("kind", 1)]) (N := ["thing", "kind", "k"]) (sc := defScope s_are_kinds) (by decide +kernel)) (fun _ _ _ _ _ => (pgn 1 sc_are_kinds.nd)) (fun _ _ _ _ _ => (pts_one (pt_not (pt_val (pcall (ok_is_kind T) (hr.mono (by decide)) (by rfl) T.g_is_kind T.F_is_kind.kp T.b_is_kind (pa_cons (pv 1) pa_nil)))))) (fun _ _ _ _ _ => (pv 1))) (pe_lst pa_nil) (nomark _)) (pss_one (ps_ret pe_bl)) pss_nil)
      (pss_one (ps_ret (pe_cmpR (o_eq hr.units) (pe_lc (own := [("k", 2), ("kind", 1)]) (g := (gTup G.K 2 (gCons (gName 2) (gCons (gName 1) gNil)))) (tt := (tTest (tOp (uIn G.K) (tVar 1) (tSl (uSl G.K) (tVar 0) tNoPart (tPart (tVar 2)))))) (by rfl) sc_are_kinds.nd  (pi_enum (by rfl) T.n_enumerate (pa_cons (pv 0) pa_nil)) (blkOk_by (own := [("k", 2), ("kind", 1)]) (N := ["thing", "kind", "k"]) (sc := defScope s_are_kinds) (by decide +kernel)) (fun _ _ _ _ _ => (pg_tup (by rfl) (pgs_cons (pgn 2 sc_are_kinds.nd) (pgs_cons (pgn 1 sc_are_kinds.nd) pgs_nil)))) (fun _ _ _ _ _ => (pts_one (pt_cmpR o_in (pv 1) (pe_slice o_sl (pv 0) po_none (po_some (pv 2))) (by rfl)))) (fun _ _ _ _ _ => (pv 2))) (pe_lst pa_nil) (nomark _))))))
theorem ok_show_kinds (T : Txt G mg) : FnOk P w G.K mg base CX0 4 T.a_show_kinds T.d_show_kinds ["kinds"] (sp0 (sp_show_kinds G)) := by
  refine T.F_show_kinds.ok sc_show_kinds (fun vs H Q E h => h.1) (fun cdv A outer s H vs Q E hr h => ⟨t_show_kinds G E0, ?_, h.2⟩)
  exact (pss_cons (ps_if (pt_not (pt_val (pcall (ok_are_kinds T) (hr.mono (by decide)) (by rfl) T.g_are_kinds T.F_are_kinds.kp T.b_are_kinds (pa_cons (pv 0) pa_nil)))) (pss_one prz0) pss_nil)
      (pss_one (ps_ret (pe_join pe_str (pe_lc (own := [("kind", 1)]) (g := (gName 1)) (tt := tYes) (by rfl) sc_show_kinds.nd  (pi_list (pv 0)) (blkOk_by (own := [("kind", 1)]) (N := ["kinds", "kind"]) (sc := defScope s_show_kinds) (by decide +kernel)) (fun _ _ _ _ _ => (pgn 1 sc_show_kinds.nd)) (fun _ _ _ _ _ => pts_nil) (fun _ _ _ _ _ => (pe_callTy k_str (by rfl) T.n_str (by decide +kernel) (pa_cons (pv 1) pa_nil))))))))
theorem ok_is_whole_v2 (T : Txt G mg) : FnOk P w G.K mg base CX0 1 T.a_is_whole_v2 T.d_is_whole_v2 ["thing"] (sp0 (sp_is_whole_v2 G)) := by
  refine T.F_is_whole_v2.ok sc_is_whole_v2 (fun vs H Q E h => h.1) (fun cdv A outer s H vs Q E hr h => ⟨t_is_whole_v2 G E0, ?_, h.2⟩)
  exact (pss_one (ps_ret (pe_and (pe_callB k_isi (by rfl) T.n_isinstance (by decide +kernel) (pa_cons (pv 0) (pa_cons (pe_bltn (by rfl) T.n_int (by decide +kernel) rfl) pa_nil))) (pe_and (pe_not (pe_callB k_isi (by rfl) T.n_isinstance (by decide +kernel) (pa_cons (pv 0) (pa_cons (pe_bltn (by rfl) T.n_bool (by decide +kernel) rfl) pa_nil)))) (pe_one (pe_cmpR o_ge (pv 0) pe_int (nomark _)))))))
theorem ok_is_written_sum (T : Txt G mg) : FnOk P w G.K mg base CX0 2 T.a_is_written_sum T.d_is_written_sum ["n", "parts"] (sp0 (sp_is_written_sum G)) := by
  refine T.F_is_written_sum.ok sc_is_written_sum (fun vs H Q E h => h.1) (fun cdv A outer s H vs Q E hr h => ⟨t_is_written_sum G E0, ?_, h.2⟩)
  exact (pss_cons (ps_if (PW.pt (pw_or (pt_not (pt_val (pcall (ok_is_whole_v2 T) (hr.mono (by decide)) (by rfl) T.g_is_whole_texts T.F_is_whole_v2.kp T.b_is_whole_v2 (pa_cons (pv 0) pa_nil)))) (pw_or (pt_cmpR o_gt (pv 0) (pe_glob (by rfl) T.c_MOST ⟨_, rfl⟩) (nomark _)) (pw_or1 (pt_not (pt_val (pe_callB k_isi (by rfl) T.n_isinstance (by decide +kernel) (pa_cons (pv 1) (pa_cons (pe_bltn (by rfl) T.n_list (by decide +kernel) rfl) pa_nil))))))))) (pss_one (ps_ret pe_bl)) pss_nil)
      (pss_cons (ps_if (pt_cmpR (o_ne hr.units) (pe_lc (own := [("part", 2)]) (g := (gName 2)) (tt := (tOr (tNot (tB (tCall (sp_is_whole_v2 G) [] E0 (tCons (tVar 2) tNil)))) (tTest (tOp (uEq G.K) (tVar 2) (tC (.int 0)))))) (by rfl) sc_is_written_sum.nd  (pi_list (pv 1)) (blkOk_by (own := [("part", 2)]) (N := ["n", "parts", "part"]) (sc := defScope s_is_written_sum) (by decide +kernel)) (fun _ _ _ _ _ => (pgn 2 sc_is_written_sum.nd)) (fun _ _ _ _ _ => (pts_one (PW.pt (pw_or (pt_not (pt_val (pcall (ok_is_whole_v2 T) (hr.mono (by decide)) (by rfl) T.g_is_whole_texts T.F_is_whole_v2.kp T.b_is_whole_v2 (pa_cons (pv 2) pa_nil)))) (pw_or1 (pt_cmpR (o_eq hr.units) (pv 2) pe_int (nomark _))))))) (fun _ _ _ _ _ => (pv 2))) (pe_lst pa_nil) (nomark _)) (pss_one (ps_ret pe_bl)) pss_nil)
      (pss_one (ps_ret (pe_and (pe_cmpR (o_eq hr.units) (pe_callB (k_sum (by rfl)) (by rfl) T.n_sum (by decide +kernel) (pa_cons (pv 1) pa_nil)) (pv 0) (nomark _)) (pe_one (pe_cmpR (o_eq hr.units) (pv 1) (pe_callBK k_sortR (by rfl) T.n_sorted (by decide +kernel) (pa_cons (pv 1) pa_nil) (pk_cons pe_bl pk_nil)) (nomark _))))))))
theorem ok_sum_text (T : Txt G mg) : FnOk P w G.K mg base CX0 1 T.a_sum_text T.d_sum_text ["n", "parts"] (sp0 (sp_sum_text G)) := by
  refine T.F_sum_text.ok sc_sum_text (fun vs H Q E h => h.1) (fun cdv A outer s H vs Q E hr h => ⟨t_sum_text G E0, ?_, h.2⟩)
  exact (pss_cons (ps_if (pt_cmpR (o_eq hr.units) (pv 1) (pe_lst pa_nil) (nomark _)) (pss_one (ps_ret (pe_op o_add (pe_callTy k_str (by rfl) T.n_str (by decide +kernel) (pa_cons (pv 0) pa_nil)) pe_str))) pss_nil)
      (pss_one (ps_ret (pe_op o_add (pe_op o_add (pe_callTy k_str (by rfl) T.n_str (by decide +kernel) (pa_cons (pv 0) pa_nil)) pe_str) (pe_join pe_str (pe_lc (own := [("part", 2)]) (g := (gName 2)) (tt := tYes) (by rfl) sc_sum_text.nd  (pi_list (pv 1)) (blkOk_by (own := [("part", 2)]) (N := ["n", "parts", "part"]) (sc := defScope s_sum_text) (by decide +kernel)) (fun _ _ _ _ _ => (pgn 2 sc_sum_text.nd)) (fun _ _ _ _ _ => pts_nil) (fun _ _ _ _ _ => (pe_callTy k_str (by rfl) T.n_str (by decide +kernel) (pa_cons (pv 2) pa_nil)))))))))
theorem ok_show_sum (T : Txt G mg) : FnOk P w G.K mg base CX0 3 T.a_show_sum T.d_show_sum ["n", "parts"] (sp0 (sp_show_sum G)) := by
  refine T.F_show_sum.ok sc_show_sum (fun vs H Q E h => h.1) (fun cdv A outer s H vs Q E hr h => ⟨t_show_sum G E0, ?_, h.2⟩)
  exact (pss_cons (ps_if (pt_not (pt_val (pcall (ok_is_written_sum T) (hr.mono (by decide)) (by rfl) T.g_is_written_sum T.F_is_written_sum.kp T.b_is_written_sum (pa_cons (pv 0) (pa_cons (pv 1) pa_nil))))) (pss_one prz0) pss_nil)
      (pss_one (ps_ret (pcall (ok_sum_text T) (hr.mono (by decide)) (by rfl) T.g_sum_text T.F_sum_text.kp T.b_sum_text (pa_cons (pv 0) (pa_cons (pv 1) pa_nil))))))
theorem ok_read_figures_v2 (T : Txt G mg) : FnOk P w G.K mg base CX0 1 T.a_read_figures_v2 T.d_read_figures_v2 ["word"] (sp0 (sp_read_figures_v2 G)) := by
  refine T.F_read_figures_v2.ok sc_read_figures_v2 (fun vs H Q E h => h.1) (fun cdv A outer s H vs Q E hr h => ⟨t_read_figures_v2 G E0, ?_, h.2⟩)
  exact (pss_cons (ps_if (PW.pt (pw_or (pt_not (pt_chain o_le o_le pe_int (pe_callB k_len (by rfl) T.n_len (by decide +kernel) (pa_cons (pv 0) pa_nil)) pe_int)) (pw_or1 (pt_cmpR (o_ne hr.units) (pe_lc (own := [("sign", 1)]) (g := (gName 1)) (tt := (tTest (tOp uNotInS (tVar 1) (tC (.str "0123456789"))))) (by rfl) sc_read_figures_v2.nd  (pi_str (pv 0)) (blkOk_by (own := [("sign", 1)]) (N := ["word", "sign"]) (sc := defScope s_read_figures_v2) (by decide +kernel)) (fun _ _ _ _ _ => (pgn 1 sc_read_figures_v2.nd)) (fun _ _ _ _ _ => (pts_one (pt_cmpR o_notInS (pv 1) (pe_glob (by rfl) T.c_FIGURES ⟨_, rfl⟩) (by rfl)))) (fun _ _ _ _ _ => (pv 1))) (pe_lst pa_nil) (nomark _))))) (pss_one prz0) pss_nil)
      (pss_one (ps_ret (pe_callTy k_int (by rfl) T.n_int (by decide +kernel) (pa_cons (pv 0) pa_nil)))))
theorem ok_read_kind_v2 (T : Txt G mg) : FnOk P w G.K mg base CX0 2 T.a_read_kind_v2 T.d_read_kind_v2 ["word"] (sp0 (sp_read_kind_v2 G)) := by
  refine T.F_read_kind_v2.ok sc_read_kind_v2 (fun vs H Q E h => h.1) (fun cdv A outer s H vs Q E hr h => ⟨t_read_kind_v2 G E0, ?_, h.2⟩)
  exact (pss_cons (ps_if (pt_cmpR (o_eq hr.units) (pv 0) pe_str (nomark _)) (pss_one (ps_ret (pv 0))) pss_nil)
      (pss_one (ps_ret (pcall (ok_read_figures_v2 T) (hr.mono (by decide)) (by rfl) T.g_read_figures T.F_read_figures_v2.kp T.b_read_figures_v2 (pa_cons (pv 0) pa_nil)))))
theorem ok_read_kinds (T : Txt G mg) : FnOk P w G.K mg base CX0 5 T.a_read_kinds T.d_read_kinds ["text"] (sp0 (sp_read_kinds G)) := by
  refine T.F_read_kinds.ok sc_read_kinds (fun vs H Q E h => h.1) (fun cdv A outer s H vs Q E hr h => ⟨t_read_kinds G E0, ?_, h.2⟩)
  exact (pss_cons (ps_if (pt_not (pt_val (pe_callB k_isi (by rfl) T.n_isinstance (by decide +kernel) (pa_cons (pv 0) (pa_cons (pe_bltn (by rfl) T.n_str (by decide +kernel) rfl) pa_nil))))) (pss_one prz0) pss_nil)
      (pss_cons (ps_setLc (i := 1) (own := [("word", 2)]) (g := (gName 2)) (tt := tYes) (by rfl) sc_read_kinds.nd rfl rfl (sw_true rfl rfl rfl (by decide +kernel))  (pi_list (pe_splitAny (pv 0) pe_str)) (blkOk_by (own := [("word", 2)]) (N := ["text", "kinds", "word"]) (sc := defScope s_read_kinds) (by decide +kernel)) (fun _ _ _ _ _ => (pgn 2 sc_read_kinds.nd)) (fun _ _ _ _ _ => pts_nil) (fun _ _ _ _ _ => (pcall (ok_read_kind_v2 T) (hr.mono (by decide)) (by rfl) T.g_read_kind T.F_read_kind_v2.kp T.b_read_kind_v2 (pa_cons (pv 2) pa_nil))))
      (pss_cons (ps_if (PW.pt (pw_or (pt_not (pt_val (pcall (ok_are_kinds T) (hr.mono (by decide)) (by rfl) T.g_are_kinds T.F_are_kinds.kp T.b_are_kinds (pa_cons (pv 1) pa_nil)))) (pw_or1 (pt_cmpR (o_ne hr.units) (pcall (ok_show_kinds T) (hr.mono (by decide)) (by rfl) T.g_show_kinds T.F_show_kinds.kp T.b_show_kinds (pa_cons (pv 1) pa_nil)) (pv 0) (nomark _))))) (pss_one prz0) pss_nil)
      (pss_one (ps_ret (pv 1))))))
theorem ok_read_sum (T : Txt G mg) : FnOk P w G.K mg base CX0 3 T.a_read_sum T.d_read_sum ["text"] (sp0 (sp_read_sum G)) := by
  refine T.F_read_sum.ok sc_read_sum (fun vs H Q E h => h.1) (fun cdv A outer s H vs Q E hr h => ⟨t_read_sum G E0, ?_, h.2⟩)
  exact (pss_cons (ps_if (pt_not (pt_val (pe_callB k_isi (by rfl) T.n_isinstance (by decide +kernel) (pa_cons (pv 0) (pa_cons (pe_bltn (by rfl) T.n_str (by decide +kernel) rfl) pa_nil))))) (pss_one prz0) pss_nil)
      (pss_cons (pst 1 sc_read_sum.nd (pe_splitAny (pv 0) pe_str))
      (pss_cons (pst 2 sc_read_sum.nd (pcall (ok_read_figures_v2 T) (hr.mono (by decide)) (by rfl) T.g_read_figures T.F_read_figures_v2.kp T.b_read_figures_v2 (pa_cons (pe_ix o_ix (pv 1) pe_int (fun _ _ => rfl)) pa_nil)))
      (pss_cons (ps_setLc (i := 3) (own := [("word", 4)]) (g := (gName 4)) (tt := tYes) (by rfl) sc_read_sum.nd rfl rfl (sw_true rfl rfl rfl (by decide +kernel))  (pi_list (pe_sl2 (pv 1))) (blkOk_by (own := [("word", 4)]) (N := ["text", "words", "n", "parts", "word"]) (sc := defScope s_read_sum) (by decide +kernel)) (fun _ _ _ _ _ => (pgn 4 sc_read_sum.nd)) (fun _ _ _ _ _ => pts_nil) (fun _ _ _ _ _ => (pcall (ok_read_figures_v2 T) (hr.mono (by decide)) (by rfl) T.g_read_figures T.F_read_figures_v2.kp T.b_read_figures_v2 (pa_cons (pv 4) pa_nil))))
      (pss_cons (ps_if (PW.pt (pw_or (pt_not (pt_val (pcall (ok_is_written_sum T) (hr.mono (by decide)) (by rfl) T.g_is_written_sum T.F_is_written_sum.kp T.b_is_written_sum (pa_cons (pv 2) (pa_cons (pv 3) pa_nil))))) (pw_or1 (pt_cmpR (o_ne hr.units) (pcall (ok_sum_text T) (hr.mono (by decide)) (by rfl) T.g_sum_text T.F_sum_text.kp T.b_sum_text (pa_cons (pv 2) (pa_cons (pv 3) pa_nil))) (pv 0) (nomark _))))) (pss_one prz0) pss_nil)
      (pss_one (ps_ret (pe_tup (pa_cons (pv 2) (pa_cons (pv 3) pa_nil))))))))))
theorem ok_law_cell_v2 (T : Txt G mg) : FnOk P w G.K mg base CX0 1 T.a_law_cell_v2 T.d_law_cell_v2 ["script", "k"] (sp0 (sp_law_cell_v2 G)) := by
  refine T.F_law_cell_v2.ok sc_law_cell_v2 (fun vs H Q E h => h.1) (fun cdv A outer s H vs Q E hr h => ⟨t_law_cell_v2 G E0, ?_, h.2⟩)
  exact (pss_cons (ps_if (pt_cmpR o_lt (pv 1) (pe_callB k_len (by rfl) T.n_len (by decide +kernel) (pa_cons (pv 0) pa_nil)) (nomark _)) (pss_one (ps_ret (pe_ix o_ix (pv 0) (pv 1) (fun _ _ => rfl)))) pss_nil)
      (pss_one (ps_ret (pe_op o_add (pe_op o_add (pe_op o_mul (pe_op o_mul pe_int (pv 1)) (pv 1)) (pe_op o_mul pe_int (pv 1))) pe_int))))
theorem ok_law_mixed (T : Txt G mg) : FnOk P w G.K mg base CX0 1 T.a_law_mixed T.d_law_mixed ["cell", "k"] (sp0 (sp_law_mixed G)) := by
  refine T.F_law_mixed.ok sc_law_mixed (fun vs H Q E h => h.1) (fun cdv A outer s H vs Q E hr h => ⟨t_law_mixed G E0, ?_, h.2⟩)
  exact (pss_cons (pst 2 sc_law_mixed.nd (pe_op o_mod (pe_op o_add (pe_op o_add (pe_op o_add (pe_op o_mul (pv 0) pe_int) (pe_op o_mul (pe_op o_mul pe_int (pv 1)) (pv 1))) (pe_op o_mul pe_int (pv 1))) pe_int) pe_int))
      (pss_cons (pst 3 sc_law_mixed.nd (pe_lst (pa_cons pe_int (pa_cons pe_int (pa_cons pe_int (pa_cons pe_int (pa_cons pe_int (pa_cons pe_int (pa_cons pe_int pa_nil)))))))))
      (pss_cons (pst 2 sc_law_mixed.nd (pe_op o_mod (pe_op o_mul (pv 2) (pv 2)) (pe_ix o_ix (pv 3) (pe_op o_mod (pv 1) pe_int) (fun _ _ => rfl))))
      (pss_one (ps_ret (pe_op o_div (pe_op o_add (pe_op o_mul (pv 2) pe_int) (pe_op o_mod (pv 0) pe_int)) pe_int))))))
theorem ok_law_kinds_v3 (T : Txt G mg) : FnOk P w G.K mg base CX0 2 T.a_law_kinds_v3 T.d_law_kinds_v3 ["cell"] (sp0 (sp_law_kinds_v3 G)) := by
  refine T.F_law_kinds_v3.ok sc_law_kinds_v3 (fun vs H Q E h => h.1) (fun cdv A outer s H vs Q E hr h => ⟨t_law_kinds_v3 G E0, ?_, h.2⟩)
  exact (pss_cons (pst 1 sc_law_kinds_v3.nd (pe_op o_add (pe_listRg (by rfl) (by rfl) T.n_list (prg_2 (by rfl) T.n_range pe_int pe_int)) (pe_lst (pa_cons pe_str pa_nil))))
      (pss_cons (pst 2 sc_law_kinds_v3.nd (pe_lst pa_nil))
      (pss_cons (ps_for PassesOwn.never (by rfl) (pi_range1 (by rfl) T.n_range (pa_cons (pe_op o_add pe_int (pe_op o_mod (pv 0) pe_int)) pa_nil)) (pgn 3 sc_law_kinds_v3.nd) (pss_one (ps_expr (pe_bm PySem.F.plainAttrs_list PySem.F.slot_list_append PySem.F.type_list_append mt_append (pv 2) (pa_cons (pe_bm PySem.F.plainAttrs_list PySem.F.slot_list_pop PySem.F.type_list_pop mt_popAt (pv 1) (pa_cons (pe_op o_mod (pcall (ok_law_mixed T) (hr.mono (by decide)) (by rfl) T.g_law_mixed T.F_law_mixed.kp T.b_law_mixed (pa_cons (pv 0) (pa_cons (pv 3) pa_nil))) (pe_callB k_len (by rfl) T.n_len (by decide +kernel) (pa_cons (pv 1) pa_nil))) pa_nil)) pa_nil)))))
      (pss_one (ps_ret (pv 2))))))
theorem ok_law_sum_text (T : Txt G mg) : FnOk P w G.K mg base CX0 1 T.a_law_sum_text T.d_law_sum_text ["n", "parts"] (sp0 (sp_law_sum_text G)) := by
  refine T.F_law_sum_text.ok sc_law_sum_text (fun vs H Q E h => h.1) (fun cdv A outer s H vs Q E hr h => ⟨t_law_sum_text G E0, ?_, h.2⟩)
  exact (pss_cons (ps_if (pt_cmpR (o_eq hr.units) (pv 1) (pe_lst pa_nil) (nomark _)) (pss_one (ps_ret (pe_op o_add (pe_callTy k_str (by rfl) T.n_str (by decide +kernel) (pa_cons (pv 0) pa_nil)) pe_str))) pss_nil)
      (pss_one (ps_ret (pe_op o_add (pe_op o_add (pe_callTy k_str (by rfl) T.n_str (by decide +kernel) (pa_cons (pv 0) pa_nil)) pe_str) (pe_join pe_str (pe_lc (own := [("part", 2)]) (g := (gName 2)) (tt := tYes) (by rfl) sc_law_sum_text.nd  (pi_list (pv 1)) (blkOk_by (own := [("part", 2)]) (N := ["n", "parts", "part"]) (sc := defScope s_law_sum_text) (by decide +kernel)) (fun _ _ _ _ _ => (pgn 2 sc_law_sum_text.nd)) (fun _ _ _ _ _ => pts_nil) (fun _ _ _ _ _ => (pe_callTy k_str (by rfl) T.n_str (by decide +kernel) (pa_cons (pv 2) pa_nil)))))))))
theorem ok_law_parts (T : Txt G mg) : FnOk P w G.K mg base CX0 2 T.a_law_parts T.d_law_parts ["cell"] (sp0 (sp_law_parts G)) := by
  refine T.F_law_parts.ok sc_law_parts (fun vs H Q E h => h.1) (fun cdv A outer s H vs Q E hr h => ⟨t_law_parts G E0, ?_, h.2⟩)
  exact (pss_cons (pst 1 sc_law_parts.nd (pe_op o_mod (pv 0) pe_int))
      (pss_cons (pst 2 sc_law_parts.nd (pv 1))
      (pss_cons (pst 3 sc_law_parts.nd (pe_lst pa_nil))
      (pss_cons (pst 4 sc_law_parts.nd (pe_ix o_ix (pe_lst (pa_cons pe_int (pa_cons pe_int (pa_cons pe_int (pa_cons pe_int pa_nil))))) (pe_op o_mod (pe_op o_div (pv 0) pe_int) pe_int) (fun _ _ => rfl)))
      (pss_cons (ps_while PassesOwn.never (pt_cmpR o_gt (pv 2) pe_int (nomark _)) (pss_cons (pst 5 sc_law_parts.nd (pe_op o_add pe_int (pe_op o_mod (pcall (ok_law_mixed T) (hr.mono (by decide)) (by rfl) T.g_law_mixed T.F_law_mixed.kp T.b_law_mixed (pa_cons (pv 0) (pa_cons (pe_callB k_len (by rfl) T.n_len (by decide +kernel) (pa_cons (pv 3) pa_nil)) pa_nil))) (pe_callB (k_min (by rfl)) (by rfl) T.n_min (by decide +kernel) (pa_cons (pv 2) (pa_cons (pv 4) pa_nil))))))
      (pss_cons (ps_expr (pe_bm PySem.F.plainAttrs_list PySem.F.slot_list_append PySem.F.type_list_append mt_append (pv 3) (pa_cons (pv 5) pa_nil)))
      (pss_one (pst 2 sc_law_parts.nd (pe_op o_sub (pv 2) (pv 5)))))))
      (pss_one (ps_ret (pe_lst (pa_cons (pv 1) (pa_cons (pe_callBK k_sortR (by rfl) T.n_sorted (by decide +kernel) (pa_cons (pv 3) pa_nil) (pk_cons pe_bl pk_nil)) pa_nil))))))))))
theorem ok_law_k35 (T : Txt G mg) : FnOk P w G.K mg base CX0 6 T.a_law_k35 T.d_law_k35 ["script"] (sp0 (sp_law_k35 G)) := by
  refine T.F_law_k35.ok sc_law_k35 (fun vs H Q E h => h.1) (fun cdv A outer s H vs Q E hr h => ⟨t_law_k35 G E0, ?_, h.2⟩)
  exact (pss_cons (pst 1 sc_law_k35.nd pe_dnewK)
      (pss_cons (ps_for PassesOwn.never (by rfl) (pi_range1 (by rfl) T.n_range (pa_cons (pe_callB (k_max (by rfl)) (by rfl) T.n_max (by decide +kernel) (pa_cons pe_int (pa_cons (pe_callB (k_min (by rfl)) (by rfl) T.n_min (by decide +kernel) (pa_cons (pe_callB k_len (by rfl) T.n_len (by decide +kernel) (pa_cons (pv 0) pa_nil)) (pa_cons pe_int pa_nil))) pa_nil))) pa_nil)) (pgn 2 sc_law_k35.nd) (pss_cons (pst 3 sc_law_k35.nd (pe_callB k_abs (by rfl) T.n_abs (by decide +kernel) (pa_cons (pcall (ok_law_cell_v2 T) (hr.mono (by decide)) (by rfl) T.g_law_cell T.F_law_cell_v2.kp T.b_law_cell_v2 (pa_cons (pv 0) (pa_cons (pv 2) pa_nil))) pa_nil)))
      (pss_cons (pst 4 sc_law_k35.nd (pcall (ok_law_kinds_v3 T) (hr.mono (by decide)) (by rfl) T.g_law_kinds T.F_law_kinds_v3.kp T.b_law_kinds_v3 (pa_cons (pcall (ok_law_mixed T) (hr.mono (by decide)) (by rfl) T.g_law_mixed T.F_law_mixed.kp T.b_law_mixed (pa_cons (pv 3) (pa_cons (pv 2) pa_nil))) pa_nil)))
      (pss_cons (pst 5 sc_law_k35.nd (pe_callTy (k_list (by rfl)) (by rfl) T.n_list (by decide +kernel) (pa_cons (pv 4) pa_nil)))
      (pss_cons (pst 6 sc_law_k35.nd (pe_join pe_str (pe_lc (own := [("kind", 11)]) (g := (gName 11)) (tt := tYes) (by rfl) sc_law_k35.nd  (pi_list (pv 4)) (blkOk_by (own := [("kind", 11)]) (N := ["script", "before", "k", "cell", "kinds", "given", "text", "told", "n", "parts", "found", "kind"]) (sc := defScope s_law_k35) (by decide +kernel)) (fun _ _ _ _ _ => (pgn 11 sc_law_k35.nd)) (fun _ _ _ _ _ => pts_nil) (fun _ _ _ _ _ => (pe_callTy k_str (by rfl) T.n_str (by decide +kernel) (pa_cons (pv 11) pa_nil))))))
      (pss_cons (ps_if (PW.pt (pw_or (pt_cmpR (o_ne hr.units) (pcall (ok_show_kinds T) (hr.mono (by decide)) (by rfl) T.g_show_kinds T.F_show_kinds.kp T.b_show_kinds (pa_cons (pv 5) pa_nil)) (pv 6) (nomark _)) (pw_or1 (pt_cmpR (o_ne hr.units) (pv 5) (pv 4) (nomark _))))) (pss_one (ps_ret pe_bl)) pss_nil)
      (pss_cons (ps_if (pt_cmpR (o_ne hr.units) (pe_dget2 (hu_of hr) (pv 1) (pv 6) (pv 4) ⟨by rfl, by rfl, by rfl, by rfl⟩) (pv 4) (nomark _)) (pss_one (ps_ret pe_bl)) pss_nil)
      (pss_cons (ps_asg (pv 4) (pg_sub (pv 1) (pv 6) (s_any (hu_of hr))))
      (pss_cons (pst 7 sc_law_k35.nd (pcall (ok_read_kinds T) (hr.mono (by decide)) (by rfl) T.g_read_kinds T.F_read_kinds.kp T.b_read_kinds (pa_cons (pv 6) pa_nil)))
      (pss_cons (ps_if (PW.pt (pw_or (pt_cmpR (o_ne hr.units) (pv 7) (pv 4) (nomark _)) (pw_or1 (pt_cmpR (o_ne hr.units) (pe_lc (own := [("kind", 11)]) (g := (gName 11)) (tt := (tB (tCB (uIsi G.K) (tCons (tVar 11) (tCons (tC (.ty "bool")) tNil))))) (by rfl) sc_law_k35.nd  (pi_list (pv 7)) (blkOk_by (own := [("kind", 11)]) (N := ["script", "before", "k", "cell", "kinds", "given", "text", "told", "n", "parts", "found", "kind"]) (sc := defScope s_law_k35) (by decide +kernel)) (fun _ _ _ _ _ => (pgn 11 sc_law_k35.nd)) (fun _ _ _ _ _ => (pts_one (pt_val (pe_callB k_isi (by rfl) T.n_isinstance (by decide +kernel) (pa_cons (pv 11) (pa_cons (pe_bltn (by rfl) T.n_bool (by decide +kernel) rfl) pa_nil)))))) (fun _ _ _ _ _ => (pv 11))) (pe_lst pa_nil) (nomark _))))) (pss_one (ps_ret pe_bl)) pss_nil)
      (pss_cons (ps_expr (pe_bm PySem.F.plainAttrs_list PySem.F.slot_list_append PySem.F.type_list_append mt_append (pv 7) (pa_cons pe_int pa_nil)))
      (pss_cons (ps_asg (pcall (ok_law_parts T) (hr.mono (by decide)) (by rfl) T.g_law_parts T.F_law_parts.kp T.b_law_parts (pa_cons (pcall (ok_law_mixed T) (hr.mono (by decide)) (by rfl) T.g_law_mixed T.F_law_mixed.kp T.b_law_mixed (pa_cons (pv 3) (pa_cons pe_int pa_nil))) pa_nil)) (pg_lst (by rfl) (pgs_cons (pgn 8 sc_law_k35.nd) (pgs_cons (pgn 9 sc_law_k35.nd) pgs_nil))))
      (pss_cons (pst 5 sc_law_k35.nd (pe_callTy (k_list (by rfl)) (by rfl) T.n_list (by decide +kernel) (pa_cons (pv 9) pa_nil)))
      (pss_cons (pst 6 sc_law_k35.nd (pcall (ok_law_sum_text T) (hr.mono (by decide)) (by rfl) T.g_law_sum_text T.F_law_sum_text.kp T.b_law_sum_text (pa_cons (pv 8) (pa_cons (pv 9) pa_nil))))
      (pss_cons (ps_if (PW.pt (pw_or (pt_cmpR (o_ne hr.units) (pcall (ok_show_sum T) (hr.mono (by decide)) (by rfl) T.g_show_sum T.F_show_sum.kp T.b_show_sum (pa_cons (pv 8) (pa_cons (pv 5) pa_nil))) (pv 6) (nomark _)) (pw_or1 (pt_cmpR (o_ne hr.units) (pv 5) (pv 9) (nomark _))))) (pss_one (ps_ret pe_bl)) pss_nil)
      (pss_cons (pst 10 sc_law_k35.nd (pcall (ok_read_sum T) (hr.mono (by decide)) (by rfl) T.g_read_sum T.F_read_sum.kp T.b_read_sum (pa_cons (pv 6) pa_nil)))
      (pss_cons (ps_if (PW.pt (pw_or (pt_cmpR (o_ne hr.units) (pv 10) (pe_tup (pa_cons (pv 8) (pa_cons (pv 9) pa_nil))) (nomark _)) (pw_or1 (pt_not (pt_val (pe_callB k_isi (by rfl) T.n_isinstance (by decide +kernel) (pa_cons (pe_ix o_ix (pv 10) pe_int (fun _ _ => rfl)) (pa_cons (pe_bltn (by rfl) T.n_list (by decide +kernel) rfl) pa_nil)))))))) (pss_one (ps_ret pe_bl)) pss_nil)
      (pss_cons (ps_expr (pe_bm PySem.F.plainAttrs_list PySem.F.slot_list_append PySem.F.type_list_append mt_append (pe_ix o_ix (pv 10) pe_int (fun _ _ => rfl)) (pa_cons pe_int pa_nil)))
      (pss_one (ps_if (PW.pt (pw_or (pt_cmpR (o_ne hr.units) (pcall (ok_read_sum T) (hr.mono (by decide)) (by rfl) T.g_read_sum T.F_read_sum.kp T.b_read_sum (pa_cons (pv 6) pa_nil)) (pe_tup (pa_cons (pv 8) (pa_cons (pv 9) pa_nil))) (nomark _)) (pw_or1 (pt_cmpR (o_ne hr.units) (pcall (ok_read_kinds T) (hr.mono (by decide)) (by rfl) T.g_read_kinds T.F_read_kinds.kp T.b_read_kinds (pa_cons (pcall (ok_show_kinds T) (hr.mono (by decide)) (by rfl) T.g_show_kinds T.F_show_kinds.kp T.b_show_kinds (pa_cons (pv 4) pa_nil)) pa_nil)) (pv 4) (nomark _))))) (pss_one (ps_ret pe_bl)) pss_nil))))))))))))))))))))
      (pss_one (ps_ret pe_bl))))
end
theorem txt_mk {K : PySem.W.Frag} {h : Heap} {mg : Str → Option Value} (X : K.In h) (Gs : h.Ns mainGlobals mg)
    {f1 : Addr} {od1 an1 : Option Addr} {sl1 : Array (Option Value)} {oc1 kV1 dc1 pm1 cd1 ct1 : Value}
    {f2 : Addr} {od2 an2 : Option Addr} {sl2 : Array (Option Value)} {oc2 kV2 dc2 pm2 cd2 ct2 : Value}
    {f3 : Addr} {od3 an3 : Option Addr} {sl3 : Array (Option Value)} {oc3 kV3 dc3 pm3 cd3 ct3 : Value}
    {f4 : Addr} {od4 an4 : Option Addr} {sl4 : Array (Option Value)} {oc4 kV4 dc4 pm4 cd4 ct4 : Value}
    {f5 : Addr} {od5 an5 : Option Addr} {sl5 : Array (Option Value)} {oc5 kV5 dc5 pm5 cd5 ct5 : Value}
    {f6 : Addr} {od6 an6 : Option Addr} {sl6 : Array (Option Value)} {oc6 kV6 dc6 pm6 cd6 ct6 : Value}
    {f7 : Addr} {od7 an7 : Option Addr} {sl7 : Array (Option Value)} {oc7 kV7 dc7 pm7 cd7 ct7 : Value}
    {f8 : Addr} {od8 an8 : Option Addr} {sl8 : Array (Option Value)} {oc8 kV8 dc8 pm8 cd8 ct8 : Value}
    {f9 : Addr} {od9 an9 : Option Addr} {sl9 : Array (Option Value)} {oc9 kV9 dc9 pm9 cd9 ct9 : Value}
    {f10 : Addr} {od10 an10 : Option Addr} {sl10 : Array (Option Value)} {oc10 kV10 dc10 pm10 cd10 ct10 : Value}
    {f11 : Addr} {od11 an11 : Option Addr} {sl11 : Array (Option Value)} {oc11 kV11 dc11 pm11 cd11 ct11 : Value}
    {f12 : Addr} {od12 an12 : Option Addr} {sl12 : Array (Option Value)} {oc12 kV12 dc12 pm12 cd12 ct12 : Value}
    {f13 : Addr} {od13 an13 : Option Addr} {sl13 : Array (Option Value)} {oc13 kV13 dc13 pm13 cd13 ct13 : Value}
    {f14 : Addr} {od14 an14 : Option Addr} {sl14 : Array (Option Value)} {oc14 kV14 dc14 pm14 cd14 ct14 : Value}
    {f15 : Addr} {od15 an15 : Option Addr} {sl15 : Array (Option Value)} {oc15 kV15 dc15 pm15 cd15 ct15 : Value}
    {f16 : Addr} {od16 an16 : Option Addr} {sl16 : Array (Option Value)} {oc16 kV16 dc16 pm16 cd16 ct16 : Value}
    {f17 : Addr} {od17 an17 : Option Addr} {sl17 : Array (Option Value)} {oc17 kV17 dc17 pm17 cd17 ct17 : Value}
    {f18 : Addr} {od18 an18 : Option Addr} {sl18 : Array (Option Value)} {oc18 kV18 dc18 pm18 cd18 ct18 : Value}
    {tk0 : Tok}
    {tk1 : Tok}
    {tk2 : Tok}
    {tk3 : Tok}
    {tk4 : Tok}
    {tk5 : Tok}
    (a1 : PySem.W.nsIn K mainGlobals "is_whole_shapes" = some (some (.ref f1)))
    (l1 : K.lookup f1 = some ⟨oc1, od1, .func (PySem.W.fnOf "is_whole" "is_whole" (defArgs s_is_whole) (defBody s_is_whole) (defScope s_is_whole) .none kV1 dc1 pm1 an1 cd1 ct1), sl1⟩)
    (c1 : PySem.W.codeIn K cd1 "is_whole" = true)
    (k1 : PySem.W.keepIn K (.ref f1) = true)
    (a2 : PySem.W.nsIn K mainGlobals "is_kind" = some (some (.ref f2)))
    (l2 : K.lookup f2 = some ⟨oc2, od2, .func (PySem.W.fnOf "is_kind" "is_kind" (defArgs s_is_kind) (defBody s_is_kind) (defScope s_is_kind) .none kV2 dc2 pm2 an2 cd2 ct2), sl2⟩)
    (c2 : PySem.W.codeIn K cd2 "is_kind" = true)
    (k2 : PySem.W.keepIn K (.ref f2) = true)
    (a3 : PySem.W.nsIn K mainGlobals "are_kinds" = some (some (.ref f3)))
    (l3 : K.lookup f3 = some ⟨oc3, od3, .func (PySem.W.fnOf "are_kinds" "are_kinds" (defArgs s_are_kinds) (defBody s_are_kinds) (defScope s_are_kinds) .none kV3 dc3 pm3 an3 cd3 ct3), sl3⟩)
    (c3 : PySem.W.codeIn K cd3 "are_kinds" = true)
    (k3 : PySem.W.keepIn K (.ref f3) = true)
    (a4 : PySem.W.nsIn K mainGlobals "show_kinds" = some (some (.ref f4)))
    (l4 : K.lookup f4 = some ⟨oc4, od4, .func (PySem.W.fnOf "show_kinds" "show_kinds" (defArgs s_show_kinds) (defBody s_show_kinds) (defScope s_show_kinds) .none kV4 dc4 pm4 an4 cd4 ct4), sl4⟩)
    (c4 : PySem.W.codeIn K cd4 "show_kinds" = true)
    (k4 : PySem.W.keepIn K (.ref f4) = true)
    (a5 : PySem.W.nsIn K mainGlobals "is_whole" = some (some (.ref f5)))
    (l5 : K.lookup f5 = some ⟨oc5, od5, .func (PySem.W.fnOf "is_whole" "is_whole" (defArgs s_is_whole_v2) (defBody s_is_whole_v2) (defScope s_is_whole_v2) .none kV5 dc5 pm5 an5 cd5 ct5), sl5⟩)
    (c5 : PySem.W.codeIn K cd5 "is_whole" = true)
    (k5 : PySem.W.keepIn K (.ref f5) = true)
    (a5_1 : PySem.W.nsIn K mainGlobals "is_whole_texts" = some (some (.ref f5)))
    (a6 : PySem.W.nsIn K mainGlobals "is_written_sum" = some (some (.ref f6)))
    (l6 : K.lookup f6 = some ⟨oc6, od6, .func (PySem.W.fnOf "is_written_sum" "is_written_sum" (defArgs s_is_written_sum) (defBody s_is_written_sum) (defScope s_is_written_sum) .none kV6 dc6 pm6 an6 cd6 ct6), sl6⟩)
    (c6 : PySem.W.codeIn K cd6 "is_written_sum" = true)
    (k6 : PySem.W.keepIn K (.ref f6) = true)
    (a7 : PySem.W.nsIn K mainGlobals "sum_text" = some (some (.ref f7)))
    (l7 : K.lookup f7 = some ⟨oc7, od7, .func (PySem.W.fnOf "sum_text" "sum_text" (defArgs s_sum_text) (defBody s_sum_text) (defScope s_sum_text) .none kV7 dc7 pm7 an7 cd7 ct7), sl7⟩)
    (c7 : PySem.W.codeIn K cd7 "sum_text" = true)
    (k7 : PySem.W.keepIn K (.ref f7) = true)
    (a8 : PySem.W.nsIn K mainGlobals "show_sum" = some (some (.ref f8)))
    (l8 : K.lookup f8 = some ⟨oc8, od8, .func (PySem.W.fnOf "show_sum" "show_sum" (defArgs s_show_sum) (defBody s_show_sum) (defScope s_show_sum) .none kV8 dc8 pm8 an8 cd8 ct8), sl8⟩)
    (c8 : PySem.W.codeIn K cd8 "show_sum" = true)
    (k8 : PySem.W.keepIn K (.ref f8) = true)
    (a9 : PySem.W.nsIn K mainGlobals "read_figures" = some (some (.ref f9)))
    (l9 : K.lookup f9 = some ⟨oc9, od9, .func (PySem.W.fnOf "read_figures" "read_figures" (defArgs s_read_figures_v2) (defBody s_read_figures_v2) (defScope s_read_figures_v2) .none kV9 dc9 pm9 an9 cd9 ct9), sl9⟩)
    (c9 : PySem.W.codeIn K cd9 "read_figures" = true)
    (k9 : PySem.W.keepIn K (.ref f9) = true)
    (a10 : PySem.W.nsIn K mainGlobals "read_kind" = some (some (.ref f10)))
    (l10 : K.lookup f10 = some ⟨oc10, od10, .func (PySem.W.fnOf "read_kind" "read_kind" (defArgs s_read_kind_v2) (defBody s_read_kind_v2) (defScope s_read_kind_v2) .none kV10 dc10 pm10 an10 cd10 ct10), sl10⟩)
    (c10 : PySem.W.codeIn K cd10 "read_kind" = true)
    (k10 : PySem.W.keepIn K (.ref f10) = true)
    (a11 : PySem.W.nsIn K mainGlobals "read_kinds" = some (some (.ref f11)))
    (l11 : K.lookup f11 = some ⟨oc11, od11, .func (PySem.W.fnOf "read_kinds" "read_kinds" (defArgs s_read_kinds) (defBody s_read_kinds) (defScope s_read_kinds) .none kV11 dc11 pm11 an11 cd11 ct11), sl11⟩)
    (c11 : PySem.W.codeIn K cd11 "read_kinds" = true)
    (k11 : PySem.W.keepIn K (.ref f11) = true)
    (a12 : PySem.W.nsIn K mainGlobals "read_sum" = some (some (.ref f12)))
    (l12 : K.lookup f12 = some ⟨oc12, od12, .func (PySem.W.fnOf "read_sum" "read_sum" (defArgs s_read_sum) (defBody s_read_sum) (defScope s_read_sum) .none kV12 dc12 pm12 an12 cd12 ct12), sl12⟩)
    (c12 : PySem.W.codeIn K cd12 "read_sum" = true)
    (k12 : PySem.W.keepIn K (.ref f12) = true)
    (a13 : PySem.W.nsIn K mainGlobals "_law_cell" = some (some (.ref f13)))
    (l13 : K.lookup f13 = some ⟨oc13, od13, .func (PySem.W.fnOf "_law_cell" "_law_cell" (defArgs s_law_cell_v2) (defBody s_law_cell_v2) (defScope s_law_cell_v2) .none kV13 dc13 pm13 an13 cd13 ct13), sl13⟩)
    (c13 : PySem.W.codeIn K cd13 "_law_cell" = true)
    (k13 : PySem.W.keepIn K (.ref f13) = true)
    (a14 : PySem.W.nsIn K mainGlobals "_law_mixed" = some (some (.ref f14)))
    (l14 : K.lookup f14 = some ⟨oc14, od14, .func (PySem.W.fnOf "_law_mixed" "_law_mixed" (defArgs s_law_mixed) (defBody s_law_mixed) (defScope s_law_mixed) .none kV14 dc14 pm14 an14 cd14 ct14), sl14⟩)
    (c14 : PySem.W.codeIn K cd14 "_law_mixed" = true)
    (k14 : PySem.W.keepIn K (.ref f14) = true)
    (a15 : PySem.W.nsIn K mainGlobals "_law_kinds" = some (some (.ref f15)))
    (l15 : K.lookup f15 = some ⟨oc15, od15, .func (PySem.W.fnOf "_law_kinds" "_law_kinds" (defArgs s_law_kinds_v3) (defBody s_law_kinds_v3) (defScope s_law_kinds_v3) .none kV15 dc15 pm15 an15 cd15 ct15), sl15⟩)
    (c15 : PySem.W.codeIn K cd15 "_law_kinds" = true)
    (k15 : PySem.W.keepIn K (.ref f15) = true)
    (a16 : PySem.W.nsIn K mainGlobals "_law_sum_text" = some (some (.ref f16)))
    (l16 : K.lookup f16 = some ⟨oc16, od16, .func (PySem.W.fnOf "_law_sum_text" "_law_sum_text" (defArgs s_law_sum_text) (defBody s_law_sum_text) (defScope s_law_sum_text) .none kV16 dc16 pm16 an16 cd16 ct16), sl16⟩)
    (c16 : PySem.W.codeIn K cd16 "_law_sum_text" = true)
    (k16 : PySem.W.keepIn K (.ref f16) = true)
    (a17 : PySem.W.nsIn K mainGlobals "_law_parts" = some (some (.ref f17)))
    (l17 : K.lookup f17 = some ⟨oc17, od17, .func (PySem.W.fnOf "_law_parts" "_law_parts" (defArgs s_law_parts) (defBody s_law_parts) (defScope s_law_parts) .none kV17 dc17 pm17 an17 cd17 ct17), sl17⟩)
    (c17 : PySem.W.codeIn K cd17 "_law_parts" = true)
    (k17 : PySem.W.keepIn K (.ref f17) = true)
    (a18 : PySem.W.nsIn K mainGlobals "law" = some (some (.ref f18)))
    (l18 : K.lookup f18 = some ⟨oc18, od18, .func (PySem.W.fnOf "law" "law" (defArgs s_law_k35) (defBody s_law_k35) (defScope s_law_k35) .none kV18 dc18 pm18 an18 cd18 ct18), sl18⟩)
    (c18 : PySem.W.codeIn K cd18 "law" = true)
    (k18 : PySem.W.keepIn K (.ref f18) = true)
    (z0 : PySem.W.nsIn K mainGlobals "abs" = some none)
    (z1 : PySem.W.nsIn K mainGlobals "bool" = some none)
    (z2 : PySem.W.nsIn K mainGlobals "enumerate" = some none)
    (z3 : PySem.W.nsIn K mainGlobals "int" = some none)
    (z4 : PySem.W.nsIn K mainGlobals "isinstance" = some none)
    (z5 : PySem.W.nsIn K mainGlobals "len" = some none)
    (z6 : PySem.W.nsIn K mainGlobals "list" = some none)
    (z7 : PySem.W.nsIn K mainGlobals "max" = some none)
    (z8 : PySem.W.nsIn K mainGlobals "min" = some none)
    (z9 : PySem.W.nsIn K mainGlobals "range" = some none)
    (z10 : PySem.W.nsIn K mainGlobals "sorted" = some none)
    (z11 : PySem.W.nsIn K mainGlobals "str" = some none)
    (z12 : PySem.W.nsIn K mainGlobals "sum" = some none)
    (y0 : PySem.W.nsIn K mainGlobals "CUBES" = some (some (.str "cubes" tk0)))
    (y1 : PySem.W.nsIn K mainGlobals "FEWEST_CORNERS" = some (some (.int 3 tk1)))
    (y2 : PySem.W.nsIn K mainGlobals "FIGURES" = some (some (.str "0123456789" tk2)))
    (y3 : PySem.W.nsIn K mainGlobals "MOST" = some (some (.int 200 tk3)))
    (y4 : PySem.W.nsIn K mainGlobals "MOST_CORNERS" = some (some (.int 12 tk4)))
    (y5 : PySem.W.nsIn K mainGlobals "MOST_KINDS" = some (some (.int 5 tk5))) :
    ∃ T : Txt ⟨K, cAt []⟩ mg, mg "law" = some (.ref T.a_law_k35) ∧ T.d_law_k35 = PySem.W.fnOf "law" "law" (defArgs s_law_k35) (defBody s_law_k35) (defScope s_law_k35) .none kV18 dc18 pm18 an18 cd18 ct18 := by
  refine ⟨{
    a_is_whole := f1
    d_is_whole := _
    F_is_whole := fun_mk l1 c1 k1
    b_is_whole := (fun_mk (st := s_is_whole) l1 c1 k1).binds (ps := ["thing"]) (fun _ _ _ _ _ _ us hl => match us, hl with | [_], _ => rfl)
    g_is_whole_shapes := PySem.W.mg_of X Gs a1
    a_is_kind := f2
    d_is_kind := _
    F_is_kind := fun_mk l2 c2 k2
    b_is_kind := (fun_mk (st := s_is_kind) l2 c2 k2).binds (ps := ["thing"]) (fun _ _ _ _ _ _ us hl => match us, hl with | [_], _ => rfl)
    g_is_kind := PySem.W.mg_of X Gs a2
    a_are_kinds := f3
    d_are_kinds := _
    F_are_kinds := fun_mk l3 c3 k3
    b_are_kinds := (fun_mk (st := s_are_kinds) l3 c3 k3).binds (ps := ["thing"]) (fun _ _ _ _ _ _ us hl => match us, hl with | [_], _ => rfl)
    g_are_kinds := PySem.W.mg_of X Gs a3
    a_show_kinds := f4
    d_show_kinds := _
    F_show_kinds := fun_mk l4 c4 k4
    b_show_kinds := (fun_mk (st := s_show_kinds) l4 c4 k4).binds (ps := ["kinds"]) (fun _ _ _ _ _ _ us hl => match us, hl with | [_], _ => rfl)
    g_show_kinds := PySem.W.mg_of X Gs a4
    a_is_whole_v2 := f5
    d_is_whole_v2 := _
    F_is_whole_v2 := fun_mk l5 c5 k5
    b_is_whole_v2 := (fun_mk (st := s_is_whole_v2) l5 c5 k5).binds (ps := ["thing"]) (fun _ _ _ _ _ _ us hl => match us, hl with | [_], _ => rfl)
    g_is_whole := PySem.W.mg_of X Gs a5
    g_is_whole_texts := PySem.W.mg_of X Gs a5_1
    a_is_written_sum := f6
    d_is_written_sum := _
    F_is_written_sum := fun_mk l6 c6 k6
    b_is_written_sum := (fun_mk (st := s_is_written_sum) l6 c6 k6).binds (ps := ["n", "parts"]) (fun _ _ _ _ _ _ us hl => match us, hl with | [_, _], _ => rfl)
    g_is_written_sum := PySem.W.mg_of X Gs a6
    a_sum_text := f7
    d_sum_text := _
    F_sum_text := fun_mk l7 c7 k7
    b_sum_text := (fun_mk (st := s_sum_text) l7 c7 k7).binds (ps := ["n", "parts"]) (fun _ _ _ _ _ _ us hl => match us, hl with | [_, _], _ => rfl)
    g_sum_text := PySem.W.mg_of X Gs a7
    a_show_sum := f8
    d_show_sum := _
    F_show_sum := fun_mk l8 c8 k8
    b_show_sum := (fun_mk (st := s_show_sum) l8 c8 k8).binds (ps := ["n", "parts"]) (fun _ _ _ _ _ _ us hl => match us, hl with | [_, _], _ => rfl)
    g_show_sum := PySem.W.mg_of X Gs a8
    a_read_figures_v2 := f9
    d_read_figures_v2 := _
    F_read_figures_v2 := fun_mk l9 c9 k9
    b_read_figures_v2 := (fun_mk (st := s_read_figures_v2) l9 c9 k9).binds (ps := ["word"]) (fun _ _ _ _ _ _ us hl => match us, hl with | [_], _ => rfl)
    g_read_figures := PySem.W.mg_of X Gs a9
    a_read_kind_v2 := f10
    d_read_kind_v2 := _
    F_read_kind_v2 := fun_mk l10 c10 k10
    b_read_kind_v2 := (fun_mk (st := s_read_kind_v2) l10 c10 k10).binds (ps := ["word"]) (fun _ _ _ _ _ _ us hl => match us, hl with | [_], _ => rfl)
    g_read_kind := PySem.W.mg_of X Gs a10
    a_read_kinds := f11
    d_read_kinds := _
    F_read_kinds := fun_mk l11 c11 k11
    b_read_kinds := (fun_mk (st := s_read_kinds) l11 c11 k11).binds (ps := ["text"]) (fun _ _ _ _ _ _ us hl => match us, hl with | [_], _ => rfl)
    g_read_kinds := PySem.W.mg_of X Gs a11
    a_read_sum := f12
    d_read_sum := _
    F_read_sum := fun_mk l12 c12 k12
    b_read_sum := (fun_mk (st := s_read_sum) l12 c12 k12).binds (ps := ["text"]) (fun _ _ _ _ _ _ us hl => match us, hl with | [_], _ => rfl)
    g_read_sum := PySem.W.mg_of X Gs a12
    a_law_cell_v2 := f13
    d_law_cell_v2 := _
    F_law_cell_v2 := fun_mk l13 c13 k13
    b_law_cell_v2 := (fun_mk (st := s_law_cell_v2) l13 c13 k13).binds (ps := ["script", "k"]) (fun _ _ _ _ _ _ us hl => match us, hl with | [_, _], _ => rfl)
    g_law_cell := PySem.W.mg_of X Gs a13
    a_law_mixed := f14
    d_law_mixed := _
    F_law_mixed := fun_mk l14 c14 k14
    b_law_mixed := (fun_mk (st := s_law_mixed) l14 c14 k14).binds (ps := ["cell", "k"]) (fun _ _ _ _ _ _ us hl => match us, hl with | [_, _], _ => rfl)
    g_law_mixed := PySem.W.mg_of X Gs a14
    a_law_kinds_v3 := f15
    d_law_kinds_v3 := _
    F_law_kinds_v3 := fun_mk l15 c15 k15
    b_law_kinds_v3 := (fun_mk (st := s_law_kinds_v3) l15 c15 k15).binds (ps := ["cell"]) (fun _ _ _ _ _ _ us hl => match us, hl with | [_], _ => rfl)
    g_law_kinds := PySem.W.mg_of X Gs a15
    a_law_sum_text := f16
    d_law_sum_text := _
    F_law_sum_text := fun_mk l16 c16 k16
    b_law_sum_text := (fun_mk (st := s_law_sum_text) l16 c16 k16).binds (ps := ["n", "parts"]) (fun _ _ _ _ _ _ us hl => match us, hl with | [_, _], _ => rfl)
    g_law_sum_text := PySem.W.mg_of X Gs a16
    a_law_parts := f17
    d_law_parts := _
    F_law_parts := fun_mk l17 c17 k17
    b_law_parts := (fun_mk (st := s_law_parts) l17 c17 k17).binds (ps := ["cell"]) (fun _ _ _ _ _ _ us hl => match us, hl with | [_], _ => rfl)
    g_law_parts := PySem.W.mg_of X Gs a17
    a_law_k35 := f18
    d_law_k35 := _
    F_law_k35 := fun_mk l18 c18 k18
    b_law_k35 := (fun_mk (st := s_law_k35) l18 c18 k18).binds (ps := ["script"]) (fun _ _ _ _ _ _ us hl => match us, hl with | [_], _ => rfl)
    g_law := PySem.W.mg_of X Gs a18
    n_abs := PySem.W.mg_none_of X Gs z0
    n_bool := PySem.W.mg_none_of X Gs z1
    n_enumerate := PySem.W.mg_none_of X Gs z2
    n_int := PySem.W.mg_none_of X Gs z3
    n_isinstance := PySem.W.mg_none_of X Gs z4
    n_len := PySem.W.mg_none_of X Gs z5
    n_list := PySem.W.mg_none_of X Gs z6
    n_max := PySem.W.mg_none_of X Gs z7
    n_min := PySem.W.mg_none_of X Gs z8
    n_range := PySem.W.mg_none_of X Gs z9
    n_sorted := PySem.W.mg_none_of X Gs z10
    n_str := PySem.W.mg_none_of X Gs z11
    n_sum := PySem.W.mg_none_of X Gs z12
    k_CUBES := tk0
    c_CUBES := PySem.W.mg_of X Gs y0
    k_FEWEST_CORNERS := tk1
    c_FEWEST_CORNERS := PySem.W.mg_of X Gs y1
    k_FIGURES := tk2
    c_FIGURES := PySem.W.mg_of X Gs y2
    k_MOST := tk3
    c_MOST := PySem.W.mg_of X Gs y3
    k_MOST_CORNERS := tk4
    c_MOST_CORNERS := PySem.W.mg_of X Gs y4
    k_MOST_KINDS := tk5
    c_MOST_KINDS := PySem.W.mg_of X Gs y5 }, PySem.W.mg_of X Gs a18, rfl⟩
/-- the law, as its caller asks it -/
def spLaw (K : PySem.W.Frag) : Sp := fun vs H Q _ => ∃ (a : Addr) (ns : List Int), vs = [.ref a] ∧ SqL K H a (ns.map V.int) ∧ ns.length ≤ 63 ∧ ∀ H', Q (.bl true) H'
/-- the law of the readings -/
def LawHolds : Prop := ∀ (G : Gx) (H : Hp) (a : Addr) (ns : List Int) (Q : VK), SqL G.K H a (ns.map V.int) → ns.length ≤ 63 → (∀ H', Q (.bl true) H') → sp_law_k35 G [.ref a] H Q E0
theorem law_holds : LawHolds := fun G H a ns Q hs hl hq => law_k35_ok hs hl hq
theorem all_mk (HL : LawHolds) {l : PySem.W.OpenLaw} {w : World} {K : PySem.W.Frag} {h : Heap} {mg : Str → Option Value} {fa : Addr} (X : K.In h) (Gs : h.Ns mainGlobals mg) (hfa : mg "law" = some (.ref fa))
    {f1 : Addr} {od1 an1 : Option Addr} {sl1 : Array (Option Value)} {oc1 kV1 dc1 pm1 cd1 ct1 : Value}
    {f2 : Addr} {od2 an2 : Option Addr} {sl2 : Array (Option Value)} {oc2 kV2 dc2 pm2 cd2 ct2 : Value}
    {f3 : Addr} {od3 an3 : Option Addr} {sl3 : Array (Option Value)} {oc3 kV3 dc3 pm3 cd3 ct3 : Value}
    {f4 : Addr} {od4 an4 : Option Addr} {sl4 : Array (Option Value)} {oc4 kV4 dc4 pm4 cd4 ct4 : Value}
    {f5 : Addr} {od5 an5 : Option Addr} {sl5 : Array (Option Value)} {oc5 kV5 dc5 pm5 cd5 ct5 : Value}
    {f6 : Addr} {od6 an6 : Option Addr} {sl6 : Array (Option Value)} {oc6 kV6 dc6 pm6 cd6 ct6 : Value}
    {f7 : Addr} {od7 an7 : Option Addr} {sl7 : Array (Option Value)} {oc7 kV7 dc7 pm7 cd7 ct7 : Value}
    {f8 : Addr} {od8 an8 : Option Addr} {sl8 : Array (Option Value)} {oc8 kV8 dc8 pm8 cd8 ct8 : Value}
    {f9 : Addr} {od9 an9 : Option Addr} {sl9 : Array (Option Value)} {oc9 kV9 dc9 pm9 cd9 ct9 : Value}
    {f10 : Addr} {od10 an10 : Option Addr} {sl10 : Array (Option Value)} {oc10 kV10 dc10 pm10 cd10 ct10 : Value}
    {f11 : Addr} {od11 an11 : Option Addr} {sl11 : Array (Option Value)} {oc11 kV11 dc11 pm11 cd11 ct11 : Value}
    {f12 : Addr} {od12 an12 : Option Addr} {sl12 : Array (Option Value)} {oc12 kV12 dc12 pm12 cd12 ct12 : Value}
    {f13 : Addr} {od13 an13 : Option Addr} {sl13 : Array (Option Value)} {oc13 kV13 dc13 pm13 cd13 ct13 : Value}
    {f14 : Addr} {od14 an14 : Option Addr} {sl14 : Array (Option Value)} {oc14 kV14 dc14 pm14 cd14 ct14 : Value}
    {f15 : Addr} {od15 an15 : Option Addr} {sl15 : Array (Option Value)} {oc15 kV15 dc15 pm15 cd15 ct15 : Value}
    {f16 : Addr} {od16 an16 : Option Addr} {sl16 : Array (Option Value)} {oc16 kV16 dc16 pm16 cd16 ct16 : Value}
    {f17 : Addr} {od17 an17 : Option Addr} {sl17 : Array (Option Value)} {oc17 kV17 dc17 pm17 cd17 ct17 : Value}
    {f18 : Addr} {od18 an18 : Option Addr} {sl18 : Array (Option Value)} {oc18 kV18 dc18 pm18 cd18 ct18 : Value}
    {tk0 : Tok}
    {tk1 : Tok}
    {tk2 : Tok}
    {tk3 : Tok}
    {tk4 : Tok}
    {tk5 : Tok}
    (a1 : PySem.W.nsIn K mainGlobals "is_whole_shapes" = some (some (.ref f1)))
    (l1 : K.lookup f1 = some ⟨oc1, od1, .func (PySem.W.fnOf "is_whole" "is_whole" (defArgs s_is_whole) (defBody s_is_whole) (defScope s_is_whole) .none kV1 dc1 pm1 an1 cd1 ct1), sl1⟩)
    (c1 : PySem.W.codeIn K cd1 "is_whole" = true)
    (k1 : PySem.W.keepIn K (.ref f1) = true)
    (a2 : PySem.W.nsIn K mainGlobals "is_kind" = some (some (.ref f2)))
    (l2 : K.lookup f2 = some ⟨oc2, od2, .func (PySem.W.fnOf "is_kind" "is_kind" (defArgs s_is_kind) (defBody s_is_kind) (defScope s_is_kind) .none kV2 dc2 pm2 an2 cd2 ct2), sl2⟩)
    (c2 : PySem.W.codeIn K cd2 "is_kind" = true)
    (k2 : PySem.W.keepIn K (.ref f2) = true)
    (a3 : PySem.W.nsIn K mainGlobals "are_kinds" = some (some (.ref f3)))
    (l3 : K.lookup f3 = some ⟨oc3, od3, .func (PySem.W.fnOf "are_kinds" "are_kinds" (defArgs s_are_kinds) (defBody s_are_kinds) (defScope s_are_kinds) .none kV3 dc3 pm3 an3 cd3 ct3), sl3⟩)
    (c3 : PySem.W.codeIn K cd3 "are_kinds" = true)
    (k3 : PySem.W.keepIn K (.ref f3) = true)
    (a4 : PySem.W.nsIn K mainGlobals "show_kinds" = some (some (.ref f4)))
    (l4 : K.lookup f4 = some ⟨oc4, od4, .func (PySem.W.fnOf "show_kinds" "show_kinds" (defArgs s_show_kinds) (defBody s_show_kinds) (defScope s_show_kinds) .none kV4 dc4 pm4 an4 cd4 ct4), sl4⟩)
    (c4 : PySem.W.codeIn K cd4 "show_kinds" = true)
    (k4 : PySem.W.keepIn K (.ref f4) = true)
    (a5 : PySem.W.nsIn K mainGlobals "is_whole" = some (some (.ref f5)))
    (l5 : K.lookup f5 = some ⟨oc5, od5, .func (PySem.W.fnOf "is_whole" "is_whole" (defArgs s_is_whole_v2) (defBody s_is_whole_v2) (defScope s_is_whole_v2) .none kV5 dc5 pm5 an5 cd5 ct5), sl5⟩)
    (c5 : PySem.W.codeIn K cd5 "is_whole" = true)
    (k5 : PySem.W.keepIn K (.ref f5) = true)
    (a5_1 : PySem.W.nsIn K mainGlobals "is_whole_texts" = some (some (.ref f5)))
    (a6 : PySem.W.nsIn K mainGlobals "is_written_sum" = some (some (.ref f6)))
    (l6 : K.lookup f6 = some ⟨oc6, od6, .func (PySem.W.fnOf "is_written_sum" "is_written_sum" (defArgs s_is_written_sum) (defBody s_is_written_sum) (defScope s_is_written_sum) .none kV6 dc6 pm6 an6 cd6 ct6), sl6⟩)
    (c6 : PySem.W.codeIn K cd6 "is_written_sum" = true)
    (k6 : PySem.W.keepIn K (.ref f6) = true)
    (a7 : PySem.W.nsIn K mainGlobals "sum_text" = some (some (.ref f7)))
    (l7 : K.lookup f7 = some ⟨oc7, od7, .func (PySem.W.fnOf "sum_text" "sum_text" (defArgs s_sum_text) (defBody s_sum_text) (defScope s_sum_text) .none kV7 dc7 pm7 an7 cd7 ct7), sl7⟩)
    (c7 : PySem.W.codeIn K cd7 "sum_text" = true)
    (k7 : PySem.W.keepIn K (.ref f7) = true)
    (a8 : PySem.W.nsIn K mainGlobals "show_sum" = some (some (.ref f8)))
    (l8 : K.lookup f8 = some ⟨oc8, od8, .func (PySem.W.fnOf "show_sum" "show_sum" (defArgs s_show_sum) (defBody s_show_sum) (defScope s_show_sum) .none kV8 dc8 pm8 an8 cd8 ct8), sl8⟩)
    (c8 : PySem.W.codeIn K cd8 "show_sum" = true)
    (k8 : PySem.W.keepIn K (.ref f8) = true)
    (a9 : PySem.W.nsIn K mainGlobals "read_figures" = some (some (.ref f9)))
    (l9 : K.lookup f9 = some ⟨oc9, od9, .func (PySem.W.fnOf "read_figures" "read_figures" (defArgs s_read_figures_v2) (defBody s_read_figures_v2) (defScope s_read_figures_v2) .none kV9 dc9 pm9 an9 cd9 ct9), sl9⟩)
    (c9 : PySem.W.codeIn K cd9 "read_figures" = true)
    (k9 : PySem.W.keepIn K (.ref f9) = true)
    (a10 : PySem.W.nsIn K mainGlobals "read_kind" = some (some (.ref f10)))
    (l10 : K.lookup f10 = some ⟨oc10, od10, .func (PySem.W.fnOf "read_kind" "read_kind" (defArgs s_read_kind_v2) (defBody s_read_kind_v2) (defScope s_read_kind_v2) .none kV10 dc10 pm10 an10 cd10 ct10), sl10⟩)
    (c10 : PySem.W.codeIn K cd10 "read_kind" = true)
    (k10 : PySem.W.keepIn K (.ref f10) = true)
    (a11 : PySem.W.nsIn K mainGlobals "read_kinds" = some (some (.ref f11)))
    (l11 : K.lookup f11 = some ⟨oc11, od11, .func (PySem.W.fnOf "read_kinds" "read_kinds" (defArgs s_read_kinds) (defBody s_read_kinds) (defScope s_read_kinds) .none kV11 dc11 pm11 an11 cd11 ct11), sl11⟩)
    (c11 : PySem.W.codeIn K cd11 "read_kinds" = true)
    (k11 : PySem.W.keepIn K (.ref f11) = true)
    (a12 : PySem.W.nsIn K mainGlobals "read_sum" = some (some (.ref f12)))
    (l12 : K.lookup f12 = some ⟨oc12, od12, .func (PySem.W.fnOf "read_sum" "read_sum" (defArgs s_read_sum) (defBody s_read_sum) (defScope s_read_sum) .none kV12 dc12 pm12 an12 cd12 ct12), sl12⟩)
    (c12 : PySem.W.codeIn K cd12 "read_sum" = true)
    (k12 : PySem.W.keepIn K (.ref f12) = true)
    (a13 : PySem.W.nsIn K mainGlobals "_law_cell" = some (some (.ref f13)))
    (l13 : K.lookup f13 = some ⟨oc13, od13, .func (PySem.W.fnOf "_law_cell" "_law_cell" (defArgs s_law_cell_v2) (defBody s_law_cell_v2) (defScope s_law_cell_v2) .none kV13 dc13 pm13 an13 cd13 ct13), sl13⟩)
    (c13 : PySem.W.codeIn K cd13 "_law_cell" = true)
    (k13 : PySem.W.keepIn K (.ref f13) = true)
    (a14 : PySem.W.nsIn K mainGlobals "_law_mixed" = some (some (.ref f14)))
    (l14 : K.lookup f14 = some ⟨oc14, od14, .func (PySem.W.fnOf "_law_mixed" "_law_mixed" (defArgs s_law_mixed) (defBody s_law_mixed) (defScope s_law_mixed) .none kV14 dc14 pm14 an14 cd14 ct14), sl14⟩)
    (c14 : PySem.W.codeIn K cd14 "_law_mixed" = true)
    (k14 : PySem.W.keepIn K (.ref f14) = true)
    (a15 : PySem.W.nsIn K mainGlobals "_law_kinds" = some (some (.ref f15)))
    (l15 : K.lookup f15 = some ⟨oc15, od15, .func (PySem.W.fnOf "_law_kinds" "_law_kinds" (defArgs s_law_kinds_v3) (defBody s_law_kinds_v3) (defScope s_law_kinds_v3) .none kV15 dc15 pm15 an15 cd15 ct15), sl15⟩)
    (c15 : PySem.W.codeIn K cd15 "_law_kinds" = true)
    (k15 : PySem.W.keepIn K (.ref f15) = true)
    (a16 : PySem.W.nsIn K mainGlobals "_law_sum_text" = some (some (.ref f16)))
    (l16 : K.lookup f16 = some ⟨oc16, od16, .func (PySem.W.fnOf "_law_sum_text" "_law_sum_text" (defArgs s_law_sum_text) (defBody s_law_sum_text) (defScope s_law_sum_text) .none kV16 dc16 pm16 an16 cd16 ct16), sl16⟩)
    (c16 : PySem.W.codeIn K cd16 "_law_sum_text" = true)
    (k16 : PySem.W.keepIn K (.ref f16) = true)
    (a17 : PySem.W.nsIn K mainGlobals "_law_parts" = some (some (.ref f17)))
    (l17 : K.lookup f17 = some ⟨oc17, od17, .func (PySem.W.fnOf "_law_parts" "_law_parts" (defArgs s_law_parts) (defBody s_law_parts) (defScope s_law_parts) .none kV17 dc17 pm17 an17 cd17 ct17), sl17⟩)
    (c17 : PySem.W.codeIn K cd17 "_law_parts" = true)
    (k17 : PySem.W.keepIn K (.ref f17) = true)
    (a18 : PySem.W.nsIn K mainGlobals "law" = some (some (.ref f18)))
    (l18 : K.lookup f18 = some ⟨oc18, od18, .func (PySem.W.fnOf "law" "law" (defArgs s_law_k35) (defBody s_law_k35) (defScope s_law_k35) .none kV18 dc18 pm18 an18 cd18 ct18), sl18⟩)
    (c18 : PySem.W.codeIn K cd18 "law" = true)
    (k18 : PySem.W.keepIn K (.ref f18) = true)
    (z0 : PySem.W.nsIn K mainGlobals "abs" = some none)
    (z1 : PySem.W.nsIn K mainGlobals "bool" = some none)
    (z2 : PySem.W.nsIn K mainGlobals "enumerate" = some none)
    (z3 : PySem.W.nsIn K mainGlobals "int" = some none)
    (z4 : PySem.W.nsIn K mainGlobals "isinstance" = some none)
    (z5 : PySem.W.nsIn K mainGlobals "len" = some none)
    (z6 : PySem.W.nsIn K mainGlobals "list" = some none)
    (z7 : PySem.W.nsIn K mainGlobals "max" = some none)
    (z8 : PySem.W.nsIn K mainGlobals "min" = some none)
    (z9 : PySem.W.nsIn K mainGlobals "range" = some none)
    (z10 : PySem.W.nsIn K mainGlobals "sorted" = some none)
    (z11 : PySem.W.nsIn K mainGlobals "str" = some none)
    (z12 : PySem.W.nsIn K mainGlobals "sum" = some none)
    (y0 : PySem.W.nsIn K mainGlobals "CUBES" = some (some (.str "cubes" tk0)))
    (y1 : PySem.W.nsIn K mainGlobals "FEWEST_CORNERS" = some (some (.int 3 tk1)))
    (y2 : PySem.W.nsIn K mainGlobals "FIGURES" = some (some (.str "0123456789" tk2)))
    (y3 : PySem.W.nsIn K mainGlobals "MOST" = some (some (.int 200 tk3)))
    (y4 : PySem.W.nsIn K mainGlobals "MOST_CORNERS" = some (some (.int 12 tk4)))
    (y5 : PySem.W.nsIn K mainGlobals "MOST_KINDS" = some (some (.int 5 tk5))) :
    ∃ fd : FuncData, (∀ (s : Shared) (v : Value), BindsTo s fd ⟨[v], []⟩ [("script", v)]) ∧ ∀ base : Heap, K.In base → base.Ns mainGlobals mg → FnOk l.prog w K mg base CX0 6 fa fd ["script"] (spLaw K) := by
  obtain ⟨T, e1, e2⟩ := txt_mk X Gs a1 l1 c1 k1 a2 l2 c2 k2 a3 l3 c3 k3 a4 l4 c4 k4 a5 l5 c5 k5 a5_1 a6 l6 c6 k6 a7 l7 c7 k7 a8 l8 c8 k8 a9 l9 c9 k9 a10 l10 c10 k10 a11 l11 c11 k11 a12 l12 c12 k12 a13 l13 c13 k13 a14 l14 c14 k14 a15 l15 c15 k15 a16 l16 c16 k16 a17 l17 c17 k17 a18 l18 c18 k18 z0 z1 z2 z3 z4 z5 z6 z7 z8 z9 z10 z11 z12 y0 y1 y2 y3 y4 y5
  have e := hfa.symm.trans e1
  cases e
  refine ⟨T.d_law_k35, fun s v => ?_, fun base _ _ => ?_⟩
  · rw [e2]
    exact .of_eq rfl
  · refine (ok_law_k35 (P := l.prog) (w := w) (base := base) T).imp fun vs H Q E h => ?_
    obtain ⟨a, ns, rfl, hS, hl, q⟩ := h
    exact HL ⟨K, cAt []⟩ H a ns Q hS hl q
end Fs
open PySem PySem.W PyProof.Rows
set_option maxHeartbeats 0 in
theorem PySem.Challenge.cw_fewshapes_k35_kinds_and_sums_written_holds : PySem.Challenge.rw_fewshapes_k35_kinds_and_sums_written.Holds := by
  w_on; o_law; k_head; (case hw => w_witness2)
  k_fill
  refine L2.walk_of (l := PySem.Challenge.rw_fewshapes_k35_kinds_and_sums_written) (n := 63) (k := 6) (x := "script") (CX := fun _ => L2.CX0) (sp := fun w => Fs.spLaw _) rfl (by decide) rfl ⟨rfl, by decide, by decide⟩ (fun w h Y => PySem.W.kIn_of Y) ?F (fun _ _ a ns hl _ hS => ⟨a, ns, rfl, hS, hl, fun _ => rfl⟩) (fun _ _ _ _ _ h => h)
  case F =>
    intro w mg fa h KX G hmg
    refine' Fs.all_mk Fs.law_holds KX G hmg ?a1 ?l1 ?c1 ?k1 ?a2 ?l2 ?c2 ?k2 ?a3 ?l3 ?c3 ?k3 ?a4 ?l4 ?c4 ?k4 ?a5 ?l5 ?c5 ?k5 ?a5_1 ?a6 ?l6 ?c6 ?k6 ?a7 ?l7 ?c7 ?k7 ?a8 ?l8 ?c8 ?k8 ?a9 ?l9 ?c9 ?k9 ?a10 ?l10 ?c10 ?k10 ?a11 ?l11 ?c11 ?k11 ?a12 ?l12 ?c12 ?k12 ?a13 ?l13 ?c13 ?k13 ?a14 ?l14 ?c14 ?k14 ?a15 ?l15 ?c15 ?k15 ?a16 ?l16 ?c16 ?k16 ?a17 ?l17 ?c17 ?k17 ?a18 ?l18 ?c18 ?k18 ?z0 ?z1 ?z2 ?z3 ?z4 ?z5 ?z6 ?z7 ?z8 ?z9 ?z10 ?z11 ?z12 ?y0 ?y1 ?y2 ?y3 ?y4 ?y5
    (case a1 => k_is)
    (case l1 => k_is)
    (case c1 => k_is)
    (case k1 => k_is)
    (case a2 => k_is)
    (case l2 => k_is)
    (case c2 => k_is)
    (case k2 => k_is)
    (case a3 => k_is)
    (case l3 => k_is)
    (case c3 => k_is)
    (case k3 => k_is)
    (case a4 => k_is)
    (case l4 => k_is)
    (case c4 => k_is)
    (case k4 => k_is)
    (case a5 => k_is)
    (case l5 => k_is)
    (case c5 => k_is)
    (case k5 => k_is)
    (case a5_1 => k_is)
    (case a6 => k_is)
    (case l6 => k_is)
    (case c6 => k_is)
    (case k6 => k_is)
    (case a7 => k_is)
    (case l7 => k_is)
    (case c7 => k_is)
    (case k7 => k_is)
    (case a8 => k_is)
    (case l8 => k_is)
    (case c8 => k_is)
    (case k8 => k_is)
    (case a9 => k_is)
    (case l9 => k_is)
    (case c9 => k_is)
    (case k9 => k_is)
    (case a10 => k_is)
    (case l10 => k_is)
    (case c10 => k_is)
    (case k10 => k_is)
    (case a11 => k_is)
    (case l11 => k_is)
    (case c11 => k_is)
    (case k11 => k_is)
    (case a12 => k_is)
    (case l12 => k_is)
    (case c12 => k_is)
    (case k12 => k_is)
    (case a13 => k_is)
    (case l13 => k_is)
    (case c13 => k_is)
    (case k13 => k_is)
    (case a14 => k_is)
    (case l14 => k_is)
    (case c14 => k_is)
    (case k14 => k_is)
    (case a15 => k_is)
    (case l15 => k_is)
    (case c15 => k_is)
    (case k15 => k_is)
    (case a16 => k_is)
    (case l16 => k_is)
    (case c16 => k_is)
    (case k16 => k_is)
    (case a17 => k_is)
    (case l17 => k_is)
    (case c17 => k_is)
    (case k17 => k_is)
    (case a18 => k_is)
    (case l18 => k_is)
    (case c18 => k_is)
    (case k18 => k_is)
    (case z0 => k_is)
    (case z1 => k_is)
    (case z2 => k_is)
    (case z3 => k_is)
    (case z4 => k_is)
    (case z5 => k_is)
    (case z6 => k_is)
    (case z7 => k_is)
    (case z8 => k_is)
    (case z9 => k_is)
    (case z10 => k_is)
    (case z11 => k_is)
    (case z12 => k_is)
    (case y0 => k_is)
    (case y1 => k_is)
    (case y2 => k_is)
    (case y3 => k_is)
    (case y4 => k_is)
    (case y5 => k_is)
