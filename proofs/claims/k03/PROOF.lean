import PyProof.Rows.All
import Wide.All
import OpenK.AllK
import Wide.FinOn
import HandS.ForMost
import HandS.Exc
import HandS.TryOnly
import HandS.ExcOwn
import HandS.WordsExc
import HandS.IsInst
import HandS.Wide
import HandS.WideBits
import HandS.SortInts
import HandS.Style
import HandS.More
import HandS.Conv
import HandS.Small
import HandS.RaiseMore
import HandS.Walk
import PySem.Challenge.RW_fewshapes_k03_places_of_numbers
set_option Elab.async false
set_option linter.all false
set_option maxRecDepth 100000
set_option maxHeartbeats 4000000
namespace Fs
open PySem PySem.Spec PyProof.Rows L2
abbrev Fg := PySem.W.Frag
/-! ### readings: one name an operation, whatever the kinds -/
def rAddS : R2 := fun x y H Q => ∃ i j, x = .str i ∧ y = .str j ∧ i.length + j.length ≤ sizeLine ∧ Q (.str (i ++ j)) H
def uAdd : R2 := fun x y H Q => rI0 (fun i j => .int (i + j)) x y H Q ∨ (rAddS x y H Q ∨ rCat x y H Q)
def uSub : R2 := rI0 fun i j => .int (i - j)
def uMul : R2 := fun x y H Q => rI CMulX (fun i j => .int (i * j)) x y H Q ∨ (rI CMul (fun i j => .int (i * j)) x y H Q ∨ rRep x y H Q)
def uDiv : R2 := rI CDivW fun i j => .int (i / j)
def uMod : R2 := rI (fun _ j => 0 < j) fun i j => .int (i % j)
def uPow : R2 := rI CPow fun i j => .int (i ^ j.toNat)
def uAnd : R2 := rI0 fun i j => .int (Builtin.bitAnd i j)
def uOr : R2 := rI0 fun i j => .int (Builtin.bitOr i j)
def uLt : R2 := rI0 fun i j => .bl (decide (i < j))
def uLe : R2 := rI0 fun i j => .bl (decide (i ≤ j))
def uGt : R2 := rI0 fun i j => .bl (decide (j < i))
def uGe : R2 := rI0 fun i j => .bl (decide (j ≤ i))
def uEq (K : Fg) : R2 := fun x y H Q => rEq x y H Q ∨ rEqD K x y H Q
def uNe (K : Fg) : R2 := fun x y H Q => rNe x y H Q ∨ rNeD K x y H Q
def rIsN : R2 := fun x y H Q => y = .non ∧ Q (.bl (decide (x = .non))) H
def rNotN : R2 := fun x y H Q => y = .non ∧ Q (.bl (!decide (x = .non))) H
def uIs : R2 := fun x y H Q => rIsN x y H Q ∨ rIsB x y H Q
def uIsNot : R2 := fun x y H Q => rNotN x y H Q ∨ rNotB x y H Q
def uIx (K : Fg) : R2 := rIx K
def uNeg : V → Hp → VK → Prop := rU fun i => .int (-i)
abbrev RC := List V → Hp → VK → Prop
def uLen (K : Fg) : RC := fun xs H Q => ∃ x n, xs = [x] ∧ LenV K x H n ∧ Q (.int n) H
def rMax2 : RC := fun xs H Q => ∃ i j, xs = [.int i, .int j] ∧ Q (.int (if j > i then j else i)) H
def rMin2 : RC := fun xs H Q => ∃ i j, xs = [.int i, .int j] ∧ Q (.int (if j < i then j else i)) H
def uMax (K : Fg) : RC := fun xs H Q => rMax2 xs H Q ∨ rMax K xs H Q
def uMin (K : Fg) : RC := fun xs H Q => rMin2 xs H Q ∨ rMin K xs H Q
def rInt1 : RC := fun xs H Q => (∃ i, xs = [.int i] ∧ Q (.int i) H) ∨ ∃ k, xs = [.bl k] ∧ Q (.int (if k then 1 else 0)) H
def rIntS : RC := fun xs H Q => ∃ a n, xs = [.str a] ∧ PySem.intText? a = some n ∧ a.length ≤ 640 ∧ Q (.int n) H
def uInt : RC := fun xs H Q => rInt1 xs H Q ∨ rIntS xs H Q
def uAbs : RC := fun xs H Q => ∃ i, xs = [.int i] ∧ Q (.int (if i < 0 then -i else i)) H
def uIsi (K : Fg) : RC := rIsi K
def uSet : TSet := fun o i v H Q => rSetL o i v H Q ∨ rSetD o i v H Q
/-- raise C(..): the wish of an error of the class at C -/
def tRz (E : XK) (C : Addr) : TS := fun _ _ H => E (.ref C) none H
/-- a promise at calls that let nothing out -/
def sp0 (sp : Sp) : Sp := fun vs H Q _ => sp vs H Q E0
/-- what the readings lean on: the written part, where the classes stand -/
structure Gx where
  K : Fg
  C : String → Addr
section
variable {X : Cx}
theorem o_add : OpR X (binaryOp .Add) uAdd := op_add.or (op_add_str.or op_cat)
theorem o_sub : OpR X (binaryOp .Sub) uSub := op_sub
theorem o_mul : OpR X (binaryOp .Mult) uMul := op_mulX.or (op_mul.or op_rep)
theorem o_div : OpR X (binaryOp .FloorDiv) uDiv := op_fdivW
theorem o_mod : OpR X (binaryOp .Mod) uMod := op_mod
theorem o_pow : OpR X (binaryOp .Pow) uPow := op_pow
theorem o_lt : OpR X (compareOp .Lt) uLt := op_lt
theorem o_le : OpR X (compareOp .LtE) uLe := op_le
theorem o_gt : OpR X (compareOp .Gt) uGt := op_gt
theorem o_ge : OpR X (compareOp .GtE) uGe := op_ge
theorem o_eq (hu : X.A.units + 64 < cLine) : OpR X (compareOp .Eq) (uEq X.K) := op_eq.or (op_eqD hu)
theorem o_ne (hu : X.A.units + 64 < cLine) : OpR X (compareOp .NotEq) (uNe X.K) := op_ne.or (op_neD hu)
theorem o_isNot : OpR X (compareOp .IsNot) uIsNot := op_notN.or op_notBl
theorem o_ix : IxR X (uIx X.K) := ix_seq
theorem o_neg : UnR X (unaryOp .USub) uNeg := un_neg
theorem k_len : CallR X (.builtin "len") (uLen X.K) := call_len
theorem k_max (hc : X.calm = true) : CallR X (.builtin "max") (uMax X.K) := (call_max2 hc).or (cr_max hc)
theorem k_min (hc : X.calm = true) : CallR X (.builtin "min") (uMin X.K) := (call_min2 hc).or (cr_min hc)
theorem k_int : CallR X (.type "int") uInt := call_int1.or call_int_str
theorem k_isi : CallR X (.builtin "isinstance") (uIsi X.K) := call_isi
theorem s_any (hu : X.A.units + 1 < cLine) : PSet X uSet := by
  intro pins s σ H o i v ov iv u Q I ro ri rv h
  rcases h with h | h
  · exact set_list pins s σ H o i v ov iv u Q I ro ri rv h
  · exact set_dict hu pins s σ H o i v ov iv u Q I ro ri rv h
/-- slots of names -/
theorem pgn (i : Nat) {x : Str} {pos : Pos} (hN : X.N.Nodup) (hi : X.N[i]? = some x := by rfl) (hx : Loc X.env.scope x := by first | exact Or.inl rfl | exact Or.inr rfl) (hf : X.fn x = true ∨ X.env.scope.names.lookup x = some .local := by first | exact .inl rfl | exact .inr rfl) : PG X (.Name x pos) (gName i) := pg_name hN hi hx hf
theorem pst (i : Nat) {x : Str} {e : Expr} {te : TE} {pos pos' : Pos} (hN : X.N.Nodup) (he : PE X e te) (hi : X.N[i]? = some x := by rfl) (hx : Loc X.env.scope x := by first | exact Or.inl rfl | exact Or.inr rfl) (hs : swapsWith e (some (.Name x pos')) pos.line X.env = pure false := by rfl) (hf : X.fn x = true ∨ X.env.scope.names.lookup x = some .local := by first | exact .inl rfl | exact .inr rfl) :
    PS X (.Assign [.Name x pos'] e pos) (tAsg te (gName i)) := ps_set hN hi hx he hs hf
end
/-! ### calls that let nothing out -/
section
variable {X : Cx} {k : Nat} {f : Addr} {fd : FuncData} {ps : List Str} {sp : Sp} {x : Str} {p pos : Pos} {e : Expr} {es : List Expr} {t : TA}
theorem pcall (F : FnOk X.prog X.w X.K X.mg X.base CX0 k f fd ps (sp0 sp)) (hr : Room k X.A) (hg : Gl X x) (hm : X.mg x = some (.ref f)) (hk : PySem.W.keepIn X.K (.ref f) = true) (hb : Binds X.K fd ps []) (ha : PA X (e :: es) t)
    (hdb : (x == ("__debug__" : Str)) = false := by decide) (he : starEach (e :: es) X.env = (false, eval e X.env) :: starEach es X.env := by rfl) (hpl : (backTo pos (starEach es X.env)).any (·.1) = false := by rfl) :
    PE X (.Call (.Name x p) (e :: es) [] pos) (tCall sp [] E0 t) := pe_call (sp := sp0 sp) F hr hg hm hk hb .nil pass0 ha hdb he hpl
theorem prz0 {st : Stmt} {C : Addr} : PS X st (tRz E0 C) := ⟨fun _ _ _ _ _ _ h => h.elim⟩
end
/-! ### steps of a reading -/
section
variable {K : Fg} {D : Ends} {σ : L2.St} {H : Hp} {t u : TS} {te ta tb tc : TE} {c c2 : TT} {g : TG} {Q : VK} {QB : Bool → Hp → Prop} {QA : List V → Hp → Prop} {x y v : V} {i j : Int} {b : Bool} {a p l : Addr} {xs ys : List V} {z s : Str}
theorem i_seq (h : t { D with nx := u D } σ H) : tSeq t u D σ H := h
theorem i_next (h : D.nx σ H) : tNext D σ H := h
theorem i_asg (h : te σ H fun x H1 => g x σ H1 D.nx) : tAsg te g D σ H := h
theorem i_gname {n : Nat} {R : L2.St → Hp → Prop} (h : R (σ.set n (some v)) H) : gName n v σ H R := h
theorem i_ifS (h : c σ H fun b H1 => if b = true then t D σ H1 else u D σ H1) : tIfS c t u D σ H := h
theorem i_ret (h : te σ H D.rt) : tRet te D σ H := h
theorem i_retN (h : D.rt .non H) : tRetN D σ H := h
theorem i_drop (h : te σ H fun _ H1 => D.nx σ H1) : tDrop te D σ H := h
theorem i_brk (h : D.bk σ H) : tBreak D σ H := h
theorem i_aug {n : Nat} {ti : TIp} (hx : σ[n]? = some (some x)) (h : te σ H fun y H1 => ti x y H1 fun z H2 => D.nx (σ.set n (some z)) H2) : tAug n te ti D σ H := ⟨x, hx, h⟩
theorem i_ipI {f : Int → Int → Int} (h : Q (.int (f i j)) H) : ipI f (.int i) (.int j) H Q := ⟨i, j, rfl, rfl, h⟩
theorem i_var {n : Nat} (hx : σ[n]? = some (some v)) (h : Q v H) : tVar n σ H Q := ⟨v, hx, h⟩
theorem i_c (h : Q v H) : tC v σ H Q := h
theorem i_op {r : R2} (h : ta σ H fun x H1 => tb σ H1 fun y H2 => r x y H2 Q) : tOp r ta tb σ H Q := h
theorem i_un {r : V → Hp → VK → Prop} (h : ta σ H fun x H1 => r x H1 Q) : tUn r ta σ H Q := h
theorem i_call {sp : Sp} {E : XK} {t : TA} (h : t σ H fun vs H1 => sp vs H1 Q E) : tCall sp [] E t σ H Q := by
  have e : (fun vs H1 => sp (vs ++ []) H1 Q E) = fun vs H1 => sp vs H1 Q E := by
    funext vs H1
    rw [List.append_nil]
  show t σ H fun vs H1 => sp (vs ++ []) H1 Q E
  rw [e]
  exact h
theorem i_cb {r : RC} {t : TA} (h : t σ H fun vs H1 => r vs H1 Q) : tCB r t σ H Q := h
theorem i_nil (h : QA [] H) : tNil σ H QA := h
theorem i_cons {tr : TA} (h : ta σ H fun x H1 => tr σ H1 fun xs H2 => QA (x :: xs) H2) : tCons ta tr σ H QA := h
theorem i_bm {T : String} {r : V → List V → Hp → VK → Prop} {t : TA} (h : ta σ H fun x H1 => tyV K T x H1 ∧ t σ H1 fun xs H2 => r x xs H2 Q) : tBM K T r ta t σ H Q := h
theorem i_bm0 {T : String} {r : V → List V → Hp → VK → Prop} (h : ta σ H fun x H1 => tyV K T x H1 ∧ r x [] H1 Q) : tBM0 K T r ta σ H Q := h
theorem i_lst {t : TA} (h : t σ H fun xs H1 => xs.length ≤ sizeLine ∧ ∀ p, H1 p = none → Q (.ref p) (upd H1 p (.lst xs))) : tLst t σ H Q := h
theorem i_tup {t : TA} (h : t σ H fun xs H1 => xs.length ≤ sizeLine ∧ ∀ p, H1 p = none → Q (.ref p) (upd H1 p (.tup xs))) : tTup t σ H Q := h
theorem i_sl {r : V → Option Int → Option Int → Hp → VK → Prop} {tl th : TO} (h : te σ H fun x H1 => tl σ H1 fun l H2 => th σ H2 fun u H3 => r x l u H3 Q) : tSl r te tl th σ H Q := h
theorem i_nopart {R : Option Int → Hp → Prop} (h : R none H) : tNoPart σ H R := h
theorem i_part {R : Option Int → Hp → Prop} (h : te σ H fun x H1 => ∃ i, x = .int i ∧ R (some i) H1) : tPart te σ H R := h
theorem i_exint {R : Int → Prop} (h : R i) : ∃ j, V.int i = .int j ∧ R j := ⟨i, rfl, h⟩
theorem i_exbl {R : Bool → Prop} (h : R b) : ∃ j, V.bl b = .bl j ∧ R j := ⟨b, rfl, h⟩
theorem i_if (h : c σ H fun b H1 => if b = true then ta σ H1 Q else tb σ H1 Q) : tIf c ta tb σ H Q := h
theorem i_andV (h : ta σ H fun x H1 => ∃ c, x = .bl c ∧ if c = true then tb σ H1 Q else Q (.bl false) H1) : tAndV ta tb σ H Q := h
theorem i_orV (h : ta σ H fun x H1 => ∃ c, x = .bl c ∧ if c = true then Q (.bl true) H1 else tb σ H1 Q) : tOrV ta tb σ H Q := h
theorem i_notV (h : ta σ H fun x H1 => ∃ c, x = .bl c ∧ Q (.bl (!c)) H1) : tNotV ta σ H Q := h
theorem i_test (h : te σ H fun x H1 => ∃ k, x = .bl k ∧ QB k H1) : tTest te σ H QB := h
theorem i_B (h : te σ H fun x H1 => ∃ k, x = .bl k ∧ QB k H1) : tB te σ H QB := h
theorem i_and (h : c σ H fun b H1 => if b = true then c2 σ H1 QB else QB false H1) : tAnd c c2 σ H QB := h
theorem i_or (h : c σ H fun b H1 => if b = true then QB true H1 else c2 σ H1 QB) : tOr c c2 σ H QB := h
theorem i_not (h : c σ H fun b H1 => QB (!b) H1) : tNot c σ H QB := h
theorem i_yes (h : QB true H) : tYes σ H QB := h
theorem i_chain {r r' : R2} (h : ta σ H fun x H1 => tb σ H1 fun y H2 => r x y H2 fun z H3 => ∃ k, z = .bl k ∧ (if k = true then tc σ H3 fun w' H4 => r' y w' H4 Q else Q (.bl false) H3)) : tChain r r' ta tb tc σ H Q := h
/-! numbers -/
theorem i_add (h : Q (.int (i + j)) H) : uAdd (.int i) (.int j) H Q := .inl ⟨i, j, rfl, rfl, h⟩
theorem i_addL (h1 : H a = some (.lst xs)) (h2 : H p = some (.lst ys)) (hz : xs.length + ys.length ≤ sizeLine) (h : ∀ q, H q = none → Q (.ref q) (upd H q (.lst (xs ++ ys)))) : uAdd (.ref a) (.ref p) H Q := .inr (.inr ⟨a, p, xs, ys, rfl, rfl, h1, h2, hz, h⟩)
theorem i_sub (h : Q (.int (i - j)) H) : uSub (.int i) (.int j) H Q := ⟨i, j, rfl, rfl, h⟩
theorem i_mulL (h1 : -(2 ^ 64) < i ∧ i < 2 ^ 64) (h : Q (.int (i * j)) H) : uMul (.int i) (.int j) H Q := .inr (.inl ⟨i, j, rfl, rfl, .inl h1, h⟩)
theorem i_mulR (h1 : -(2 ^ 64) < j ∧ j < 2 ^ 64) (h : Q (.int (i * j)) H) : uMul (.int i) (.int j) H Q := .inr (.inl ⟨i, j, rfl, rfl, .inr h1, h⟩)
theorem i_mulX (h1 : CMulX i j) (h : Q (.int (i * j)) H) : uMul (.int i) (.int j) H Q := .inl ⟨i, j, rfl, rfl, h1, h⟩
theorem i_div (h1 : CDivW i j) (h : Q (.int (i / j)) H) : uDiv (.int i) (.int j) H Q := ⟨i, j, rfl, rfl, h1, h⟩
theorem div_ok (h0 : 0 < j) (h1 : j < 2 ^ 64) : CDivW i j := wide_div (b := 64) h0 (by omega) (by decide) (by decide)
theorem i_mod (h1 : 0 < j) (h : Q (.int (i % j)) H) : uMod (.int i) (.int j) H Q := ⟨i, j, rfl, rfl, h1, h⟩
theorem i_pow (h1 : CPow i j) (h : Q (.int (i ^ j.toNat)) H) : uPow (.int i) (.int j) H Q := ⟨i, j, rfl, rfl, h1, h⟩
theorem i_band (h : Q (.int (Builtin.bitAnd i j)) H) : uAnd (.int i) (.int j) H Q := ⟨i, j, rfl, rfl, h⟩
theorem i_bor (h : Q (.int (Builtin.bitOr i j)) H) : uOr (.int i) (.int j) H Q := ⟨i, j, rfl, rfl, h⟩
theorem i_neg (h : Q (.int (-i)) H) : uNeg (.int i) H Q := ⟨i, rfl, h⟩
theorem i_lt (h : Q (.bl (decide (i < j))) H) : uLt (.int i) (.int j) H Q := ⟨i, j, rfl, rfl, h⟩
theorem i_le (h : Q (.bl (decide (i ≤ j))) H) : uLe (.int i) (.int j) H Q := ⟨i, j, rfl, rfl, h⟩
theorem i_gt (h : Q (.bl (decide (j < i))) H) : uGt (.int i) (.int j) H Q := ⟨i, j, rfl, rfl, h⟩
theorem i_ge (h : Q (.bl (decide (j ≤ i))) H) : uGe (.int i) (.int j) H Q := ⟨i, j, rfl, rfl, h⟩
theorem dec_VI : decide (V.int i = V.int j) = decide (i = j) := by rw [Bool.eq_iff_iff]; simp
theorem dec_VS : decide (V.str z = V.str s) = decide (z = s) := by rw [Bool.eq_iff_iff]; simp
theorem i_eqI (h : Q (.bl (decide (i = j))) H) : uEq K (.int i) (.int j) H Q := .inl ⟨rfl, by rw [dec_VI]; exact h⟩
theorem i_neI (h : Q (.bl (!decide (i = j))) H) : uNe K (.int i) (.int j) H Q := .inl ⟨rfl, by rw [dec_VI]; exact h⟩
theorem i_eqS (h : Q (.bl (decide (z = s))) H) : uEq K (.str z) (.str s) H Q := .inl ⟨rfl, by rw [dec_VS]; exact h⟩
theorem i_neS (h : Q (.bl (!decide (z = s))) H) : uNe K (.str z) (.str s) H Q := .inl ⟨rfl, by rw [dec_VS]; exact h⟩
theorem i_eqIS (h : Q (.bl false) H) : uEq K (.int i) (.str s) H Q := .inl ⟨rfl, by rw [decide_eq_false (fun z => nomatch z)]; exact h⟩
theorem i_neIS (h : Q (.bl true) H) : uNe K (.int i) (.str s) H Q := .inl ⟨rfl, by rw [decide_eq_false (fun z => nomatch z)]; exact h⟩
theorem i_eqIN (h : Q (.bl false) H) : uEq K (.int i) .non H Q := .inl ⟨rfl, by rw [decide_eq_false (fun z => nomatch z)]; exact h⟩
theorem i_neIN (h : Q (.bl true) H) : uNe K (.int i) .non H Q := .inl ⟨rfl, by rw [decide_eq_false (fun z => nomatch z)]; exact h⟩
theorem i_eqNI (h : Q (.bl false) H) : uEq K .non (.int i) H Q := .inl ⟨rfl, by rw [decide_eq_false (fun z => nomatch z)]; exact h⟩
theorem i_neNI (h : Q (.bl true) H) : uNe K .non (.int i) H Q := .inl ⟨rfl, by rw [decide_eq_false (fun z => nomatch z)]; exact h⟩
theorem i_neNN (h : Q (.bl false) H) : uNe K .non .non H Q := .inl ⟨rfl, by rw [decide_eq_true rfl]; exact h⟩
theorem i_isN (h : Q (.bl (decide (x = .non))) H) : uIs x .non H Q := .inl ⟨rfl, h⟩
theorem i_notN (h : Q (.bl (!decide (x = .non))) H) : uIsNot x .non H Q := .inl ⟨rfl, h⟩
theorem i_isB {b2 : Bool} (h : Q (.bl (decide (b = b2))) H) : uIs (.bl b) (.bl b2) H Q := .inr ⟨b, b2, rfl, rfl, h⟩
theorem i_notB {b2 : Bool} (h : Q (.bl (!decide (b = b2))) H) : uIsNot (.bl b) (.bl b2) H Q := .inr ⟨b, b2, rfl, rfl, h⟩
theorem i_max2 (h : Q (.int (if j > i then j else i)) H) : uMax K [.int i, .int j] H Q := .inl ⟨i, j, rfl, h⟩
theorem i_min2 (h : Q (.int (if j < i then j else i)) H) : uMin K [.int i, .int j] H Q := .inl ⟨i, j, rfl, h⟩
theorem i_intI (h : Q (.int i) H) : uInt [.int i] H Q := .inl (.inl ⟨i, rfl, h⟩)
theorem i_intB (h : Q (.int (if b then 1 else 0)) H) : uInt [.bl b] H Q := .inl (.inr ⟨b, rfl, h⟩)
theorem i_abs (h : Q (.int (if i < 0 then -i else i)) H) : uAbs [.int i] H Q := ⟨i, rfl, h⟩
theorem i_lenL (hs : SqL K H a xs) (h : Q (.int xs.length) H) : uLen K [.ref a] H Q := ⟨_, xs.length, rfl, .inl ⟨xs, hs, rfl⟩, h⟩
theorem i_ixL (hs : SqL K H a xs) (ha : atI xs i = some v) (h : Q v H) : uIx K (.ref a) (.int i) H Q := .inl ⟨a, xs, i, v, rfl, rfl, hs, ha, h⟩
theorem i_setL {R : Hp → Prop} {n : Nat} (hs : H a = some (.lst xs)) (hi : ixN xs.length i = some n) (h : R (upd H a (.lst (xs.set n v)))) : uSet (.ref a) (.int i) v H R := .inl ⟨a, xs, i, n, rfl, rfl, hs, hi, h⟩
theorem i_gsub {to ti : TE} {ts : TSet} {R : L2.St → Hp → Prop} (h : to σ H fun o H1 => ti σ H1 fun i H2 => ts o i v H2 fun H3 => R σ H3) : gSub to ti ts v σ H R := h
theorem i_app (hs : H a = some (.lst xs)) (hz : xs.length < sizeLine) (h : Q .non (upd H a (.lst (xs ++ [v])))) : rAppend (.ref a) [v] H Q := ⟨a, xs, v, rfl, rfl, hs, hz, h⟩
/-! isinstance of what is no object -/
theorem i_isiII (h : Q (.bl true) H) : uIsi K [.int i, .ty "int"] H Q := ⟨_, _, _, _, true, rfl, .ty _, .base (.int i), kit_ty (by decide +kernel), h⟩
theorem i_isiIB (h : Q (.bl false) H) : uIsi K [.int i, .ty "bool"] H Q := ⟨_, _, _, _, false, rfl, .ty _, .base (.int i), kit_ty (by decide +kernel), h⟩
theorem i_isiIS (h : Q (.bl false) H) : uIsi K [.int i, .ty "str"] H Q := ⟨_, _, _, _, false, rfl, .ty _, .base (.int i), kit_ty (by decide +kernel), h⟩
theorem i_isiIL (h : Q (.bl false) H) : uIsi K [.int i, .ty "list"] H Q := ⟨_, _, _, _, false, rfl, .ty _, .base (.int i), kit_ty (by decide +kernel), h⟩
theorem i_isiSI (h : Q (.bl false) H) : uIsi K [.str s, .ty "int"] H Q := ⟨_, _, _, _, false, rfl, .ty _, .base (.str s), kit_ty (by decide +kernel), h⟩
theorem i_isiSB (h : Q (.bl false) H) : uIsi K [.str s, .ty "bool"] H Q := ⟨_, _, _, _, false, rfl, .ty _, .base (.str s), kit_ty (by decide +kernel), h⟩
theorem i_isiSS (h : Q (.bl true) H) : uIsi K [.str s, .ty "str"] H Q := ⟨_, _, _, _, true, rfl, .ty _, .base (.str s), kit_ty (by decide +kernel), h⟩
theorem i_isiSL (h : Q (.bl false) H) : uIsi K [.str s, .ty "list"] H Q := ⟨_, _, _, _, false, rfl, .ty _, .base (.str s), kit_ty (by decide +kernel), h⟩
theorem i_isiBI (h : Q (.bl true) H) : uIsi K [.bl b, .ty "int"] H Q := ⟨_, _, _, _, true, rfl, .ty _, .base (.bl b), kit_ty (by decide +kernel), h⟩
theorem i_isiBB (h : Q (.bl true) H) : uIsi K [.bl b, .ty "bool"] H Q := ⟨_, _, _, _, true, rfl, .ty _, .base (.bl b), kit_ty (by decide +kernel), h⟩
theorem i_isiBS (h : Q (.bl false) H) : uIsi K [.bl b, .ty "str"] H Q := ⟨_, _, _, _, false, rfl, .ty _, .base (.bl b), kit_ty (by decide +kernel), h⟩
theorem i_isiNI (h : Q (.bl false) H) : uIsi K [.non, .ty "int"] H Q := ⟨_, _, _, _, false, rfl, .ty _, .base .non, kit_ty (by decide +kernel), h⟩
theorem i_isiNB (h : Q (.bl false) H) : uIsi K [.non, .ty "bool"] H Q := ⟨_, _, _, _, false, rfl, .ty _, .base .non, kit_ty (by decide +kernel), h⟩
/-! a test that changes nothing, its answer known -/
def PureT (c : TT) (σ : L2.St) (H : Hp) (b : Bool) : Prop := ∀ QB : Bool → Hp → Prop, QB b H → c σ H QB
theorem i_andP {b1 b2 : Bool} (h1 : PureT c σ H b1) (h2 : b1 = true → PureT c2 σ H b2) (h : QB (b1 && b2) H) : tAnd c c2 σ H QB := h1 _ (by
  cases b1 with
  | true => exact h2 rfl _ h
  | false => exact h)
/-! ways -/
theorem i_ite {d A B : Prop} [Decidable d] (h1 : d → A) (h2 : ¬ d → B) : if decide d = true then A else B := by
  by_cases h : d
  · rw [if_pos (decide_eq_true h)]; exact h1 h
  · rw [if_neg (by simp [h])]; exact h2 h
theorem i_T {d : Bool} {A B : Prop} (hd : d = true) (h : A) : if d = true then A else B := by rw [if_pos hd]; exact h
theorem i_F {d : Bool} {A B : Prop} (hd : d = false) (h : B) : if d = true then A else B := by rw [if_neg (by simp [hd])]; exact h
theorem i_both {d : Bool} {A B : Prop} (h1 : d = true → A) (h2 : d = false → B) : if d = true then A else B := by
  cases d
  · exact i_F rfl (h2 rfl)
  · exact i_T rfl (h1 rfl)
end
/-! ### heaps -/
theorem same_new {H : Hp} {p : Addr} {o : HO} (h : H p = none) : Same H (upd H p o) := fun b x e => by
  rw [upd_ne (ne_of_none e h)]
  exact e
/-- what was known at H0 stays, though an object that H0 did not know is turned -/
theorem same_mut {H0 H : Hp} {p : Addr} {o : HO} (s : Same H0 H) (h : H0 p = none) : Same H0 (upd H p o) := fun b x e => by
  rw [upd_ne (ne_of_none e h)]
  exact s b x e
theorem sq_of {K : Fg} {H : Hp} {a : Addr} {xs : List V} (h : H a = some (.lst xs)) : SqL K H a xs := .inl (.inl h)
theorem st_of {K : Fg} {H : Hp} {a : Addr} {xs : List V} (h : H a = some (.tup xs)) : SqT K H a xs := .inl (.inl h)
theorem at_nat {xs : List V} {n : Nat} {v : V} {i : Int} (e : i = (n : Int)) (h : xs[n]? = some v) : atI xs i = some v := by
  rw [e]; exact atI_nat h
theorem sz_le {n : Nat} (h : n ≤ 1000000) : n ≤ sizeLine := Nat.le_trans h (by decide)
theorem sz_lt {n : Nat} (h : n < 1000000) : n < sizeLine := Nat.lt_of_lt_of_le h (by decide)
/-- what stands outside a region is kept -/
def Keep (R : Addr → Prop) (H H' : Hp) : Prop := ∀ a o, ¬ R a → H a = some o → H' a = some o
theorem Keep.refl (R : Addr → Prop) (H : Hp) : Keep R H H := fun _ _ _ h => h
theorem Keep.trans {R : Addr → Prop} {H H1 H2 : Hp} (a : Keep R H H1) (b : Keep R H1 H2) : Keep R H H2 := fun x o n h => b x o n (a x o n h)
theorem keep_in {R : Addr → Prop} {H0 H : Hp} {p : Addr} {o : HO} (s : Keep R H0 H) (h : R p) : Keep R H0 (upd H p o) := fun b x n e => by
  rw [upd_ne (fun z => n (by rw [z]; exact h))]
  exact s b x n e
/-! ### loops -/
def LoopK (J : It) (g : TG) (tb : TS) (D : Ends) (σ : L2.St) (H : Hp) : Prop := ∃ W : Nat → Nat → L2.St → Hp → Prop, (∃ m, W 0 m σ H) ∧ ∀ i m σ H, W i m σ H →
  (J.stop i H ∧ D.nx σ H) ∨ (J.go i H ∧ ∃ N : L2.St → Hp → Prop, (∀ σ' H', N σ' H' → ∃ m', m' < m ∧ W (i + 1) m' σ' H') ∧ ∀ x H', J.yld i H x H' → g x σ H' fun σ2 H2 => tb { D with nx := N, ct := N, bk := D.nx } σ2 H2)
def LcK (J : It) (g : TG) (tt : TT) (te : TE) (vs : List Nat) (σ : L2.St) (H1 : Hp) (Q : VK) : Prop := ∀ D, H1 D = none → ∃ W : Nat → Nat → Hp → Prop, (∃ m, W 0 m (upd H1 D (.lst []))) ∧ ∀ i m H, W i m H →
  (J.stop i H ∧ Q (.ref D) H) ∨ (J.go i H ∧ ∃ Nx : Hp → Prop, (∀ H', Nx H' → ∃ m', m' < m ∧ W (i + 1) m' H') ∧ ∀ x H', J.yld i H x H' → g x (wipe σ vs) H' fun σ2 H2 => wipe σ2 vs = wipe σ vs ∧ tt σ2 H2 fun b H3 =>
    if b = true then te σ2 H3 fun y H4 => ∃ acc, H4 D = some (.lst acc) ∧ acc.length < sizeLine ∧ Nx (upd H4 D (.lst (acc ++ [y]))) else Nx H3)
def RngA1 (vs : List V) (H : Hp) (R : It → Hp → Prop) : Prop := ∃ j : Int, vs = [.int j] ∧ -(2 ^ 62) ≤ j ∧ j < 2 ^ 62 ∧ R (Itr 0 j.toNat) H
def RngA2 (vs : List V) (H : Hp) (R : It → Hp → Prop) : Prop := ∃ i j : Int, vs = [.int i, .int j] ∧ (-(2 ^ 62) ≤ i ∧ i < 2 ^ 62 ∧ -(2 ^ 62) ≤ j ∧ j < 2 ^ 62) ∧ R (Itr i (j - i).toNat) H
def RngA3 (vs : List V) (H : Hp) (R : It → Hp → Prop) : Prop := ∃ (i j c : Int) (n : Nat), vs = [.int i, .int j, .int c] ∧ RgC i j c n ∧ R (Itc i c n) H
def LstA (K : Fg) (x : V) (H : Hp) (R : It → Hp → Prop) : Prop := ∃ a, x = .ref a ∧ (∃ xs, SqL K H a xs) ∧ R (Itl K a) H
def TupA (K : Fg) (x : V) (H : Hp) (R : It → Hp → Prop) : Prop := ∃ a, x = .ref a ∧ (∃ xs, SqT K H a xs) ∧ R (Itt K a) H
def EnumA (K : Fg) (vs : List V) (H : Hp) (R : It → Hp → Prop) : Prop := ∃ a xs, vs = [.ref a] ∧ SqL K H a xs ∧ R (Ite K a) H
def ZipA (K : Fg) (vs : List V) (H : Hp) (R : It → Hp → Prop) : Prop := ∃ a b xs ys, vs = [.ref a, .ref b] ∧ SqL K H a xs ∧ SqL K H b ys ∧ R (Itz K a b) H
def StrA (v : V) (H : Hp) (R : It → Hp → Prop) : Prop := ∃ x, v = .str x ∧ R (Its x) H
section
variable {K : Fg} {D : Ends} {σ : L2.St} {H : Hp} {tb : TS} {te : TE} {ta : TA} {c tt : TT} {g : TG} {Q : VK} {wi : TI} {R : It → Hp → Prop} {J : It} {vs : List Nat} {i j lo : Int} {n : Nat} {a b : Addr} {xs ys : List V} {z : Str}
theorem i_for (h : wi σ H fun J H1 => LoopK J g tb D σ H1) : tFor wi g tb D σ H := h
theorem i_lc (h : wi σ H fun J H1 => LcK J g tt te vs σ H1 Q) : tLc wi g tt te vs σ H Q := h
theorem i_rng1 (h : ta σ H fun vs H1 => RngA1 vs H1 R) : iRng1 ta σ H R := h
theorem i_rng2 (h : ta σ H fun vs H1 => RngA2 vs H1 R) : iRng2 ta σ H R := h
theorem i_rng3 (h : ta σ H fun vs H1 => RngA3 vs H1 R) : iRng3 ta σ H R := h
theorem i_list (h : te σ H fun x H1 => LstA K x H1 R) : iList K te σ H R := h
theorem i_tupl (h : te σ H fun x H1 => TupA K x H1 R) : iTup K te σ H R := h
theorem i_enum (h : ta σ H fun vs H1 => EnumA K vs H1 R) : iEnum K ta σ H R := h
theorem i_zip (h : ta σ H fun vs H1 => ZipA K vs H1 R) : iZip K ta σ H R := h
theorem i_str (h : te σ H fun x H1 => StrA x H1 R) : iStr te σ H R := h
theorem i_rngA1 (h : -(2 ^ 62) ≤ j ∧ j < 2 ^ 62) (k : R (Itr 0 j.toNat) H) : RngA1 [.int j] H R := ⟨j, rfl, h.1, h.2, k⟩
theorem i_rngA2 (h : -(2 ^ 62) ≤ i ∧ i < 2 ^ 62 ∧ -(2 ^ 62) ≤ j ∧ j < 2 ^ 62) (k : R (Itr i (j - i).toNat) H) : RngA2 [.int i, .int j] H R := ⟨i, j, rfl, h, k⟩
theorem i_lstA (h : SqL K H a xs) (k : R (Itl K a) H) : LstA K (.ref a) H R := ⟨a, rfl, ⟨xs, h⟩, k⟩
theorem i_enumA (h : SqL K H a xs) (k : R (Ite K a) H) : EnumA K [.ref a] H R := ⟨a, xs, rfl, h, k⟩
theorem i_strA (k : R (Its z) H) : StrA (.str z) H R := ⟨z, rfl, k⟩
theorem lk_range (Pv : Nat → L2.St → Hp → Prop) (h0 : Pv 0 σ H)
    (hs : ∀ i σ H, i < n → Pv i σ H → g (.int (lo + i)) σ H fun σ2 H2 => tb { D with nx := Pv (i + 1), ct := Pv (i + 1), bk := D.nx } σ2 H2) (hd : ∀ σ H, Pv n σ H → D.nx σ H) : LoopK (Itr lo n) g tb D σ H := for_range Pv h0 hs hd
theorem lk_list (Pv : Nat → L2.St → Hp → Prop) (h0 : Pv 0 σ H) (hl : ∀ i σ H, i ≤ xs.length → Pv i σ H → SqL K H a xs)
    (hs : ∀ i x σ H, xs[i]? = some x → Pv i σ H → g x σ H fun σ2 H2 => tb { D with nx := Pv (i + 1), ct := Pv (i + 1), bk := D.nx } σ2 H2) (hd : ∀ σ H, Pv xs.length σ H → D.nx σ H) : LoopK (Itl K a) g tb D σ H := for_list Pv h0 hl hs hd
def TurnK (W : Nat → L2.St → Hp → Prop) (m : Nat) (tb : TS) (D : Ends) (σ : L2.St) (H : Hp) : Prop := ∃ N : L2.St → Hp → Prop, (∀ σ' H', N σ' H' → ∃ m', m' < m ∧ W m' σ' H') ∧ tb { D with nx := N, ct := N, bk := D.nx } σ H
theorem i_turn {W : Nat → L2.St → Hp → Prop} {m : Nat} (h : tb { D with nx := fun σ2 H2 => ∃ m', m' < m ∧ W m' σ2 H2, ct := fun σ2 H2 => ∃ m', m' < m ∧ W m' σ2 H2, bk := D.nx } σ H) : TurnK W m tb D σ H := ⟨_, fun _ _ z => z, h⟩
theorem i_while (W : Nat → L2.St → Hp → Prop) (m0 : Nat) (h0 : W m0 σ H)
    (hs : ∀ m σ' H', W m σ' H' → c σ' H' fun b H1 => if b = true then TurnK W m tb D σ' H1 else D.nx σ' H1) : tWhile c tb D σ H := ⟨W, ⟨m0, h0⟩, hs⟩
/-- a comprehension -/
theorem lck {G : Hp → Prop} {Y : Nat → Hp → V → Hp → Prop} (w : Walk J n G Y) (Pv : Addr → Nat → Hp → Prop) (h0 : ∀ D, H D = none → Pv D 0 (upd H D (.lst []))) (hG : ∀ D i H, i ≤ n → Pv D i H → G H)
    (hs : ∀ D i x H H', i < n → Pv D i H → Y i H x H' → g x (wipe σ vs) H' fun σ2 H2 => wipe σ2 vs = wipe σ vs ∧ tt σ2 H2 fun b H3 =>
      if b = true then te σ2 H3 fun y H4 => ∃ acc, H4 D = some (.lst acc) ∧ acc.length < sizeLine ∧ Pv D (i + 1) (upd H4 D (.lst (acc ++ [y]))) else Pv D (i + 1) H3) (hd : ∀ D H', H D = none → Pv D n H' → Q (.ref D) H') : LcK J g tt te vs σ H Q :=
  fun D hD => lc_it w (Pv D) (h0 D hD) (hG D) (hs D) (fun H' p => hd D H' hD p)
/-- one that changes nothing: which turns give, and what -/
def given (f : Nat → Option V) : Nat → List V
  | 0 => []
  | n + 1 => given f n ++ (match f n with | some y => [y] | none => [])
theorem given_len (f : Nat → Option V) : ∀ n, (given f n).length ≤ n
  | 0 => Nat.le_refl _
  | n + 1 => by
    have h := given_len f n
    unfold given
    rw [List.length_append]
    cases f n <;> simp <;> omega
theorem lck_pure {G : Hp → Prop} {Y : Nat → Hp → V → Hp → Prop} (w : Walk J n G Y) (hn : n ≤ 100000) (f : Nat → Option V) (hG : ∀ H', Same H H' → G H')
    (turn : ∀ i x H1 H2 (KK : V → Hp → Prop) (NN : Hp → Prop), i < n → Same H H1 → Y i H1 x H2 → (∀ y H4, f i = some y → Same H1 H4 → KK y H4) → (∀ H3, f i = none → Same H1 H3 → NN H3) →
      g x (wipe σ vs) H2 fun σ2 H2 => wipe σ2 vs = wipe σ vs ∧ tt σ2 H2 fun b H3 => if b = true then te σ2 H3 KK else NN H3)
    (fin : ∀ p H', H p = none → Same H H' → H' p = some (.lst (given f n)) → Q (.ref p) H') : LcK J g tt te vs σ H Q := by
  refine lck w (fun D i H' => H D = none ∧ Same H H' ∧ H' D = some (.lst (given f i))) (fun D hD => ⟨hD, same_new hD, upd_same⟩) (fun D i H' _ p => hG H' p.2.1) (fun D i x H1 H2 hi p y => ?_) (fun D H' hD p => fin D H' hD p.2.1 p.2.2)
  obtain ⟨p0, p1, p2⟩ := p
  refine turn i x H1 H2 _ _ hi p1 y (fun y H4 hf s4 => ?_) (fun H3 hf s3 => ?_)
  · refine ⟨given f i, s4 _ _ p2, sz_lt (by have := given_len f i; omega), p0, same_mut (p1.trans s4) p0, ?_⟩
    rw [upd_same]
    show some (HO.lst (given f i ++ [y])) = some (HO.lst (given f i ++ (match f i with | some y => [y] | none => [])))
    rw [hf]
  · refine ⟨p0, p1.trans s3, ?_⟩
    rw [s3 _ _ p2]
    show some (HO.lst (given f i)) = some (HO.lst (given f i ++ (match f i with | some y => [y] | none => [])))
    rw [hf, List.append_nil]
end
def t_is_whole (G : Gx) (E : XK) : TS :=
      (tRet (tAndV (tCB (uIsi G.K) (tCons (tVar 0) (tCons (tC (.ty "int")) tNil))) (tNotV (tCB (uIsi G.K) (tCons (tVar 0) (tCons (tC (.ty "bool")) tNil))))))
def sp_is_whole (G : Gx) : Sp := fun vs H Q E => vs.length = 1 ∧ t_is_whole G E { nx := fun _ H' => Q .non H', rt := Q } (start ["thing"] vs) H
def t_is_kind (G : Gx) (E : XK) : TS :=
      (tSeq (tIfS (tB (tCB (uIsi G.K) (tCons (tVar 0) (tCons (tC (.ty "str")) tNil)))) (tRet (tOp (uEq G.K) (tVar 0) (tC (.str "cubes")))) tNext)
      (tRet (tAndV (tCall (sp_is_whole G) [] E (tCons (tVar 0) tNil)) (tChain uLe uLe (tC (.int 3)) (tVar 0) (tC (.int 12))))))
def sp_is_kind (G : Gx) : Sp := fun vs H Q E => vs.length = 1 ∧ t_is_kind G E { nx := fun _ H' => Q .non H', rt := Q } (start ["thing"] vs) H
def t_law_deck (G : Gx) (E : XK) : TS :=
      (tSeq (tAsg (tLst tNil) (gName 1))
      (tSeq (tFor (iRng1 (tCons (tCB (uMax G.K) (tCons (tC (.int 1)) (tCons (tCB (uMin G.K) (tCons (tC (.int 63)) (tCons (tCB (uLen G.K) (tCons (tVar 0) tNil)) tNil))) tNil))) tNil)) (gName 2) (tSeq (tAsg (tC (.int 0)) (gName 3))
      (tSeq (tIfS (tTest (tOp uLt (tVar 2) (tCB (uLen G.K) (tCons (tVar 0) tNil)))) (tAsg (tOp (uIx G.K) (tVar 0) (tVar 2)) (gName 3)) tNext)
      (tDrop (tBM G.K "list" rAppend (tVar 1) (tCons (tLst (tCons (tVar 3) (tCons (tCB uInt (tCons (tOp uGe (tVar 3) (tOp uPow (tC (.int 10)) (tC (.int 18)))) tNil)) (tCons (tOp uMul (tC (.int 31)) (tVar 2)) tNil)))) tNil))))))
      (tRet (tLst (tCons (tVar 1) (tCons (tC (.int 0)) tNil))))))
def sp_law_deck (G : Gx) : Sp := fun vs H Q E => vs.length = 1 ∧ t_law_deck G E { nx := fun _ H' => Q .non H', rt := Q } (start ["script", "pools", "k", "cell"] vs) H
def t_law_draw (G : Gx) (E : XK) : TS :=
      (tSeq (tAsg (tOp (uIx G.K) (tOp (uIx G.K) (tVar 0) (tC (.int 0))) (tOp uMod (tOp (uIx G.K) (tVar 0) (tC (.int 1))) (tCB (uLen G.K) (tCons (tOp (uIx G.K) (tVar 0) (tC (.int 0))) tNil)))) (gName 2))
      (tSeq (tAsg (tOp uAdd (tOp (uIx G.K) (tVar 0) (tC (.int 1))) (tC (.int 1))) (gSub (tVar 0) (tC (.int 1)) uSet))
      (tSeq (tIfS (tAnd (tTest (tOp (uEq G.K) (tOp (uIx G.K) (tVar 2) (tC (.int 1))) (tC (.int 1)))) (tTest (tOp uGt (tOp (uIx G.K) (tVar 2) (tC (.int 0))) (tC (.int 0))))) (tSeq (tAsg (tOp uMod (tOp (uIx G.K) (tVar 2) (tC (.int 0))) (tVar 1)) (gName 3))
      (tSeq (tAsg (tOp uDiv (tOp (uIx G.K) (tVar 2) (tC (.int 0))) (tVar 1)) (gSub (tVar 2) (tC (.int 0)) uSet))
      (tRet (tVar 3)))) tNext)
      (tSeq (tAsg (tOp uAdd (tOp (uIx G.K) (tVar 2) (tC (.int 2))) (tC (.int 1))) (gSub (tVar 2) (tC (.int 2)) uSet))
      (tSeq (tAsg (tOp uMod (tOp uAdd (tOp uMod (tOp (uIx G.K) (tVar 2) (tC (.int 0))) (tC (.int 99999999977))) (tOp uMul (tC (.int 700001)) (tOp (uIx G.K) (tVar 2) (tC (.int 2))))) (tC (.int 99999999947))) (gName 4))
      (tSeq (tAsg (tOp uMod (tOp uMul (tVar 4) (tVar 4)) (tC (.int 99999999821))) (gName 4))
      (tSeq (tAsg (tOp uMod (tOp uMul (tVar 4) (tOp uAdd (tVar 4) (tC (.int 19)))) (tC (.int 9999999967))) (gName 4))
      (tRet (tOp uMod (tOp uDiv (tVar 4) (tC (.int 13))) (tVar 1))))))))))
def sp_law_draw (G : Gx) : Sp := fun vs H Q E => vs.length = 2 ∧ t_law_draw G E { nx := fun _ H' => Q .non H', rt := Q } (start ["deck", "many", "pool", "found", "number"] vs) H
def t_need_kind (G : Gx) (E : XK) : TS :=
      (tIfS (tNot (tB (tCall (sp_is_kind G) [] E (tCons (tVar 0) tNil)))) (tRz E (G.C "NoKind")) tNext)
def sp_need_kind (G : Gx) : Sp := fun vs H Q E => vs.length = 1 ∧ t_need_kind G E { nx := fun _ H' => Q .non H', rt := Q } (start ["thing"] vs) H
def t_need_from (G : Gx) (E : XK) : TS :=
      (tIfS (tOr (tNot (tB (tCall (sp_is_whole G) [] E (tCons (tVar 0) tNil)))) (tTest (tOp uLt (tVar 0) (tVar 1)))) (tRz E (G.C "NoNumber")) tNext)
def sp_need_from (G : Gx) : Sp := fun vs H Q E => vs.length = 2 ∧ t_need_from G E { nx := fun _ H' => Q .non H', rt := Q } (start ["thing", "least"] vs) H
def t_dots (G : Gx) (E : XK) : TS :=
      (tSeq (tIfS (tTest (tOp (uEq G.K) (tVar 0) (tC (.str "cubes")))) (tRet (tOp uMul (tOp uMul (tVar 1) (tVar 1)) (tVar 1))) tNext)
      (tRet (tOp uAdd (tVar 1) (tOp uMul (tOp uSub (tVar 0) (tC (.int 2))) (tOp uDiv (tOp uMul (tVar 1) (tOp uSub (tVar 1) (tC (.int 1)))) (tC (.int 2)))))))
def sp_dots (G : Gx) : Sp := fun vs H Q E => vs.length = 2 ∧ t_dots G E { nx := fun _ H' => Q .non H', rt := Q } (start ["kind", "k"] vs) H
def t_law_dots (G : Gx) (E : XK) : TS :=
      (tSeq (tAsg (tLst tNil) (gName 2))
      (tSeq (tAsg (tC (.int 1)) (gName 3))
      (tSeq (tAsg (tC (.int 1)) (gName 4))
      (tSeq (tAsg (tC (.int 1)) (gName 5))
      (tSeq (tWhile (tTest (tOp uLe (tVar 4) (tVar 1))) (tSeq (tDrop (tBM G.K "list" rAppend (tVar 2) (tCons (tVar 4) tNil)))
      (tSeq (tAsg (tOp uAdd (tVar 3) (tC (.int 1))) (gName 3))
      (tIfS (tTest (tOp (uEq G.K) (tVar 0) (tC (.str "cubes")))) (tAsg (tOp uPow (tVar 3) (tC (.int 3))) (gName 4)) (tSeq (tAsg (tOp uSub (tOp uAdd (tVar 5) (tVar 0)) (tC (.int 2))) (gName 5))
      (tAsg (tOp uAdd (tVar 4) (tVar 5)) (gName 4)))))))
      (tRet (tVar 2)))))))
def sp_law_dots (G : Gx) : Sp := fun vs H Q E => vs.length = 2 ∧ t_law_dots G E { nx := fun _ H' => Q .non H', rt := Q } (start ["kind", "most", "found", "k", "number", "more"] vs) H
def t_law_due (G : Gx) (E : XK) : TS :=
      (tSeq (tIfS (tTest (tOp (uEq G.K) (tVar 0) (tC (.str "cubes")))) (tRet (tOp uMul (tOp uMul (tVar 1) (tVar 1)) (tVar 1))) tNext)
      (tSeq (tAsg (tOp uDiv (tOp uMul (tVar 1) (tOp uAdd (tVar 1) (tC (.int 1)))) (tC (.int 2))) (gName 2))
      (tRet (tOp uAdd (tVar 2) (tOp uMul (tOp uSub (tVar 0) (tC (.int 3))) (tOp uSub (tVar 2) (tVar 1)))))))
def sp_law_due (G : Gx) : Sp := fun vs H Q E => vs.length = 2 ∧ t_law_due G E { nx := fun _ H' => Q .non H', rt := Q } (start ["kind", "k", "triangle"] vs) H
def t_place_in (G : Gx) (E : XK) : TS :=
      (tSeq (tDrop (tCall (sp_need_kind G) [] E (tCons (tVar 0) tNil)))
      (tSeq (tDrop (tCall (sp_need_from G) [] E (tCons (tVar 1) (tCons (tC (.int 1)) tNil))))
      (tSeq (tAsg (tC (.int 0)) (gName 2))
      (tSeq (tAsg (tC (.int 1)) (gName 3))
      (tSeq (tWhile (tTest (tOp uLt (tCall (sp_dots G) [] E (tCons (tVar 0) (tCons (tVar 3) tNil))) (tVar 1))) (tSeq (tAsg (tVar 3) (gName 2))
      (tAsg (tOp uMul (tC (.int 2)) (tVar 3)) (gName 3))))
      (tSeq (tWhile (tTest (tOp uGt (tOp uSub (tVar 3) (tVar 2)) (tC (.int 1)))) (tSeq (tAsg (tOp uDiv (tOp uAdd (tVar 2) (tVar 3)) (tC (.int 2))) (gName 4))
      (tIfS (tTest (tOp uLt (tCall (sp_dots G) [] E (tCons (tVar 0) (tCons (tVar 4) tNil))) (tVar 1))) (tAsg (tVar 4) (gName 2)) (tAsg (tVar 4) (gName 3)))))
      (tRet (tIf (tTest (tOp (uEq G.K) (tCall (sp_dots G) [] E (tCons (tVar 0) (tCons (tVar 3) tNil))) (tVar 1))) (tVar 3) (tC .non)))))))))
def sp_place_in (G : Gx) : Sp := fun vs H Q E => vs.length = 2 ∧ t_place_in G E { nx := fun _ H' => Q .non H', rt := Q } (start ["kind", "n", "low", "high", "between"] vs) H
def t_law_at (G : Gx) (E : XK) : TS :=
      (tSeq (tIfS (tTest (tOp (uEq G.K) (tVar 0) (tC (.str "cubes")))) (tRet (tOp uMul (tOp uMul (tVar 1) (tVar 1)) (tVar 1))) tNext)
      (tSeq (tAsg (tOp uDiv (tOp uMul (tVar 1) (tOp uAdd (tVar 1) (tC (.int 1)))) (tC (.int 2))) (gName 2))
      (tRet (tOp uAdd (tVar 2) (tOp uMul (tOp uSub (tVar 0) (tC (.int 3))) (tOp uSub (tVar 2) (tVar 1)))))))
def sp_law_at (G : Gx) : Sp := fun vs H Q E => vs.length = 2 ∧ t_law_at G E { nx := fun _ H' => Q .non H', rt := Q } (start ["kind", "k", "triangle"] vs) H
def t_law_due_v2 (G : Gx) (E : XK) : TS :=
      (tSeq (tAsg (tC (.int 0)) (gName 2))
      (tSeq (tAsg (tOp uMul (tOp uPow (tC (.int 10)) (tC (.int 13))) (tOp uPow (tC (.int 10)) (tC (.int 5)))) (gName 3))
      (tSeq (tWhile (tTest (tOp uGt (tOp uSub (tVar 3) (tVar 2)) (tC (.int 1)))) (tSeq (tAsg (tOp uDiv (tOp uAdd (tVar 2) (tVar 3)) (tC (.int 2))) (gName 4))
      (tIfS (tTest (tOp uGe (tCall (sp_law_at G) [] E (tCons (tVar 0) (tCons (tVar 4) tNil))) (tVar 1))) (tAsg (tVar 4) (gName 3)) (tAsg (tVar 4) (gName 2)))))
      (tRet (tOp (uIx G.K) (tLst (tCons (tC .non) (tCons (tVar 3) tNil))) (tCB uInt (tCons (tOp (uEq G.K) (tCall (sp_law_at G) [] E (tCons (tVar 0) (tCons (tVar 3) tNil))) (tVar 1)) tNil)))))))
def sp_law_due_v2 (G : Gx) : Sp := fun vs H Q E => vs.length = 2 ∧ t_law_due_v2 G E { nx := fun _ H' => Q .non H', rt := Q } (start ["kind", "n", "low", "high", "middle"] vs) H
def t_law_right (G : Gx) (E : XK) : TS :=
      (tSeq (tAsg (tCall (sp_law_due_v2 G) [] E (tCons (tVar 0) (tCons (tVar 1) tNil))) (gName 2))
      (tSeq (tFor (iRng1 (tCons (tC (.int 2)) tNil)) (gName 3) (tSeq (tAsg (tCall (sp_place_in G) [] E (tCons (tVar 0) (tCons (tVar 1) tNil))) (gName 4))
      (tIfS (tOr (tTest (tOp (uNe G.K) (tVar 4) (tVar 2))) (tAnd (tTest (tOp uIsNot (tVar 2) (tC .non))) (tOr (tB (tCB (uIsi G.K) (tCons (tVar 4) (tCons (tC (.ty "bool")) tNil)))) (tNot (tB (tCB (uIsi G.K) (tCons (tVar 4) (tCons (tC (.ty "int")) tNil)))))))) (tRet (tC (.bl false))) tNext)))
      (tRet (tC (.bl true)))))
def sp_law_right (G : Gx) : Sp := fun vs H Q E => vs.length = 2 ∧ t_law_right G E { nx := fun _ H' => Q .non H', rt := Q } (start ["kind", "n", "due", "again", "found"] vs) H
def t_law_k03 (G : Gx) (E : XK) : TS :=
      (tSeq (tAsg (tCall (sp_law_deck G) [] E (tCons (tVar 0) tNil)) (gName 1))
      (tSeq (tFor (iList G.K (tLst (tCons (tC (.int 3)) (tCons (tC (.int 4)) (tCons (tC (.int 5)) (tCons (tC (.int 6)) (tCons (tC (.int 7)) (tCons (tC (.int 8)) (tCons (tC (.int 9)) (tCons (tC (.int 10)) (tCons (tC (.int 11)) (tCons (tC (.int 12)) (tCons (tC (.str "cubes")) tNil))))))))))))) (gName 2) (tSeq (tAsg (tCall (sp_law_dots G) [] E (tCons (tVar 2) (tCons (tC (.int 120)) tNil))) (gName 3))
      (tSeq (tFor (iRng2 (tCons (tC (.int 1)) (tCons (tC (.int 121)) tNil))) (gName 4) (tIfS (tTest (tOp (uNe G.K) (tCall (sp_place_in G) [] E (tCons (tVar 2) (tCons (tVar 4) tNil))) (tOp (uIx G.K) (tOp uAdd (tLc (iEnum G.K (tCons (tVar 3) tNil)) (gTup G.K 2 (gCons (gName 11) (gCons (gName 12) gNil))) (tTest (tOp (uEq G.K) (tVar 12) (tVar 4))) (tOp uAdd (tVar 11) (tC (.int 1))) [11, 12]) (tLst (tCons (tC .non) tNil))) (tC (.int 0))))) (tRet (tC (.bl false))) tNext))
      (tFor (iRng1 (tCons (tC (.int 6)) tNil)) (gName 5) (tSeq (tAsg (tOp uAdd (tOp uAdd (tOp uMul (tCall (sp_law_draw G) [] E (tCons (tVar 1) (tCons (tOp uPow (tC (.int 10)) (tC (.int 9))) tNil))) (tOp uPow (tC (.int 10)) (tC (.int 17)))) (tOp uMul (tCall (sp_law_draw G) [] E (tCons (tVar 1) (tCons (tOp uPow (tC (.int 10)) (tC (.int 9))) tNil))) (tOp uPow (tC (.int 10)) (tC (.int 8))))) (tCall (sp_law_draw G) [] E (tCons (tVar 1) (tCons (tOp uPow (tC (.int 10)) (tC (.int 8))) tNil)))) (gName 6))
      (tSeq (tAsg (tOp (uIx G.K) (tLst (tCons (tOp uPow (tC (.int 10)) (tC (.int 12))) (tCons (tOp uPow (tC (.int 10)) (tC (.int 8))) tNil))) (tCB uInt (tCons (tOp (uEq G.K) (tVar 2) (tC (.str "cubes"))) tNil))) (gName 7))
      (tSeq (tAsg (tOp uAdd (tC (.int 1)) (tOp uMod (tVar 6) (tOp (uIx G.K) (tLst (tCons (tC (.int 60)) (tCons (tOp uPow (tC (.int 10)) (tC (.int 4))) (tCons (tOp uPow (tC (.int 10)) (tC (.int 8))) (tCons (tVar 7) tNil))))) (tCall (sp_law_draw G) [] E (tCons (tVar 1) (tCons (tC (.int 4)) tNil)))))) (gName 8))
      (tSeq (tAsg (tOp (uIx G.K) (tLst (tCons (tC (.int 0)) (tCons (tC (.int 0)) (tCons (tC (.int 1)) (tCons (tUn uNeg (tC (.int 1))) (tCons (tOp uSub (tCall (sp_law_draw G) [] E (tCons (tVar 1) (tCons (tC (.int 60)) tNil))) (tC (.int 30))) tNil)))))) (tCall (sp_law_draw G) [] E (tCons (tVar 1) (tCons (tC (.int 5)) tNil)))) (gName 9))
      (tSeq (tAsg (tLst (tCons (tCall (sp_law_at G) [] E (tCons (tVar 2) (tCons (tVar 8) tNil))) (tCons (tOp uAdd (tCall (sp_law_at G) [] E (tCons (tVar 2) (tCons (tVar 8) tNil))) (tVar 9)) (tCons (tOp uAdd (tC (.int 1)) (tOp uMod (tVar 6) (tOp uSub (tOp uPow (tC (.int 10)) (tC (.int 26))) (tC (.int 1))))) (tCons (tOp uAdd (tC (.int 1)) (tOp uMod (tVar 6) (tOp uPow (tC (.int 10)) (tC (.int 6))))) tNil))))) (gName 10))
      (tSeq (tAsg (tOp (uIx G.K) (tVar 10) (tCall (sp_law_draw G) [] E (tCons (tVar 1) (tCons (tC (.int 4)) tNil)))) (gName 4))
      (tIfS (tNot (tB (tCall (sp_law_right G) [] E (tCons (tVar 2) (tCons (tCB (uMax G.K) (tCons (tC (.int 1)) (tCons (tVar 4) tNil))) tNil))))) (tRet (tC (.bl false))) tNext)))))))))))
      (tRet (tC (.bl true)))))
def sp_law_k03 (G : Gx) : Sp := fun vs H Q E => vs.length = 1 ∧ t_law_k03 G E { nx := fun _ H' => Q .non H', rt := Q } (start ["script", "deck", "kind", "small", "n", "turn", "far", "great", "k", "more", "some", "at", "one"] vs) H
local macro_rules | `(tactic| wtm_at "w1") => `(tactic| with_reducible first
  | refine i_seq ?_ | refine i_asg ?_ | refine i_gname ?_ | refine i_ifS ?_ | refine i_ret ?_ | refine i_drop ?_ | refine i_next ?_ | refine i_brk ?_ | refine i_retN ?_
  | refine i_op ?_ | refine i_var rfl ?_ | refine i_c ?_ | refine i_call ?_ | refine i_cb ?_ | refine i_cons ?_ | refine i_nil ?_ | refine i_un ?_
  | refine i_test ?_ | refine i_B ?_ | refine i_not ?_ | refine i_exbl ?_ | refine i_exint ?_
  | refine i_andV ?_ | refine i_orV ?_ | refine i_notV ?_ | refine i_if ?_ | refine i_chain ?_ | refine i_yes ?_
  | refine i_add ?_ | refine i_sub ?_ | refine i_lt ?_ | refine i_le ?_ | refine i_gt ?_ | refine i_ge ?_ | refine i_eqI ?_ | refine i_neI ?_ | refine i_eqS ?_ | refine i_neS ?_ | refine i_eqIS ?_ | refine i_neIS ?_
  | refine i_eqIN ?_ | refine i_neIN ?_ | refine i_eqNI ?_ | refine i_neNI ?_ | refine i_neNN ?_
  | refine i_isN ?_ | refine i_notN ?_ | refine i_isB ?_ | refine i_notB ?_ | refine i_max2 ?_ | refine i_min2 ?_ | refine i_intI ?_ | refine i_intB ?_ | refine i_abs ?_ | refine i_neg ?_ | refine i_band ?_ | refine i_bor ?_
  | refine i_isiII ?_ | refine i_isiIB ?_ | refine i_isiIS ?_ | refine i_isiIL ?_ | refine i_isiSI ?_ | refine i_isiSB ?_ | refine i_isiSS ?_ | refine i_isiSL ?_ | refine i_isiBI ?_ | refine i_isiBB ?_ | refine i_isiBS ?_ | refine i_isiNI ?_ | refine i_isiNB ?_
  | refine i_bm ?_ | refine i_bm0 ?_ | refine i_lst ?_ | refine i_tup ?_ | refine i_sl ?_ | refine i_nopart ?_ | refine i_part ?_ | refine i_gsub ?_ | refine i_aug rfl ?_ | refine i_ipI ?_
  | refine i_for ?_ | refine i_lc ?_ | refine i_rng1 ?_ | refine i_rng2 ?_ | refine i_rng3 ?_ | refine i_list ?_ | refine i_tupl ?_ | refine i_enum ?_ | refine i_zip ?_ | refine i_str ?_ | refine i_strA ?_
  | refine i_T rfl ?_ | refine i_F rfl ?_)
local macro_rules | `(tactic| wtm_at "num") => `(tactic| first | decide | omega)
local macro_rules | `(tactic| wtm_at "w2") => `(tactic| first
  | ((with_reducible refine i_pow ?_ ?_); · exact ⟨by decide, by decide, by decide⟩)
  | ((with_reducible refine i_mod ?_ ?_); · wtm_at "num")
  | ((with_reducible refine i_mulL ?_ ?_); · wtm_at "num")
  | ((with_reducible refine i_mulR ?_ ?_); · wtm_at "num")
  | ((with_reducible refine i_div ?_ ?_); · exact div_ok (by wtm_at "num") (by wtm_at "num")))
local macro_rules | `(tactic| wtm_at "w") => `(tactic| repeat (first | wtm_at "w1" | wtm_at "w2"))
local macro_rules | `(tactic| wtm_at "ao") => `(tactic| (with_reducible first | refine i_and ?_ | refine i_or ?_))
local macro_rules | `(tactic| wtm_at "ix") => `(tactic| (refine i_ixL (sq_of (by assumption)) (by rfl) ?_; wtm_at "w"))
local macro_rules | `(tactic| wtm_at "wa") => `(tactic| repeat (first | wtm_at "w1" | wtm_at "ao" | wtm_at "w2"))
/-! ### kinds and their numbers -/
/-- a kind: 3 to 12, or "cubes" -/
def IsKd (v : V) : Prop := (∃ s : Int, v = .int s ∧ 3 ≤ s ∧ s ≤ 12) ∨ v = .str "cubes"
/-- the k-th number of a kind -/
def dotsV : V → Int → Int
  | .int s, k => k + (s - 2) * (k * (k - 1) / 2)
  | _, k => k * k * k
section
variable {G : Gx} {H : Hp} {Q : VK} {E : XK}
theorem u_is_whole_int {n : Int} (h : Q (.bl true) H) : sp_is_whole G [.int n] H Q E := by
  refine ⟨rfl, ?_⟩
  unfold t_is_whole
  wtm_at "w"
  exact h
theorem u_is_kind_int {n : Int} (h : Q (.bl (decide (3 ≤ n ∧ n ≤ 12))) H) : sp_is_kind G [.int n] H Q E := by
  refine ⟨rfl, ?_⟩
  unfold t_is_kind
  wtm_at "w"
  refine u_is_whole_int ?_
  wtm_at "w"
  refine i_ite (fun h3 => ?_) (fun h3 => ?_)
  · wtm_at "w"
    rw [show decide (3 ≤ n ∧ n ≤ 12) = decide (n ≤ 12) by simp [h3]] at h
    exact h
  · rw [show decide (3 ≤ n ∧ n ≤ 12) = false by simp [h3]] at h
    exact h
theorem u_is_kind_cubes (h : Q (.bl true) H) : sp_is_kind G [.str "cubes"] H Q E := by
  refine ⟨rfl, ?_⟩
  unfold t_is_kind
  wtm_at "w"
  rw [decide_eq_true rfl]
  exact h
theorem u_is_kind {v : V} (hv : IsKd v) (h : Q (.bl true) H) : sp_is_kind G [v] H Q E := by
  rcases hv with ⟨s, rfl, h1, h2⟩ | rfl
  · refine u_is_kind_int ?_
    rw [decide_eq_true ⟨h1, h2⟩]
    exact h
  · exact u_is_kind_cubes h
theorem u_need_kind {v : V} (hv : IsKd v) (h : Q .non H) : sp_need_kind G [v] H Q E := by
  refine ⟨rfl, ?_⟩
  unfold t_need_kind
  wtm_at "w"
  refine u_is_kind hv ?_
  wtm_at "w"
  exact h
theorem u_need_from {n m : Int} (hv : m ≤ n) (h : Q .non H) : sp_need_from G [.int n, .int m] H Q E := by
  refine ⟨rfl, ?_⟩
  unfold t_need_from
  wtm_at "wa"
  refine u_is_whole_int ?_
  wtm_at "w"
  refine i_F (by simpa using hv) ?_
  wtm_at "w"
  exact h
theorem big_mul {i j : Int} (a b : Nat) (ha : i.natAbs < 2 ^ a) (hb : j.natAbs < 2 ^ b) (h : a + b ≤ 134217728) : CMulX i j := mulx_ok ha hb h
theorem u_dots {v : V} {k : Int} (hv : IsKd v) (h0 : 0 ≤ k) (h1 : k < 2 ^ 100) (h : Q (.int (dotsV v k)) H) : sp_dots G [v, .int k] H Q E := by
  have ek : k.natAbs < 2 ^ 100 := by omega
  refine ⟨rfl, ?_⟩
  unfold t_dots
  rcases hv with ⟨s, rfl, h2, h3⟩ | rfl
  · wtm_at "w"
    refine i_mulX (big_mul 100 101 ek (by omega) (by decide)) ?_
    wtm_at "w"
    exact h
  · wtm_at "w"
    refine i_mulX (big_mul 100 100 ek ek (by decide)) ?_
    wtm_at "w"
    refine i_mulX (big_mul 200 100 (wide_lt ek ek) ek (by decide)) ?_
    exact h
end
/-! ### a part of the heap of one's own -/
structure Wd where
  R : Addr → Prop
  I : Hp → Prop
  tr : ∀ H a, I H → R a → H a ≠ none
  up : ∀ H a o, I H → ¬ R a → I (upd H a o)
  sm : ∀ H H', I H → Same H H' → I H'
structure Kp (W : Wd) (H H' : Hp) : Prop where
  i : W.I H'
  k : Keep W.R H H'
structure At (W : Wd) (H : Hp) (a : Addr) (o : HO) : Prop where
  h : H a = some o
  r : ¬ W.R a
section
variable {W : Wd} {H H0 H1 H2 : Hp} {a p : Addr} {o : HO}
theorem Kp.refl (i : W.I H) : Kp W H H := ⟨i, Keep.refl _ _⟩
theorem Kp.trans (x : Kp W H H1) (y : Kp W H1 H2) : Kp W H H2 := ⟨y.i, x.k.trans y.k⟩
theorem Wd.notR (i : W.I H) (h : H p = none) : ¬ W.R p := fun r => W.tr H p i r h
theorem Kp.at (x : Kp W H H1) (z : At W H a o) : At W H1 a o := ⟨x.k a o z.r z.h, z.r⟩
theorem Kp.same (x : Kp W H0 H) (s : Same H H1) : Kp W H0 H1 := ⟨W.sm _ _ x.i s, fun b u n e => s _ _ (x.k b u n e)⟩
theorem Kp.new (x : Kp W H0 H) (h : H p = none) : Kp W H0 (upd H p o) := x.same (same_new h)
theorem At.new (i : W.I H) (h : H p = none) : At W (upd H p o) p o := ⟨upd_same, Wd.notR i h⟩
theorem At.same (z : At W H a o) (s : Same H H1) : At W H1 a o := ⟨s _ _ z.h, z.r⟩
theorem At.ne (z : At W H a o) (h : H p = none) : a ≠ p := ne_of_none z.h h
theorem At.upd {o2 : HO} (z : At W H a o) (n : a ≠ p) : At W (upd H p o2) a o := ⟨by rw [upd_ne n]; exact z.h, z.r⟩
end
/-! ### the deck -/
structure DkI (d pl : Addr) (ps : List Addr) (H : Hp) : Prop where
  n : ∃ n : Int, H d = some (.lst [.ref pl, .int n])
  l : H pl = some (.lst (ps.map V.ref))
  ne : 0 < ps.length
  le : ps.length ≤ 63
  p : ∀ p ∈ ps, ∃ c f k : Int, H p = some (.lst [.int c, .int f, .int k])
def DkR (d pl : Addr) (ps : List Addr) : Addr → Prop := fun a => a = d ∨ a = pl ∨ a ∈ ps
def deckW (d pl : Addr) (ps : List Addr) : Wd where
  R := DkR d pl ps
  I := DkI d pl ps
  tr := fun H a i r => by
    rcases r with rfl | rfl | r
    · obtain ⟨n, e⟩ := i.n; rw [e]; simp
    · rw [i.l]; simp
    · obtain ⟨c, f, k, e⟩ := i.p a r; rw [e]; simp
  up := fun H a o i r => by
    have n : ∀ b, DkR d pl ps b → b ≠ a := fun b rb z => r (by rw [← z]; exact rb)
    refine ⟨?_, ?_, i.ne, i.le, fun p hp => ?_⟩
    · obtain ⟨m, e⟩ := i.n; exact ⟨m, by rw [upd_ne (n d (.inl rfl))]; exact e⟩
    · rw [upd_ne (n pl (.inr (.inl rfl)))]; exact i.l
    · obtain ⟨c, f, k, e⟩ := i.p p hp; exact ⟨c, f, k, by rw [upd_ne (n p (.inr (.inr hp)))]; exact e⟩
  sm := fun H H' i s => by
    refine ⟨?_, s _ _ i.l, i.ne, i.le, fun p hp => ?_⟩
    · obtain ⟨m, e⟩ := i.n; exact ⟨m, s _ _ e⟩
    · obtain ⟨c, f, k, e⟩ := i.p p hp; exact ⟨c, f, k, s _ _ e⟩
theorem deck_dl {d pl : Addr} {ps : List Addr} {H : Hp} (i : DkI d pl ps H) : d ≠ pl := fun z => by
  obtain ⟨n, e⟩ := i.n
  have e2 := i.l
  rw [← z, e] at e2
  have e3 := HO.lst.inj (Option.some.inj e2)
  cases ps with
  | nil => cases e3
  | cons x r => cases r with
    | nil => cases e3
    | cons y r => simp at e3
theorem deck_dp {d pl : Addr} {ps : List Addr} {H : Hp} (i : DkI d pl ps H) {p : Addr} (hp : p ∈ ps) : d ≠ p := fun z => by
  obtain ⟨n, e⟩ := i.n
  obtain ⟨c, f, k, e2⟩ := i.p p hp
  rw [← z, e] at e2
  have e3 := HO.lst.inj (Option.some.inj e2)
  simp at e3
theorem deck_lp {d pl : Addr} {ps : List Addr} {H : Hp} (i : DkI d pl ps H) {p : Addr} (hp : p ∈ ps) : pl ≠ p := fun z => by
  obtain ⟨c, f, k, e2⟩ := i.p p hp
  have e := i.l
  rw [z, e2] at e
  have e3 := HO.lst.inj (Option.some.inj e)
  cases ps with
  | nil => cases e3
  | cons x r => simp at e3
theorem deck_d {d pl : Addr} {ps : List Addr} {H : Hp} {m : Int} (i : DkI d pl ps H) : DkI d pl ps (upd H d (.lst [.ref pl, .int m])) :=
  ⟨⟨m, upd_same⟩, by rw [upd_ne (deck_dl i).symm]; exact i.l, i.ne, i.le, fun p hp => by
    obtain ⟨c, f, k, e⟩ := i.p p hp
    exact ⟨c, f, k, by rw [upd_ne (deck_dp i hp).symm]; exact e⟩⟩
theorem deck_p {d pl : Addr} {ps : List Addr} {H : Hp} {p : Addr} {c f k : Int} (i : DkI d pl ps H) (hp : p ∈ ps) : DkI d pl ps (upd H p (.lst [.int c, .int f, .int k])) :=
  ⟨by obtain ⟨n, e⟩ := i.n; exact ⟨n, by rw [upd_ne (deck_dp i hp)]; exact e⟩, by rw [upd_ne (deck_lp i hp)]; exact i.l, i.ne, i.le, fun q hq => by
    by_cases z : q = p
    · subst z; exact ⟨c, f, k, upd_same⟩
    · obtain ⟨c, f, k, e⟩ := i.p q hq
      exact ⟨c, f, k, by rw [upd_ne z]; exact e⟩⟩
section
variable {G : Gx} {H : Hp} {Q : VK} {E : XK}
set_option maxHeartbeats 4000000 in
theorem u_law_draw {d pl : Addr} {ps : List Addr} {many : Int} (i : DkI d pl ps H) (h0 : 0 < many) (h1 : many < 2 ^ 64)
    (h : ∀ r H', 0 ≤ r → r < many → Kp (deckW d pl ps) H H' → Q (.int r) H') : sp_law_draw G [.ref d, .int many] H Q E := by
  refine ⟨rfl, ?_⟩
  unfold t_law_draw
  obtain ⟨n, ed⟩ := i.n
  have el := i.l
  have hn := i.ne
  wtm_at "w"
  wtm_at "ix"
  wtm_at "ix"
  wtm_at "ix"
  refine i_lenL (sq_of el) ?_
  rw [List.length_map]
  refine i_mod (by omega) ?_
  obtain ⟨j, ej, hj⟩ : ∃ j : Nat, n % (ps.length : Int) = (j : Int) ∧ j < ps.length := ⟨(n % (ps.length : Int)).toNat, by have := Int.emod_nonneg n (show (ps.length : Int) ≠ 0 by omega); omega, by have := Int.emod_lt_of_pos n (show 0 < (ps.length : Int) by omega); have := Int.emod_nonneg n (show (ps.length : Int) ≠ 0 by omega); omega⟩
  have hm : ps[j] ∈ ps := List.getElem_mem hj
  refine i_ixL (sq_of el) (at_nat (n := j) ej (v := .ref ps[j]) (by rw [List.getElem?_map, List.getElem?_eq_getElem hj]; rfl)) ?_
  wtm_at "w"
  wtm_at "ix"
  refine i_setL ed (n := 1) rfl ?_
  have i1 : DkI d pl ps (upd H d (.lst [.ref pl, .int (n + 1)])) := deck_d i
  have k1 : Kp (deckW d pl ps) H (upd H d (.lst [.ref pl, .int (n + 1)])) := ⟨i1, keep_in (Keep.refl _ _) (.inl rfl)⟩
  show tSeq _ _ _ _ (upd H d (.lst [.ref pl, .int (n + 1)]))
  generalize upd H d (.lst [.ref pl, .int (n + 1)]) = H1 at i1 k1 ⊢
  generalize hp : ps[j] = p at hm ⊢
  obtain ⟨c, f, k, ep⟩ := i1.p p hm
  have fin : ∀ c f k : Int, Kp (deckW d pl ps) H (upd H1 p (.lst [.int c, .int f, .int k])) := fun c f k => ⟨deck_p i1 hm, keep_in k1.k (.inr (.inr hm))⟩
  wtm_at "w"
  refine i_andP (b1 := decide (f = 1)) (b2 := decide (0 < c)) (fun QB h => ?_) (fun _ QB h => ?_) ?_
  · wtm_at "w"
    wtm_at "ix"
    exact h
  · wtm_at "w"
    wtm_at "ix"
    exact h
  refine i_both (fun hf => ?_) (fun hf => ?_)
  · wtm_at "w"
    wtm_at "ix"
    wtm_at "ix"
    refine i_setL ep (n := 0) rfl ?_
    wtm_at "w"
    exact h _ _ (Int.emod_nonneg _ (by omega)) (Int.emod_lt_of_pos _ h0) (fin _ _ _)
  · wtm_at "w"
    wtm_at "ix"
    refine i_setL ep (n := 2) rfl ?_
    have e2 : (upd H1 p (.lst [.int c, .int f, .int (k + 1)])) p = some (.lst [.int c, .int f, .int (k + 1)]) := upd_same
    have f2 := fin c f (k + 1)
    show tSeq _ _ _ _ (upd H1 p (.lst [.int c, .int f, .int (k + 1)]))
    generalize upd H1 p (.lst [.int c, .int f, .int (k + 1)]) = H2 at e2 f2 ⊢
    wtm_at "w"
    wtm_at "ix"
    wtm_at "ix"
    generalize e1 : (c % 99999999977 + 700001 * (k + 1)) % 99999999947 = r1
    have b1 : 0 ≤ r1 ∧ r1 < 99999999947 := by omega
    wtm_at "w"
    generalize e3 : r1 * r1 % 99999999821 = r2
    have b2 : 0 ≤ r2 ∧ r2 < 99999999821 := by omega
    wtm_at "w"
    exact h _ _ (Int.emod_nonneg _ (by omega)) (Int.emod_lt_of_pos _ h0) f2
def DeckT (H : Hp) (a pl : Addr) (i : Nat) (σ : L2.St) (H' : Hp) : Prop := ∃ (ps : List Addr) (y2 y3 : Option V), σ = [some (.ref a), some (.ref pl), y2, y3] ∧ Same H H' ∧ H' pl = some (.lst (ps.map V.ref)) ∧ ps.length = i ∧ (∀ p ∈ ps, ∃ c f k : Int, H' p = some (.lst [.int c, .int f, .int k]))
theorem deck_turn {H H' : Hp} {a pl p : Addr} {i : Nat} {ps : List Addr} {y2 y3 : Option V} {c f k : Int} (npl : H pl = none) (s : Same H H') (e : H' pl = some (.lst (ps.map V.ref))) (el : ps.length = i) (ep : ∀ p ∈ ps, ∃ c f k : Int, H' p = some (.lst [.int c, .int f, .int k])) (hp : H' p = none) :
    DeckT H a pl (i + 1) [some (.ref a), some (.ref pl), y2, y3] (upd (upd H' p (.lst [.int c, .int f, .int k])) pl (.lst (ps.map V.ref ++ [.ref p]))) := by
  have npp : pl ≠ p := ne_of_none e hp
  refine ⟨ps ++ [p], _, _, rfl, same_mut (s.trans (same_new hp)) npl, ?_, by simp [el], fun q hq => ?_⟩
  · rw [upd_same, List.map_append]; rfl
  · rcases List.mem_append.mp hq with hq | hq
    · obtain ⟨c2, f, k, eq⟩ := ep q hq
      refine ⟨c2, f, k, ?_⟩
      have n1 : q ≠ p := ne_of_none eq hp
      have n2 : q ≠ pl := fun z => by
        rw [z, e] at eq
        have e3 := HO.lst.inj (Option.some.inj eq)
        cases ps with
        | nil => cases hq
        | cons x r => simp at e3
      rw [upd_ne n2, upd_ne n1]; exact eq
    · have z : q = p := by simpa using hq
      subst z
      exact ⟨_, _, _, by rw [upd_ne npp.symm, upd_same]⟩
theorem u_law_deck {a : Addr} {ns : List Int} (hs : SqL G.K H a (ns.map V.int)) (hl : ns.length ≤ 63)
    (h : ∀ d pl ps H', Same H H' → DkI d pl ps H' → Q (.ref d) H') : sp_law_deck G [.ref a] H Q E := by
  refine ⟨rfl, ?_⟩
  unfold t_law_deck
  wtm_at "w"
  refine ⟨Nat.zero_le _, fun pl npl => ?_⟩
  wtm_at "w"
  have s1 : Same H (upd H pl (.lst [])) := same_new npl
  refine i_lenL (s1.seq hs) ?_
  wtm_at "w"
  rw [List.length_map]
  generalize hm : (if (if (ns.length : Int) < 63 then (ns.length : Int) else 63) > 1 then (if (ns.length : Int) < 63 then (ns.length : Int) else 63) else 1) = m
  have hm1 : 1 ≤ m ∧ m ≤ 63 := by
    rw [← hm]
    split <;> split <;> omega
  refine i_rngA1 (by omega) ?_
  refine lk_range (DeckT H a pl) ⟨[], none, none, rfl, s1, upd_same, rfl, by simp⟩ ?_ ?_
  · rintro i σ H' hi ⟨ps, y2, y3, rfl, s, e, el, ep⟩
    wtm_at "w"
    refine i_lenL (s.seq hs) ?_
    wtm_at "w"
    refine i_ite (fun hlt => ?_) (fun hlt => ?_)
    · wtm_at "w"
      rw [List.length_map] at hlt
      have hlt' : i < ns.length := by omega
      refine i_ixL (s.seq hs) (at_nat (n := i) (by omega) (v := .int ns[i]) (by rw [List.getElem?_map, List.getElem?_eq_getElem hlt']; rfl)) ?_
      wtm_at "w"
      refine ⟨.inl ⟨rfl, _, sq_of e⟩, ?_⟩
      wtm_at "w"
      refine ⟨sz_le (by simp), fun p hp => ?_⟩
      wtm_at "w"
      refine i_app (xs := ps.map V.ref) (by rw [upd_ne (ne_of_none e hp)]; exact e) (sz_lt (by simp; omega)) ?_
      exact deck_turn npl s e el ep hp
    · wtm_at "w"
      refine ⟨.inl ⟨rfl, _, sq_of e⟩, ?_⟩
      wtm_at "w"
      refine ⟨sz_le (by simp), fun p hp => ?_⟩
      wtm_at "w"
      refine i_app (xs := ps.map V.ref) (by rw [upd_ne (ne_of_none e hp)]; exact e) (sz_lt (by simp; omega)) ?_
      exact deck_turn npl s e el ep hp
  · rintro σ H' ⟨ps, y2, y3, rfl, s, e, el, ep⟩
    wtm_at "w"
    refine ⟨sz_le (by simp), fun d hd => ?_⟩
    refine h d pl ps _ (s.trans (same_new hd)) ⟨⟨0, upd_same⟩, ?_, by omega, by omega, fun p hp => ?_⟩
    · rw [upd_ne (ne_of_none e hd)]; exact e
    · obtain ⟨c, f, k, eq⟩ := ep p hp
      exact ⟨c, f, k, by rw [upd_ne (ne_of_none eq hd)]; exact eq⟩
end
/-! ### numbers of a kind in order -/
theorem tri_succ (k : Int) : (k + 1) * k / 2 = k * (k - 1) / 2 + k := by
  have e : (k + 1) * k = k * (k - 1) + k * 2 := by
    rw [Int.add_mul, Int.mul_sub]; omega
  rw [e, Int.add_mul_ediv_right _ _ (by decide)]
theorem dots_succ_int (s k : Int) : dotsV (.int s) (k + 1) = dotsV (.int s) k + (1 + k * (s - 2)) := by
  unfold dotsV
  have e : k + 1 - 1 = k := by omega
  simp only [e]
  rw [tri_succ, Int.mul_add, Int.mul_comm (s - 2) k]
  omega
theorem cube_succ (k : Int) : (k + 1) * (k + 1) * (k + 1) = k * k * k + (3 * (k * k) + 3 * k + 1) := by
  have e : (k + 1) * (k + 1) = k * k + 2 * k + 1 := by rw [Int.add_mul, Int.mul_add]; omega
  rw [e, Int.add_mul, Int.add_mul, Int.mul_add, Int.mul_add, Int.mul_assoc 2 k k]
  have : k * k * k + k * k * 1 = k * k * k + k * k := by rw [Int.mul_one]
  omega
theorem dots_lt {v : V} (hv : IsKd v) {k : Int} (hk : 1 ≤ k) : dotsV v k + 1 ≤ dotsV v (k + 1) := by
  rcases hv with ⟨s, rfl, h1, h2⟩ | rfl
  · rw [dots_succ_int]
    have : 0 ≤ k * (s - 2) := Int.mul_nonneg (by omega) (by omega)
    omega
  · show k * k * k + 1 ≤ (k + 1) * (k + 1) * (k + 1)
    rw [cube_succ]
    have : 0 ≤ k * k := Int.mul_nonneg (by omega) (by omega)
    omega
theorem dots_one {v : V} (hv : IsKd v) : dotsV v 1 = 1 := by
  rcases hv with ⟨s, rfl, h1, h2⟩ | rfl
  · show 1 + (s - 2) * (1 * (1 - 1) / 2) = 1
    rw [show (1 * (1 - 1) / 2 : Int) = 0 by decide]; omega
  · rfl
theorem dots_mono {v : V} (hv : IsKd v) : ∀ (n : Nat) {k : Int}, 1 ≤ k → dotsV v k + n ≤ dotsV v (k + n)
  | 0, k, hk => by simp
  | n + 1, k, hk => by
    have h1 := dots_mono hv n hk
    have h2 := dots_lt hv (k := k + n) (by omega)
    have e : k + ((n + 1 : Nat) : Int) = k + n + 1 := by omega
    rw [e]; omega
theorem dots_le {v : V} (hv : IsKd v) {i j : Int} (h1 : 1 ≤ i) (h2 : i ≤ j) : dotsV v i + (j - i) ≤ dotsV v j := by
  have h := dots_mono hv (j - i).toNat h1
  have e : i + ((j - i).toNat : Int) = j := by omega
  rw [e] at h
  omega
theorem dots_ge {v : V} (hv : IsKd v) {k : Int} (hk : 1 ≤ k) : k ≤ dotsV v k := by
  have h := dots_le hv (i := 1) (j := k) (by omega) hk
  rw [dots_one hv] at h
  omega
/-- the numbers of a kind to a bound: the first n -/
def dotsN (v : V) (n : Nat) : List Int := (List.range n).map fun (j : Nat) => dotsV v ((j : Int) + 1)
theorem dotsN_succ (v : V) (n : Nat) : dotsN v (n + 1) = dotsN v n ++ [dotsV v ((n : Int) + 1)] := by
  unfold dotsN
  rw [List.range_succ, List.map_append]; rfl
theorem dotsN_len (v : V) (n : Nat) : (dotsN v n).length = n := by unfold dotsN; simp
theorem dotsN_get {v : V} {n j : Nat} (h : j < n) : (dotsN v n)[j]? = some (dotsV v ((j : Int) + 1)) := by
  unfold dotsN
  rw [List.getElem?_map, List.getElem?_range h]; rfl
section
variable {G : Gx} {H : Hp} {Q : VK} {E : XK}
def DotsT (H : Hp) (v : V) (most : Int) (l : Addr) (m : Nat) (σ : L2.St) (H' : Hp) : Prop := ∃ (n : Nat) (more : Int), σ = [some v, some (.int most), some (.ref l), some (.int ((n : Int) + 1)), some (.int (dotsV v ((n : Int) + 1))), some (.int more)] ∧
  Same H H' ∧ H' l = some (.lst ((dotsN v n).map V.int)) ∧ m = most.toNat + 1 - n ∧ (∀ j < n, dotsV v ((j : Int) + 1) ≤ most) ∧ (∀ s, v = .int s → more = 1 + (n : Int) * (s - 2))
theorem u_law_dots {v : V} {most : Int} (hv : IsKd v) (h0 : 0 ≤ most) (h1 : most ≤ 100000)
    (h : ∀ l n H', Same H H' → H l = none → H' l = some (.lst ((dotsN v n).map V.int)) → (∀ j < n, dotsV v ((j : Int) + 1) ≤ most) → most < dotsV v ((n : Int) + 1) → Q (.ref l) H') : sp_law_dots G [v, .int most] H Q E := by
  refine ⟨rfl, ?_⟩
  unfold t_law_dots
  wtm_at "w"
  refine ⟨Nat.zero_le _, fun l nl => ?_⟩
  wtm_at "w"
  refine i_while (DotsT H v most l) (most.toNat + 1) ⟨0, 1, ?_, same_new nl, upd_same, by omega, fun j hj => absurd hj (Nat.not_lt_zero _), fun s _ => by omega⟩ ?_
  · show _ = [some v, some (.int most), some (.ref l), some (.int (0 + 1)), some (.int (dotsV v (0 + 1))), some (.int 1)]
    rw [show (0 : Int) + 1 = 1 by rfl, dots_one hv]
    rfl
  · rintro m σ H' ⟨n, more, rfl, s, e, em, hj, hm⟩
    wtm_at "w"
    refine i_ite (fun hle => ?_) (fun hle => ?_)
    · refine i_turn ?_
      have hk := dots_ge hv (k := (n : Int) + 1) (by omega)
      wtm_at "w"
      refine ⟨.inl ⟨rfl, _, sq_of e⟩, ?_⟩
      wtm_at "w"
      refine i_app e (sz_lt (by simp [dotsN_len]; omega)) ?_
      wtm_at "w"
      have fin : ∀ more' : Int, (∀ s, v = .int s → more' = 1 + ((n + 1 : Nat) : Int) * (s - 2)) → ∃ m', m' < m ∧ DotsT H v most l m' [some v, some (.int most), some (.ref l), some (.int ((n : Int) + 1 + 1)), some (.int (dotsV v ((n : Int) + 1 + 1))), some (.int more')] (upd H' l (.lst ((dotsN v n).map V.int ++ [.int (dotsV v ((n : Int) + 1))]))) := fun more' hm' =>
        ⟨most.toNat + 1 - (n + 1), by omega, n + 1, more', by rw [show ((n + 1 : Nat) : Int) = (n : Int) + 1 by omega], same_mut s nl, by rw [upd_same, dotsN_succ, List.map_append]; rfl, rfl, fun j hj' => by
          by_cases z : j < n
          · exact hj j z
          · have z2 : j = n := by omega
            subst z2; exact hle, hm'⟩
      rcases hv with ⟨sd, rfl, h2, h3⟩ | rfl
      · wtm_at "w"
        have em2 := hm sd rfl
        have e1 : dotsV (.int sd) ((n : Int) + 1 + 1) = dotsV (.int sd) ((n : Int) + 1) + (more + sd - 2) := by
          rw [dots_succ_int, em2, Int.add_mul]; omega
        rw [← e1]
        refine fin _ fun s' hs' => ?_
        cases hs'
        rw [em2, show ((n + 1 : Nat) : Int) = (n : Int) + 1 by omega, Int.add_mul]; omega
      · wtm_at "w"
        refine i_pow ⟨by decide, by decide, by omega⟩ ?_
        wtm_at "w"
        have e1 : ((n : Int) + 1 + 1) ^ (3 : Int).toNat = dotsV (.str "cubes") ((n : Int) + 1 + 1) := by
          show ((n : Int) + 1 + 1) ^ 3 = ((n : Int) + 1 + 1) * ((n : Int) + 1 + 1) * ((n : Int) + 1 + 1)
          rw [Int.pow_succ, Int.pow_succ, Int.pow_succ, Int.pow_zero, Int.one_mul]
        rw [e1]
        refine fin _ fun s' hs' => ?_
        cases hs'
    · wtm_at "w"
      exact h l n H' s nl e hj (by omega)
theorem u_law_due {v : V} {k : Int} (hv : IsKd v) (h0 : 0 ≤ k) (h1 : k < 2 ^ 100) (h : Q (.int (dotsV v k)) H) : sp_law_due G [v, .int k] H Q E := by
  have ek : k.natAbs < 2 ^ 100 := by omega
  refine ⟨rfl, ?_⟩
  unfold t_law_due
  rcases hv with ⟨s, rfl, h2, h3⟩ | rfl
  · wtm_at "w"
    refine i_mulX (big_mul 100 101 ek (by omega) (by decide)) ?_
    wtm_at "w"
    have e : k * (k + 1) / 2 + (s - 3) * (k * (k + 1) / 2 - k) = dotsV (.int s) k := by
      rw [Int.mul_comm k (k + 1), tri_succ]
      show _ = k + (s - 2) * (k * (k - 1) / 2)
      generalize k * (k - 1) / 2 = u
      rw [show u + k - k = u by omega, show s - 2 = s - 3 + 1 by omega, Int.add_mul]
      omega
    rw [e]
    exact h
  · wtm_at "w"
    refine i_mulX (big_mul 100 100 ek ek (by decide)) ?_
    wtm_at "w"
    refine i_mulX (big_mul 200 100 (wide_lt ek ek) ek (by decide)) ?_
    exact h
end
/-! ### == of lists of plain things -/
/-! ### slices -/
/-! ### kinds -/
/-! ### a dict that is used as a set of ints -/
/-- at f a dict whose keys are the ints ks -/
def DI (H : Hp) (f : Addr) (ks : List Int) : Prop := ∃ kvs, H f = some (.dK kvs) ∧ kvs.map (·.1) = ks.map Sum.inl
theorem DI.same {H H' : Hp} {f : Addr} {ks : List Int} (d : DI H f ks) (s : Same H H') : DI H' f ks := by
  obtain ⟨kvs, e, k⟩ := d
  exact ⟨kvs, s _ _ e, k⟩
theorem DI.len {H : Hp} {f : Addr} {ks : List Int} {kvs : List (Key × V)} (k : kvs.map (·.1) = ks.map Sum.inl) : kvs.length = ks.length := by
  have := congrArg List.length k
  simpa using this
/-! ### stocks -/
def IsDot (ks : List V) (x : Int) : Prop := ∃ v ∈ ks, ∃ k : Int, 1 ≤ k ∧ dotsV v k = x
structure StockOf (ks : List V) (b : Int) (L : List Int) : Prop where
  up : L.Pairwise (· < ·)
  mem : ∀ x, x ∈ L ↔ x ≤ b ∧ IsDot ks x
theorem up_ext : ∀ {l m : List Int}, l.Pairwise (· < ·) → m.Pairwise (· < ·) → (∀ x, x ∈ l ↔ x ∈ m) → l = m
  | [], [], _, _, _ => rfl
  | [], y :: q, _, _, h => by have := (h y).mpr (by simp); simp at this
  | x :: r, [], _, _, h => by have := (h x).mp (by simp); simp at this
  | x :: r, y :: q, h1, h2, h => by
    rw [List.pairwise_cons] at h1 h2
    have exy : x = y := by
      have a := (h x).mp (by simp)
      have b := (h y).mpr (by simp)
      rcases List.mem_cons.mp a with z | z
      · exact z
      · rcases List.mem_cons.mp b with w | w
        · exact w.symm
        · have := h2.1 x z
          have := h1.1 y w
          omega
    subst exy
    rw [up_ext h1.2 h2.2 fun z => ?_]
    have hz := h z
    constructor
    · intro m
      rcases List.mem_cons.mp (hz.mp (List.mem_cons_of_mem _ m)) with w | w
      · have := h1.1 z m; omega
      · exact w
    · intro m
      rcases List.mem_cons.mp (hz.mpr (List.mem_cons_of_mem _ m)) with w | w
      · have := h2.1 z m; omega
      · exact w
theorem StockOf.uniq {ks : List V} {b : Int} {L M : List Int} (h : StockOf ks b L) (g : StockOf ks b M) : L = M := up_ext h.up g.up fun x => by rw [h.mem, g.mem]
/-! ### what stands in a heap -/
theorem upd_old {H : Hp} {a p : Addr} {o u : HO} (np : H p = none) (e : H a = some o) : upd H p u a = some o := by rw [upd_ne (ne_of_none e np)]; exact e
theorem same_at {H H' : Hp} {a : Addr} {o : HO} (s : Same H H') (e : H a = some o) : H' a = some o := s a o e
theorem i_new {n : Nat} {P : Prop} (hn : n ≤ 1000) (h : P) : n ≤ sizeLine ∧ P := ⟨sz_le (by omega), h⟩
local macro_rules | `(tactic| wtm_at "hp") => `(tactic| solve_by_elim (maxDepth := 14) only [*, upd_same, upd_old, same_at, sq_of, st_of])
/-! ### drawing -/
def kinds11 : List V := [.int 3, .int 4, .int 5, .int 6, .int 7, .int 8, .int 9, .int 10, .int 11, .int 12, .str "cubes"]
theorem kinds11_kd {x : V} (h : x ∈ kinds11) : IsKd x := by
  simp only [kinds11, List.mem_cons, List.not_mem_nil, or_false] at h
  rcases h with rfl | rfl | rfl | rfl | rfl | rfl | rfl | rfl | rfl | rfl | rfl
  all_goals first | exact .inr rfl | exact .inl ⟨_, rfl, by decide, by decide⟩
/-! ### the law's own stock -/
theorem dots_cnt {v : V} (hv : IsKd v) {b : Int} {n : Nat} (h1 : ∀ j < n, dotsV v ((j : Int) + 1) ≤ b) (h0 : 0 ≤ b) : (n : Int) ≤ b := by
  by_cases z : n = 0
  · omega
  · have h := h1 (n - 1) (by omega)
    have h2 := dots_ge hv (k := ((n - 1 : Nat) : Int) + 1) (by omega)
    omega
/-! ### a store by a cell -/
/-! ### tables -/
def optV : Option Int → V
  | none => .non
  | some i => .int i
def tab (n : Nat) (g : Nat → V) : List V := (List.range n).map g
section
variable {K : Fg} {H : Hp} {Q : VK}
theorem i_neO {o : Option Int} (h : Q (.bl false) H) : uNe K (optV o) (optV o) H Q := by
  cases o with
  | none => exact i_neNN h
  | some i => refine i_neI ?_; rw [decide_eq_true rfl]; exact h
end
/-! ### the fewest unlike ones -/
theorem StockOf.pos {ks : List V} {b : Int} {L : List Int} (h : StockOf ks b L) (hk : ∀ v ∈ ks, IsKd v) {x : Int} (hx : x ∈ L) : 1 ≤ x := by
  obtain ⟨_, v, hv, k, h1, rfl⟩ := (h.mem x).mp hx
  have := dots_ge (hk v hv) h1
  omega
theorem up_len : ∀ {l : List Int} {lo hi : Int}, l.Pairwise (· < ·) → (∀ x ∈ l, lo ≤ x ∧ x ≤ hi) → lo ≤ hi + 1 → (l.length : Int) ≤ hi + 1 - lo
  | [], lo, hi, _, _, h => by simp; omega
  | x :: r, lo, hi, p, h, hh => by
    rw [List.pairwise_cons] at p
    have h1 := h x (by simp)
    have h2 := up_len (l := r) (lo := x + 1) (hi := hi) p.2 (fun y hy => ⟨by have := p.1 y hy; omega, (h y (List.mem_cons_of_mem _ hy)).2⟩) (by omega)
    rw [List.length_cons]; omega
theorem StockOf.len {ks : List V} {b : Int} {L : List Int} (h : StockOf ks b L) (hk : ∀ v ∈ ks, IsKd v) (hb : 0 ≤ b) : (L.length : Int) ≤ b := by
  have := up_len (lo := 1) (hi := b) h.up (fun x hx => ⟨h.pos hk hx, ((h.mem x).mp hx).1⟩) (by omega)
  omega
/-- at qs the rows of a stock -/
structure LRows (H : Hp) (qs : List Addr) (f : Nat → Nat → V) (i n : Nat) : Prop where
  len : qs.length = i + 1
  row : ∀ j q, qs[j]? = some q → H q = some (.lst (tab (n + 1) (f j)))
theorem LRows.same {H H' : Hp} {qs : List Addr} {f : Nat → Nat → V} {i n : Nat} (r : LRows H qs f i n) (s : Same H H') : LRows H' qs f i n := ⟨r.len, fun j q h => s _ _ (r.row j q h)⟩
/-! ### the law's own rows of unlike ones -/
/-! [f(store) for turn in range(m)] -/
/-! ### more steps -/
section
variable {K : Fg} {D : Ends} {σ : L2.St} {H : Hp} {Q : VK} {R : L2.St → Hp → Prop}
theorem g_pair {i j : Nat} {T : Addr} {x y : V} (h : R ((σ.set i (some x)).set j (some y)) (upd H T (.tup [x, y]))) : gTup K 2 (gCons (gName i) (gCons (gName j) gNil)) (.ref T) σ (upd H T (.tup [x, y])) R :=
  ⟨T, _, rfl, st_of upd_same, rfl, x, [y], rfl, y, [], rfl, rfl, h⟩
end
/-! ### how many unlike sums -/
/-! ### the fewest parts -/
/-! ### the first of unlike ones -/
def firstP (P : Nat → Bool) : Nat → Option Nat
  | 0 => none
  | t + 1 => match firstP P t with
    | some a => some a
    | none => if P t then some t else none
theorem firstP_some {P : Nat → Bool} : ∀ {t a : Nat}, firstP P t = some a → a < t ∧ P a = true ∧ ∀ j < a, P j = false
  | 0, _, h => by cases h
  | t + 1, a, h => by
    unfold firstP at h
    cases e : firstP P t with
    | some b =>
      rw [e] at h
      cases h
      obtain ⟨h1, h2, h3⟩ := firstP_some e
      exact ⟨by omega, h2, h3⟩
    | none =>
      rw [e] at h
      by_cases z : P t = true
      · simp only [z, if_true, Option.some.injEq] at h
        subst h
        refine ⟨by omega, z, fun j hj => ?_⟩
        exact firstP_none e j hj
      · simp only [z] at h
        cases h
where
  firstP_none {P : Nat → Bool} : ∀ {t : Nat}, firstP P t = none → ∀ j < t, P j = false
    | 0, _, j, hj => absurd hj (Nat.not_lt_zero _)
    | t + 1, h, j, hj => by
      unfold firstP at h
      cases e : firstP P t with
      | some b => rw [e] at h; cases h
      | none =>
        rw [e] at h
        by_cases z : P t = true
        · simp [z] at h
        · by_cases y : j = t
          · subst y; simpa using z
          · exact firstP_none e j (by omega)
theorem firstP_is {P : Nat → Bool} {t a : Nat} (h1 : a < t) (h2 : P a = true) (h3 : ∀ j < a, P j = false) : firstP P t = some a := by
  cases e : firstP P t with
  | none =>
    have := firstP_some.firstP_none e a h1
    rw [h2] at this; cases this
  | some b =>
    obtain ⟨g1, g2, g3⟩ := firstP_some e
    by_cases z : a < b
    · have := g3 a z; rw [h2] at this; cases this
    · by_cases y : b < a
      · have := h3 b y; rw [g2] at this; cases this
      · rw [show a = b by omega]
theorem LRows.at {H : Hp} {qs : List Addr} {f : Nat → Nat → V} {i n j : Nat} {jv : Int} (r : LRows H qs f i n) (e : jv = (j : Int)) (hj : j ≤ i) : ∃ q, atI (qs.map V.ref) jv = some (.ref q) ∧ H q = some (.lst (tab (n + 1) (f j))) := by
  have h : j < qs.length := by have := r.len; omega
  refine ⟨qs[j], at_nat e ?_, r.row j _ (List.getElem?_eq_getElem h)⟩
  rw [List.getElem?_map, List.getElem?_eq_getElem h]; rfl
/-! ### a list of draws -/
/-! ### levels of the fewest -/
/-! ### which need so many -/
/-! ### places -/
theorem dots_zero {v : V} (hv : IsKd v) : dotsV v 0 = 0 := by
  rcases hv with ⟨s, rfl, h1, h2⟩ | rfl
  · show 0 + (s - 2) * (0 * (0 - 1) / 2) = 0
    rw [show (0 * (0 - 1) / 2 : Int) = 0 by decide]; omega
  · rfl
theorem dots_mon {v : V} (hv : IsKd v) {i j : Int} (h1 : 0 ≤ i) (h2 : i ≤ j) : dotsV v i + (j - i) ≤ dotsV v j := by
  by_cases z : i = 0
  · subst z
    rw [dots_zero hv]
    by_cases y : j = 0
    · subst y; rw [dots_zero hv]; omega
    · have := dots_ge hv (k := j) (by omega); omega
  · exact dots_le hv (by omega) h2
structure IsPl (v : V) (n k : Int) : Prop where
  one : 1 ≤ k
  up : n ≤ dotsV v k
  lo : dotsV v (k - 1) < n
theorem IsPl.uniq {v : V} (hv : IsKd v) {n k j : Int} (a : IsPl v n k) (b : IsPl v n j) : k = j := by
  have a1 := a.one
  have b1 := b.one
  have a2 := a.up
  have b2 := b.up
  have a3 := a.lo
  have b3 := b.lo
  by_cases z : k < j
  · have := dots_mon hv (i := k) (j := j - 1) (by omega) (by omega)
    omega
  · by_cases y : j < k
    · have := dots_mon hv (i := j) (j := k - 1) (by omega) (by omega)
      omega
    · omega
theorem IsPl.of {v : V} (hv : IsKd v) {n k : Int} (h1 : 1 ≤ k) (e : dotsV v k = n) : IsPl v n k := by
  refine ⟨h1, by omega, ?_⟩
  have := dots_mon hv (i := k - 1) (j := k) (by omega) (by omega)
  omega
def plV (v : V) (n k : Int) : V := if dotsV v k = n then .int k else .non
theorem plV_opt {v : V} {n k : Int} : ∃ o, plV v n k = optV o := by
  unfold plV
  split
  · exact ⟨some k, rfl⟩
  · exact ⟨none, rfl⟩
section
variable {G : Gx} {H : Hp} {Q : VK} {E : XK}
theorem u_place_in {v : V} {n : Int} (hv : IsKd v) (h0 : 1 ≤ n) (h1 : n < 2 ^ 90) (h : ∀ k, IsPl v n k → Q (plV v n k) H) : sp_place_in G [v, .int n] H Q E := by
  refine ⟨rfl, ?_⟩
  unfold t_place_in
  wtm_at "w"
  refine u_need_kind hv ?_
  wtm_at "w"
  refine u_need_from h0 ?_
  wtm_at "w"
  refine i_while (fun m σ H' => ∃ low high : Int, σ = [some v, some (.int n), some (.int low), some (.int high), none] ∧ H' = H ∧ m = (2 * n - high).toNat ∧ 0 ≤ low ∧ low < high ∧ high ≤ 2 * n ∧ dotsV v low < n) (2 * n - 1).toNat ⟨0, 1, rfl, rfl, rfl, by omega, by omega, by omega, by rw [dots_zero hv]; omega⟩ ?_
  rintro m σ H' ⟨low, high, rfl, rfl, rfl, l0, lh, hn, dl⟩
  wtm_at "w"
  refine u_dots hv (by omega) (by omega) ?_
  wtm_at "w"
  refine i_ite (fun hlt => ?_) (fun hge => ?_)
  · refine i_turn ?_
    wtm_at "w"
    have := dots_ge hv (k := high) (by omega)
    exact ⟨(2 * n - 2 * high).toNat, by omega, high, 2 * high, rfl, rfl, rfl, by omega, by omega, by omega, hlt⟩
  · wtm_at "w"
    refine i_while (fun m σ H'' => ∃ (low high : Int) (y4 : Option V), σ = [some v, some (.int n), some (.int low), some (.int high), y4] ∧ H'' = H' ∧ m = (high - low).toNat ∧ 0 ≤ low ∧ low < high ∧ high ≤ 2 * n ∧ dotsV v low < n ∧ n ≤ dotsV v high) (high - low).toNat ⟨low, high, _, rfl, rfl, rfl, l0, lh, hn, dl, by omega⟩ ?_
    rintro m σ H'' ⟨low, high, y4, rfl, rfl, rfl, l0, lh, hn, dl, dh⟩
    wtm_at "w"
    refine i_ite (fun hgt => ?_) (fun hle => ?_)
    · refine i_turn ?_
      wtm_at "w"
      refine u_dots hv (by omega) (by omega) ?_
      wtm_at "w"
      refine i_ite (fun hlt => ?_) (fun hge => ?_)
      · wtm_at "w"
        exact ⟨(high - (low + high) / 2).toNat, by omega, (low + high) / 2, high, _, rfl, rfl, rfl, by omega, by omega, by omega, hlt, dh⟩
      · wtm_at "w"
        exact ⟨((low + high) / 2 - low).toNat, by omega, low, (low + high) / 2, _, rfl, rfl, rfl, by omega, by omega, by omega, dl, by omega⟩
    · wtm_at "w"
      refine u_dots hv (by omega) (by omega) ?_
      wtm_at "w"
      have hpl : IsPl v n high := ⟨by omega, dh, by rw [show high - 1 = low by omega]; exact dl⟩
      have hh := h high hpl
      unfold plV at hh
      refine i_ite (fun he => ?_) (fun he => ?_)
      · wtm_at "w"
        rw [if_pos he] at hh
        exact hh
      · wtm_at "w"
        rw [if_neg he] at hh
        exact hh
theorem u_law_at {v : V} {k : Int} (hv : IsKd v) (h0 : 0 ≤ k) (h1 : k < 2 ^ 100) (h : Q (.int (dotsV v k)) H) : sp_law_at G [v, .int k] H Q E :=
  show sp_law_due G [v, .int k] H Q E from u_law_due hv h0 h1 h
theorem dots_great {v : V} (hv : IsKd v) : (10 : Int) ^ 27 ≤ dotsV v (10 ^ 18) := by
  rcases hv with ⟨s, rfl, h1, h2⟩ | rfl
  · show _ ≤ (10 ^ 18 : Int) + (s - 2) * (10 ^ 18 * (10 ^ 18 - 1) / 2)
    have e : ((10 ^ 18 * (10 ^ 18 - 1) / 2 : Int)) = 499999999999999999500000000000000000 := by decide
    rw [e]; omega
  · show _ ≤ (10 ^ 18 : Int) * 10 ^ 18 * 10 ^ 18
    decide
theorem u_law_due_v2 {v : V} {n : Int} (hv : IsKd v) (h0 : 1 ≤ n) (h1 : n < 2 ^ 89) (h : ∀ k H', Same H H' → IsPl v n k → Q (plV v n k) H') : sp_law_due_v2 G [v, .int n] H Q E := by
  refine ⟨rfl, ?_⟩
  unfold t_law_due_v2
  wtm_at "w"
  rw [show ((10 : Int) ^ (13 : Int).toNat * 10 ^ (5 : Int).toNat) = 10 ^ 18 by decide]
  have hg := dots_great hv
  refine i_while (fun m σ H'' => ∃ (low high : Int) (y4 : Option V), σ = [some v, some (.int n), some (.int low), some (.int high), y4] ∧ H'' = H ∧ m = (high - low).toNat ∧ 0 ≤ low ∧ low < high ∧ high ≤ 10 ^ 18 ∧ dotsV v low < n ∧ n ≤ dotsV v high) (10 ^ 18) ⟨0, 10 ^ 18, _, rfl, rfl, by decide, by omega, by omega, by omega, by rw [dots_zero hv]; omega, by omega⟩ ?_
  rintro m σ H'' ⟨low, high, y4, rfl, rfl, rfl, l0, lh, hn, dl, dh⟩
  wtm_at "w"
  refine i_ite (fun hgt => ?_) (fun hle => ?_)
  · refine i_turn ?_
    wtm_at "w"
    refine u_law_at hv (by omega) (by omega) ?_
    wtm_at "w"
    refine i_ite (fun hge => ?_) (fun hlt => ?_)
    · wtm_at "w"
      exact ⟨((low + high) / 2 - low).toNat, by omega, low, (low + high) / 2, _, rfl, rfl, rfl, by omega, by omega, by omega, dl, hge⟩
    · wtm_at "w"
      exact ⟨(high - (low + high) / 2).toNat, by omega, (low + high) / 2, high, _, rfl, rfl, rfl, by omega, by omega, by omega, by omega, dh⟩
  · wtm_at "w"
    refine i_new (by simp) fun p np => ?_
    wtm_at "w"
    refine u_law_at hv (by omega) (by omega) ?_
    wtm_at "w"
    have hpl : IsPl v n high := ⟨by omega, dh, by rw [show high - 1 = low by omega]; exact dl⟩
    have hh := h high (upd H'' p (.lst [.non, .int high])) (same_new np) hpl
    unfold plV at hh
    by_cases he : dotsV v high = n
    · rw [if_pos he] at hh
      rw [decide_eq_true he]
      exact i_ixL (sq_of upd_same) rfl hh
    · rw [if_neg he] at hh
      rw [decide_eq_false he]
      exact i_ixL (sq_of upd_same) rfl hh
theorem u_law_right {v : V} {n : Int} (hv : IsKd v) (h0 : 1 ≤ n) (h1 : n < 2 ^ 89) (h : ∀ H', Same H H' → Q (.bl true) H') : sp_law_right G [v, .int n] H Q E := by
  refine ⟨rfl, ?_⟩
  unfold t_law_right
  wtm_at "w"
  refine u_law_due_v2 hv h0 h1 fun k H1 s1 pk => ?_
  wtm_at "w"
  refine i_rngA1 (by decide) ?_
  refine lk_range (fun i σ H' => ∃ y3 y4, σ = [some v, some (.int n), some (plV v n k), y3, y4] ∧ H' = H1) ⟨_, _, rfl, rfl⟩ ?_ ?_
  · rintro i σ H2 hi ⟨y3, y4, rfl, rfl⟩
    wtm_at "w"
    refine u_place_in hv h0 (by omega) fun k2 pk2 => ?_
    rw [pk2.uniq hv pk]
    wtm_at "wa"
    unfold plV
    by_cases he : dotsV v k = n
    · rw [if_pos he]
      refine i_neI ?_
      wtm_at "wa"
      refine i_F (by simp) ?_
      wtm_at "wa"
      exact ⟨_, _, rfl, rfl⟩
    · rw [if_neg he]
      refine i_neNN ?_
      wtm_at "wa"
      exact ⟨_, _, rfl, rfl⟩
  · rintro σ H2 ⟨y3, y4, rfl, rfl⟩
    wtm_at "w"
    exact h _ s1
end
theorem given_firstG {P : Nat → Bool} {g : Nat → V} : ∀ (t : Nat), (given (fun k => if P k then some (g k) else none) t)[0]? = (firstP P t).map g
  | 0 => rfl
  | t + 1 => by
    have ih := given_firstG (P := P) (g := g) t
    show (given _ t ++ (match (if P t then some (g t) else none) with | some y => [y] | none => []))[0]? = _
    unfold firstP
    cases e : firstP P t with
    | some b =>
      rw [e] at ih
      have hl : 0 < (given (fun k => if P k then some (g k) else none) t).length := by
        by_cases z : 0 < (given (fun k => if P k then some (g k) else none) t).length
        · exact z
        · rw [List.getElem?_eq_none (by omega)] at ih; cases ih
      rw [List.getElem?_append_left hl, ih]
    | none =>
      rw [e] at ih
      have hl : given (fun k => if P k then some (g k) else none) t = [] := by
        cases z : given (fun k => if P k then some (g k) else none) t with
        | nil => rfl
        | cons x r => rw [z] at ih; cases ih
      rw [hl]
      by_cases z : P t = true <;> simp [z]
theorem head_or {xs : List V} {o : Option V} {d : V} (h : xs[0]? = o) : (xs ++ [d])[0]? = some (o.getD d) := by
  cases xs with
  | nil => subst h; rfl
  | cons x r => subst h; rfl
section
variable {G : Gx} {H : Hp} {Q : VK} {E : XK}
theorem law_k03_ok {a : Addr} {ns : List Int} (hs : SqL G.K H a (ns.map V.int)) (hl : ns.length ≤ 63) (hq : ∀ H', Q (.bl true) H') : sp_law_k03 G [.ref a] H Q E := by
  refine ⟨rfl, ?_⟩
  unfold t_law_k03
  wtm_at "w"
  refine u_law_deck hs hl fun d pl ps H1 s1 i1 => ?_
  wtm_at "w"
  refine i_new (by simp) fun q hq0 => ?_
  wtm_at "w"
  have nq : ¬ (deckW d pl ps).R q := Wd.notR (W := deckW d pl ps) i1 hq0
  have i2 : (deckW d pl ps).I (upd H1 q (.lst kinds11)) := (deckW d pl ps).sm _ _ i1 (same_new hq0)
  have e2 : At (deckW d pl ps) (upd H1 q (.lst kinds11)) q (.lst kinds11) := ⟨upd_same, nq⟩
  show LstA _ _ (upd H1 q (.lst kinds11)) _
  generalize upd H1 q (.lst kinds11) = H2 at i2 e2 ⊢
  refine i_lstA (sq_of e2.h) ?_
  refine lk_list (xs := kinds11) (fun i σ H' => ∃ y2 y3 y4 y5 y6 y7 y8 y9 y10 y11 y12, σ = [some (.ref a), some (.ref d), y2, y3, y4, y5, y6, y7, y8, y9, y10, y11, y12] ∧ Kp (deckW d pl ps) H2 H') ⟨_, _, _, _, _, _, _, _, _, _, _, rfl, Kp.refl i2⟩ (fun i σ H' _ ⟨_, _, _, _, _, _, _, _, _, _, _, _, k⟩ => sq_of (k.at e2).h) ?_ ?_
  · rintro i v σ H3 hi ⟨y2, y3, y4, y5, y6, y7, y8, y9, y10, y11, y12, rfl, k3⟩
    have hv : IsKd v := kinds11_kd (List.mem_of_getElem? hi)
    wtm_at "w"
    refine u_law_dots hv (by decide) (by decide) fun l N H4 s4 nl el hle hgt => ?_
    have k4 : Kp (deckW d pl ps) H2 H4 := k3.same s4
    have hc := dots_cnt hv hle (by decide)
    wtm_at "w"
    refine i_rngA2 (by decide) ?_
    refine lk_range (fun i σ H' => ∃ y4, σ = [some (.ref a), some (.ref d), some v, some (.ref l), y4, y5, y6, y7, y8, y9, y10, y11, y12] ∧ Same H4 H') ⟨_, rfl, fun _ _ z => z⟩ ?_ ?_
    · rintro j σ H5 hj ⟨y4, rfl, s5⟩
      have hj' : j < 120 := hj
      wtm_at "w"
      refine u_place_in hv (by omega) (by omega) fun k pk => ?_
      wtm_at "w"
      refine i_enumA (sq_of (s5 _ _ el)) ?_
      refine lck_pure walk_enum (by rw [List.length_map, dotsN_len]; omega) (fun t => if decide (dotsV v ((t : Int) + 1) = 1 + (j : Int)) then some (.int ((t : Int) + 1)) else none) (fun H' s => sq_of (s _ _ (s5 _ _ el))) (fun t x H6 H7 KK NN ht s y hK hN => ?_) (fun p H6 np s6 e6 => ?_)
      · obtain ⟨T, x1, x2, rfl, nT, rfl, h1', h2'⟩ := y
        cases h1'
        rw [List.length_map, dotsN_len] at ht
        have h3 : ((dotsN v N).map V.int)[t]? = some x2 := h2'
        rw [List.getElem?_map, dotsN_get ht] at h3
        cases h3
        refine g_pair ?_
        refine ⟨rfl, ?_⟩
        wtm_at "w"
        refine i_ite (fun hz => ?_) (fun hz => ?_)
        · wtm_at "w"
          exact hK _ _ (by simp [hz]) (same_new nT)
        · exact hN _ (by simp [hz]) (same_new nT)
      · rw [List.length_map, dotsN_len] at e6
        have hf := given_firstG (P := fun t => decide (dotsV v ((t : Int) + 1) = 1 + (j : Int))) (g := fun t => V.int ((t : Int) + 1)) N
        have gl := given_len (fun t => if decide (dotsV v ((t : Int) + 1) = 1 + (j : Int)) then some (.int ((t : Int) + 1)) else none) N
        wtm_at "w"
        refine i_new (by simp) fun p7 n7 => ?_
        refine i_addL (upd_old n7 e6) upd_same (sz_le (by rw [List.length_singleton]; omega)) fun p8 n8 => ?_
        wtm_at "w"
        refine i_ixL (sq_of upd_same) (at_nat (n := 0) rfl (head_or hf)) ?_
        have ev : ((firstP (fun t => decide (dotsV v ((t : Int) + 1) = 1 + (j : Int))) N).map fun (t : Nat) => V.int ((t : Int) + 1)).getD .non = plV v (1 + (j : Int)) k := by
          have k1 := pk.one
          unfold plV
          by_cases he : dotsV v k = 1 + (j : Int)
          · rw [if_pos he]
            have hkN : k ≤ N := by
              by_cases z : k ≤ N
              · exact z
              · have := dots_mon hv (i := (N : Int) + 1) (j := k) (by omega) (by omega)
                omega
            rw [firstP_is (a := (k - 1).toNat) (by omega) (by rw [decide_eq_true]; rw [show (((k - 1).toNat : Nat) : Int) + 1 = k by omega]; exact he) (fun t ht => by
              rw [decide_eq_false]
              intro z
              have := (IsPl.of hv (by omega) z).uniq hv (IsPl.of hv k1 he)
              omega)]
            show V.int (((k - 1).toNat : Int) + 1) = _
            rw [show (((k - 1).toNat : Nat) : Int) + 1 = k by omega]
          · rw [if_neg he]
            cases e : firstP (fun t => decide (dotsV v ((t : Int) + 1) = 1 + (j : Int))) N with
            | none => rfl
            | some t =>
              obtain ⟨_, z, _⟩ := firstP_some e
              have z' := of_decide_eq_true z
              rw [(IsPl.of hv (by omega) z').uniq hv pk] at z'
              exact absurd z' he
        rw [ev]
        obtain ⟨o, eo⟩ := plV_opt (v := v) (n := 1 + (j : Int)) (k := k)
        rw [eo]
        refine i_neO ?_
        wtm_at "w"
        exact ⟨_, rfl, ((s5.trans s6).trans (same_new n7)).trans (same_new n8)⟩
    · rintro σ H5 ⟨y4, rfl, s5⟩
      have k5 := k4.same s5
      wtm_at "w"
      refine i_rngA1 (by decide) ?_
      refine lk_range (fun i σ H' => ∃ y4 y5 y6 y7 y8 y9 y10 y11 y12, σ = [some (.ref a), some (.ref d), some v, some (.ref l), y4, y5, y6, y7, y8, y9, y10, y11, y12] ∧ Kp (deckW d pl ps) H2 H') ⟨_, _, _, _, _, _, _, _, _, rfl, k5⟩ ?_ ?_
      · rintro j σ H6 hj ⟨y4, y5, y6, y7, y8, y9, y10, y11, y12, rfl, k6⟩
        wtm_at "w"
        refine u_law_draw k6.i (by decide) (by decide) fun r1 H7 b1 b2 k7 => ?_
        wtm_at "w"
        refine u_law_draw k7.i (by decide) (by decide) fun r2 H8 b3 b4 k8 => ?_
        wtm_at "w"
        refine u_law_draw k8.i (by decide) (by decide) fun r3 H9 b5 b6 k9 => ?_
        wtm_at "w"
        generalize hfar : r1 * 10 ^ (17 : Int).toNat + r2 * 10 ^ (8 : Int).toNat + r3 = far
        refine i_new (by simp) fun p10 n10 => ?_
        have k10 := (((k6.trans k7).trans k8).trans k9).new (o := .lst [.int (10 ^ (12 : Int).toNat), .int (10 ^ (8 : Int).toNat)]) n10
        have e10 : (upd H9 p10 (.lst [.int (10 ^ (12 : Int).toNat), .int (10 ^ (8 : Int).toNat)])) p10 = some (.lst [.int (10 ^ (12 : Int).toNat), .int (10 ^ (8 : Int).toNat)]) := upd_same
        generalize upd H9 p10 (.lst [.int (10 ^ (12 : Int).toNat), .int (10 ^ (8 : Int).toNat)]) = H10 at k10 e10 ⊢
        have goal : ∀ great : Int, (∀ k : Int, 1 ≤ k → k ≤ great → dotsV v k ≤ 10 ^ 26) → 0 < great → great ≤ 10 ^ 12 → ∀ y7' y8' y9' y10' : Option V, True := fun _ _ _ _ _ _ _ _ => trivial
        obtain ⟨great, g1, g2, g3, gix⟩ : ∃ great : Int, 0 < great ∧ great ≤ 10 ^ 12 ∧ dotsV v great ≤ 10 ^ 26 ∧ ∀ (Q : VK), Q (.int great) H10 → uEq G.K v (.str "cubes") H10 (fun x H' => uInt [x] H' fun y H'' => uIx G.K (.ref p10) y H'' Q) := by
          rcases hv with ⟨sd, rfl, h2, h3⟩ | rfl
          · refine ⟨10 ^ 12, by decide, by decide, ?_, fun Q h => ?_⟩
            · show (10 ^ 12 : Int) + (sd - 2) * (10 ^ 12 * (10 ^ 12 - 1) / 2) ≤ _
              rw [show ((10 ^ 12 * (10 ^ 12 - 1) / 2 : Int)) = 499999999999500000000000 by decide]; omega
            · refine i_eqIS ?_
              refine i_intB ?_
              exact i_ixL (sq_of e10) rfl h
          · refine ⟨10 ^ 8, by decide, by decide, by decide, fun Q h => ?_⟩
            refine i_eqS ?_
            rw [decide_eq_true rfl]
            refine i_intB ?_
            exact i_ixL (sq_of e10) rfl h
        wtm_at "w"
        refine gix _ ?_
        wtm_at "w"
        refine i_new (by simp) fun p11 n11 => ?_
        have k11 := k10.new (o := .lst [.int 60, .int (10 ^ (4 : Int).toNat), .int (10 ^ (8 : Int).toNat), .int great]) n11
        have e11 : At (deckW d pl ps) (upd H10 p11 (.lst [.int 60, .int (10 ^ (4 : Int).toNat), .int (10 ^ (8 : Int).toNat), .int great])) p11 (.lst [.int 60, .int (10 ^ (4 : Int).toNat), .int (10 ^ (8 : Int).toNat), .int great]) := At.new k10.i n11
        generalize upd H10 p11 (.lst [.int 60, .int (10 ^ (4 : Int).toNat), .int (10 ^ (8 : Int).toNat), .int great]) = H11 at k11 e11 ⊢
        wtm_at "w"
        refine u_law_draw k11.i (by decide) (by decide) fun r4 H12 b7 b8 k12 => ?_
        have hgm : 10 ^ 8 ≤ great ∨ True := .inr trivial
        obtain ⟨m, em, hm1, hm2⟩ : ∃ m : Int, atI [V.int 60, .int (10 ^ (4 : Int).toNat), .int (10 ^ (8 : Int).toNat), .int great] r4 = some (.int m) ∧ 0 < m ∧ ∀ k, 1 ≤ k → k ≤ m → dotsV v k ≤ 10 ^ 26 := by
          have d8 : dotsV v (10 ^ 8) ≤ 10 ^ 26 := by
            rcases hv with ⟨sd, rfl, h2, h3⟩ | rfl
            · show (10 ^ 8 : Int) + (sd - 2) * (10 ^ 8 * (10 ^ 8 - 1) / 2) ≤ _
              rw [show ((10 ^ 8 * (10 ^ 8 - 1) / 2 : Int)) = 4999999950000000 by decide]; omega
            · decide
          have low : ∀ m : Int, m ≤ 10 ^ 8 → ∀ k, 1 ≤ k → k ≤ m → dotsV v k ≤ 10 ^ 26 := fun m hm k h1 h2 => by
            have := dots_mon hv (i := k) (j := 10 ^ 8) (by omega) (by omega)
            omega
          have hr : r4 = 0 ∨ r4 = 1 ∨ r4 = 2 ∨ r4 = 3 := by omega
          rcases hr with rfl | rfl | rfl | rfl
          · exact ⟨_, rfl, by decide, low _ (by decide)⟩
          · exact ⟨_, rfl, by decide, low _ (by decide)⟩
          · exact ⟨_, rfl, by decide, low _ (by decide)⟩
          · exact ⟨_, rfl, g1, fun k h1 h2 => by
              have := dots_mon hv (i := k) (j := great) (by omega) (by omega)
              omega⟩
        refine i_ixL (sq_of (k12.at e11).h) em ?_
        refine i_mod hm1 ?_
        wtm_at "w"
        generalize hkk : 1 + far % m = kk
        have hk1 : 1 ≤ kk := by have := Int.emod_nonneg far (show m ≠ 0 by omega); omega
        have hk2 : dotsV v kk ≤ 10 ^ 26 := hm2 kk hk1 (by have := Int.emod_lt_of_pos far hm1; omega)
        have hk3 : kk ≤ dotsV v kk := dots_ge hv hk1
        refine u_law_draw k12.i (by decide) (by decide) fun r5 H13 b9 b10 k13 => ?_
        wtm_at "w"
        refine i_new (by simp) fun p14 n14 => ?_
        have k14 := ((k11.trans k12).trans k13).new (o := .lst [.int 0, .int 0, .int 1, .int (-1), .int (r5 - 30)]) n14
        have e14 : At (deckW d pl ps) (upd H13 p14 (.lst [.int 0, .int 0, .int 1, .int (-1), .int (r5 - 30)])) p14 (.lst [.int 0, .int 0, .int 1, .int (-1), .int (r5 - 30)]) := At.new k13.i n14
        generalize upd H13 p14 (.lst [.int 0, .int 0, .int 1, .int (-1), .int (r5 - 30)]) = H14 at k14 e14 ⊢
        wtm_at "w"
        refine u_law_draw k14.i (by decide) (by decide) fun r6 H15 b11 b12 k15 => ?_
        obtain ⟨more, emo, hmo⟩ : ∃ more : Int, atI [V.int 0, .int 0, .int 1, .int (-1), .int (r5 - 30)] r6 = some (.int more) ∧ more ≤ 100 := by
          have hr : r6 = 0 ∨ r6 = 1 ∨ r6 = 2 ∨ r6 = 3 ∨ r6 = 4 := by omega
          rcases hr with rfl | rfl | rfl | rfl | rfl
          · exact ⟨_, rfl, by decide⟩
          · exact ⟨_, rfl, by decide⟩
          · exact ⟨_, rfl, by decide⟩
          · exact ⟨_, rfl, by decide⟩
          · exact ⟨_, rfl, by omega⟩
        refine i_ixL (sq_of (k15.at e14).h) emo ?_
        wtm_at "w"
        refine u_law_at hv (by omega) (by omega) ?_
        wtm_at "w"
        refine u_law_at hv (by omega) (by omega) ?_
        wtm_at "w"
        generalize hf1 : 1 + far % (10 ^ (26 : Int).toNat - 1) = f1
        have hf1b : f1 ≤ 10 ^ 26 := by
          have h26 : ((10 : Int) ^ (26 : Int).toNat) = 10 ^ 26 := rfl
          rw [h26] at hf1
          omega
        generalize hf2 : 1 + far % 10 ^ (6 : Int).toNat = f2
        have hf2b : f2 ≤ 10 ^ 26 := by
          have h6 : ((10 : Int) ^ (6 : Int).toNat) = 10 ^ 6 := rfl
          rw [h6] at hf2
          omega
        refine i_new (by simp) fun p16 n16 => ?_
        have k16 := (k14.trans k15).new (o := .lst [.int (dotsV v kk), .int (dotsV v kk + more), .int f1, .int f2]) n16
        have e16 : At (deckW d pl ps) (upd H15 p16 (.lst [.int (dotsV v kk), .int (dotsV v kk + more), .int f1, .int f2])) p16 (.lst [.int (dotsV v kk), .int (dotsV v kk + more), .int f1, .int f2]) := At.new k15.i n16
        generalize upd H15 p16 (.lst [.int (dotsV v kk), .int (dotsV v kk + more), .int f1, .int f2]) = H16 at k16 e16 ⊢
        wtm_at "w"
        refine u_law_draw k16.i (by decide) (by decide) fun r7 H17 b13 b14 k17 => ?_
        obtain ⟨n, en, hn⟩ : ∃ n : Int, atI [V.int (dotsV v kk), .int (dotsV v kk + more), .int f1, .int f2] r7 = some (.int n) ∧ n ≤ 10 ^ 26 + 100 := by
          have hr : r7 = 0 ∨ r7 = 1 ∨ r7 = 2 ∨ r7 = 3 := by omega
          rcases hr with rfl | rfl | rfl | rfl
          · exact ⟨_, rfl, by omega⟩
          · exact ⟨_, rfl, by omega⟩
          · exact ⟨_, rfl, by omega⟩
          · exact ⟨_, rfl, by omega⟩
        refine i_ixL (sq_of (k17.at e16).h) en ?_
        wtm_at "w"
        refine u_law_right hv (by split <;> omega) (by split <;> omega) fun H18 s18 => ?_
        wtm_at "w"
        exact ⟨_, _, _, _, _, _, _, _, _, rfl, (k16.trans k17).same s18⟩
      · rintro σ H6 ⟨y4, y5, y6, y7, y8, y9, y10, y11, y12, rfl, k6⟩
        exact ⟨_, _, _, _, _, _, _, _, _, _, _, rfl, k6⟩
  · rintro σ H3 ⟨y2, y3, y4, y5, y6, y7, y8, y9, y10, y11, y12, rfl, k3⟩
    wtm_at "w"
    exact hq _
end
/-! ### the text of the row -/
def topS (i : Nat) : Stmt := PySem.Challenge.pw_fewshapes_k03_places_of_numbers.main.body.getD i (.Pass ⟨0, 0, 0, 0⟩)
abbrev s_is_whole : Stmt := topS 8
theorem sc_is_whole : FnScope ["thing"] ["thing"] (defScope s_is_whole) := ⟨rfl, rfl, rfl, by decide +kernel, rfl, by decide +kernel, by decide +kernel⟩
abbrev s_is_kind : Stmt := topS 9
theorem sc_is_kind : FnScope ["thing"] ["thing"] (defScope s_is_kind) := ⟨rfl, rfl, rfl, by decide +kernel, rfl, by decide +kernel, by decide +kernel⟩
abbrev s_need_kind : Stmt := topS 10
theorem sc_need_kind : FnScope ["thing"] ["thing"] (defScope s_need_kind) := ⟨rfl, rfl, rfl, by decide +kernel, rfl, by decide +kernel, by decide +kernel⟩
abbrev s_need_from : Stmt := topS 11
theorem sc_need_from : FnScope ["thing", "least"] ["thing", "least"] (defScope s_need_from) := ⟨rfl, rfl, rfl, by decide +kernel, rfl, by decide +kernel, by decide +kernel⟩
abbrev s_dots : Stmt := topS 12
theorem sc_dots : FnScope ["kind", "k"] ["kind", "k"] (defScope s_dots) := ⟨rfl, rfl, rfl, by decide +kernel, rfl, by decide +kernel, by decide +kernel⟩
abbrev s_place_in : Stmt := topS 13
theorem sc_place_in : FnScope ["kind", "n", "low", "high", "between"] ["kind", "n"] (defScope s_place_in) := ⟨rfl, rfl, rfl, by decide +kernel, rfl, by decide +kernel, by decide +kernel⟩
abbrev s_law_deck : Stmt := topS 15
theorem sc_law_deck : FnScope ["script", "pools", "k", "cell"] ["script"] (defScope s_law_deck) := ⟨rfl, rfl, rfl, by decide +kernel, rfl, by decide +kernel, by decide +kernel⟩
abbrev s_law_draw : Stmt := topS 16
theorem sc_law_draw : FnScope ["deck", "many", "pool", "found", "number"] ["deck", "many"] (defScope s_law_draw) := ⟨rfl, rfl, rfl, by decide +kernel, rfl, by decide +kernel, by decide +kernel⟩
abbrev s_law_dots : Stmt := topS 17
theorem sc_law_dots : FnScope ["kind", "most", "found", "k", "number", "more"] ["kind", "most"] (defScope s_law_dots) := ⟨rfl, rfl, rfl, by decide +kernel, rfl, by decide +kernel, by decide +kernel⟩
abbrev s_law_at : Stmt := topS 18
theorem sc_law_at : FnScope ["kind", "k", "triangle"] ["kind", "k"] (defScope s_law_at) := ⟨rfl, rfl, rfl, by decide +kernel, rfl, by decide +kernel, by decide +kernel⟩
abbrev s_law_due_v2 : Stmt := topS 19
theorem sc_law_due_v2 : FnScope ["kind", "n", "low", "high", "middle"] ["kind", "n"] (defScope s_law_due_v2) := ⟨rfl, rfl, rfl, by decide +kernel, rfl, by decide +kernel, by decide +kernel⟩
abbrev s_law_right : Stmt := topS 20
theorem sc_law_right : FnScope ["kind", "n", "due", "again", "found"] ["kind", "n"] (defScope s_law_right) := ⟨rfl, rfl, rfl, by decide +kernel, rfl, by decide +kernel, by decide +kernel⟩
abbrev s_law_k03 : Stmt := topS 21
theorem sc_law_k03 : FnScope ["script", "deck", "kind", "small", "n", "turn", "far", "great", "k", "more", "some", "at", "one"] ["script"] (defScope s_law_k03) := ⟨rfl, rfl, rfl, by decide +kernel, rfl, by decide +kernel, by decide +kernel⟩
/-- what the top has left -/
structure Txt (G : Gx) (mg : Str → Option Value) where
  a_is_whole : Addr
  d_is_whole : FuncData
  F_is_whole : Fun G.K "is_whole" "is_whole" s_is_whole a_is_whole d_is_whole
  b_is_whole : Binds G.K d_is_whole ["thing"] []
  g_is_whole : mg "is_whole" = some (.ref a_is_whole)
  a_is_kind : Addr
  d_is_kind : FuncData
  F_is_kind : Fun G.K "is_kind" "is_kind" s_is_kind a_is_kind d_is_kind
  b_is_kind : Binds G.K d_is_kind ["thing"] []
  g_is_kind : mg "is_kind" = some (.ref a_is_kind)
  a_need_kind : Addr
  d_need_kind : FuncData
  F_need_kind : Fun G.K "need_kind" "need_kind" s_need_kind a_need_kind d_need_kind
  b_need_kind : Binds G.K d_need_kind ["thing"] []
  g_need_kind : mg "need_kind" = some (.ref a_need_kind)
  a_need_from : Addr
  d_need_from : FuncData
  F_need_from : Fun G.K "need_from" "need_from" s_need_from a_need_from d_need_from
  b_need_from : Binds G.K d_need_from ["thing", "least"] []
  g_need_from : mg "need_from" = some (.ref a_need_from)
  a_dots : Addr
  d_dots : FuncData
  F_dots : Fun G.K "dots" "dots" s_dots a_dots d_dots
  b_dots : Binds G.K d_dots ["kind", "k"] []
  g_dots : mg "dots" = some (.ref a_dots)
  a_place_in : Addr
  d_place_in : FuncData
  F_place_in : Fun G.K "place_in" "place_in" s_place_in a_place_in d_place_in
  b_place_in : Binds G.K d_place_in ["kind", "n"] []
  g_place_in : mg "place_in" = some (.ref a_place_in)
  a_law_deck : Addr
  d_law_deck : FuncData
  F_law_deck : Fun G.K "_law_deck" "_law_deck" s_law_deck a_law_deck d_law_deck
  b_law_deck : Binds G.K d_law_deck ["script"] []
  g_law_deck : mg "_law_deck" = some (.ref a_law_deck)
  a_law_draw : Addr
  d_law_draw : FuncData
  F_law_draw : Fun G.K "_law_draw" "_law_draw" s_law_draw a_law_draw d_law_draw
  b_law_draw : Binds G.K d_law_draw ["deck", "many"] []
  g_law_draw : mg "_law_draw" = some (.ref a_law_draw)
  a_law_dots : Addr
  d_law_dots : FuncData
  F_law_dots : Fun G.K "_law_dots" "_law_dots" s_law_dots a_law_dots d_law_dots
  b_law_dots : Binds G.K d_law_dots ["kind", "most"] []
  g_law_dots : mg "_law_dots" = some (.ref a_law_dots)
  a_law_at : Addr
  d_law_at : FuncData
  F_law_at : Fun G.K "_law_at" "_law_at" s_law_at a_law_at d_law_at
  b_law_at : Binds G.K d_law_at ["kind", "k"] []
  g_law_at : mg "_law_at" = some (.ref a_law_at)
  a_law_due_v2 : Addr
  d_law_due_v2 : FuncData
  F_law_due_v2 : Fun G.K "_law_due" "_law_due" s_law_due_v2 a_law_due_v2 d_law_due_v2
  b_law_due_v2 : Binds G.K d_law_due_v2 ["kind", "n"] []
  g_law_due : mg "_law_due" = some (.ref a_law_due_v2)
  a_law_right : Addr
  d_law_right : FuncData
  F_law_right : Fun G.K "_law_right" "_law_right" s_law_right a_law_right d_law_right
  b_law_right : Binds G.K d_law_right ["kind", "n"] []
  g_law_right : mg "_law_right" = some (.ref a_law_right)
  a_law_k03 : Addr
  d_law_k03 : FuncData
  F_law_k03 : Fun G.K "law" "law" s_law_k03 a_law_k03 d_law_k03
  b_law_k03 : Binds G.K d_law_k03 ["script"] []
  g_law : mg "law" = some (.ref a_law_k03)
  n_bool : mg "bool" = none
  n_enumerate : mg "enumerate" = none
  n_int : mg "int" = none
  n_isinstance : mg "isinstance" = none
  n_len : mg "len" = none
  n_max : mg "max" = none
  n_min : mg "min" = none
  n_range : mg "range" = none
  n_str : mg "str" = none
  k_CUBES : Tok
  c_CUBES : mg "CUBES" = some (.str "cubes" k_CUBES)
  k_FEWEST_CORNERS : Tok
  c_FEWEST_CORNERS : mg "FEWEST_CORNERS" = some (.int 3 k_FEWEST_CORNERS)
  k_MOST_CORNERS : Tok
  c_MOST_CORNERS : mg "MOST_CORNERS" = some (.int 12 k_MOST_CORNERS)
section
variable {P : Program} {w : World} {G : Gx} {mg : Str → Option Value} {base : Heap}
theorem ok_is_whole (T : Txt G mg) : FnOk P w G.K mg base CX0 1 T.a_is_whole T.d_is_whole ["thing"] (sp0 (sp_is_whole G)) := by
  refine T.F_is_whole.ok sc_is_whole (fun vs H Q E h => h.1) (fun cdv A outer s H vs Q E hr h => ⟨t_is_whole G E0, ?_, h.2⟩)
  exact (pss_one (ps_ret (pe_and (pe_callB k_isi (by rfl) T.n_isinstance (by decide +kernel) (pa_cons (pv 0) (pa_cons (pe_bltn (by rfl) T.n_int (by decide +kernel) rfl) pa_nil))) (pe_one (pe_not (pe_callB k_isi (by rfl) T.n_isinstance (by decide +kernel) (pa_cons (pv 0) (pa_cons (pe_bltn (by rfl) T.n_bool (by decide +kernel) rfl) pa_nil))))))))
theorem ok_is_kind (T : Txt G mg) : FnOk P w G.K mg base CX0 2 T.a_is_kind T.d_is_kind ["thing"] (sp0 (sp_is_kind G)) := by
  refine T.F_is_kind.ok sc_is_kind (fun vs H Q E h => h.1) (fun cdv A outer s H vs Q E hr h => ⟨t_is_kind G E0, ?_, h.2⟩)
  exact (pss_cons (ps_if (pt_val (pe_callB k_isi (by rfl) T.n_isinstance (by decide +kernel) (pa_cons (pv 0) (pa_cons (pe_bltn (by rfl) T.n_str (by decide +kernel) rfl) pa_nil)))) (pss_one (ps_ret (pe_cmpR (o_eq hr.units) (pv 0) (pe_glob (by rfl) T.c_CUBES ⟨_, rfl⟩) (nomark _)))) pss_nil)
      (pss_one (ps_ret (pe_and (pcall (ok_is_whole T) (hr.mono (by decide)) (by rfl) T.g_is_whole T.F_is_whole.kp T.b_is_whole (pa_cons (pv 0) pa_nil)) (pe_one (pe_chain o_le o_le (pe_glob (by rfl) T.c_FEWEST_CORNERS ⟨_, rfl⟩) (pv 0) (pe_glob (by rfl) T.c_MOST_CORNERS ⟨_, rfl⟩)))))))
theorem ok_need_kind (T : Txt G mg) : FnOk P w G.K mg base CX0 3 T.a_need_kind T.d_need_kind ["thing"] (sp0 (sp_need_kind G)) := by
  refine T.F_need_kind.ok sc_need_kind (fun vs H Q E h => h.1) (fun cdv A outer s H vs Q E hr h => ⟨t_need_kind G E0, ?_, h.2⟩)
  exact (pss_one (ps_if (pt_not (pt_val (pcall (ok_is_kind T) (hr.mono (by decide)) (by rfl) T.g_is_kind T.F_is_kind.kp T.b_is_kind (pa_cons (pv 0) pa_nil)))) (pss_one prz0) pss_nil))
theorem ok_need_from (T : Txt G mg) : FnOk P w G.K mg base CX0 2 T.a_need_from T.d_need_from ["thing", "least"] (sp0 (sp_need_from G)) := by
  refine T.F_need_from.ok sc_need_from (fun vs H Q E h => h.1) (fun cdv A outer s H vs Q E hr h => ⟨t_need_from G E0, ?_, h.2⟩)
  exact (pss_one (ps_if (PW.pt (pw_or (pt_not (pt_val (pcall (ok_is_whole T) (hr.mono (by decide)) (by rfl) T.g_is_whole T.F_is_whole.kp T.b_is_whole (pa_cons (pv 0) pa_nil)))) (pw_or1 (pt_cmpR o_lt (pv 0) (pv 1) (nomark _))))) (pss_one prz0) pss_nil))
theorem ok_dots (T : Txt G mg) : FnOk P w G.K mg base CX0 1 T.a_dots T.d_dots ["kind", "k"] (sp0 (sp_dots G)) := by
  refine T.F_dots.ok sc_dots (fun vs H Q E h => h.1) (fun cdv A outer s H vs Q E hr h => ⟨t_dots G E0, ?_, h.2⟩)
  exact (pss_cons (ps_if (pt_cmpR (o_eq hr.units) (pv 0) (pe_glob (by rfl) T.c_CUBES ⟨_, rfl⟩) (nomark _)) (pss_one (ps_ret (pe_op o_mul (pe_op o_mul (pv 1) (pv 1)) (pv 1)))) pss_nil)
      (pss_one (ps_ret (pe_op o_add (pv 1) (pe_op o_mul (pe_op o_sub (pv 0) pe_int) (pe_op o_div (pe_op o_mul (pv 1) (pe_op o_sub (pv 1) pe_int)) pe_int))))))
theorem ok_place_in (T : Txt G mg) : FnOk P w G.K mg base CX0 4 T.a_place_in T.d_place_in ["kind", "n"] (sp0 (sp_place_in G)) := by
  refine T.F_place_in.ok sc_place_in (fun vs H Q E h => h.1) (fun cdv A outer s H vs Q E hr h => ⟨t_place_in G E0, ?_, h.2⟩)
  exact (pss_cons (ps_expr (pcall (ok_need_kind T) (hr.mono (by decide)) (by rfl) T.g_need_kind T.F_need_kind.kp T.b_need_kind (pa_cons (pv 0) pa_nil)))
      (pss_cons (ps_expr (pcall (ok_need_from T) (hr.mono (by decide)) (by rfl) T.g_need_from T.F_need_from.kp T.b_need_from (pa_cons (pv 1) (pa_cons pe_int pa_nil))))
      (pss_cons (pst 2 sc_place_in.nd pe_int)
      (pss_cons (pst 3 sc_place_in.nd pe_int)
      (pss_cons (ps_while PassesOwn.never (pt_cmpR o_lt (pcall (ok_dots T) (hr.mono (by decide)) (by rfl) T.g_dots T.F_dots.kp T.b_dots (pa_cons (pv 0) (pa_cons (pv 3) pa_nil))) (pv 1) (nomark _)) (pss_cons (pst 2 sc_place_in.nd (pv 3))
      (pss_one (pst 3 sc_place_in.nd (pe_op o_mul pe_int (pv 3))))))
      (pss_cons (ps_while PassesOwn.never (pt_cmpR o_gt (pe_op o_sub (pv 3) (pv 2)) pe_int (nomark _)) (pss_cons (pst 4 sc_place_in.nd (pe_op o_div (pe_op o_add (pv 2) (pv 3)) pe_int))
      (pss_one (ps_if (pt_cmpR o_lt (pcall (ok_dots T) (hr.mono (by decide)) (by rfl) T.g_dots T.F_dots.kp T.b_dots (pa_cons (pv 0) (pa_cons (pv 4) pa_nil))) (pv 1) (nomark _)) (pss_one (pst 2 sc_place_in.nd (pv 4))) (pss_one (pst 3 sc_place_in.nd (pv 4)))))))
      (pss_one (ps_ret (pe_ifExp (pt_cmpR (o_eq hr.units) (pcall (ok_dots T) (hr.mono (by decide)) (by rfl) T.g_dots T.F_dots.kp T.b_dots (pa_cons (pv 0) (pa_cons (pv 3) pa_nil))) (pv 1) (nomark _)) (pv 3) pe_non)))))))))
theorem ok_law_deck (T : Txt G mg) : FnOk P w G.K mg base CX0 1 T.a_law_deck T.d_law_deck ["script"] (sp0 (sp_law_deck G)) := by
  refine T.F_law_deck.ok sc_law_deck (fun vs H Q E h => h.1) (fun cdv A outer s H vs Q E hr h => ⟨t_law_deck G E0, ?_, h.2⟩)
  exact (pss_cons (pst 1 sc_law_deck.nd (pe_lst pa_nil))
      (pss_cons (ps_for PassesOwn.never (by rfl) (pi_range1 (by rfl) T.n_range (pa_cons (pe_callB (k_max (by rfl)) (by rfl) T.n_max (by decide +kernel) (pa_cons pe_int (pa_cons (pe_callB (k_min (by rfl)) (by rfl) T.n_min (by decide +kernel) (pa_cons pe_int (pa_cons (pe_callB k_len (by rfl) T.n_len (by decide +kernel) (pa_cons (pv 0) pa_nil)) pa_nil))) pa_nil))) pa_nil)) (pgn 2 sc_law_deck.nd) (pss_cons (pst 3 sc_law_deck.nd pe_int)
      (pss_cons (ps_if (pt_cmpR o_lt (pv 2) (pe_callB k_len (by rfl) T.n_len (by decide +kernel) (pa_cons (pv 0) pa_nil)) (nomark _)) (pss_one (pst 3 sc_law_deck.nd (pe_ix o_ix (pv 0) (pv 2) (fun _ _ => rfl)))) pss_nil)
      (pss_one (ps_expr (pe_bm PySem.F.plainAttrs_list PySem.F.slot_list_append PySem.F.type_list_append mt_append (pv 1) (pa_cons (pe_lst (pa_cons (pv 3) (pa_cons (pe_callTy k_int (by rfl) T.n_int (by decide +kernel) (pa_cons (pe_cmpR o_ge (pv 3) (pe_op o_pow pe_int pe_int) (nomark _)) pa_nil)) (pa_cons (pe_op o_mul pe_int (pv 2)) pa_nil)))) pa_nil)))))))
      (pss_one (ps_ret (pe_lst (pa_cons (pv 1) (pa_cons pe_int pa_nil)))))))
theorem ok_law_draw (T : Txt G mg) : FnOk P w G.K mg base CX0 1 T.a_law_draw T.d_law_draw ["deck", "many"] (sp0 (sp_law_draw G)) := by
  refine T.F_law_draw.ok sc_law_draw (fun vs H Q E h => h.1) (fun cdv A outer s H vs Q E hr h => ⟨t_law_draw G E0, ?_, h.2⟩)
  exact (pss_cons (pst 2 sc_law_draw.nd (pe_ix o_ix (pe_ix o_ix (pv 0) pe_int (fun _ _ => rfl)) (pe_op o_mod (pe_ix o_ix (pv 0) pe_int (fun _ _ => rfl)) (pe_callB k_len (by rfl) T.n_len (by decide +kernel) (pa_cons (pe_ix o_ix (pv 0) pe_int (fun _ _ => rfl)) pa_nil))) (fun _ _ => rfl)))
      (pss_cons (ps_asg (pe_op o_add (pe_ix o_ix (pv 0) pe_int (fun _ _ => rfl)) pe_int) (pg_sub (pv 0) pe_int (s_any (hu_of hr))))
      (pss_cons (ps_if (PW.pt (pw_and (pt_cmpR (o_eq hr.units) (pe_ix o_ix (pv 2) pe_int (fun _ _ => rfl)) pe_int (nomark _)) (pw_and1 (pt_cmpR o_gt (pe_ix o_ix (pv 2) pe_int (fun _ _ => rfl)) pe_int (nomark _))))) (pss_cons (pst 3 sc_law_draw.nd (pe_op o_mod (pe_ix o_ix (pv 2) pe_int (fun _ _ => rfl)) (pv 1)))
      (pss_cons (ps_asg (pe_op o_div (pe_ix o_ix (pv 2) pe_int (fun _ _ => rfl)) (pv 1)) (pg_sub (pv 2) pe_int (s_any (hu_of hr))))
      (pss_one (ps_ret (pv 3))))) pss_nil)
      (pss_cons (ps_asg (pe_op o_add (pe_ix o_ix (pv 2) pe_int (fun _ _ => rfl)) pe_int) (pg_sub (pv 2) pe_int (s_any (hu_of hr))))
      (pss_cons (pst 4 sc_law_draw.nd (pe_op o_mod (pe_op o_add (pe_op o_mod (pe_ix o_ix (pv 2) pe_int (fun _ _ => rfl)) pe_int) (pe_op o_mul pe_int (pe_ix o_ix (pv 2) pe_int (fun _ _ => rfl)))) pe_int))
      (pss_cons (pst 4 sc_law_draw.nd (pe_op o_mod (pe_op o_mul (pv 4) (pv 4)) pe_int))
      (pss_cons (pst 4 sc_law_draw.nd (pe_op o_mod (pe_op o_mul (pv 4) (pe_op o_add (pv 4) pe_int)) pe_int))
      (pss_one (ps_ret (pe_op o_mod (pe_op o_div (pv 4) pe_int) (pv 1)))))))))))
theorem ok_law_dots (T : Txt G mg) : FnOk P w G.K mg base CX0 1 T.a_law_dots T.d_law_dots ["kind", "most"] (sp0 (sp_law_dots G)) := by
  refine T.F_law_dots.ok sc_law_dots (fun vs H Q E h => h.1) (fun cdv A outer s H vs Q E hr h => ⟨t_law_dots G E0, ?_, h.2⟩)
  exact (pss_cons (pst 2 sc_law_dots.nd (pe_lst pa_nil))
      (pss_cons (pst 3 sc_law_dots.nd pe_int)
      (pss_cons (pst 4 sc_law_dots.nd pe_int)
      (pss_cons (pst 5 sc_law_dots.nd pe_int)
      (pss_cons (ps_while PassesOwn.never (pt_cmpR o_le (pv 4) (pv 1) (nomark _)) (pss_cons (ps_expr (pe_bm PySem.F.plainAttrs_list PySem.F.slot_list_append PySem.F.type_list_append mt_append (pv 2) (pa_cons (pv 4) pa_nil)))
      (pss_cons (pst 3 sc_law_dots.nd (pe_op o_add (pv 3) pe_int))
      (pss_one (ps_if (pt_cmpR (o_eq hr.units) (pv 0) pe_str (nomark _)) (pss_one (pst 4 sc_law_dots.nd (pe_op o_pow (pv 3) pe_int))) (pss_cons (pst 5 sc_law_dots.nd (pe_op o_sub (pe_op o_add (pv 5) (pv 0)) pe_int))
      (pss_one (pst 4 sc_law_dots.nd (pe_op o_add (pv 4) (pv 5))))))))))
      (pss_one (ps_ret (pv 2))))))))
theorem ok_law_at (T : Txt G mg) : FnOk P w G.K mg base CX0 1 T.a_law_at T.d_law_at ["kind", "k"] (sp0 (sp_law_at G)) := by
  refine T.F_law_at.ok sc_law_at (fun vs H Q E h => h.1) (fun cdv A outer s H vs Q E hr h => ⟨t_law_at G E0, ?_, h.2⟩)
  exact (pss_cons (ps_if (pt_cmpR (o_eq hr.units) (pv 0) pe_str (nomark _)) (pss_one (ps_ret (pe_op o_mul (pe_op o_mul (pv 1) (pv 1)) (pv 1)))) pss_nil)
      (pss_cons (pst 2 sc_law_at.nd (pe_op o_div (pe_op o_mul (pv 1) (pe_op o_add (pv 1) pe_int)) pe_int))
      (pss_one (ps_ret (pe_op o_add (pv 2) (pe_op o_mul (pe_op o_sub (pv 0) pe_int) (pe_op o_sub (pv 2) (pv 1))))))))
theorem ok_law_due_v2 (T : Txt G mg) : FnOk P w G.K mg base CX0 2 T.a_law_due_v2 T.d_law_due_v2 ["kind", "n"] (sp0 (sp_law_due_v2 G)) := by
  refine T.F_law_due_v2.ok sc_law_due_v2 (fun vs H Q E h => h.1) (fun cdv A outer s H vs Q E hr h => ⟨t_law_due_v2 G E0, ?_, h.2⟩)
  exact (pss_cons (pst 2 sc_law_due_v2.nd pe_int)
      (pss_cons (pst 3 sc_law_due_v2.nd (pe_op o_mul (pe_op o_pow pe_int pe_int) (pe_op o_pow pe_int pe_int)))
      (pss_cons (ps_while PassesOwn.never (pt_cmpR o_gt (pe_op o_sub (pv 3) (pv 2)) pe_int (nomark _)) (pss_cons (pst 4 sc_law_due_v2.nd (pe_op o_div (pe_op o_add (pv 2) (pv 3)) pe_int))
      (pss_one (ps_if (pt_cmpR o_ge (pcall (ok_law_at T) (hr.mono (by decide)) (by rfl) T.g_law_at T.F_law_at.kp T.b_law_at (pa_cons (pv 0) (pa_cons (pv 4) pa_nil))) (pv 1) (nomark _)) (pss_one (pst 3 sc_law_due_v2.nd (pv 4))) (pss_one (pst 2 sc_law_due_v2.nd (pv 4)))))))
      (pss_one (ps_ret (pe_ix o_ix (pe_lst (pa_cons pe_non (pa_cons (pv 3) pa_nil))) (pe_callTy k_int (by rfl) T.n_int (by decide +kernel) (pa_cons (pe_cmpR (o_eq hr.units) (pcall (ok_law_at T) (hr.mono (by decide)) (by rfl) T.g_law_at T.F_law_at.kp T.b_law_at (pa_cons (pv 0) (pa_cons (pv 3) pa_nil))) (pv 1) (nomark _)) pa_nil)) (fun _ _ => rfl)))))))
theorem ok_law_right (T : Txt G mg) : FnOk P w G.K mg base CX0 5 T.a_law_right T.d_law_right ["kind", "n"] (sp0 (sp_law_right G)) := by
  refine T.F_law_right.ok sc_law_right (fun vs H Q E h => h.1) (fun cdv A outer s H vs Q E hr h => ⟨t_law_right G E0, ?_, h.2⟩)
  exact (pss_cons (pst 2 sc_law_right.nd (pcall (ok_law_due_v2 T) (hr.mono (by decide)) (by rfl) T.g_law_due T.F_law_due_v2.kp T.b_law_due_v2 (pa_cons (pv 0) (pa_cons (pv 1) pa_nil))))
      (pss_cons (ps_for PassesOwn.never (by rfl) (pi_range1 (by rfl) T.n_range (pa_cons pe_int pa_nil)) (pgn 3 sc_law_right.nd) (pss_cons (pst 4 sc_law_right.nd (pcall (ok_place_in T) (hr.mono (by decide)) (by rfl) T.g_place_in T.F_place_in.kp T.b_place_in (pa_cons (pv 0) (pa_cons (pv 1) pa_nil))))
      (pss_one (ps_if (PW.pt (pw_or (pt_cmpR (o_ne hr.units) (pv 4) (pv 2) (nomark _)) (pw_or1 (PW.pt (pw_and (pt_cmpR o_isNot (pv 2) pe_non (nomark _)) (pw_and1 (PW.pt (pw_or (pt_val (pe_callB k_isi (by rfl) T.n_isinstance (by decide +kernel) (pa_cons (pv 4) (pa_cons (pe_bltn (by rfl) T.n_bool (by decide +kernel) rfl) pa_nil)))) (pw_or1 (pt_not (pt_val (pe_callB k_isi (by rfl) T.n_isinstance (by decide +kernel) (pa_cons (pv 4) (pa_cons (pe_bltn (by rfl) T.n_int (by decide +kernel) rfl) pa_nil)))))))))))))) (pss_one (ps_ret pe_bl)) pss_nil))))
      (pss_one (ps_ret pe_bl))))
theorem ok_law_k03 (T : Txt G mg) : FnOk P w G.K mg base CX0 6 T.a_law_k03 T.d_law_k03 ["script"] (sp0 (sp_law_k03 G)) := by
  refine T.F_law_k03.ok sc_law_k03 (fun vs H Q E h => h.1) (fun cdv A outer s H vs Q E hr h => ⟨t_law_k03 G E0, ?_, h.2⟩)
  exact (pss_cons (pst 1 sc_law_k03.nd (pcall (ok_law_deck T) (hr.mono (by decide)) (by rfl) T.g_law_deck T.F_law_deck.kp T.b_law_deck (pa_cons (pv 0) pa_nil)))
      (pss_cons (ps_for PassesOwn.never (by rfl) (pi_list (pe_lst (pa_cons pe_int (pa_cons pe_int (pa_cons pe_int (pa_cons pe_int (pa_cons pe_int (pa_cons pe_int (pa_cons pe_int (pa_cons pe_int (pa_cons pe_int (pa_cons pe_int (pa_cons pe_str pa_nil))))))))))))) (pgn 2 sc_law_k03.nd) (pss_cons (pst 3 sc_law_k03.nd (pcall (ok_law_dots T) (hr.mono (by decide)) (by rfl) T.g_law_dots T.F_law_dots.kp T.b_law_dots (pa_cons (pv 2) (pa_cons pe_int pa_nil))))
      (pss_cons (ps_for PassesOwn.never (by rfl) (pi_range2 (by rfl) T.n_range (pa_cons pe_int (pa_cons pe_int pa_nil))) (pgn 4 sc_law_k03.nd) (pss_one (ps_if (pt_cmpR (o_ne hr.units) (pcall (ok_place_in T) (hr.mono (by decide)) (by rfl) T.g_place_in T.F_place_in.kp T.b_place_in (pa_cons (pv 2) (pa_cons (pv 4) pa_nil))) (pe_ix o_ix (pe_op o_add (pe_lc (own := [("at", 11), ("one", 12)]) (g := (gTup G.K 2 (gCons (gName 11) (gCons (gName 12) gNil)))) (tt := (tTest (tOp (uEq G.K) (tVar 12) (tVar 4)))) (by rfl) sc_law_k03.nd  (pi_enum (by rfl) T.n_enumerate (pa_cons (pv 3) pa_nil)) (blkOk_by (own := [("at", 11), ("one", 12)]) (N := ["script", "deck", "kind", "small", "n", "turn", "far", "great", "k", "more", "some", "at", "one"]) (sc := defScope s_law_k03) (by decide +kernel)) (fun _ _ _ _ _ => (pg_tup (by rfl) (pgs_cons (pgn 11 sc_law_k03.nd) (pgs_cons (pgn 12 sc_law_k03.nd) pgs_nil)))) (fun _ _ _ _ _ => (pts_one (pt_cmpR (o_eq hr.units) (pv 12) (pv 4) (nomark _)))) (fun _ _ _ _ _ => (pe_op o_add (pv 11) pe_int))) (pe_lst (pa_cons pe_non pa_nil))) pe_int (fun _ _ => rfl)) (nomark _)) (pss_one (ps_ret pe_bl)) pss_nil)))
      (pss_one (ps_for PassesOwn.never (by rfl) (pi_range1 (by rfl) T.n_range (pa_cons pe_int pa_nil)) (pgn 5 sc_law_k03.nd) (pss_cons (pst 6 sc_law_k03.nd (pe_op o_add (pe_op o_add (pe_op o_mul (pcall (ok_law_draw T) (hr.mono (by decide)) (by rfl) T.g_law_draw T.F_law_draw.kp T.b_law_draw (pa_cons (pv 1) (pa_cons (pe_op o_pow pe_int pe_int) pa_nil))) (pe_op o_pow pe_int pe_int)) (pe_op o_mul (pcall (ok_law_draw T) (hr.mono (by decide)) (by rfl) T.g_law_draw T.F_law_draw.kp T.b_law_draw (pa_cons (pv 1) (pa_cons (pe_op o_pow pe_int pe_int) pa_nil))) (pe_op o_pow pe_int pe_int))) (pcall (ok_law_draw T) (hr.mono (by decide)) (by rfl) T.g_law_draw T.F_law_draw.kp T.b_law_draw (pa_cons (pv 1) (pa_cons (pe_op o_pow pe_int pe_int) pa_nil)))))
      (pss_cons (pst 7 sc_law_k03.nd (pe_ix o_ix (pe_lst (pa_cons (pe_op o_pow pe_int pe_int) (pa_cons (pe_op o_pow pe_int pe_int) pa_nil))) (pe_callTy k_int (by rfl) T.n_int (by decide +kernel) (pa_cons (pe_cmpR (o_eq hr.units) (pv 2) pe_str (nomark _)) pa_nil)) (fun _ _ => rfl)))
      (pss_cons (pst 8 sc_law_k03.nd (pe_op o_add pe_int (pe_op o_mod (pv 6) (pe_ix o_ix (pe_lst (pa_cons pe_int (pa_cons (pe_op o_pow pe_int pe_int) (pa_cons (pe_op o_pow pe_int pe_int) (pa_cons (pv 7) pa_nil))))) (pcall (ok_law_draw T) (hr.mono (by decide)) (by rfl) T.g_law_draw T.F_law_draw.kp T.b_law_draw (pa_cons (pv 1) (pa_cons pe_int pa_nil))) (fun _ _ => rfl)))))
      (pss_cons (pst 9 sc_law_k03.nd (pe_ix o_ix (pe_lst (pa_cons pe_int (pa_cons pe_int (pa_cons pe_int (pa_cons (pe_un o_neg pe_int) (pa_cons (pe_op o_sub (pcall (ok_law_draw T) (hr.mono (by decide)) (by rfl) T.g_law_draw T.F_law_draw.kp T.b_law_draw (pa_cons (pv 1) (pa_cons pe_int pa_nil))) pe_int) pa_nil)))))) (pcall (ok_law_draw T) (hr.mono (by decide)) (by rfl) T.g_law_draw T.F_law_draw.kp T.b_law_draw (pa_cons (pv 1) (pa_cons pe_int pa_nil))) (fun _ _ => rfl)))
      (pss_cons (pst 10 sc_law_k03.nd (pe_lst (pa_cons (pcall (ok_law_at T) (hr.mono (by decide)) (by rfl) T.g_law_at T.F_law_at.kp T.b_law_at (pa_cons (pv 2) (pa_cons (pv 8) pa_nil))) (pa_cons (pe_op o_add (pcall (ok_law_at T) (hr.mono (by decide)) (by rfl) T.g_law_at T.F_law_at.kp T.b_law_at (pa_cons (pv 2) (pa_cons (pv 8) pa_nil))) (pv 9)) (pa_cons (pe_op o_add pe_int (pe_op o_mod (pv 6) (pe_op o_sub (pe_op o_pow pe_int pe_int) pe_int))) (pa_cons (pe_op o_add pe_int (pe_op o_mod (pv 6) (pe_op o_pow pe_int pe_int))) pa_nil))))))
      (pss_cons (pst 4 sc_law_k03.nd (pe_ix o_ix (pv 10) (pcall (ok_law_draw T) (hr.mono (by decide)) (by rfl) T.g_law_draw T.F_law_draw.kp T.b_law_draw (pa_cons (pv 1) (pa_cons pe_int pa_nil))) (fun _ _ => rfl)))
      (pss_one (ps_if (pt_not (pt_val (pcall (ok_law_right T) (hr.mono (by decide)) (by rfl) T.g_law_right T.F_law_right.kp T.b_law_right (pa_cons (pv 2) (pa_cons (pe_callB (k_max (by rfl)) (by rfl) T.n_max (by decide +kernel) (pa_cons pe_int (pa_cons (pv 4) pa_nil))) pa_nil))))) (pss_one (ps_ret pe_bl)) pss_nil)))))))))))))
      (pss_one (ps_ret pe_bl))))
end
theorem txt_mk {K : PySem.W.Frag} {h : Heap} {mg : Str → Option Value} (X : K.In h) (Gs : h.Ns mainGlobals mg)
    {f1 : Addr} {od1 an1 : Option Addr} {sl1 : Array (Option Value)} {oc1 kV1 dc1 pm1 cd1 ct1 : Value}
    {f2 : Addr} {od2 an2 : Option Addr} {sl2 : Array (Option Value)} {oc2 kV2 dc2 pm2 cd2 ct2 : Value}
    {f3 : Addr} {od3 an3 : Option Addr} {sl3 : Array (Option Value)} {oc3 kV3 dc3 pm3 cd3 ct3 : Value}
    {f4 : Addr} {od4 an4 : Option Addr} {sl4 : Array (Option Value)} {oc4 kV4 dc4 pm4 cd4 ct4 : Value}
    {f5 : Addr} {od5 an5 : Option Addr} {sl5 : Array (Option Value)} {oc5 kV5 dc5 pm5 cd5 ct5 : Value}
    {f6 : Addr} {od6 an6 : Option Addr} {sl6 : Array (Option Value)} {oc6 kV6 dc6 pm6 cd6 ct6 : Value}
    {f7 : Addr} {od7 an7 : Option Addr} {sl7 : Array (Option Value)} {oc7 kV7 dc7 pm7 cd7 ct7 : Value}
    {f8 : Addr} {od8 an8 : Option Addr} {sl8 : Array (Option Value)} {oc8 kV8 dc8 pm8 cd8 ct8 : Value}
    {f9 : Addr} {od9 an9 : Option Addr} {sl9 : Array (Option Value)} {oc9 kV9 dc9 pm9 cd9 ct9 : Value}
    {f10 : Addr} {od10 an10 : Option Addr} {sl10 : Array (Option Value)} {oc10 kV10 dc10 pm10 cd10 ct10 : Value}
    {f11 : Addr} {od11 an11 : Option Addr} {sl11 : Array (Option Value)} {oc11 kV11 dc11 pm11 cd11 ct11 : Value}
    {f12 : Addr} {od12 an12 : Option Addr} {sl12 : Array (Option Value)} {oc12 kV12 dc12 pm12 cd12 ct12 : Value}
    {f13 : Addr} {od13 an13 : Option Addr} {sl13 : Array (Option Value)} {oc13 kV13 dc13 pm13 cd13 ct13 : Value}
    {tk0 : Tok}
    {tk1 : Tok}
    {tk2 : Tok}
    (a1 : PySem.W.nsIn K mainGlobals "is_whole" = some (some (.ref f1)))
    (l1 : K.lookup f1 = some ⟨oc1, od1, .func (PySem.W.fnOf "is_whole" "is_whole" (defArgs s_is_whole) (defBody s_is_whole) (defScope s_is_whole) .none kV1 dc1 pm1 an1 cd1 ct1), sl1⟩)
    (c1 : PySem.W.codeIn K cd1 "is_whole" = true)
    (k1 : PySem.W.keepIn K (.ref f1) = true)
    (a2 : PySem.W.nsIn K mainGlobals "is_kind" = some (some (.ref f2)))
    (l2 : K.lookup f2 = some ⟨oc2, od2, .func (PySem.W.fnOf "is_kind" "is_kind" (defArgs s_is_kind) (defBody s_is_kind) (defScope s_is_kind) .none kV2 dc2 pm2 an2 cd2 ct2), sl2⟩)
    (c2 : PySem.W.codeIn K cd2 "is_kind" = true)
    (k2 : PySem.W.keepIn K (.ref f2) = true)
    (a3 : PySem.W.nsIn K mainGlobals "need_kind" = some (some (.ref f3)))
    (l3 : K.lookup f3 = some ⟨oc3, od3, .func (PySem.W.fnOf "need_kind" "need_kind" (defArgs s_need_kind) (defBody s_need_kind) (defScope s_need_kind) .none kV3 dc3 pm3 an3 cd3 ct3), sl3⟩)
    (c3 : PySem.W.codeIn K cd3 "need_kind" = true)
    (k3 : PySem.W.keepIn K (.ref f3) = true)
    (a4 : PySem.W.nsIn K mainGlobals "need_from" = some (some (.ref f4)))
    (l4 : K.lookup f4 = some ⟨oc4, od4, .func (PySem.W.fnOf "need_from" "need_from" (defArgs s_need_from) (defBody s_need_from) (defScope s_need_from) .none kV4 dc4 pm4 an4 cd4 ct4), sl4⟩)
    (c4 : PySem.W.codeIn K cd4 "need_from" = true)
    (k4 : PySem.W.keepIn K (.ref f4) = true)
    (a5 : PySem.W.nsIn K mainGlobals "dots" = some (some (.ref f5)))
    (l5 : K.lookup f5 = some ⟨oc5, od5, .func (PySem.W.fnOf "dots" "dots" (defArgs s_dots) (defBody s_dots) (defScope s_dots) .none kV5 dc5 pm5 an5 cd5 ct5), sl5⟩)
    (c5 : PySem.W.codeIn K cd5 "dots" = true)
    (k5 : PySem.W.keepIn K (.ref f5) = true)
    (a6 : PySem.W.nsIn K mainGlobals "place_in" = some (some (.ref f6)))
    (l6 : K.lookup f6 = some ⟨oc6, od6, .func (PySem.W.fnOf "place_in" "place_in" (defArgs s_place_in) (defBody s_place_in) (defScope s_place_in) .none kV6 dc6 pm6 an6 cd6 ct6), sl6⟩)
    (c6 : PySem.W.codeIn K cd6 "place_in" = true)
    (k6 : PySem.W.keepIn K (.ref f6) = true)
    (a7 : PySem.W.nsIn K mainGlobals "_law_deck" = some (some (.ref f7)))
    (l7 : K.lookup f7 = some ⟨oc7, od7, .func (PySem.W.fnOf "_law_deck" "_law_deck" (defArgs s_law_deck) (defBody s_law_deck) (defScope s_law_deck) .none kV7 dc7 pm7 an7 cd7 ct7), sl7⟩)
    (c7 : PySem.W.codeIn K cd7 "_law_deck" = true)
    (k7 : PySem.W.keepIn K (.ref f7) = true)
    (a8 : PySem.W.nsIn K mainGlobals "_law_draw" = some (some (.ref f8)))
    (l8 : K.lookup f8 = some ⟨oc8, od8, .func (PySem.W.fnOf "_law_draw" "_law_draw" (defArgs s_law_draw) (defBody s_law_draw) (defScope s_law_draw) .none kV8 dc8 pm8 an8 cd8 ct8), sl8⟩)
    (c8 : PySem.W.codeIn K cd8 "_law_draw" = true)
    (k8 : PySem.W.keepIn K (.ref f8) = true)
    (a9 : PySem.W.nsIn K mainGlobals "_law_dots" = some (some (.ref f9)))
    (l9 : K.lookup f9 = some ⟨oc9, od9, .func (PySem.W.fnOf "_law_dots" "_law_dots" (defArgs s_law_dots) (defBody s_law_dots) (defScope s_law_dots) .none kV9 dc9 pm9 an9 cd9 ct9), sl9⟩)
    (c9 : PySem.W.codeIn K cd9 "_law_dots" = true)
    (k9 : PySem.W.keepIn K (.ref f9) = true)
    (a10 : PySem.W.nsIn K mainGlobals "_law_at" = some (some (.ref f10)))
    (l10 : K.lookup f10 = some ⟨oc10, od10, .func (PySem.W.fnOf "_law_at" "_law_at" (defArgs s_law_at) (defBody s_law_at) (defScope s_law_at) .none kV10 dc10 pm10 an10 cd10 ct10), sl10⟩)
    (c10 : PySem.W.codeIn K cd10 "_law_at" = true)
    (k10 : PySem.W.keepIn K (.ref f10) = true)
    (a11 : PySem.W.nsIn K mainGlobals "_law_due" = some (some (.ref f11)))
    (l11 : K.lookup f11 = some ⟨oc11, od11, .func (PySem.W.fnOf "_law_due" "_law_due" (defArgs s_law_due_v2) (defBody s_law_due_v2) (defScope s_law_due_v2) .none kV11 dc11 pm11 an11 cd11 ct11), sl11⟩)
    (c11 : PySem.W.codeIn K cd11 "_law_due" = true)
    (k11 : PySem.W.keepIn K (.ref f11) = true)
    (a12 : PySem.W.nsIn K mainGlobals "_law_right" = some (some (.ref f12)))
    (l12 : K.lookup f12 = some ⟨oc12, od12, .func (PySem.W.fnOf "_law_right" "_law_right" (defArgs s_law_right) (defBody s_law_right) (defScope s_law_right) .none kV12 dc12 pm12 an12 cd12 ct12), sl12⟩)
    (c12 : PySem.W.codeIn K cd12 "_law_right" = true)
    (k12 : PySem.W.keepIn K (.ref f12) = true)
    (a13 : PySem.W.nsIn K mainGlobals "law" = some (some (.ref f13)))
    (l13 : K.lookup f13 = some ⟨oc13, od13, .func (PySem.W.fnOf "law" "law" (defArgs s_law_k03) (defBody s_law_k03) (defScope s_law_k03) .none kV13 dc13 pm13 an13 cd13 ct13), sl13⟩)
    (c13 : PySem.W.codeIn K cd13 "law" = true)
    (k13 : PySem.W.keepIn K (.ref f13) = true)
    (z0 : PySem.W.nsIn K mainGlobals "bool" = some none)
    (z1 : PySem.W.nsIn K mainGlobals "enumerate" = some none)
    (z2 : PySem.W.nsIn K mainGlobals "int" = some none)
    (z3 : PySem.W.nsIn K mainGlobals "isinstance" = some none)
    (z4 : PySem.W.nsIn K mainGlobals "len" = some none)
    (z5 : PySem.W.nsIn K mainGlobals "max" = some none)
    (z6 : PySem.W.nsIn K mainGlobals "min" = some none)
    (z7 : PySem.W.nsIn K mainGlobals "range" = some none)
    (z8 : PySem.W.nsIn K mainGlobals "str" = some none)
    (y0 : PySem.W.nsIn K mainGlobals "CUBES" = some (some (.str "cubes" tk0)))
    (y1 : PySem.W.nsIn K mainGlobals "FEWEST_CORNERS" = some (some (.int 3 tk1)))
    (y2 : PySem.W.nsIn K mainGlobals "MOST_CORNERS" = some (some (.int 12 tk2))) :
    ∃ T : Txt ⟨K, fun _ => 0⟩ mg, mg "law" = some (.ref T.a_law_k03) ∧ T.d_law_k03 = PySem.W.fnOf "law" "law" (defArgs s_law_k03) (defBody s_law_k03) (defScope s_law_k03) .none kV13 dc13 pm13 an13 cd13 ct13 := by
  refine ⟨{
    a_is_whole := f1
    d_is_whole := _
    F_is_whole := fun_mk l1 c1 k1
    b_is_whole := (fun_mk (st := s_is_whole) l1 c1 k1).binds (ps := ["thing"]) (fun _ _ _ _ _ _ us hl => match us, hl with | [_], _ => rfl)
    g_is_whole := PySem.W.mg_of X Gs a1
    a_is_kind := f2
    d_is_kind := _
    F_is_kind := fun_mk l2 c2 k2
    b_is_kind := (fun_mk (st := s_is_kind) l2 c2 k2).binds (ps := ["thing"]) (fun _ _ _ _ _ _ us hl => match us, hl with | [_], _ => rfl)
    g_is_kind := PySem.W.mg_of X Gs a2
    a_need_kind := f3
    d_need_kind := _
    F_need_kind := fun_mk l3 c3 k3
    b_need_kind := (fun_mk (st := s_need_kind) l3 c3 k3).binds (ps := ["thing"]) (fun _ _ _ _ _ _ us hl => match us, hl with | [_], _ => rfl)
    g_need_kind := PySem.W.mg_of X Gs a3
    a_need_from := f4
    d_need_from := _
    F_need_from := fun_mk l4 c4 k4
    b_need_from := (fun_mk (st := s_need_from) l4 c4 k4).binds (ps := ["thing", "least"]) (fun _ _ _ _ _ _ us hl => match us, hl with | [_, _], _ => rfl)
    g_need_from := PySem.W.mg_of X Gs a4
    a_dots := f5
    d_dots := _
    F_dots := fun_mk l5 c5 k5
    b_dots := (fun_mk (st := s_dots) l5 c5 k5).binds (ps := ["kind", "k"]) (fun _ _ _ _ _ _ us hl => match us, hl with | [_, _], _ => rfl)
    g_dots := PySem.W.mg_of X Gs a5
    a_place_in := f6
    d_place_in := _
    F_place_in := fun_mk l6 c6 k6
    b_place_in := (fun_mk (st := s_place_in) l6 c6 k6).binds (ps := ["kind", "n"]) (fun _ _ _ _ _ _ us hl => match us, hl with | [_, _], _ => rfl)
    g_place_in := PySem.W.mg_of X Gs a6
    a_law_deck := f7
    d_law_deck := _
    F_law_deck := fun_mk l7 c7 k7
    b_law_deck := (fun_mk (st := s_law_deck) l7 c7 k7).binds (ps := ["script"]) (fun _ _ _ _ _ _ us hl => match us, hl with | [_], _ => rfl)
    g_law_deck := PySem.W.mg_of X Gs a7
    a_law_draw := f8
    d_law_draw := _
    F_law_draw := fun_mk l8 c8 k8
    b_law_draw := (fun_mk (st := s_law_draw) l8 c8 k8).binds (ps := ["deck", "many"]) (fun _ _ _ _ _ _ us hl => match us, hl with | [_, _], _ => rfl)
    g_law_draw := PySem.W.mg_of X Gs a8
    a_law_dots := f9
    d_law_dots := _
    F_law_dots := fun_mk l9 c9 k9
    b_law_dots := (fun_mk (st := s_law_dots) l9 c9 k9).binds (ps := ["kind", "most"]) (fun _ _ _ _ _ _ us hl => match us, hl with | [_, _], _ => rfl)
    g_law_dots := PySem.W.mg_of X Gs a9
    a_law_at := f10
    d_law_at := _
    F_law_at := fun_mk l10 c10 k10
    b_law_at := (fun_mk (st := s_law_at) l10 c10 k10).binds (ps := ["kind", "k"]) (fun _ _ _ _ _ _ us hl => match us, hl with | [_, _], _ => rfl)
    g_law_at := PySem.W.mg_of X Gs a10
    a_law_due_v2 := f11
    d_law_due_v2 := _
    F_law_due_v2 := fun_mk l11 c11 k11
    b_law_due_v2 := (fun_mk (st := s_law_due_v2) l11 c11 k11).binds (ps := ["kind", "n"]) (fun _ _ _ _ _ _ us hl => match us, hl with | [_, _], _ => rfl)
    g_law_due := PySem.W.mg_of X Gs a11
    a_law_right := f12
    d_law_right := _
    F_law_right := fun_mk l12 c12 k12
    b_law_right := (fun_mk (st := s_law_right) l12 c12 k12).binds (ps := ["kind", "n"]) (fun _ _ _ _ _ _ us hl => match us, hl with | [_, _], _ => rfl)
    g_law_right := PySem.W.mg_of X Gs a12
    a_law_k03 := f13
    d_law_k03 := _
    F_law_k03 := fun_mk l13 c13 k13
    b_law_k03 := (fun_mk (st := s_law_k03) l13 c13 k13).binds (ps := ["script"]) (fun _ _ _ _ _ _ us hl => match us, hl with | [_], _ => rfl)
    g_law := PySem.W.mg_of X Gs a13
    n_bool := PySem.W.mg_none_of X Gs z0
    n_enumerate := PySem.W.mg_none_of X Gs z1
    n_int := PySem.W.mg_none_of X Gs z2
    n_isinstance := PySem.W.mg_none_of X Gs z3
    n_len := PySem.W.mg_none_of X Gs z4
    n_max := PySem.W.mg_none_of X Gs z5
    n_min := PySem.W.mg_none_of X Gs z6
    n_range := PySem.W.mg_none_of X Gs z7
    n_str := PySem.W.mg_none_of X Gs z8
    k_CUBES := tk0
    c_CUBES := PySem.W.mg_of X Gs y0
    k_FEWEST_CORNERS := tk1
    c_FEWEST_CORNERS := PySem.W.mg_of X Gs y1
    k_MOST_CORNERS := tk2
    c_MOST_CORNERS := PySem.W.mg_of X Gs y2 }, PySem.W.mg_of X Gs a13, rfl⟩
/-- the law, as its caller asks it -/
def spLaw (K : PySem.W.Frag) : Sp := fun vs H Q _ => ∃ (a : Addr) (ns : List Int), vs = [.ref a] ∧ SqL K H a (ns.map V.int) ∧ ns.length ≤ 63 ∧ ∀ H', Q (.bl true) H'
/-- the law of the readings -/
def LawHolds : Prop := ∀ (G : Gx) (H : Hp) (a : Addr) (ns : List Int) (Q : VK), SqL G.K H a (ns.map V.int) → ns.length ≤ 63 → (∀ H', Q (.bl true) H') → sp_law_k03 G [.ref a] H Q E0
theorem law_holds : LawHolds := fun G H a ns Q hs hl hq => law_k03_ok hs hl hq
theorem all_mk (HL : LawHolds) {l : PySem.W.OpenLaw} {w : World} {K : PySem.W.Frag} {h : Heap} {mg : Str → Option Value} {fa : Addr} (X : K.In h) (Gs : h.Ns mainGlobals mg) (hfa : mg "law" = some (.ref fa))
    {f1 : Addr} {od1 an1 : Option Addr} {sl1 : Array (Option Value)} {oc1 kV1 dc1 pm1 cd1 ct1 : Value}
    {f2 : Addr} {od2 an2 : Option Addr} {sl2 : Array (Option Value)} {oc2 kV2 dc2 pm2 cd2 ct2 : Value}
    {f3 : Addr} {od3 an3 : Option Addr} {sl3 : Array (Option Value)} {oc3 kV3 dc3 pm3 cd3 ct3 : Value}
    {f4 : Addr} {od4 an4 : Option Addr} {sl4 : Array (Option Value)} {oc4 kV4 dc4 pm4 cd4 ct4 : Value}
    {f5 : Addr} {od5 an5 : Option Addr} {sl5 : Array (Option Value)} {oc5 kV5 dc5 pm5 cd5 ct5 : Value}
    {f6 : Addr} {od6 an6 : Option Addr} {sl6 : Array (Option Value)} {oc6 kV6 dc6 pm6 cd6 ct6 : Value}
    {f7 : Addr} {od7 an7 : Option Addr} {sl7 : Array (Option Value)} {oc7 kV7 dc7 pm7 cd7 ct7 : Value}
    {f8 : Addr} {od8 an8 : Option Addr} {sl8 : Array (Option Value)} {oc8 kV8 dc8 pm8 cd8 ct8 : Value}
    {f9 : Addr} {od9 an9 : Option Addr} {sl9 : Array (Option Value)} {oc9 kV9 dc9 pm9 cd9 ct9 : Value}
    {f10 : Addr} {od10 an10 : Option Addr} {sl10 : Array (Option Value)} {oc10 kV10 dc10 pm10 cd10 ct10 : Value}
    {f11 : Addr} {od11 an11 : Option Addr} {sl11 : Array (Option Value)} {oc11 kV11 dc11 pm11 cd11 ct11 : Value}
    {f12 : Addr} {od12 an12 : Option Addr} {sl12 : Array (Option Value)} {oc12 kV12 dc12 pm12 cd12 ct12 : Value}
    {f13 : Addr} {od13 an13 : Option Addr} {sl13 : Array (Option Value)} {oc13 kV13 dc13 pm13 cd13 ct13 : Value}
    {tk0 : Tok}
    {tk1 : Tok}
    {tk2 : Tok}
    (a1 : PySem.W.nsIn K mainGlobals "is_whole" = some (some (.ref f1)))
    (l1 : K.lookup f1 = some ⟨oc1, od1, .func (PySem.W.fnOf "is_whole" "is_whole" (defArgs s_is_whole) (defBody s_is_whole) (defScope s_is_whole) .none kV1 dc1 pm1 an1 cd1 ct1), sl1⟩)
    (c1 : PySem.W.codeIn K cd1 "is_whole" = true)
    (k1 : PySem.W.keepIn K (.ref f1) = true)
    (a2 : PySem.W.nsIn K mainGlobals "is_kind" = some (some (.ref f2)))
    (l2 : K.lookup f2 = some ⟨oc2, od2, .func (PySem.W.fnOf "is_kind" "is_kind" (defArgs s_is_kind) (defBody s_is_kind) (defScope s_is_kind) .none kV2 dc2 pm2 an2 cd2 ct2), sl2⟩)
    (c2 : PySem.W.codeIn K cd2 "is_kind" = true)
    (k2 : PySem.W.keepIn K (.ref f2) = true)
    (a3 : PySem.W.nsIn K mainGlobals "need_kind" = some (some (.ref f3)))
    (l3 : K.lookup f3 = some ⟨oc3, od3, .func (PySem.W.fnOf "need_kind" "need_kind" (defArgs s_need_kind) (defBody s_need_kind) (defScope s_need_kind) .none kV3 dc3 pm3 an3 cd3 ct3), sl3⟩)
    (c3 : PySem.W.codeIn K cd3 "need_kind" = true)
    (k3 : PySem.W.keepIn K (.ref f3) = true)
    (a4 : PySem.W.nsIn K mainGlobals "need_from" = some (some (.ref f4)))
    (l4 : K.lookup f4 = some ⟨oc4, od4, .func (PySem.W.fnOf "need_from" "need_from" (defArgs s_need_from) (defBody s_need_from) (defScope s_need_from) .none kV4 dc4 pm4 an4 cd4 ct4), sl4⟩)
    (c4 : PySem.W.codeIn K cd4 "need_from" = true)
    (k4 : PySem.W.keepIn K (.ref f4) = true)
    (a5 : PySem.W.nsIn K mainGlobals "dots" = some (some (.ref f5)))
    (l5 : K.lookup f5 = some ⟨oc5, od5, .func (PySem.W.fnOf "dots" "dots" (defArgs s_dots) (defBody s_dots) (defScope s_dots) .none kV5 dc5 pm5 an5 cd5 ct5), sl5⟩)
    (c5 : PySem.W.codeIn K cd5 "dots" = true)
    (k5 : PySem.W.keepIn K (.ref f5) = true)
    (a6 : PySem.W.nsIn K mainGlobals "place_in" = some (some (.ref f6)))
    (l6 : K.lookup f6 = some ⟨oc6, od6, .func (PySem.W.fnOf "place_in" "place_in" (defArgs s_place_in) (defBody s_place_in) (defScope s_place_in) .none kV6 dc6 pm6 an6 cd6 ct6), sl6⟩)
    (c6 : PySem.W.codeIn K cd6 "place_in" = true)
    (k6 : PySem.W.keepIn K (.ref f6) = true)
    (a7 : PySem.W.nsIn K mainGlobals "_law_deck" = some (some (.ref f7)))
    (l7 : K.lookup f7 = some ⟨oc7, od7, .func (PySem.W.fnOf "_law_deck" "_law_deck" (defArgs s_law_deck) (defBody s_law_deck) (defScope s_law_deck) .none kV7 dc7 pm7 an7 cd7 ct7), sl7⟩)
    (c7 : PySem.W.codeIn K cd7 "_law_deck" = true)
    (k7 : PySem.W.keepIn K (.ref f7) = true)
    (a8 : PySem.W.nsIn K mainGlobals "_law_draw" = some (some (.ref f8)))
    (l8 : K.lookup f8 = some ⟨oc8, od8, .func (PySem.W.fnOf "_law_draw" "_law_draw" (defArgs s_law_draw) (defBody s_law_draw) (defScope s_law_draw) .none kV8 dc8 pm8 an8 cd8 ct8), sl8⟩)
    (c8 : PySem.W.codeIn K cd8 "_law_draw" = true)
    (k8 : PySem.W.keepIn K (.ref f8) = true)
    (a9 : PySem.W.nsIn K mainGlobals "_law_dots" = some (some (.ref f9)))
    (l9 : K.lookup f9 = some ⟨oc9, od9, .func (PySem.W.fnOf "_law_dots" "_law_dots" (defArgs s_law_dots) (defBody s_law_dots) (defScope s_law_dots) .none kV9 dc9 pm9 an9 cd9 ct9), sl9⟩)
    (c9 : PySem.W.codeIn K cd9 "_law_dots" = true)
    (k9 : PySem.W.keepIn K (.ref f9) = true)
    (a10 : PySem.W.nsIn K mainGlobals "_law_at" = some (some (.ref f10)))
    (l10 : K.lookup f10 = some ⟨oc10, od10, .func (PySem.W.fnOf "_law_at" "_law_at" (defArgs s_law_at) (defBody s_law_at) (defScope s_law_at) .none kV10 dc10 pm10 an10 cd10 ct10), sl10⟩)
    (c10 : PySem.W.codeIn K cd10 "_law_at" = true)
    (k10 : PySem.W.keepIn K (.ref f10) = true)
    (a11 : PySem.W.nsIn K mainGlobals "_law_due" = some (some (.ref f11)))
    (l11 : K.lookup f11 = some ⟨oc11, od11, .func (PySem.W.fnOf "_law_due" "_law_due" (defArgs s_law_due_v2) (defBody s_law_due_v2) (defScope s_law_due_v2) .none kV11 dc11 pm11 an11 cd11 ct11), sl11⟩)
    (c11 : PySem.W.codeIn K cd11 "_law_due" = true)
    (k11 : PySem.W.keepIn K (.ref f11) = true)
    (a12 : PySem.W.nsIn K mainGlobals "_law_right" = some (some (.ref f12)))
    (l12 : K.lookup f12 = some ⟨oc12, od12, .func (PySem.W.fnOf "_law_right" "_law_right" (defArgs s_law_right) (defBody s_law_right) (defScope s_law_right) .none kV12 dc12 pm12 an12 cd12 ct12), sl12⟩)
    (c12 : PySem.W.codeIn K cd12 "_law_right" = true)
    (k12 : PySem.W.keepIn K (.ref f12) = true)
    (a13 : PySem.W.nsIn K mainGlobals "law" = some (some (.ref f13)))
    (l13 : K.lookup f13 = some ⟨oc13, od13, .func (PySem.W.fnOf "law" "law" (defArgs s_law_k03) (defBody s_law_k03) (defScope s_law_k03) .none kV13 dc13 pm13 an13 cd13 ct13), sl13⟩)
    (c13 : PySem.W.codeIn K cd13 "law" = true)
    (k13 : PySem.W.keepIn K (.ref f13) = true)
    (z0 : PySem.W.nsIn K mainGlobals "bool" = some none)
    (z1 : PySem.W.nsIn K mainGlobals "enumerate" = some none)
    (z2 : PySem.W.nsIn K mainGlobals "int" = some none)
    (z3 : PySem.W.nsIn K mainGlobals "isinstance" = some none)
    (z4 : PySem.W.nsIn K mainGlobals "len" = some none)
    (z5 : PySem.W.nsIn K mainGlobals "max" = some none)
    (z6 : PySem.W.nsIn K mainGlobals "min" = some none)
    (z7 : PySem.W.nsIn K mainGlobals "range" = some none)
    (z8 : PySem.W.nsIn K mainGlobals "str" = some none)
    (y0 : PySem.W.nsIn K mainGlobals "CUBES" = some (some (.str "cubes" tk0)))
    (y1 : PySem.W.nsIn K mainGlobals "FEWEST_CORNERS" = some (some (.int 3 tk1)))
    (y2 : PySem.W.nsIn K mainGlobals "MOST_CORNERS" = some (some (.int 12 tk2))) :
    ∃ fd : FuncData, (∀ (s : Shared) (v : Value), BindsTo s fd ⟨[v], []⟩ [("script", v)]) ∧ ∀ base : Heap, K.In base → base.Ns mainGlobals mg → FnOk l.prog w K mg base CX0 6 fa fd ["script"] (spLaw K) := by
  obtain ⟨T, e1, e2⟩ := txt_mk X Gs a1 l1 c1 k1 a2 l2 c2 k2 a3 l3 c3 k3 a4 l4 c4 k4 a5 l5 c5 k5 a6 l6 c6 k6 a7 l7 c7 k7 a8 l8 c8 k8 a9 l9 c9 k9 a10 l10 c10 k10 a11 l11 c11 k11 a12 l12 c12 k12 a13 l13 c13 k13 z0 z1 z2 z3 z4 z5 z6 z7 z8 y0 y1 y2
  have e := hfa.symm.trans e1
  cases e
  refine ⟨T.d_law_k03, fun s v => ?_, fun base _ _ => ?_⟩
  · rw [e2]
    exact .of_eq rfl
  · refine (ok_law_k03 (P := l.prog) (w := w) (base := base) T).imp fun vs H Q E h => ?_
    obtain ⟨a, ns, rfl, hS, hl, q⟩ := h
    exact HL ⟨K, fun _ => 0⟩ H a ns Q hS hl q
end Fs
open PySem PySem.W PyProof.Rows
set_option maxHeartbeats 0 in
theorem PySem.Challenge.cw_fewshapes_k03_places_of_numbers_holds : PySem.Challenge.rw_fewshapes_k03_places_of_numbers.Holds := by
  w_on; o_law; k_head; (case hw => w_witness2)
  k_fill
  refine L2.walk_of (l := PySem.Challenge.rw_fewshapes_k03_places_of_numbers) (n := 63) (k := 6) (x := "script") (CX := fun _ => L2.CX0) (sp := fun w => Fs.spLaw _) rfl (by decide) rfl ⟨rfl, by decide, by decide⟩ (fun w h Y => PySem.W.kIn_of Y) ?F (fun _ _ a ns hl _ hS => ⟨a, ns, rfl, hS, hl, fun _ => rfl⟩) (fun _ _ _ _ _ h => h)
  case F =>
    intro w mg fa h KX G hmg
    refine' Fs.all_mk Fs.law_holds KX G hmg ?a1 ?l1 ?c1 ?k1 ?a2 ?l2 ?c2 ?k2 ?a3 ?l3 ?c3 ?k3 ?a4 ?l4 ?c4 ?k4 ?a5 ?l5 ?c5 ?k5 ?a6 ?l6 ?c6 ?k6 ?a7 ?l7 ?c7 ?k7 ?a8 ?l8 ?c8 ?k8 ?a9 ?l9 ?c9 ?k9 ?a10 ?l10 ?c10 ?k10 ?a11 ?l11 ?c11 ?k11 ?a12 ?l12 ?c12 ?k12 ?a13 ?l13 ?c13 ?k13 ?z0 ?z1 ?z2 ?z3 ?z4 ?z5 ?z6 ?z7 ?z8 ?y0 ?y1 ?y2
    (case a1 => k_is)
    (case l1 => k_is)
    (case c1 => k_is)
    (case k1 => k_is)
    (case a2 => k_is)
    (case l2 => k_is)
    (case c2 => k_is)
    (case k2 => k_is)
    (case a3 => k_is)
    (case l3 => k_is)
    (case c3 => k_is)
    (case k3 => k_is)
    (case a4 => k_is)
    (case l4 => k_is)
    (case c4 => k_is)
    (case k4 => k_is)
    (case a5 => k_is)
    (case l5 => k_is)
    (case c5 => k_is)
    (case k5 => k_is)
    (case a6 => k_is)
    (case l6 => k_is)
    (case c6 => k_is)
    (case k6 => k_is)
    (case a7 => k_is)
    (case l7 => k_is)
    (case c7 => k_is)
    (case k7 => k_is)
    (case a8 => k_is)
    (case l8 => k_is)
    (case c8 => k_is)
    (case k8 => k_is)
    (case a9 => k_is)
    (case l9 => k_is)
    (case c9 => k_is)
    (case k9 => k_is)
    (case a10 => k_is)
    (case l10 => k_is)
    (case c10 => k_is)
    (case k10 => k_is)
    (case a11 => k_is)
    (case l11 => k_is)
    (case c11 => k_is)
    (case k11 => k_is)
    (case a12 => k_is)
    (case l12 => k_is)
    (case c12 => k_is)
    (case k12 => k_is)
    (case a13 => k_is)
    (case l13 => k_is)
    (case c13 => k_is)
    (case k13 => k_is)
    (case z0 => k_is)
    (case z1 => k_is)
    (case z2 => k_is)
    (case z3 => k_is)
    (case z4 => k_is)
    (case z5 => k_is)
    (case z6 => k_is)
    (case z7 => k_is)
    (case z8 => k_is)
    (case y0 => k_is)
    (case y1 => k_is)
    (case y2 => k_is)
