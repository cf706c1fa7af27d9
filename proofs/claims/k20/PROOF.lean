import PyProof.Rows.All
import Wide.All
import OpenK.AllK
import Wide.FinOn
import HandS.ForMost
import HandS.Exc
import HandS.TryOnly
import HandS.ExcOwn
import HandS.WordsExc
import HandS.IsInst
import HandS.Wide
import HandS.WideBits
import HandS.SortInts
import HandS.Style
import HandS.More
import HandS.Conv
import HandS.Small
import HandS.RaiseMore
import HandS.Walk
import PySem.Challenge.RW_fewshapes_k20_first_unlike
set_option Elab.async false
set_option linter.all false
set_option maxRecDepth 100000
set_option maxHeartbeats 4000000
namespace Fs
open PySem PySem.Spec PyProof.Rows L2
abbrev Fg := PySem.W.Frag
/-! ### readings: one name an operation, whatever the kinds -/
def rAddS : R2 := fun x y H Q => ∃ i j, x = .str i ∧ y = .str j ∧ i.length + j.length ≤ sizeLine ∧ Q (.str (i ++ j)) H
def uAdd : R2 := fun x y H Q => rI0 (fun i j => .int (i + j)) x y H Q ∨ (rAddS x y H Q ∨ rCat x y H Q)
def uSub : R2 := rI0 fun i j => .int (i - j)
def uMul : R2 := fun x y H Q => rI CMulX (fun i j => .int (i * j)) x y H Q ∨ (rI CMul (fun i j => .int (i * j)) x y H Q ∨ rRep x y H Q)
def uDiv : R2 := rI CDivW fun i j => .int (i / j)
def uMod : R2 := rI (fun _ j => 0 < j) fun i j => .int (i % j)
def uPow : R2 := rI CPow fun i j => .int (i ^ j.toNat)
def uAnd : R2 := rI0 fun i j => .int (Builtin.bitAnd i j)
def uOr : R2 := rI0 fun i j => .int (Builtin.bitOr i j)
def uLt : R2 := rI0 fun i j => .bl (decide (i < j))
def uLe : R2 := rI0 fun i j => .bl (decide (i ≤ j))
def uGt : R2 := rI0 fun i j => .bl (decide (j < i))
def uGe : R2 := rI0 fun i j => .bl (decide (j ≤ i))
def uEq (K : Fg) : R2 := fun x y H Q => rEq x y H Q ∨ rEqD K x y H Q
def uNe (K : Fg) : R2 := fun x y H Q => rNe x y H Q ∨ rNeD K x y H Q
def uIn (K : Fg) : R2 := rIn K false
def rIsN : R2 := fun x y H Q => y = .non ∧ Q (.bl (decide (x = .non))) H
def rNotN : R2 := fun x y H Q => y = .non ∧ Q (.bl (!decide (x = .non))) H
def uIs : R2 := fun x y H Q => rIsN x y H Q ∨ rIsB x y H Q
def uIsNot : R2 := fun x y H Q => rNotN x y H Q ∨ rNotB x y H Q
def uIx (K : Fg) : R2 := rIx K
def uSl (K : Fg) : V → Option Int → Option Int → Hp → VK → Prop := fun x lo hi H Q => rSlL K x lo hi H Q ∨ rSlS x lo hi H Q
def uNeg : V → Hp → VK → Prop := rU fun i => .int (-i)
abbrev RC := List V → Hp → VK → Prop
def uLen (K : Fg) : RC := fun xs H Q => ∃ x n, xs = [x] ∧ LenV K x H n ∧ Q (.int n) H
def rMax2 : RC := fun xs H Q => ∃ i j, xs = [.int i, .int j] ∧ Q (.int (if j > i then j else i)) H
def rMin2 : RC := fun xs H Q => ∃ i j, xs = [.int i, .int j] ∧ Q (.int (if j < i then j else i)) H
def uMax (K : Fg) : RC := fun xs H Q => rMax2 xs H Q ∨ rMax K xs H Q
def uMin (K : Fg) : RC := fun xs H Q => rMin2 xs H Q ∨ rMin K xs H Q
def rInt1 : RC := fun xs H Q => (∃ i, xs = [.int i] ∧ Q (.int i) H) ∨ ∃ k, xs = [.bl k] ∧ Q (.int (if k then 1 else 0)) H
def rIntS : RC := fun xs H Q => ∃ a n, xs = [.str a] ∧ PySem.intText? a = some n ∧ a.length ≤ 640 ∧ Q (.int n) H
def uInt : RC := fun xs H Q => rInt1 xs H Q ∨ rIntS xs H Q
def uAbs : RC := fun xs H Q => ∃ i, xs = [.int i] ∧ Q (.int (if i < 0 then -i else i)) H
def uIsi (K : Fg) : RC := rIsi K
def rListOf (K : Fg) : RC := fun xs H Q => ∃ p ys, xs = [.ref p] ∧ (SqL K H p ys ∨ SqT K H p ys) ∧ ∀ l, H l = none → Q (.ref l) (upd H l (.lst ys))
def uSet : TSet := fun o i v H Q => rSetL o i v H Q ∨ rSetD o i v H Q
/-- sorted(d), the keys ints, any number of them -/
def rSortedDA : RC := fun xs H Q => ∃ (a : Addr) (kvs : List (Key × V)) (ks : List Int), xs = [.ref a] ∧ Rd H a (.dK kvs) ∧ kvs.map (·.1) = ks.map Sum.inl ∧
    ∀ (ys : List Int) (p : Addr), ys.Perm ks → ys.Pairwise (· ≤ ·) → H p = none → Q (.ref p) (upd H p (.lst (ys.map V.int)))
def uSorted (K : Fg) : RC := fun xs H Q => rSortedI K xs H Q ∨ rSortedDA xs H Q
def uList (K : Fg) : RC := fun xs H Q => rListOf K xs H Q ∨ rListD xs H Q
/-- raise C(..): the wish of an error of the class at C -/
def tRz (E : XK) (C : Addr) : TS := fun _ _ H => E (.ref C) none H
/-- a promise at calls that let nothing out -/
def sp0 (sp : Sp) : Sp := fun vs H Q _ => sp vs H Q E0
/-- what the readings lean on: the written part, where the classes stand -/
structure Gx where
  K : Fg
  C : String → Addr
section
variable {X : Cx}
theorem o_add : OpR X (binaryOp .Add) uAdd := op_add.or (op_add_str.or op_cat)
theorem o_sub : OpR X (binaryOp .Sub) uSub := op_sub
theorem o_mul : OpR X (binaryOp .Mult) uMul := op_mulX.or (op_mul.or op_rep)
theorem o_div : OpR X (binaryOp .FloorDiv) uDiv := op_fdivW
theorem o_mod : OpR X (binaryOp .Mod) uMod := op_mod
theorem o_pow : OpR X (binaryOp .Pow) uPow := op_pow
theorem o_lt : OpR X (compareOp .Lt) uLt := op_lt
theorem o_le : OpR X (compareOp .LtE) uLe := op_le
theorem o_gt : OpR X (compareOp .Gt) uGt := op_gt
theorem o_ge : OpR X (compareOp .GtE) uGe := op_ge
theorem o_eq (hu : X.A.units + 64 < cLine) : OpR X (compareOp .Eq) (uEq X.K) := op_eq.or (op_eqD hu)
theorem o_ne (hu : X.A.units + 64 < cLine) : OpR X (compareOp .NotEq) (uNe X.K) := op_ne.or (op_neD hu)
theorem o_in : OpR X (compareOp .In) (uIn X.K) := op_in_seq
theorem o_is : OpR X (compareOp .Is) uIs := op_isN.or op_isBl
theorem o_isNot : OpR X (compareOp .IsNot) uIsNot := op_notN.or op_notBl
theorem o_ix : IxR X (uIx X.K) := ix_seq
theorem o_sl : SlR X (uSl X.K) := sl_list.or sl_str
theorem o_neg : UnR X (unaryOp .USub) uNeg := un_neg
theorem k_len : CallR X (.builtin "len") (uLen X.K) := call_len
theorem k_max (hc : X.calm = true) : CallR X (.builtin "max") (uMax X.K) := (call_max2 hc).or (cr_max hc)
theorem k_min (hc : X.calm = true) : CallR X (.builtin "min") (uMin X.K) := (call_min2 hc).or (cr_min hc)
theorem k_isi : CallR X (.builtin "isinstance") (uIsi X.K) := call_isi
theorem s_any (hu : X.A.units + 1 < cLine) : PSet X uSet := by
  intro pins s σ H o i v ov iv u Q I ro ri rv h
  rcases h with h | h
  · exact set_list pins s σ H o i v ov iv u Q I ro ri rv h
  · exact set_dict hu pins s σ H o i v ov iv u Q I ro ri rv h
theorem k_sortedDA (hcalm : X.calm = true) : CallR X (.builtin "sorted") rSortedDA := by
  intro pins s σ H xs us Q I r q
  obtain ⟨a, kvs, ks, ex, hd, hks, q⟩ := q
  subst ex
  obtain ⟨u, eu, rx⟩ := vals1 r
  subst eu
  cases rx
  obtain ⟨z, lo, vs, rel, dd⟩ := dk_rd I.hok hd
  obtain ⟨ep, hat⟩ := dd.dictAt
  have hkeys : vs.map (·.1) = ks.map Sum.inl := rel.keys.symm.trans hks
  have hl : vs.length = ks.length := by
    have e := congrArg List.length hkeys
    rw [List.length_map, List.length_map] at e
    exact e
  have h16 : vs.length ≤ sizeLine := by rw [← rel.length]; exact z
  refine Calls.call_function_entry PyProof.Rows.kind_sorted PyProof.Rows.plain_sorted PyProof.Rows.entry_sorted (PyProof.Rows.args_sorted1 _) ?_
  unfold Builtin.«sorted»
  refine wpAny_bind (m := checkCount "sorted" 1 1 _) (wpAny_pure ?_)
  refine wpAny_bind (PySem.W.kdu_collect (A := X.A.in1) (PySem.W.kdl_dict (knd := mixKind X.prog X.w) (kvs := vs) (ep := ep) lo) (I.ok.hd hcalm) hat h16 fun h' tk acc hk hacc => ?_)
  have hal : acc.toList.length = ks.length := by rw [Array.length_toList, hacc.1, hl]
  have hS : IntsAre acc.toList ks := ints_each hal fun j v e => by
    obtain ⟨k, x, e1, e2⟩ := hacc.2 j v (by rw [← Array.getElem?_toList]; exact e)
    have e3 : (vs.map (·.1))[j]? = some k := by rw [List.getElem?_map, e1]; rfl
    rw [hkeys, List.getElem?_map] at e3
    cases e4 : ks[j]? with
    | none => rw [e4] at e3; cases e3
    | some y =>
      rw [e4] at e3
      have e5 : Sum.inl y = k := Option.some.inj e3
      subst e5
      rcases keyIs_shape (show keyIs (Sum.inl y) v = true from e2) with ⟨i, t, ek, ev⟩ | ⟨z, t, ek, ev⟩
      · cases ek
        exact ⟨y, t, rfl, ev⟩
      · cases ek
  have I1 : Inv X pins σ H { s with heap := h', toks := tk } := I.kept hk
  have hz2 : acc.toList.length ≤ sizeLine := by rw [hal, ← hl]; exact h16
  refine wpAny_bind (wpAny_newList ?_ hz2)
  have hoL : (h'.push (seqObj "list" acc.toList.toArray 0)).get? h'.objs.size = some (seqObj "list" acc.toList.toArray 0) := Heap.get?_push_size _ rfl
  show wpAny _ _ _ _ _ { s with heap := h'.push (seqObj "list" acc.toList.toArray 0), toks := tk }
  refine wpAny_bind (wpAny_holding (wpAny_call_entry PyProof.Rows.slot_list_sort ⟨_, hoL, rfl⟩ PyProof.Rows.entry_list_sort
    (SrtO.list_sort_ord (s := { s with heap := h'.push (seqObj "list" acc.toList.toArray 0), toks := tk }) SrtO.swo_int hoL hz2 (fun h2 => SrtO.ints_sortable hS h2) fun out g1 g2 => ⟨_, rfl, ?_⟩) (PyProof.Rows.args_list_sort _)))
  obtain ⟨k1, k2, k3⟩ := SrtO.ints_out hS g1 g2
  obtain ⟨e', he'⟩ := PyProof.Rows.sortedHeap_at (vs := acc.toList) (out := out.toArray) hoL
  have hlen : ((out.map SrtO.iv).map V.int).length ≤ sizeLine := by
    rw [List.length_map, k2.length_eq, ← hl]
    exact h16
  refine wpAny_pure ⟨_, rfl, .ref h'.objs.size, upd H h'.objs.size (.lst ((out.map SrtO.iv).map V.int)), I1.laid (t' := tk) (fun b u e => ?_) (Nat.le_refl _)
    (show ObjOk X.prog X.w _ _ _ (.lst ((out.map SrtO.iv).map V.int)) from ⟨hlen, out, e', vals_of_ints k1, he'⟩), rfl, q _ _ k2 k3 (I1.hok.fresh (Nat.le_refl _))⟩
  have hb : b < h'.objs.size := Heap.lt_size e
  rw [PyProof.Rows.sortedHeap_old (Nat.ne_of_lt hb) (by rw [size_push']; exact Nat.lt_succ_of_lt hb)]
  exact Heap.get?_push_of_some _ e
theorem k_sorted (hc : X.calm = true) : CallR X (.builtin "sorted") (uSorted X.K) := cr_sortedI.or (k_sortedDA hc)
theorem k_list (hc : X.calm = true) : CallR X (.type "list") (uList X.K) := call_list_of.or (call_list_dK hc)
/-- slots of names -/
theorem pgn (i : Nat) {x : Str} {pos : Pos} (hN : X.N.Nodup) (hi : X.N[i]? = some x := by rfl) (hx : Loc X.env.scope x := by first | exact Or.inl rfl | exact Or.inr rfl) (hf : X.fn x = true ∨ X.env.scope.names.lookup x = some .local := by first | exact .inl rfl | exact .inr rfl) : PG X (.Name x pos) (gName i) := pg_name hN hi hx hf
theorem pst (i : Nat) {x : Str} {e : Expr} {te : TE} {pos pos' : Pos} (hN : X.N.Nodup) (he : PE X e te) (hi : X.N[i]? = some x := by rfl) (hx : Loc X.env.scope x := by first | exact Or.inl rfl | exact Or.inr rfl) (hs : swapsWith e (some (.Name x pos')) pos.line X.env = pure false := by rfl) (hf : X.fn x = true ∨ X.env.scope.names.lookup x = some .local := by first | exact .inl rfl | exact .inr rfl) :
    PS X (.Assign [.Name x pos'] e pos) (tAsg te (gName i)) := ps_set hN hi hx he hs hf
theorem pau (i : Nat) {x : Str} {e : Expr} {te : TE} {op : Operator} {ti : TIp} {pos pos' : Pos} (hN : X.N.Nodup) (he : PE X e te) (ho : PIp X op ti) (hi : X.N[i]? = some x := by rfl) (hx : Loc X.env.scope x := by first | exact Or.inl rfl | exact Or.inr rfl) (hf : X.fn x = true ∨ X.env.scope.names.lookup x = some .local := by first | exact .inl rfl | exact .inr rfl) :
    PS X (.AugAssign (.Name x pos') op e pos) (tAug i te ti) := ps_aug hN hi hx he ho hf
end
/-! ### calls that let nothing out -/
section
variable {X : Cx} {k : Nat} {f : Addr} {fd : FuncData} {ps : List Str} {sp : Sp} {x : Str} {p pos : Pos} {e : Expr} {es : List Expr} {t : TA}
theorem pcall (F : FnOk X.prog X.w X.K X.mg X.base CX0 k f fd ps (sp0 sp)) (hr : Room k X.A) (hg : Gl X x) (hm : X.mg x = some (.ref f)) (hk : PySem.W.keepIn X.K (.ref f) = true) (hb : Binds X.K fd ps []) (ha : PA X (e :: es) t)
    (hdb : (x == ("__debug__" : Str)) = false := by decide) (he : starEach (e :: es) X.env = (false, eval e X.env) :: starEach es X.env := by rfl) (hpl : (backTo pos (starEach es X.env)).any (·.1) = false := by rfl) :
    PE X (.Call (.Name x p) (e :: es) [] pos) (tCall sp [] E0 t) := pe_call (sp := sp0 sp) F hr hg hm hk hb .nil pass0 ha hdb he hpl
theorem prz0 {st : Stmt} {C : Addr} : PS X st (tRz E0 C) := ⟨fun _ _ _ _ _ _ h => h.elim⟩
end
/-! ### steps of a reading -/
section
variable {K : Fg} {D : Ends} {σ : L2.St} {H : Hp} {t u : TS} {te ta tb tc : TE} {c c2 : TT} {g : TG} {Q : VK} {QB : Bool → Hp → Prop} {QA : List V → Hp → Prop} {x y v : V} {i j : Int} {b : Bool} {a p l : Addr} {xs ys : List V} {z s : Str}
theorem i_seq (h : t { D with nx := u D } σ H) : tSeq t u D σ H := h
theorem i_next (h : D.nx σ H) : tNext D σ H := h
theorem i_asg (h : te σ H fun x H1 => g x σ H1 D.nx) : tAsg te g D σ H := h
theorem i_gname {n : Nat} {R : L2.St → Hp → Prop} (h : R (σ.set n (some v)) H) : gName n v σ H R := h
theorem i_ifS (h : c σ H fun b H1 => if b = true then t D σ H1 else u D σ H1) : tIfS c t u D σ H := h
theorem i_ret (h : te σ H D.rt) : tRet te D σ H := h
theorem i_retN (h : D.rt .non H) : tRetN D σ H := h
theorem i_drop (h : te σ H fun _ H1 => D.nx σ H1) : tDrop te D σ H := h
theorem i_brk (h : D.bk σ H) : tBreak D σ H := h
theorem i_aug {n : Nat} {ti : TIp} (hx : σ[n]? = some (some x)) (h : te σ H fun y H1 => ti x y H1 fun z H2 => D.nx (σ.set n (some z)) H2) : tAug n te ti D σ H := ⟨x, hx, h⟩
theorem i_ipI {f : Int → Int → Int} (h : Q (.int (f i j)) H) : ipI f (.int i) (.int j) H Q := ⟨i, j, rfl, rfl, h⟩
theorem i_var {n : Nat} (hx : σ[n]? = some (some v)) (h : Q v H) : tVar n σ H Q := ⟨v, hx, h⟩
theorem i_c (h : Q v H) : tC v σ H Q := h
theorem i_op {r : R2} (h : ta σ H fun x H1 => tb σ H1 fun y H2 => r x y H2 Q) : tOp r ta tb σ H Q := h
theorem i_un {r : V → Hp → VK → Prop} (h : ta σ H fun x H1 => r x H1 Q) : tUn r ta σ H Q := h
theorem i_call {sp : Sp} {E : XK} {t : TA} (h : t σ H fun vs H1 => sp vs H1 Q E) : tCall sp [] E t σ H Q := by
  have e : (fun vs H1 => sp (vs ++ []) H1 Q E) = fun vs H1 => sp vs H1 Q E := by
    funext vs H1
    rw [List.append_nil]
  show t σ H fun vs H1 => sp (vs ++ []) H1 Q E
  rw [e]
  exact h
theorem i_cb {r : RC} {t : TA} (h : t σ H fun vs H1 => r vs H1 Q) : tCB r t σ H Q := h
theorem i_nil (h : QA [] H) : tNil σ H QA := h
theorem i_cons {tr : TA} (h : ta σ H fun x H1 => tr σ H1 fun xs H2 => QA (x :: xs) H2) : tCons ta tr σ H QA := h
theorem i_bm {T : String} {r : V → List V → Hp → VK → Prop} {t : TA} (h : ta σ H fun x H1 => tyV K T x H1 ∧ t σ H1 fun xs H2 => r x xs H2 Q) : tBM K T r ta t σ H Q := h
theorem i_bm0 {T : String} {r : V → List V → Hp → VK → Prop} (h : ta σ H fun x H1 => tyV K T x H1 ∧ r x [] H1 Q) : tBM0 K T r ta σ H Q := h
theorem i_lst {t : TA} (h : t σ H fun xs H1 => xs.length ≤ sizeLine ∧ ∀ p, H1 p = none → Q (.ref p) (upd H1 p (.lst xs))) : tLst t σ H Q := h
theorem i_tup {t : TA} (h : t σ H fun xs H1 => xs.length ≤ sizeLine ∧ ∀ p, H1 p = none → Q (.ref p) (upd H1 p (.tup xs))) : tTup t σ H Q := h
theorem i_sl {r : V → Option Int → Option Int → Hp → VK → Prop} {tl th : TO} (h : te σ H fun x H1 => tl σ H1 fun l H2 => th σ H2 fun u H3 => r x l u H3 Q) : tSl r te tl th σ H Q := h
theorem i_nopart {R : Option Int → Hp → Prop} (h : R none H) : tNoPart σ H R := h
theorem i_part {R : Option Int → Hp → Prop} (h : te σ H fun x H1 => ∃ i, x = .int i ∧ R (some i) H1) : tPart te σ H R := h
theorem i_exint {R : Int → Prop} (h : R i) : ∃ j, V.int i = .int j ∧ R j := ⟨i, rfl, h⟩
theorem i_exbl {R : Bool → Prop} (h : R b) : ∃ j, V.bl b = .bl j ∧ R j := ⟨b, rfl, h⟩
theorem i_if (h : c σ H fun b H1 => if b = true then ta σ H1 Q else tb σ H1 Q) : tIf c ta tb σ H Q := h
theorem i_andV (h : ta σ H fun x H1 => ∃ c, x = .bl c ∧ if c = true then tb σ H1 Q else Q (.bl false) H1) : tAndV ta tb σ H Q := h
theorem i_orV (h : ta σ H fun x H1 => ∃ c, x = .bl c ∧ if c = true then Q (.bl true) H1 else tb σ H1 Q) : tOrV ta tb σ H Q := h
theorem i_notV (h : ta σ H fun x H1 => ∃ c, x = .bl c ∧ Q (.bl (!c)) H1) : tNotV ta σ H Q := h
theorem i_test (h : te σ H fun x H1 => ∃ k, x = .bl k ∧ QB k H1) : tTest te σ H QB := h
theorem i_B (h : te σ H fun x H1 => ∃ k, x = .bl k ∧ QB k H1) : tB te σ H QB := h
theorem i_and (h : c σ H fun b H1 => if b = true then c2 σ H1 QB else QB false H1) : tAnd c c2 σ H QB := h
theorem i_or (h : c σ H fun b H1 => if b = true then QB true H1 else c2 σ H1 QB) : tOr c c2 σ H QB := h
theorem i_not (h : c σ H fun b H1 => QB (!b) H1) : tNot c σ H QB := h
theorem i_yes (h : QB true H) : tYes σ H QB := h
theorem i_chain {r r' : R2} (h : ta σ H fun x H1 => tb σ H1 fun y H2 => r x y H2 fun z H3 => ∃ k, z = .bl k ∧ (if k = true then tc σ H3 fun w' H4 => r' y w' H4 Q else Q (.bl false) H3)) : tChain r r' ta tb tc σ H Q := h
/-! numbers -/
theorem i_add (h : Q (.int (i + j)) H) : uAdd (.int i) (.int j) H Q := .inl ⟨i, j, rfl, rfl, h⟩
theorem i_addL (h1 : H a = some (.lst xs)) (h2 : H p = some (.lst ys)) (hz : xs.length + ys.length ≤ sizeLine) (h : ∀ q, H q = none → Q (.ref q) (upd H q (.lst (xs ++ ys)))) : uAdd (.ref a) (.ref p) H Q := .inr (.inr ⟨a, p, xs, ys, rfl, rfl, h1, h2, hz, h⟩)
theorem i_sub (h : Q (.int (i - j)) H) : uSub (.int i) (.int j) H Q := ⟨i, j, rfl, rfl, h⟩
theorem i_mulL (h1 : -(2 ^ 64) < i ∧ i < 2 ^ 64) (h : Q (.int (i * j)) H) : uMul (.int i) (.int j) H Q := .inr (.inl ⟨i, j, rfl, rfl, .inl h1, h⟩)
theorem i_mulR (h1 : -(2 ^ 64) < j ∧ j < 2 ^ 64) (h : Q (.int (i * j)) H) : uMul (.int i) (.int j) H Q := .inr (.inl ⟨i, j, rfl, rfl, .inr h1, h⟩)
theorem i_mulX (h1 : CMulX i j) (h : Q (.int (i * j)) H) : uMul (.int i) (.int j) H Q := .inl ⟨i, j, rfl, rfl, h1, h⟩
theorem i_rep {k : Int} (h1 : H a = some (.lst xs)) (h0 : -(2 ^ 63) ≤ k) (h2 : k < 2 ^ 63) (hz : xs.length * k.toNat ≤ sizeLine) (h : ∀ q, H q = none → Q (.ref q) (upd H q (.lst (List.replicate k.toNat xs).flatten))) : uMul (.ref a) (.int k) H Q := .inr (.inr ⟨a, k, xs, rfl, rfl, h1, h0, h2, hz, h⟩)
theorem i_div (h1 : CDivW i j) (h : Q (.int (i / j)) H) : uDiv (.int i) (.int j) H Q := ⟨i, j, rfl, rfl, h1, h⟩
theorem div_ok (h0 : 0 < j) (h1 : j < 2 ^ 64) : CDivW i j := wide_div (b := 64) h0 (by omega) (by decide) (by decide)
theorem i_mod (h1 : 0 < j) (h : Q (.int (i % j)) H) : uMod (.int i) (.int j) H Q := ⟨i, j, rfl, rfl, h1, h⟩
theorem i_pow (h1 : CPow i j) (h : Q (.int (i ^ j.toNat)) H) : uPow (.int i) (.int j) H Q := ⟨i, j, rfl, rfl, h1, h⟩
theorem i_band (h : Q (.int (Builtin.bitAnd i j)) H) : uAnd (.int i) (.int j) H Q := ⟨i, j, rfl, rfl, h⟩
theorem i_bor (h : Q (.int (Builtin.bitOr i j)) H) : uOr (.int i) (.int j) H Q := ⟨i, j, rfl, rfl, h⟩
theorem i_neg (h : Q (.int (-i)) H) : uNeg (.int i) H Q := ⟨i, rfl, h⟩
theorem i_lt (h : Q (.bl (decide (i < j))) H) : uLt (.int i) (.int j) H Q := ⟨i, j, rfl, rfl, h⟩
theorem i_le (h : Q (.bl (decide (i ≤ j))) H) : uLe (.int i) (.int j) H Q := ⟨i, j, rfl, rfl, h⟩
theorem i_gt (h : Q (.bl (decide (j < i))) H) : uGt (.int i) (.int j) H Q := ⟨i, j, rfl, rfl, h⟩
theorem i_ge (h : Q (.bl (decide (j ≤ i))) H) : uGe (.int i) (.int j) H Q := ⟨i, j, rfl, rfl, h⟩
theorem dec_VI : decide (V.int i = V.int j) = decide (i = j) := by rw [Bool.eq_iff_iff]; simp
theorem dec_VS : decide (V.str z = V.str s) = decide (z = s) := by rw [Bool.eq_iff_iff]; simp
theorem i_eqI (h : Q (.bl (decide (i = j))) H) : uEq K (.int i) (.int j) H Q := .inl ⟨rfl, by rw [dec_VI]; exact h⟩
theorem i_neI (h : Q (.bl (!decide (i = j))) H) : uNe K (.int i) (.int j) H Q := .inl ⟨rfl, by rw [dec_VI]; exact h⟩
theorem i_eqS (h : Q (.bl (decide (z = s))) H) : uEq K (.str z) (.str s) H Q := .inl ⟨rfl, by rw [dec_VS]; exact h⟩
theorem i_neS (h : Q (.bl (!decide (z = s))) H) : uNe K (.str z) (.str s) H Q := .inl ⟨rfl, by rw [dec_VS]; exact h⟩
theorem i_eqIS (h : Q (.bl false) H) : uEq K (.int i) (.str s) H Q := .inl ⟨rfl, by rw [decide_eq_false (fun z => nomatch z)]; exact h⟩
theorem i_neIS (h : Q (.bl true) H) : uNe K (.int i) (.str s) H Q := .inl ⟨rfl, by rw [decide_eq_false (fun z => nomatch z)]; exact h⟩
theorem i_eqIN (h : Q (.bl false) H) : uEq K (.int i) .non H Q := .inl ⟨rfl, by rw [decide_eq_false (fun z => nomatch z)]; exact h⟩
theorem i_neIN (h : Q (.bl true) H) : uNe K (.int i) .non H Q := .inl ⟨rfl, by rw [decide_eq_false (fun z => nomatch z)]; exact h⟩
theorem i_eqNI (h : Q (.bl false) H) : uEq K .non (.int i) H Q := .inl ⟨rfl, by rw [decide_eq_false (fun z => nomatch z)]; exact h⟩
theorem i_neNI (h : Q (.bl true) H) : uNe K .non (.int i) H Q := .inl ⟨rfl, by rw [decide_eq_false (fun z => nomatch z)]; exact h⟩
theorem i_neNN (h : Q (.bl false) H) : uNe K .non .non H Q := .inl ⟨rfl, by rw [decide_eq_true rfl]; exact h⟩
theorem i_isN (h : Q (.bl (decide (x = .non))) H) : uIs x .non H Q := .inl ⟨rfl, h⟩
theorem i_notN (h : Q (.bl (!decide (x = .non))) H) : uIsNot x .non H Q := .inl ⟨rfl, h⟩
theorem i_isB {b2 : Bool} (h : Q (.bl (decide (b = b2))) H) : uIs (.bl b) (.bl b2) H Q := .inr ⟨b, b2, rfl, rfl, h⟩
theorem i_notB {b2 : Bool} (h : Q (.bl (!decide (b = b2))) H) : uIsNot (.bl b) (.bl b2) H Q := .inr ⟨b, b2, rfl, rfl, h⟩
theorem i_max2 (h : Q (.int (if j > i then j else i)) H) : uMax K [.int i, .int j] H Q := .inl ⟨i, j, rfl, h⟩
theorem i_min2 (h : Q (.int (if j < i then j else i)) H) : uMin K [.int i, .int j] H Q := .inl ⟨i, j, rfl, h⟩
theorem i_intI (h : Q (.int i) H) : uInt [.int i] H Q := .inl (.inl ⟨i, rfl, h⟩)
theorem i_intB (h : Q (.int (if b then 1 else 0)) H) : uInt [.bl b] H Q := .inl (.inr ⟨b, rfl, h⟩)
theorem i_abs (h : Q (.int (if i < 0 then -i else i)) H) : uAbs [.int i] H Q := ⟨i, rfl, h⟩
theorem i_lenL (hs : SqL K H a xs) (h : Q (.int xs.length) H) : uLen K [.ref a] H Q := ⟨_, xs.length, rfl, .inl ⟨xs, hs, rfl⟩, h⟩
theorem i_ixL (hs : SqL K H a xs) (ha : atI xs i = some v) (h : Q v H) : uIx K (.ref a) (.int i) H Q := .inl ⟨a, xs, i, v, rfl, rfl, hs, ha, h⟩
theorem i_slL {lo hi : Option Int} (hs : SqL K H a xs) (h : ∀ p, H p = none → Q (.ref p) (upd H p (.lst (cutV xs lo hi)))) : uSl K (.ref a) lo hi H Q := .inl ⟨a, xs, rfl, hs, h⟩
theorem i_setL {R : Hp → Prop} {n : Nat} (hs : H a = some (.lst xs)) (hi : ixN xs.length i = some n) (h : R (upd H a (.lst (xs.set n v)))) : uSet (.ref a) (.int i) v H R := .inl ⟨a, xs, i, n, rfl, rfl, hs, hi, h⟩
theorem i_inL (hs : SqL K H a xs) (hx : flatV x = true) (hf : xs.all flatV = true) (h : Q (.bl (inV x xs)) H) : uIn K x (.ref a) H Q := ⟨a, xs, rfl, .inl hs, hx, hf, h⟩
theorem i_gsub {to ti : TE} {ts : TSet} {R : L2.St → Hp → Prop} (h : to σ H fun o H1 => ti σ H1 fun i H2 => ts o i v H2 fun H3 => R σ H3) : gSub to ti ts v σ H R := h
theorem i_app (hs : H a = some (.lst xs)) (hz : xs.length < sizeLine) (h : Q .non (upd H a (.lst (xs ++ [v])))) : rAppend (.ref a) [v] H Q := ⟨a, xs, v, rfl, rfl, hs, hz, h⟩
/-! isinstance of what is no object -/
theorem i_isiII (h : Q (.bl true) H) : uIsi K [.int i, .ty "int"] H Q := ⟨_, _, _, _, true, rfl, .ty _, .base (.int i), kit_ty (by decide +kernel), h⟩
theorem i_isiIB (h : Q (.bl false) H) : uIsi K [.int i, .ty "bool"] H Q := ⟨_, _, _, _, false, rfl, .ty _, .base (.int i), kit_ty (by decide +kernel), h⟩
theorem i_isiIS (h : Q (.bl false) H) : uIsi K [.int i, .ty "str"] H Q := ⟨_, _, _, _, false, rfl, .ty _, .base (.int i), kit_ty (by decide +kernel), h⟩
theorem i_isiIL (h : Q (.bl false) H) : uIsi K [.int i, .ty "list"] H Q := ⟨_, _, _, _, false, rfl, .ty _, .base (.int i), kit_ty (by decide +kernel), h⟩
theorem i_isiSI (h : Q (.bl false) H) : uIsi K [.str s, .ty "int"] H Q := ⟨_, _, _, _, false, rfl, .ty _, .base (.str s), kit_ty (by decide +kernel), h⟩
theorem i_isiSB (h : Q (.bl false) H) : uIsi K [.str s, .ty "bool"] H Q := ⟨_, _, _, _, false, rfl, .ty _, .base (.str s), kit_ty (by decide +kernel), h⟩
theorem i_isiSS (h : Q (.bl true) H) : uIsi K [.str s, .ty "str"] H Q := ⟨_, _, _, _, true, rfl, .ty _, .base (.str s), kit_ty (by decide +kernel), h⟩
theorem i_isiSL (h : Q (.bl false) H) : uIsi K [.str s, .ty "list"] H Q := ⟨_, _, _, _, false, rfl, .ty _, .base (.str s), kit_ty (by decide +kernel), h⟩
theorem i_isiBI (h : Q (.bl true) H) : uIsi K [.bl b, .ty "int"] H Q := ⟨_, _, _, _, true, rfl, .ty _, .base (.bl b), kit_ty (by decide +kernel), h⟩
theorem i_isiBB (h : Q (.bl true) H) : uIsi K [.bl b, .ty "bool"] H Q := ⟨_, _, _, _, true, rfl, .ty _, .base (.bl b), kit_ty (by decide +kernel), h⟩
theorem i_isiBS (h : Q (.bl false) H) : uIsi K [.bl b, .ty "str"] H Q := ⟨_, _, _, _, false, rfl, .ty _, .base (.bl b), kit_ty (by decide +kernel), h⟩
theorem i_isiNI (h : Q (.bl false) H) : uIsi K [.non, .ty "int"] H Q := ⟨_, _, _, _, false, rfl, .ty _, .base .non, kit_ty (by decide +kernel), h⟩
theorem i_isiNB (h : Q (.bl false) H) : uIsi K [.non, .ty "bool"] H Q := ⟨_, _, _, _, false, rfl, .ty _, .base .non, kit_ty (by decide +kernel), h⟩
theorem i_isiLL (e : H a = some (.lst xs)) (h : Q (.bl true) H) : uIsi K [.ref a, .ty "list"] H Q := ⟨_, _, _, _, true, rfl, .ty _, .base (.lst e), kit_ty (by decide +kernel), h⟩
/-! a test that changes nothing, its answer known -/
/-! ways -/
theorem i_ite {d A B : Prop} [Decidable d] (h1 : d → A) (h2 : ¬ d → B) : if decide d = true then A else B := by
  by_cases h : d
  · rw [if_pos (decide_eq_true h)]; exact h1 h
  · rw [if_neg (by simp [h])]; exact h2 h
theorem i_T {d : Bool} {A B : Prop} (hd : d = true) (h : A) : if d = true then A else B := by rw [if_pos hd]; exact h
theorem i_F {d : Bool} {A B : Prop} (hd : d = false) (h : B) : if d = true then A else B := by rw [if_neg (by simp [hd])]; exact h
theorem i_both {d : Bool} {A B : Prop} (h1 : d = true → A) (h2 : d = false → B) : if d = true then A else B := by
  cases d
  · exact i_F rfl (h2 rfl)
  · exact i_T rfl (h1 rfl)
end
/-! ### heaps -/
theorem same_new {H : Hp} {p : Addr} {o : HO} (h : H p = none) : Same H (upd H p o) := fun b x e => by
  rw [upd_ne (ne_of_none e h)]
  exact e
/-- what was known at H0 stays, though an object that H0 did not know is turned -/
theorem same_mut {H0 H : Hp} {p : Addr} {o : HO} (s : Same H0 H) (h : H0 p = none) : Same H0 (upd H p o) := fun b x e => by
  rw [upd_ne (ne_of_none e h)]
  exact s b x e
theorem sq_of {K : Fg} {H : Hp} {a : Addr} {xs : List V} (h : H a = some (.lst xs)) : SqL K H a xs := .inl (.inl h)
theorem st_of {K : Fg} {H : Hp} {a : Addr} {xs : List V} (h : H a = some (.tup xs)) : SqT K H a xs := .inl (.inl h)
theorem at_nat {xs : List V} {n : Nat} {v : V} {i : Int} (e : i = (n : Int)) (h : xs[n]? = some v) : atI xs i = some v := by
  rw [e]; exact atI_nat h
theorem sz_le {n : Nat} (h : n ≤ 1000000) : n ≤ sizeLine := Nat.le_trans h (by decide)
theorem sz_lt {n : Nat} (h : n < 1000000) : n < sizeLine := Nat.lt_of_lt_of_le h (by decide)
/-- what stands outside a region is kept -/
def Keep (R : Addr → Prop) (H H' : Hp) : Prop := ∀ a o, ¬ R a → H a = some o → H' a = some o
theorem Keep.refl (R : Addr → Prop) (H : Hp) : Keep R H H := fun _ _ _ h => h
theorem Keep.trans {R : Addr → Prop} {H H1 H2 : Hp} (a : Keep R H H1) (b : Keep R H1 H2) : Keep R H H2 := fun x o n h => b x o n (a x o n h)
theorem keep_mut {R : Addr → Prop} {H0 H : Hp} {p : Addr} {o : HO} (s : Keep R H0 H) (h : H0 p = none) : Keep R H0 (upd H p o) := fun b x n e => by
  rw [upd_ne (ne_of_none e h)]
  exact s b x n e
theorem keep_in {R : Addr → Prop} {H0 H : Hp} {p : Addr} {o : HO} (s : Keep R H0 H) (h : R p) : Keep R H0 (upd H p o) := fun b x n e => by
  rw [upd_ne (fun z => n (by rw [z]; exact h))]
  exact s b x n e
/-! ### loops -/
def LoopK (J : It) (g : TG) (tb : TS) (D : Ends) (σ : L2.St) (H : Hp) : Prop := ∃ W : Nat → Nat → L2.St → Hp → Prop, (∃ m, W 0 m σ H) ∧ ∀ i m σ H, W i m σ H →
  (J.stop i H ∧ D.nx σ H) ∨ (J.go i H ∧ ∃ N : L2.St → Hp → Prop, (∀ σ' H', N σ' H' → ∃ m', m' < m ∧ W (i + 1) m' σ' H') ∧ ∀ x H', J.yld i H x H' → g x σ H' fun σ2 H2 => tb { D with nx := N, ct := N, bk := D.nx } σ2 H2)
def LcK (J : It) (g : TG) (tt : TT) (te : TE) (vs : List Nat) (σ : L2.St) (H1 : Hp) (Q : VK) : Prop := ∀ D, H1 D = none → ∃ W : Nat → Nat → Hp → Prop, (∃ m, W 0 m (upd H1 D (.lst []))) ∧ ∀ i m H, W i m H →
  (J.stop i H ∧ Q (.ref D) H) ∨ (J.go i H ∧ ∃ Nx : Hp → Prop, (∀ H', Nx H' → ∃ m', m' < m ∧ W (i + 1) m' H') ∧ ∀ x H', J.yld i H x H' → g x (wipe σ vs) H' fun σ2 H2 => wipe σ2 vs = wipe σ vs ∧ tt σ2 H2 fun b H3 =>
    if b = true then te σ2 H3 fun y H4 => ∃ acc, H4 D = some (.lst acc) ∧ acc.length < sizeLine ∧ Nx (upd H4 D (.lst (acc ++ [y]))) else Nx H3)
def RngA1 (vs : List V) (H : Hp) (R : It → Hp → Prop) : Prop := ∃ j : Int, vs = [.int j] ∧ -(2 ^ 62) ≤ j ∧ j < 2 ^ 62 ∧ R (Itr 0 j.toNat) H
def RngA2 (vs : List V) (H : Hp) (R : It → Hp → Prop) : Prop := ∃ i j : Int, vs = [.int i, .int j] ∧ (-(2 ^ 62) ≤ i ∧ i < 2 ^ 62 ∧ -(2 ^ 62) ≤ j ∧ j < 2 ^ 62) ∧ R (Itr i (j - i).toNat) H
def RngA3 (vs : List V) (H : Hp) (R : It → Hp → Prop) : Prop := ∃ (i j c : Int) (n : Nat), vs = [.int i, .int j, .int c] ∧ RgC i j c n ∧ R (Itc i c n) H
def LstA (K : Fg) (x : V) (H : Hp) (R : It → Hp → Prop) : Prop := ∃ a, x = .ref a ∧ (∃ xs, SqL K H a xs) ∧ R (Itl K a) H
def TupA (K : Fg) (x : V) (H : Hp) (R : It → Hp → Prop) : Prop := ∃ a, x = .ref a ∧ (∃ xs, SqT K H a xs) ∧ R (Itt K a) H
def EnumA (K : Fg) (vs : List V) (H : Hp) (R : It → Hp → Prop) : Prop := ∃ a xs, vs = [.ref a] ∧ SqL K H a xs ∧ R (Ite K a) H
def ZipA (K : Fg) (vs : List V) (H : Hp) (R : It → Hp → Prop) : Prop := ∃ a b xs ys, vs = [.ref a, .ref b] ∧ SqL K H a xs ∧ SqL K H b ys ∧ R (Itz K a b) H
def StrA (v : V) (H : Hp) (R : It → Hp → Prop) : Prop := ∃ x, v = .str x ∧ R (Its x) H
section
variable {K : Fg} {D : Ends} {σ : L2.St} {H : Hp} {tb : TS} {te : TE} {ta : TA} {c tt : TT} {g : TG} {Q : VK} {wi : TI} {R : It → Hp → Prop} {J : It} {vs : List Nat} {i j lo : Int} {n : Nat} {a b : Addr} {xs ys : List V} {z : Str}
theorem i_for (h : wi σ H fun J H1 => LoopK J g tb D σ H1) : tFor wi g tb D σ H := h
theorem i_lc (h : wi σ H fun J H1 => LcK J g tt te vs σ H1 Q) : tLc wi g tt te vs σ H Q := h
theorem i_rng1 (h : ta σ H fun vs H1 => RngA1 vs H1 R) : iRng1 ta σ H R := h
theorem i_rng2 (h : ta σ H fun vs H1 => RngA2 vs H1 R) : iRng2 ta σ H R := h
theorem i_rng3 (h : ta σ H fun vs H1 => RngA3 vs H1 R) : iRng3 ta σ H R := h
theorem i_list (h : te σ H fun x H1 => LstA K x H1 R) : iList K te σ H R := h
theorem i_tupl (h : te σ H fun x H1 => TupA K x H1 R) : iTup K te σ H R := h
theorem i_enum (h : ta σ H fun vs H1 => EnumA K vs H1 R) : iEnum K ta σ H R := h
theorem i_zip (h : ta σ H fun vs H1 => ZipA K vs H1 R) : iZip K ta σ H R := h
theorem i_str (h : te σ H fun x H1 => StrA x H1 R) : iStr te σ H R := h
theorem i_rngA1 (h : -(2 ^ 62) ≤ j ∧ j < 2 ^ 62) (k : R (Itr 0 j.toNat) H) : RngA1 [.int j] H R := ⟨j, rfl, h.1, h.2, k⟩
theorem i_rngA2 (h : -(2 ^ 62) ≤ i ∧ i < 2 ^ 62 ∧ -(2 ^ 62) ≤ j ∧ j < 2 ^ 62) (k : R (Itr i (j - i).toNat) H) : RngA2 [.int i, .int j] H R := ⟨i, j, rfl, h, k⟩
theorem i_lstA (h : SqL K H a xs) (k : R (Itl K a) H) : LstA K (.ref a) H R := ⟨a, rfl, ⟨xs, h⟩, k⟩
theorem i_enumA (h : SqL K H a xs) (k : R (Ite K a) H) : EnumA K [.ref a] H R := ⟨a, xs, rfl, h, k⟩
theorem i_strA (k : R (Its z) H) : StrA (.str z) H R := ⟨z, rfl, k⟩
theorem lk_range (Pv : Nat → L2.St → Hp → Prop) (h0 : Pv 0 σ H)
    (hs : ∀ i σ H, i < n → Pv i σ H → g (.int (lo + i)) σ H fun σ2 H2 => tb { D with nx := Pv (i + 1), ct := Pv (i + 1), bk := D.nx } σ2 H2) (hd : ∀ σ H, Pv n σ H → D.nx σ H) : LoopK (Itr lo n) g tb D σ H := for_range Pv h0 hs hd
theorem lk_list (Pv : Nat → L2.St → Hp → Prop) (h0 : Pv 0 σ H) (hl : ∀ i σ H, i ≤ xs.length → Pv i σ H → SqL K H a xs)
    (hs : ∀ i x σ H, xs[i]? = some x → Pv i σ H → g x σ H fun σ2 H2 => tb { D with nx := Pv (i + 1), ct := Pv (i + 1), bk := D.nx } σ2 H2) (hd : ∀ σ H, Pv xs.length σ H → D.nx σ H) : LoopK (Itl K a) g tb D σ H := for_list Pv h0 hl hs hd
def TurnK (W : Nat → L2.St → Hp → Prop) (m : Nat) (tb : TS) (D : Ends) (σ : L2.St) (H : Hp) : Prop := ∃ N : L2.St → Hp → Prop, (∀ σ' H', N σ' H' → ∃ m', m' < m ∧ W m' σ' H') ∧ tb { D with nx := N, ct := N, bk := D.nx } σ H
theorem i_turn {W : Nat → L2.St → Hp → Prop} {m : Nat} (h : tb { D with nx := fun σ2 H2 => ∃ m', m' < m ∧ W m' σ2 H2, ct := fun σ2 H2 => ∃ m', m' < m ∧ W m' σ2 H2, bk := D.nx } σ H) : TurnK W m tb D σ H := ⟨_, fun _ _ z => z, h⟩
theorem i_while (W : Nat → L2.St → Hp → Prop) (m0 : Nat) (h0 : W m0 σ H)
    (hs : ∀ m σ' H', W m σ' H' → c σ' H' fun b H1 => if b = true then TurnK W m tb D σ' H1 else D.nx σ' H1) : tWhile c tb D σ H := ⟨W, ⟨m0, h0⟩, hs⟩
/-- a comprehension -/
theorem lck {G : Hp → Prop} {Y : Nat → Hp → V → Hp → Prop} (w : Walk J n G Y) (Pv : Addr → Nat → Hp → Prop) (h0 : ∀ D, H D = none → Pv D 0 (upd H D (.lst []))) (hG : ∀ D i H, i ≤ n → Pv D i H → G H)
    (hs : ∀ D i x H H', i < n → Pv D i H → Y i H x H' → g x (wipe σ vs) H' fun σ2 H2 => wipe σ2 vs = wipe σ vs ∧ tt σ2 H2 fun b H3 =>
      if b = true then te σ2 H3 fun y H4 => ∃ acc, H4 D = some (.lst acc) ∧ acc.length < sizeLine ∧ Pv D (i + 1) (upd H4 D (.lst (acc ++ [y]))) else Pv D (i + 1) H3) (hd : ∀ D H', H D = none → Pv D n H' → Q (.ref D) H') : LcK J g tt te vs σ H Q :=
  fun D hD => lc_it w (Pv D) (h0 D hD) (hG D) (hs D) (fun H' p => hd D H' hD p)
/-- one that changes nothing: which turns give, and what -/
def given (f : Nat → Option V) : Nat → List V
  | 0 => []
  | n + 1 => given f n ++ (match f n with | some y => [y] | none => [])
theorem given_len (f : Nat → Option V) : ∀ n, (given f n).length ≤ n
  | 0 => Nat.le_refl _
  | n + 1 => by
    have h := given_len f n
    unfold given
    rw [List.length_append]
    cases f n <;> simp <;> omega
theorem lck_pure {G : Hp → Prop} {Y : Nat → Hp → V → Hp → Prop} (w : Walk J n G Y) (hn : n ≤ 100000) (f : Nat → Option V) (hG : ∀ H', Same H H' → G H')
    (turn : ∀ i x H1 H2 (KK : V → Hp → Prop) (NN : Hp → Prop), i < n → Same H H1 → Y i H1 x H2 → (∀ y H4, f i = some y → Same H1 H4 → KK y H4) → (∀ H3, f i = none → Same H1 H3 → NN H3) →
      g x (wipe σ vs) H2 fun σ2 H2 => wipe σ2 vs = wipe σ vs ∧ tt σ2 H2 fun b H3 => if b = true then te σ2 H3 KK else NN H3)
    (fin : ∀ p H', H p = none → Same H H' → H' p = some (.lst (given f n)) → Q (.ref p) H') : LcK J g tt te vs σ H Q := by
  refine lck w (fun D i H' => H D = none ∧ Same H H' ∧ H' D = some (.lst (given f i))) (fun D hD => ⟨hD, same_new hD, upd_same⟩) (fun D i H' _ p => hG H' p.2.1) (fun D i x H1 H2 hi p y => ?_) (fun D H' hD p => fin D H' hD p.2.1 p.2.2)
  obtain ⟨p0, p1, p2⟩ := p
  refine turn i x H1 H2 _ _ hi p1 y (fun y H4 hf s4 => ?_) (fun H3 hf s3 => ?_)
  · refine ⟨given f i, s4 _ _ p2, sz_lt (by have := given_len f i; omega), p0, same_mut (p1.trans s4) p0, ?_⟩
    rw [upd_same]
    show some (HO.lst (given f i ++ [y])) = some (HO.lst (given f i ++ (match f i with | some y => [y] | none => [])))
    rw [hf]
  · refine ⟨p0, p1.trans s3, ?_⟩
    rw [s3 _ _ p2]
    show some (HO.lst (given f i)) = some (HO.lst (given f i ++ (match f i with | some y => [y] | none => [])))
    rw [hf, List.append_nil]
end
def t_is_whole (G : Gx) (E : XK) : TS :=
      (tRet (tAndV (tCB (uIsi G.K) (tCons (tVar 0) (tCons (tC (.ty "int")) tNil))) (tNotV (tCB (uIsi G.K) (tCons (tVar 0) (tCons (tC (.ty "bool")) tNil))))))
def sp_is_whole (G : Gx) : Sp := fun vs H Q E => vs.length = 1 ∧ t_is_whole G E { nx := fun _ H' => Q .non H', rt := Q } (start ["thing"] vs) H
def t_is_kind (G : Gx) (E : XK) : TS :=
      (tSeq (tIfS (tB (tCB (uIsi G.K) (tCons (tVar 0) (tCons (tC (.ty "str")) tNil)))) (tRet (tOp (uEq G.K) (tVar 0) (tC (.str "cubes")))) tNext)
      (tRet (tAndV (tCall (sp_is_whole G) [] E (tCons (tVar 0) tNil)) (tChain uLe uLe (tC (.int 3)) (tVar 0) (tC (.int 12))))))
def sp_is_kind (G : Gx) : Sp := fun vs H Q E => vs.length = 1 ∧ t_is_kind G E { nx := fun _ H' => Q .non H', rt := Q } (start ["thing"] vs) H
def t_are_kinds (G : Gx) (E : XK) : TS :=
      (tSeq (tIfS (tOr (tNot (tB (tCB (uIsi G.K) (tCons (tVar 0) (tCons (tC (.ty "list")) tNil))))) (tNot (tTest (tChain uLe uLe (tC (.int 1)) (tCB (uLen G.K) (tCons (tVar 0) tNil)) (tC (.int 5)))))) (tRet (tC (.bl false))) tNext)
      (tSeq (tIfS (tTest (tOp (uNe G.K) (tLc (iList G.K (tVar 0)) (gName 1) (tNot (tB (tCall (sp_is_kind G) [] E0 (tCons (tVar 1) tNil)))) (tVar 1) [1]) (tLst tNil))) (tRet (tC (.bl false))) tNext)
      (tRet (tOp (uEq G.K) (tLc (iEnum G.K (tCons (tVar 0) tNil)) (gTup G.K 2 (gCons (gName 2) (gCons (gName 1) gNil))) (tTest (tOp (uIn G.K) (tVar 1) (tSl (uSl G.K) (tVar 0) tNoPart (tPart (tVar 2))))) (tVar 2) [2, 1]) (tLst tNil)))))
def sp_are_kinds (G : Gx) : Sp := fun vs H Q E => vs.length = 1 ∧ t_are_kinds G E { nx := fun _ H' => Q .non H', rt := Q } (start ["thing", "kind", "k"] vs) H
def t_dots (G : Gx) (E : XK) : TS :=
      (tSeq (tIfS (tTest (tOp (uEq G.K) (tVar 0) (tC (.str "cubes")))) (tRet (tOp uMul (tOp uMul (tVar 1) (tVar 1)) (tVar 1))) tNext)
      (tRet (tOp uAdd (tVar 1) (tOp uMul (tOp uSub (tVar 0) (tC (.int 2))) (tOp uDiv (tOp uMul (tVar 1) (tOp uSub (tVar 1) (tC (.int 1)))) (tC (.int 2)))))))
def sp_dots (G : Gx) : Sp := fun vs H Q E => vs.length = 2 ∧ t_dots G E { nx := fun _ H' => Q .non H', rt := Q } (start ["kind", "k"] vs) H
def t_need_kinds (G : Gx) (E : XK) : TS :=
      (tIfS (tNot (tB (tCall (sp_are_kinds G) [] E (tCons (tVar 0) tNil)))) (tRz E (G.C "NoKinds")) tNext)
def sp_need_kinds (G : Gx) : Sp := fun vs H Q E => vs.length = 1 ∧ t_need_kinds G E { nx := fun _ H' => Q .non H', rt := Q } (start ["thing"] vs) H
def t_need_to_most (G : Gx) (E : XK) : TS :=
      (tIfS (tOr (tNot (tB (tCall (sp_is_whole G) [] E (tCons (tVar 0) tNil)))) (tNot (tTest (tChain uLe uLe (tC (.int 0)) (tVar 0) (tC (.int 200)))))) (tRz E (G.C "NoNumber")) tNext)
def sp_need_to_most (G : Gx) : Sp := fun vs H Q E => vs.length = 1 ∧ t_need_to_most G E { nx := fun _ H' => Q .non H', rt := Q } (start ["thing"] vs) H
def t_stock_of (G : Gx) (E : XK) : TS :=
      (tSeq (tAsg tDNewK (gName 2))
      (tSeq (tFor (iList G.K (tVar 0)) (gName 3) (tSeq (tAsg (tC (.int 1)) (gName 4))
      (tWhile (tTest (tOp uLe (tCall (sp_dots G) [] E (tCons (tVar 3) (tCons (tVar 4) tNil))) (tVar 1))) (tSeq (tAsg (tC (.bl true)) (gSub (tVar 2) (tCall (sp_dots G) [] E (tCons (tVar 3) (tCons (tVar 4) tNil))) uSet))
      (tAug 4 (tC (.int 1)) (ipI fun i j => i + j))))))
      (tRet (tCB (uSorted G.K) (tCons (tVar 2) tNil)))))
def sp_stock_of (G : Gx) : Sp := fun vs H Q E => vs.length = 2 ∧ t_stock_of G E { nx := fun _ H' => Q .non H', rt := Q } (start ["kinds", "b", "found", "kind", "k"] vs) H
def t_stock_to (G : Gx) (E : XK) : TS :=
      (tSeq (tDrop (tCall (sp_need_kinds G) [] E (tCons (tVar 0) tNil)))
      (tSeq (tDrop (tCall (sp_need_to_most G) [] E (tCons (tVar 1) tNil)))
      (tRet (tCall (sp_stock_of G) [] E (tCons (tVar 0) (tCons (tVar 1) tNil))))))
def sp_stock_to (G : Gx) : Sp := fun vs H Q E => vs.length = 2 ∧ t_stock_to G E { nx := fun _ H' => Q .non H', rt := Q } (start ["kinds", "b"] vs) H
def t_least_rows (G : Gx) (E : XK) : TS :=
      (tSeq (tAsg (tOp uAdd (tLst (tCons (tC (.int 0)) tNil)) (tOp uMul (tLst (tCons (tC .non) tNil)) (tVar 1))) (gName 2))
      (tSeq (tAsg (tLst (tCons (tVar 2) tNil)) (gName 3))
      (tSeq (tFor (iList G.K (tVar 0)) (gName 4) (tSeq (tAsg (tCB (uList G.K) (tCons (tOp (uIx G.K) (tVar 3) (tUn uNeg (tC (.int 1)))) tNil)) (gName 2))
      (tSeq (tFor (iRng2 (tCons (tVar 4) (tCons (tOp uAdd (tVar 1) (tC (.int 1))) tNil))) (gName 5) (tSeq (tAsg (tOp (uIx G.K) (tOp (uIx G.K) (tVar 3) (tUn uNeg (tC (.int 1)))) (tOp uSub (tVar 5) (tVar 4))) (gName 6))
      (tIfS (tAnd (tTest (tOp uIsNot (tVar 6) (tC .non))) (tOr (tTest (tOp uIs (tOp (uIx G.K) (tVar 2) (tVar 5)) (tC .non))) (tTest (tOp uLt (tOp uAdd (tVar 6) (tC (.int 1))) (tOp (uIx G.K) (tVar 2) (tVar 5)))))) (tAsg (tOp uAdd (tVar 6) (tC (.int 1))) (gSub (tVar 2) (tVar 5) uSet)) tNext)))
      (tDrop (tBM G.K "list" rAppend (tVar 3) (tCons (tVar 2) tNil))))))
      (tRet (tVar 3)))))
def sp_least_rows (G : Gx) : Sp := fun vs H Q E => vs.length = 2 ∧ t_least_rows G E { nx := fun _ H' => Q .non H', rt := Q } (start ["stock", "n", "row", "rows", "part", "total", "ahead"] vs) H
def t_law_cell (G : Gx) (E : XK) : TS :=
      (tSeq (tIfS (tTest (tOp uLt (tVar 1) (tCB (uLen G.K) (tCons (tVar 0) tNil)))) (tRet (tOp (uIx G.K) (tVar 0) (tVar 1))) tNext)
      (tRet (tOp uAdd (tOp uAdd (tOp uMul (tOp uMul (tC (.int 7)) (tVar 1)) (tVar 1)) (tOp uMul (tC (.int 3)) (tVar 1))) (tC (.int 11)))))
def sp_law_cell (G : Gx) : Sp := fun vs H Q E => vs.length = 2 ∧ t_law_cell G E { nx := fun _ H' => Q .non H', rt := Q } (start ["script", "k"] vs) H
def t_law_store (G : Gx) (E : XK) : TS :=
      (tSeq (tAsg (tC (.int 0)) (gName 1))
      (tSeq (tIfS (tTest (tOp uGe (tVar 0) (tOp uPow (tC (.int 10)) (tC (.int 18))))) (tAsg (tVar 0) (gName 1)) tNext)
      (tRet (tLst (tCons (tVar 1) (tCons (tOp uMod (tVar 0) (tC (.int 2147483629))) (tCons (tC (.int 1)) tNil)))))))
def sp_law_store (G : Gx) : Sp := fun vs H Q E => vs.length = 1 ∧ t_law_store G E { nx := fun _ H' => Q .non H', rt := Q } (start ["cell", "great"] vs) H
def t_law_take_v2 (G : Gx) (E : XK) : TS :=
      (tSeq (tIfS (tTest (tOp uGt (tOp (uIx G.K) (tVar 0) (tC (.int 0))) (tC (.int 0)))) (tSeq (tAsg (tOp uMod (tOp (uIx G.K) (tVar 0) (tC (.int 0))) (tVar 1)) (gName 2))
      (tSeq (tAsg (tOp uDiv (tOp (uIx G.K) (tVar 0) (tC (.int 0))) (tVar 1)) (gSub (tVar 0) (tC (.int 0)) uSet))
      (tRet (tVar 2)))) tNext)
      (tSeq (tAsg (tOp uAdd (tOp (uIx G.K) (tVar 0) (tC (.int 2))) (tC (.int 1))) (gSub (tVar 0) (tC (.int 2)) uSet))
      (tSeq (tAsg (tOp uMod (tOp uMul (tOp uAdd (tOp (uIx G.K) (tVar 0) (tC (.int 1))) (tOp uMul (tC (.int 7919)) (tOp (uIx G.K) (tVar 0) (tC (.int 2))))) (tC (.int 48271))) (tC (.int 2147483647))) (gName 3))
      (tSeq (tAsg (tOp uMod (tOp uMul (tVar 3) (tVar 3)) (tC (.int 2147483629))) (gName 3))
      (tSeq (tAsg (tOp uMod (tOp uMul (tOp uAdd (tVar 3) (tOp uMul (tC (.int 40692)) (tOp (uIx G.K) (tVar 0) (tC (.int 2))))) (tC (.int 69621))) (tC (.int 2147483587))) (gName 3))
      (tRet (tOp uMod (tOp uDiv (tVar 3) (tC (.int 8))) (tVar 1))))))))
def sp_law_take_v2 (G : Gx) : Sp := fun vs H Q E => vs.length = 2 ∧ t_law_take_v2 G E { nx := fun _ H' => Q .non H', rt := Q } (start ["store", "many", "told", "one"] vs) H
def t_law_kinds_v2 (G : Gx) (E : XK) : TS :=
      (tSeq (tAsg (tLst (tCons (tC (.int 3)) (tCons (tC (.int 4)) (tCons (tC (.int 5)) (tCons (tC (.int 6)) (tCons (tC (.int 7)) (tCons (tC (.int 8)) (tCons (tC (.int 9)) (tCons (tC (.int 10)) (tCons (tC (.int 11)) (tCons (tC (.int 12)) (tCons (tC (.str "cubes")) tNil)))))))))))) (gName 1))
      (tRet (tLc (iRng1 (tCons (tOp uAdd (tC (.int 1)) (tCall (sp_law_take_v2 G) [] E (tCons (tVar 0) (tCons (tC (.int 5)) tNil)))) tNil)) (gName 2) tYes (tBM G.K "list" rPopAt (tVar 1) (tCons (tCall (sp_law_take_v2 G) [] E0 (tCons (tVar 0) (tCons (tCB (uLen G.K) (tCons (tVar 1) tNil)) tNil))) tNil)) [2])))
def sp_law_kinds_v2 (G : Gx) : Sp := fun vs H Q E => vs.length = 1 ∧ t_law_kinds_v2 G E { nx := fun _ H' => Q .non H', rt := Q } (start ["store", "left", "k"] vs) H
def t_law_dots_v2 (G : Gx) (E : XK) : TS :=
      (tSeq (tAsg (tLst tNil) (gName 2))
      (tSeq (tAsg (tC (.int 1)) (gName 3))
      (tSeq (tAsg (tC (.int 0)) (gName 4))
      (tSeq (tWhile (tTest (tOp uLe (tVar 3) (tVar 1))) (tSeq (tDrop (tBM G.K "list" rAppend (tVar 2) (tCons (tVar 3) tNil)))
      (tSeq (tAsg (tCB (uLen G.K) (tCons (tVar 2) tNil)) (gName 5))
      (tIfS (tTest (tOp (uEq G.K) (tVar 0) (tC (.str "cubes")))) (tAsg (tOp uMul (tOp uMul (tOp uAdd (tVar 5) (tC (.int 1))) (tOp uAdd (tVar 5) (tC (.int 1)))) (tOp uAdd (tVar 5) (tC (.int 1)))) (gName 3)) (tSeq (tAsg (tOp uSub (tOp uAdd (tVar 4) (tVar 0)) (tC (.int 2))) (gName 4))
      (tAsg (tOp uAdd (tOp uAdd (tVar 3) (tC (.int 1))) (tVar 4)) (gName 3)))))))
      (tRet (tVar 2))))))
def sp_law_dots_v2 (G : Gx) : Sp := fun vs H Q E => vs.length = 2 ∧ t_law_dots_v2 G E { nx := fun _ H' => Q .non H', rt := Q } (start ["kind", "b", "found", "here", "more", "k"] vs) H
def t_law_stock_v3 (G : Gx) (E : XK) : TS :=
      (tSeq (tAsg tDNewK (gName 2))
      (tSeq (tFor (iList G.K (tVar 0)) (gName 3) (tFor (iList G.K (tCall (sp_law_dots_v2 G) [] E (tCons (tVar 3) (tCons (tVar 1) tNil)))) (gName 4) (tAsg (tC (.bl true)) (gSub (tVar 2) (tVar 4) uSet))))
      (tRet (tCB (uSorted G.K) (tCons (tVar 2) tNil)))))
def sp_law_stock_v3 (G : Gx) : Sp := fun vs H Q E => vs.length = 2 ∧ t_law_stock_v3 G E { nx := fun _ H' => Q .non H', rt := Q } (start ["kinds", "b", "known", "kind", "number"] vs) H
def t_law_n (G : Gx) (E : XK) : TS :=
      (tSeq (tAsg (tLst (tCons (tCall (sp_law_take_v2 G) [] E (tCons (tVar 0) (tCons (tC (.int 12)) tNil))) (tCons (tCall (sp_law_take_v2 G) [] E (tCons (tVar 0) (tCons (tC (.int 201)) tNil))) (tCons (tCall (sp_law_take_v2 G) [] E (tCons (tVar 0) (tCons (tC (.int 201)) tNil))) (tCons (tOp uSub (tC (.int 200)) (tCall (sp_law_take_v2 G) [] E (tCons (tVar 0) (tCons (tC (.int 5)) tNil)))) tNil))))) (gName 1))
      (tRet (tOp (uIx G.K) (tVar 1) (tCall (sp_law_take_v2 G) [] E (tCons (tVar 0) (tCons (tC (.int 4)) tNil))))))
def sp_law_n (G : Gx) : Sp := fun vs H Q E => vs.length = 1 ∧ t_law_n G E { nx := fun _ H' => Q .non H', rt := Q } (start ["store", "some"] vs) H
def t_law_least (G : Gx) (E : XK) : TS :=
      (tSeq (tAsg (tOp uAdd (tLst (tCons (tC (.int 0)) tNil)) (tOp uMul (tLst (tCons (tC .non) tNil)) (tVar 1))) (gName 2))
      (tSeq (tAsg (tLst (tCons (tVar 2) tNil)) (gName 3))
      (tSeq (tFor (iList G.K (tVar 0)) (gName 4) (tSeq (tAsg (tOp (uIx G.K) (tVar 3) (tUn uNeg (tC (.int 1)))) (gName 5))
      (tSeq (tAsg (tCB (uList G.K) (tCons (tVar 5) tNil)) (gName 2))
      (tSeq (tFor (iRng2 (tCons (tVar 4) (tCons (tOp uAdd (tVar 1) (tC (.int 1))) tNil))) (gName 6) (tSeq (tAsg (tOp (uIx G.K) (tVar 5) (tOp uSub (tVar 6) (tVar 4))) (gName 7))
      (tIfS (tAnd (tTest (tOp uIsNot (tVar 7) (tC .non))) (tOr (tTest (tOp uIs (tOp (uIx G.K) (tVar 2) (tVar 6)) (tC .non))) (tTest (tOp uLt (tOp uAdd (tVar 7) (tC (.int 1))) (tOp (uIx G.K) (tVar 2) (tVar 6)))))) (tAsg (tOp uAdd (tVar 7) (tC (.int 1))) (gSub (tVar 2) (tVar 6) uSet)) tNext)))
      (tDrop (tBM G.K "list" rAppend (tVar 3) (tCons (tVar 2) tNil)))))))
      (tRet (tVar 3)))))
def sp_law_least (G : Gx) : Sp := fun vs H Q E => vs.length = 2 ∧ t_law_least G E { nx := fun _ H' => Q .non H', rt := Q } (start ["stock", "b", "row", "found", "part", "early", "n", "many"] vs) H
def t_first_unlike (G : Gx) (E : XK) : TS :=
      (tSeq (tAsg (tCall (sp_stock_to G) [] E (tCons (tVar 0) (tCons (tVar 1) tNil))) (gName 2))
      (tSeq (tAsg (tCall (sp_least_rows G) [] E (tCons (tVar 2) (tCons (tVar 1) tNil))) (gName 3))
      (tSeq (tAsg (tOp (uIx G.K) (tOp (uIx G.K) (tVar 3) (tUn uNeg (tC (.int 1)))) (tVar 1)) (gName 4))
      (tSeq (tIfS (tTest (tOp uIs (tVar 4) (tC .non))) (tRet (tC .non)) tNext)
      (tSeq (tAsg (tLst tNil) (gName 5))
      (tSeq (tAsg (tCB (uLen G.K) (tCons (tVar 2) tNil)) (gName 6))
      (tSeq (tWhile (tTest (tOp uGt (tVar 4) (tC (.int 0)))) (tSeq (tAug 4 (tC (.int 1)) (ipI fun i j => i - j))
      (tSeq (tFor (iRng1 (tCons (tVar 6) tNil)) (gName 7) (tIfS (tAnd (tTest (tOp uLe (tOp (uIx G.K) (tVar 2) (tVar 7)) (tVar 1))) (tTest (tOp (uEq G.K) (tOp (uIx G.K) (tOp (uIx G.K) (tVar 3) (tVar 7)) (tOp uSub (tVar 1) (tOp (uIx G.K) (tVar 2) (tVar 7)))) (tVar 4)))) tBreak tNext))
      (tSeq (tDrop (tBM G.K "list" rAppend (tVar 5) (tCons (tOp (uIx G.K) (tVar 2) (tVar 7)) tNil)))
      (tSeq (tAug 1 (tOp (uIx G.K) (tVar 2) (tVar 7)) (ipI fun i j => i - j))
      (tAsg (tVar 7) (gName 6)))))))
      (tRet (tVar 5)))))))))
def sp_first_unlike (G : Gx) : Sp := fun vs H Q E => vs.length = 2 ∧ t_first_unlike G E { nx := fun _ H' => Q .non H', rt := Q } (start ["kinds", "n", "stock", "rows", "many", "found", "top", "at"] vs) H
def t_law_due_v5 (G : Gx) (E : XK) : TS :=
      (tSeq (tIfS (tTest (tOp uIs (tOp (uIx G.K) (tOp (uIx G.K) (tVar 1) (tUn uNeg (tC (.int 1)))) (tVar 2)) (tC .non))) (tRet (tC .non)) tNext)
      (tSeq (tAsg (tLst tNil) (gName 3))
      (tSeq (tAsg (tCB (uLen G.K) (tCons (tVar 0) tNil)) (gName 4))
      (tSeq (tAsg (tOp (uIx G.K) (tOp (uIx G.K) (tVar 1) (tUn uNeg (tC (.int 1)))) (tVar 2)) (gName 5))
      (tSeq (tWhile (tTest (tOp uGt (tVar 5) (tC (.int 0)))) (tSeq (tAsg (tLc (iRng1 (tCons (tVar 4) tNil)) (gName 7) (tAnd (tTest (tOp uLe (tOp (uIx G.K) (tVar 0) (tVar 7)) (tVar 2))) (tTest (tOp (uEq G.K) (tOp (uIx G.K) (tOp (uIx G.K) (tVar 1) (tVar 7)) (tOp uSub (tVar 2) (tOp (uIx G.K) (tVar 0) (tVar 7)))) (tOp uSub (tVar 5) (tC (.int 1)))))) (tVar 7) [7]) (gName 6))
      (tSeq (tAsg (tOp (uIx G.K) (tVar 6) (tC (.int 0))) (gName 4))
      (tSeq (tDrop (tBM G.K "list" rAppend (tVar 3) (tCons (tOp (uIx G.K) (tVar 0) (tVar 4)) tNil)))
      (tSeq (tAsg (tOp uSub (tVar 2) (tOp (uIx G.K) (tVar 0) (tVar 4))) (gName 2))
      (tAsg (tOp uSub (tVar 5) (tC (.int 1))) (gName 5)))))))
      (tRet (tVar 3)))))))
def sp_law_due_v5 (G : Gx) : Sp := fun vs H Q E => vs.length = 3 ∧ t_law_due_v5 G E { nx := fun _ H' => Q .non H', rt := Q } (start ["stock", "least", "n", "found", "top", "many", "places", "k"] vs) H
def t_law_k20 (G : Gx) (E : XK) : TS :=
      (tSeq (tFor (iRng1 (tCons (tCB (uMin G.K) (tCons (tCB (uMax G.K) (tCons (tCB (uLen G.K) (tCons (tVar 0) tNil)) (tCons (tC (.int 3)) tNil))) (tCons (tC (.int 8)) tNil))) tNil)) (gName 1) (tSeq (tAsg (tCall (sp_law_store G) [] E (tCons (tCall (sp_law_cell G) [] E (tCons (tVar 0) (tCons (tVar 1) tNil))) tNil)) (gName 2))
      (tSeq (tAsg (tCall (sp_law_kinds_v2 G) [] E (tCons (tVar 2) tNil)) (gName 3))
      (tSeq (tAsg (tCB (uList G.K) (tCons (tVar 3) tNil)) (gName 4))
      (tSeq (tAsg (tCall (sp_law_stock_v3 G) [] E (tCons (tVar 3) (tCons (tC (.int 200)) tNil))) (gName 5))
      (tSeq (tAsg (tCall (sp_law_least G) [] E (tCons (tVar 5) (tCons (tC (.int 200)) tNil))) (gName 6))
      (tFor (iList G.K (tOp uAdd (tLc (iRng1 (tCons (tC (.int 8)) tNil)) (gName 10) tYes (tCall (sp_law_n G) [] E0 (tCons (tVar 2) tNil)) [10]) (tLst (tCons (tC (.int 0)) (tCons (tC (.int 2)) (tCons (tC (.int 200)) tNil)))))) (gName 7) (tSeq (tAsg (tCall (sp_law_due_v5 G) [] E (tCons (tVar 5) (tCons (tVar 6) (tCons (tVar 7) tNil)))) (gName 8))
      (tSeq (tAsg (tCall (sp_first_unlike G) [] E (tCons (tVar 4) (tCons (tVar 7) tNil))) (gName 9))
      (tIfS (tTest (tOp uIs (tVar 8) (tC .non))) (tIfS (tOr (tTest (tOp uIsNot (tVar 9) (tC .non))) (tTest (tOp (uNe G.K) (tVar 4) (tVar 3)))) (tRet (tC (.bl false))) tNext) (tSeq (tIfS (tOr (tNot (tB (tCB (uIsi G.K) (tCons (tVar 9) (tCons (tC (.ty "list")) tNil))))) (tOr (tTest (tOp (uNe G.K) (tVar 9) (tVar 8))) (tTest (tOp (uIn G.K) (tC (.bl true)) (tLc (iList G.K (tVar 9)) (gName 11) tYes (tCB (uIsi G.K) (tCons (tVar 11) (tCons (tC (.ty "bool")) tNil))) [11]))))) (tRet (tC (.bl false))) tNext)
      (tSeq (tDrop (tBM G.K "list" rAppend (tVar 9) (tCons (tC (.int 1)) tNil)))
      (tIfS (tOr (tTest (tOp (uNe G.K) (tCall (sp_first_unlike G) [] E (tCons (tVar 4) (tCons (tVar 7) tNil))) (tVar 8))) (tTest (tOp (uNe G.K) (tVar 4) (tVar 3)))) (tRet (tC (.bl false))) tNext)))))))))))))
      (tRet (tC (.bl true))))
def sp_law_k20 (G : Gx) : Sp := fun vs H Q E => vs.length = 1 ∧ t_law_k20 G E { nx := fun _ H' => Q .non H', rt := Q } (start ["script", "at", "store", "kinds", "given", "stock", "least", "n", "due", "found", "turn", "one"] vs) H
local macro_rules | `(tactic| wtm_at "w1") => `(tactic| with_reducible first
  | refine i_seq ?_ | refine i_asg ?_ | refine i_gname ?_ | refine i_ifS ?_ | refine i_ret ?_ | refine i_drop ?_ | refine i_next ?_ | refine i_brk ?_ | refine i_retN ?_
  | refine i_op ?_ | refine i_var rfl ?_ | refine i_c ?_ | refine i_call ?_ | refine i_cb ?_ | refine i_cons ?_ | refine i_nil ?_ | refine i_un ?_
  | refine i_test ?_ | refine i_B ?_ | refine i_not ?_ | refine i_exbl ?_ | refine i_exint ?_
  | refine i_andV ?_ | refine i_orV ?_ | refine i_notV ?_ | refine i_if ?_ | refine i_chain ?_ | refine i_yes ?_
  | refine i_add ?_ | refine i_sub ?_ | refine i_lt ?_ | refine i_le ?_ | refine i_gt ?_ | refine i_ge ?_ | refine i_eqI ?_ | refine i_neI ?_ | refine i_eqS ?_ | refine i_neS ?_ | refine i_eqIS ?_ | refine i_neIS ?_
  | refine i_eqIN ?_ | refine i_neIN ?_ | refine i_eqNI ?_ | refine i_neNI ?_ | refine i_neNN ?_
  | refine i_isN ?_ | refine i_notN ?_ | refine i_isB ?_ | refine i_notB ?_ | refine i_max2 ?_ | refine i_min2 ?_ | refine i_intI ?_ | refine i_intB ?_ | refine i_abs ?_ | refine i_neg ?_ | refine i_band ?_ | refine i_bor ?_
  | refine i_isiII ?_ | refine i_isiIB ?_ | refine i_isiIS ?_ | refine i_isiIL ?_ | refine i_isiSI ?_ | refine i_isiSB ?_ | refine i_isiSS ?_ | refine i_isiSL ?_ | refine i_isiBI ?_ | refine i_isiBB ?_ | refine i_isiBS ?_ | refine i_isiNI ?_ | refine i_isiNB ?_
  | refine i_bm ?_ | refine i_bm0 ?_ | refine i_lst ?_ | refine i_tup ?_ | refine i_sl ?_ | refine i_nopart ?_ | refine i_part ?_ | refine i_gsub ?_ | refine i_aug rfl ?_ | refine i_ipI ?_
  | refine i_for ?_ | refine i_lc ?_ | refine i_rng1 ?_ | refine i_rng2 ?_ | refine i_rng3 ?_ | refine i_list ?_ | refine i_tupl ?_ | refine i_enum ?_ | refine i_zip ?_ | refine i_str ?_ | refine i_strA ?_
  | refine i_T rfl ?_ | refine i_F rfl ?_)
local macro_rules | `(tactic| wtm_at "num") => `(tactic| first | decide | omega)
local macro_rules | `(tactic| wtm_at "w2") => `(tactic| first
  | ((with_reducible refine i_pow ?_ ?_); · exact ⟨by decide, by decide, by decide⟩)
  | ((with_reducible refine i_mod ?_ ?_); · wtm_at "num")
  | ((with_reducible refine i_mulL ?_ ?_); · wtm_at "num")
  | ((with_reducible refine i_mulR ?_ ?_); · wtm_at "num")
  | ((with_reducible refine i_div ?_ ?_); · exact div_ok (by wtm_at "num") (by wtm_at "num")))
local macro_rules | `(tactic| wtm_at "w") => `(tactic| repeat (first | wtm_at "w1" | wtm_at "w2"))
local macro_rules | `(tactic| wtm_at "ao") => `(tactic| (with_reducible first | refine i_and ?_ | refine i_or ?_))
local macro_rules | `(tactic| wtm_at "ix") => `(tactic| (refine i_ixL (sq_of (by assumption)) (by rfl) ?_; wtm_at "w"))
local macro_rules | `(tactic| wtm_at "wa") => `(tactic| repeat (first | wtm_at "w1" | wtm_at "ao" | wtm_at "w2"))
/-! ### kinds and their numbers -/
/-- a kind: 3 to 12, or "cubes" -/
def IsKd (v : V) : Prop := (∃ s : Int, v = .int s ∧ 3 ≤ s ∧ s ≤ 12) ∨ v = .str "cubes"
/-- the k-th number of a kind -/
def dotsV : V → Int → Int
  | .int s, k => k + (s - 2) * (k * (k - 1) / 2)
  | _, k => k * k * k
section
variable {G : Gx} {H : Hp} {Q : VK} {E : XK}
theorem u_is_whole_int {n : Int} (h : Q (.bl true) H) : sp_is_whole G [.int n] H Q E := by
  refine ⟨rfl, ?_⟩
  unfold t_is_whole
  wtm_at "w"
  exact h
theorem u_is_kind_int {n : Int} (h : Q (.bl (decide (3 ≤ n ∧ n ≤ 12))) H) : sp_is_kind G [.int n] H Q E := by
  refine ⟨rfl, ?_⟩
  unfold t_is_kind
  wtm_at "w"
  refine u_is_whole_int ?_
  wtm_at "w"
  refine i_ite (fun h3 => ?_) (fun h3 => ?_)
  · wtm_at "w"
    rw [show decide (3 ≤ n ∧ n ≤ 12) = decide (n ≤ 12) by simp [h3]] at h
    exact h
  · rw [show decide (3 ≤ n ∧ n ≤ 12) = false by simp [h3]] at h
    exact h
theorem u_is_kind_cubes (h : Q (.bl true) H) : sp_is_kind G [.str "cubes"] H Q E := by
  refine ⟨rfl, ?_⟩
  unfold t_is_kind
  wtm_at "w"
  rw [decide_eq_true rfl]
  exact h
theorem u_is_kind {v : V} (hv : IsKd v) (h : Q (.bl true) H) : sp_is_kind G [v] H Q E := by
  rcases hv with ⟨s, rfl, h1, h2⟩ | rfl
  · refine u_is_kind_int ?_
    rw [decide_eq_true ⟨h1, h2⟩]
    exact h
  · exact u_is_kind_cubes h
theorem big_mul {i j : Int} (a b : Nat) (ha : i.natAbs < 2 ^ a) (hb : j.natAbs < 2 ^ b) (h : a + b ≤ 134217728) : CMulX i j := mulx_ok ha hb h
theorem u_dots {v : V} {k : Int} (hv : IsKd v) (h0 : 0 ≤ k) (h1 : k < 2 ^ 100) (h : Q (.int (dotsV v k)) H) : sp_dots G [v, .int k] H Q E := by
  have ek : k.natAbs < 2 ^ 100 := by omega
  refine ⟨rfl, ?_⟩
  unfold t_dots
  rcases hv with ⟨s, rfl, h2, h3⟩ | rfl
  · wtm_at "w"
    refine i_mulX (big_mul 100 101 ek (by omega) (by decide)) ?_
    wtm_at "w"
    exact h
  · wtm_at "w"
    refine i_mulX (big_mul 100 100 ek ek (by decide)) ?_
    wtm_at "w"
    refine i_mulX (big_mul 200 100 (wide_lt ek ek) ek (by decide)) ?_
    exact h
end
/-! ### a part of the heap of one's own -/
structure Wd where
  R : Addr → Prop
  I : Hp → Prop
  tr : ∀ H a, I H → R a → H a ≠ none
  up : ∀ H a o, I H → ¬ R a → I (upd H a o)
  sm : ∀ H H', I H → Same H H' → I H'
structure Kp (W : Wd) (H H' : Hp) : Prop where
  i : W.I H'
  k : Keep W.R H H'
structure At (W : Wd) (H : Hp) (a : Addr) (o : HO) : Prop where
  h : H a = some o
  r : ¬ W.R a
section
variable {W : Wd} {H H0 H1 H2 : Hp} {a p : Addr} {o : HO}
theorem Kp.refl (i : W.I H) : Kp W H H := ⟨i, Keep.refl _ _⟩
theorem Kp.trans (x : Kp W H H1) (y : Kp W H1 H2) : Kp W H H2 := ⟨y.i, x.k.trans y.k⟩
theorem Wd.notR (i : W.I H) (h : H p = none) : ¬ W.R p := fun r => W.tr H p i r h
theorem Kp.free (x : Kp W H H1) (h : H1 p = none) : H p = none := by
  cases e : H p with
  | none => rfl
  | some o =>
    have n := Wd.notR x.i h
    rw [x.k p o n e] at h
    cases h
theorem Kp.at (x : Kp W H H1) (z : At W H a o) : At W H1 a o := ⟨x.k a o z.r z.h, z.r⟩
theorem Kp.same (x : Kp W H0 H) (s : Same H H1) : Kp W H0 H1 := ⟨W.sm _ _ x.i s, fun b u n e => s _ _ (x.k b u n e)⟩
theorem Kp.new (x : Kp W H0 H) (h : H p = none) : Kp W H0 (upd H p o) := x.same (same_new h)
theorem Kp.mut (x : Kp W H0 H) (h : H0 p = none) (r : ¬ W.R p) : Kp W H0 (upd H p o) := ⟨W.up _ _ _ x.i r, keep_mut x.k h⟩
theorem At.new (i : W.I H) (h : H p = none) : At W (upd H p o) p o := ⟨upd_same, Wd.notR i h⟩
theorem At.same (z : At W H a o) (s : Same H H1) : At W H1 a o := ⟨s _ _ z.h, z.r⟩
theorem At.upd {o2 : HO} (z : At W H a o) (n : a ≠ p) : At W (upd H p o2) a o := ⟨by rw [upd_ne n]; exact z.h, z.r⟩
end
/-! ### the deck -/
/-! ### numbers of a kind in order -/
theorem tri_succ (k : Int) : (k + 1) * k / 2 = k * (k - 1) / 2 + k := by
  have e : (k + 1) * k = k * (k - 1) + k * 2 := by
    rw [Int.add_mul, Int.mul_sub]; omega
  rw [e, Int.add_mul_ediv_right _ _ (by decide)]
theorem dots_succ_int (s k : Int) : dotsV (.int s) (k + 1) = dotsV (.int s) k + (1 + k * (s - 2)) := by
  unfold dotsV
  have e : k + 1 - 1 = k := by omega
  simp only [e]
  rw [tri_succ, Int.mul_add, Int.mul_comm (s - 2) k]
  omega
theorem cube_succ (k : Int) : (k + 1) * (k + 1) * (k + 1) = k * k * k + (3 * (k * k) + 3 * k + 1) := by
  have e : (k + 1) * (k + 1) = k * k + 2 * k + 1 := by rw [Int.add_mul, Int.mul_add]; omega
  rw [e, Int.add_mul, Int.add_mul, Int.mul_add, Int.mul_add, Int.mul_assoc 2 k k]
  have : k * k * k + k * k * 1 = k * k * k + k * k := by rw [Int.mul_one]
  omega
theorem dots_lt {v : V} (hv : IsKd v) {k : Int} (hk : 1 ≤ k) : dotsV v k + 1 ≤ dotsV v (k + 1) := by
  rcases hv with ⟨s, rfl, h1, h2⟩ | rfl
  · rw [dots_succ_int]
    have : 0 ≤ k * (s - 2) := Int.mul_nonneg (by omega) (by omega)
    omega
  · show k * k * k + 1 ≤ (k + 1) * (k + 1) * (k + 1)
    rw [cube_succ]
    have : 0 ≤ k * k := Int.mul_nonneg (by omega) (by omega)
    omega
theorem dots_one {v : V} (hv : IsKd v) : dotsV v 1 = 1 := by
  rcases hv with ⟨s, rfl, h1, h2⟩ | rfl
  · show 1 + (s - 2) * (1 * (1 - 1) / 2) = 1
    rw [show (1 * (1 - 1) / 2 : Int) = 0 by decide]; omega
  · rfl
theorem dots_mono {v : V} (hv : IsKd v) : ∀ (n : Nat) {k : Int}, 1 ≤ k → dotsV v k + n ≤ dotsV v (k + n)
  | 0, k, hk => by simp
  | n + 1, k, hk => by
    have h1 := dots_mono hv n hk
    have h2 := dots_lt hv (k := k + n) (by omega)
    have e : k + ((n + 1 : Nat) : Int) = k + n + 1 := by omega
    rw [e]; omega
theorem dots_le {v : V} (hv : IsKd v) {i j : Int} (h1 : 1 ≤ i) (h2 : i ≤ j) : dotsV v i + (j - i) ≤ dotsV v j := by
  have h := dots_mono hv (j - i).toNat h1
  have e : i + ((j - i).toNat : Int) = j := by omega
  rw [e] at h
  omega
theorem dots_ge {v : V} (hv : IsKd v) {k : Int} (hk : 1 ≤ k) : k ≤ dotsV v k := by
  have h := dots_le hv (i := 1) (j := k) (by omega) hk
  rw [dots_one hv] at h
  omega
/-- the numbers of a kind to a bound: the first n -/
def dotsN (v : V) (n : Nat) : List Int := (List.range n).map fun (j : Nat) => dotsV v ((j : Int) + 1)
theorem dotsN_succ (v : V) (n : Nat) : dotsN v (n + 1) = dotsN v n ++ [dotsV v ((n : Int) + 1)] := by
  unfold dotsN
  rw [List.range_succ, List.map_append]; rfl
theorem dotsN_len (v : V) (n : Nat) : (dotsN v n).length = n := by unfold dotsN; simp
/-! ### == of lists of plain things -/
def toD : V → PyData
  | .non => .none
  | .bl b => .bool b
  | .int i => .int i
  | .str s => .str s
  | _ => .none
def sV : V → Bool
  | .non => true
  | .int _ => true
  | .str s => PyData.strOk s
  | _ => false
theorem dp_sV {K : Fg} {H : Hp} : ∀ {v : V}, sV v = true → Dp K H v (toD v)
  | .non, _ => .non
  | .int i, _ => .int i
  | .str s, _ => .str s
  | .bl _, h => by cases h
  | .byt _, h => by cases h
  | .flt _, h => by cases h
  | .ref _, h => by cases h
  | .ty _, h => by cases h
theorem dpAll_sV {K : Fg} {H : Hp} : ∀ {xs : List V}, xs.all sV = true → DpAll K H xs (xs.map toD)
  | [], _ => .nil
  | x :: r, h => by
    rw [List.all_cons, Bool.and_eq_true] at h
    exact .cons (dp_sV h.1) (dpAll_sV h.2)
theorem lay_sV : ∀ {v : V}, sV v = true → (toD v).canLay0 = true ∧ (toD v).depth = 0
  | .non, _ => ⟨by simp [toD, PyData.canLay0], by simp [toD, PyData.depth]⟩
  | .int i, _ => ⟨by simp [toD, PyData.canLay0], by simp [toD, PyData.depth]⟩
  | .str s, h => ⟨by have h' : PyData.strOk s = true := h
                     simpa [toD, PyData.canLay0] using h', by simp [toD, PyData.depth]⟩
  | .bl _, h => by cases h
  | .byt _, h => by cases h
  | .flt _, h => by cases h
  | .ref _, h => by cases h
  | .ty _, h => by cases h
theorem layAll_sV : ∀ {xs : List V}, xs.all sV = true → PyData.canLayAll0 (xs.map toD) = true ∧ PyData.depthAll (xs.map toD) = 0
  | [], _ => ⟨by simp [PyData.canLayAll0], by simp [PyData.depthAll]⟩
  | x :: r, h => by
    rw [List.all_cons, Bool.and_eq_true] at h
    have h1 := lay_sV h.1
    have h2 := layAll_sV h.2
    exact ⟨by simp [PyData.canLayAll0, h1.1, h2.1], by simp [PyData.depthAll, h1.2, h2.2]⟩
theorem shaped_L {xs : List V} (h : xs.all sV = true) : SeqAt.shaped (.list (xs.map toD)) = true := by
  have h2 := layAll_sV h
  unfold SeqAt.shaped
  simp [PyData.canLay0, PyData.depth, h2.1, h2.2]
theorem eqv_sV : ∀ {x y : V}, sV x = true → sV y = true → PyData.eqv (toD x) (toD y) = decide (x = y)
  | .non, .non, _, _ => by simp [toD, PyData.eqv]
  | .non, .int _, _, _ => by simp [toD, PyData.eqv]
  | .non, .str _, _, _ => by simp [toD, PyData.eqv]
  | .int _, .non, _, _ => by simp [toD, PyData.eqv]
  | .int i, .int j, _, _ => by simp only [toD, PyData.eqv]; rw [Bool.eq_iff_iff]; simp
  | .int _, .str _, _, _ => by simp [toD, PyData.eqv]
  | .str _, .non, _, _ => by simp [toD, PyData.eqv]
  | .str _, .int _, _, _ => by simp [toD, PyData.eqv]
  | .str _, .str _, _, _ => by simp only [toD, PyData.eqv]; rw [Bool.eq_iff_iff]; simp
  | .bl _, _, h, _ => by cases h
  | .byt _, _, h, _ => by cases h
  | .flt _, _, h, _ => by cases h
  | .ref _, _, h, _ => by cases h
  | .ty _, _, h, _ => by cases h
  | _, .bl _, _, h => by cases h
  | _, .byt _, _, h => by cases h
  | _, .flt _, _, h => by cases h
  | _, .ref _, _, h => by cases h
  | _, .ty _, _, h => by cases h
theorem eqvAll_sV : ∀ {xs ys : List V}, xs.all sV = true → ys.all sV = true → PyData.eqvAll (xs.map toD) (ys.map toD) = decide (xs = ys)
  | [], [], _, _ => by simp [PyData.eqvAll]
  | [], _ :: _, _, _ => by simp [PyData.eqvAll]
  | _ :: _, [], _, _ => by simp [PyData.eqvAll]
  | x :: r, y :: q, h1, h2 => by
    rw [List.all_cons, Bool.and_eq_true] at h1 h2
    simp only [List.map_cons, PyData.eqvAll, eqv_sV h1.1 h2.1, eqvAll_sV h1.2 h2.2]
    rw [Bool.eq_iff_iff]
    simp
section
variable {K : Fg} {H : Hp} {Q : VK} {a b : Addr} {xs ys : List V}
theorem i_eqL (h1 : SqL K H a xs) (h2 : SqL K H b ys) (s1 : xs.all sV = true) (s2 : ys.all sV = true) (h : Q (.bl (decide (xs = ys))) H) : uEq K (.ref a) (.ref b) H Q :=
  .inr ⟨_, _, .lst h1 (dpAll_sV s1), .lst h2 (dpAll_sV s2), shaped_L s1, shaped_L s2, by
    have e : PyData.eqv (.list (xs.map toD)) (.list (ys.map toD)) = decide (xs = ys) := by simp only [PyData.eqv]; exact eqvAll_sV s1 s2
    rw [e]; exact h⟩
theorem i_neL (h1 : SqL K H a xs) (h2 : SqL K H b ys) (s1 : xs.all sV = true) (s2 : ys.all sV = true) (h : Q (.bl (!decide (xs = ys))) H) : uNe K (.ref a) (.ref b) H Q :=
  .inr ⟨_, _, .lst h1 (dpAll_sV s1), .lst h2 (dpAll_sV s2), shaped_L s1, shaped_L s2, by
    have e : PyData.eqv (.list (xs.map toD)) (.list (ys.map toD)) = decide (xs = ys) := by simp only [PyData.eqv]; exact eqvAll_sV s1 s2
    rw [e]; exact h⟩
end
theorem ints_sV (ns : List Int) : (ns.map V.int).all sV = true := by
  induction ns with
  | nil => rfl
  | cons n r ih => rw [List.map_cons, List.all_cons, ih]; rfl
theorem kd_sV {v : V} (h : IsKd v) : sV v = true := by
  rcases h with ⟨s, rfl, _⟩ | rfl
  · rfl
  · decide +kernel
theorem kd_flat {v : V} (h : IsKd v) : flatV v = true := by
  rcases h with ⟨s, rfl, _⟩ | rfl <;> rfl
theorem kds_sV {ks : List V} (h : ∀ v ∈ ks, IsKd v) : ks.all sV = true := by
  rw [List.all_eq_true]; exact fun v hv => kd_sV (h v hv)
theorem kds_flat {ks : List V} (h : ∀ v ∈ ks, IsKd v) : ks.all flatV = true := by
  rw [List.all_eq_true]; exact fun v hv => kd_flat (h v hv)
theorem eqV_kd {v w : V} (hv : IsKd v) (hw : IsKd w) : eqV v w = decide (v = w) := by
  rcases hv with ⟨s, rfl, _⟩ | rfl <;> rcases hw with ⟨t, rfl, _⟩ | rfl
  · simp only [eqV]; rw [Bool.eq_iff_iff]; simp
  · simp [eqV]
  · simp [eqV]
  · simp [eqV]
theorem inV_kd {v : V} {ks : List V} (hv : IsKd v) (hk : ∀ w ∈ ks, IsKd w) : inV v ks = decide (v ∈ ks) := by
  rw [Bool.eq_iff_iff]
  simp only [inV, List.any_eq_true, decide_eq_true_eq]
  constructor
  · rintro ⟨x, hx, e⟩
    rw [eqV_kd (hk x hx) hv] at e
    rw [← of_decide_eq_true e]; exact hx
  · intro h
    exact ⟨v, h, by rw [eqV_kd hv hv]; simp⟩
/-! ### slices -/
theorem cut_take {xs : List V} {n : Nat} (h : n ≤ xs.length) : cutV xs none (some (n : Int)) = xs.take n := by
  unfold cutV
  rw [show HT.sIx xs.length 0 none = 0 from HT.sIx_none _ _, HT.sIx_nat]
  simp [Nat.min_eq_left h]
/-! ### kinds -/
structure KdL (ks : List V) : Prop where
  kd : ∀ v ∈ ks, IsKd v
  nd : ks.Nodup
  lo : 1 ≤ ks.length
  hi : ks.length ≤ 5
section
variable {G : Gx} {H : Hp} {Q : VK} {E : XK} {a : Addr} {ks : List V}
theorem given_none (n : Nat) : given (fun _ => none) n = [] := by
  induction n with
  | zero => rfl
  | succ n ih => show given _ n ++ [] = []; rw [ih]; rfl
theorem u_are_kinds (ha : H a = some (.lst ks)) (hk : KdL ks) (h : ∀ H', Same H H' → Q (.bl true) H') : sp_are_kinds G [.ref a] H Q E := by
  refine ⟨rfl, ?_⟩
  unfold t_are_kinds
  wtm_at "wa"
  refine i_isiLL ha ?_
  wtm_at "wa"
  refine i_lenL (sq_of ha) ?_
  wtm_at "wa"
  have h1 := hk.lo
  have h5 := hk.hi
  refine i_T (by simp; omega) ?_
  wtm_at "wa"
  refine i_F (by simp; omega) ?_
  wtm_at "wa"
  refine i_lstA (sq_of ha) ?_
  refine lck_pure walk_list (by omega) (fun _ => none) (fun H' s => sq_of (s _ _ ha)) (fun i x H1 H2 KK NN hi s y hK hN => ?_) (fun p H1 np s1 e1 => ?_)
  · obtain ⟨rfl, hx⟩ := y
    wtm_at "w"
    refine ⟨rfl, ?_⟩
    wtm_at "w"
    refine u_is_kind (hk.kd x (List.mem_of_getElem? hx)) ?_
    wtm_at "w"
    exact hN _ rfl (fun _ _ z => z)
  · rw [given_none] at e1
    wtm_at "w"
    refine ⟨Nat.zero_le _, fun q nq => ?_⟩
    refine i_neL (xs := []) (ys := []) (sq_of (by rw [upd_ne (ne_of_none e1 nq)]; exact e1)) (sq_of upd_same) rfl rfl ?_
    wtm_at "w"
    have s2 : Same H (upd H1 q (.lst [])) := s1.trans (same_new nq)
    generalize upd H1 q (.lst []) = H2 at s2 ⊢
    refine i_enumA (sq_of (s2 _ _ ha)) ?_
    refine lck_pure walk_enum (by omega) (fun _ => none) (fun H' s => sq_of (s _ _ (s2 _ _ ha))) (fun i x H3 H4 KK NN hi s y hK hN => ?_) (fun p H3 np s3 e3 => ?_)
    · obtain ⟨T, x1, x2, rfl, nT, rfl, h1', h2'⟩ := y
      cases h1'
      have e4 : (upd H3 T (.tup [.int (i : Nat), x2])) a = some (.lst ks) := by
        rw [upd_ne (ne_of_none (s _ _ (s2 _ _ ha)) nT)]; exact s _ _ (s2 _ _ ha)
      have s4 : Same H3 (upd H3 T (.tup [.int (i : Nat), x2])) := same_new nT
      refine ⟨T, _, rfl, st_of upd_same, rfl, _, _, rfl, ?_⟩
      generalize upd H3 T (.tup [.int (i : Nat), x2]) = H4 at e4 s4 ⊢
      refine ⟨_, _, rfl, rfl, ?_⟩
      refine ⟨rfl, ?_⟩
      wtm_at "w"
      refine i_slL (sq_of e4) fun q2 nq2 => ?_
      rw [cut_take (by omega)]
      have hx2 : x2 ∈ ks := List.mem_of_getElem? h2'
      refine i_inL (sq_of upd_same) (kd_flat (hk.kd _ hx2)) (kds_flat fun v hv => hk.kd v (List.mem_of_mem_take hv)) ?_
      wtm_at "w"
      rw [inV_kd (hk.kd _ hx2) (fun v hv => hk.kd v (List.mem_of_mem_take hv))]
      refine i_F ?_ ?_
      · rw [decide_eq_false]
        intro hm
        obtain ⟨j, hj, ej⟩ := List.getElem_of_mem hm
        rw [List.length_take] at hj
        rw [List.getElem_take] at ej
        have e5 : ks[j]? = some x2 := by rw [List.getElem?_eq_getElem (by omega), ej]
        have := nd_ix hk.nd e5 h2'
        omega
      · exact hN _ rfl (s4.trans (same_new nq2))
    · rw [given_none] at e3
      wtm_at "w"
      refine ⟨Nat.zero_le _, fun q2 nq2 => ?_⟩
      refine i_eqL (xs := []) (ys := []) (sq_of (by rw [upd_ne (ne_of_none e3 nq2)]; exact e3)) (sq_of upd_same) rfl rfl ?_
      exact h _ ((s2.trans s3).trans (same_new nq2))
theorem u_need_kinds (ha : H a = some (.lst ks)) (hk : KdL ks) (h : ∀ H', Same H H' → Q .non H') : sp_need_kinds G [.ref a] H Q E := by
  refine ⟨rfl, ?_⟩
  unfold t_need_kinds
  wtm_at "w"
  refine u_are_kinds ha hk fun H' s => ?_
  wtm_at "w"
  exact h H' s
theorem u_need_to_most {n : Int} (h0 : 0 ≤ n) (h1 : n ≤ 200) (h : Q .non H) : sp_need_to_most G [.int n] H Q E := by
  refine ⟨rfl, ?_⟩
  unfold t_need_to_most
  wtm_at "wa"
  refine u_is_whole_int ?_
  wtm_at "wa"
  refine i_T (by simp; omega) ?_
  wtm_at "wa"
  refine i_F (by simp; omega) ?_
  wtm_at "wa"
  exact h
end
/-! ### a dict that is used as a set of ints -/
def insI (ks : List Int) (n : Int) : List Int := if n ∈ ks then ks else ks ++ [n]
theorem mem_insI {ks : List Int} {n x : Int} : x ∈ insI ks n ↔ x ∈ ks ∨ x = n := by
  unfold insI
  split
  · constructor
    · exact .inl
    · rintro (h | rfl)
      · exact h
      · assumption
  · simp
theorem nd_insI {ks : List Int} {n : Int} (h : ks.Nodup) : (insI ks n).Nodup := by
  unfold insI
  split
  · exact h
  · rename_i hn
    rw [List.nodup_append]
    refine ⟨h, by simp, fun a ha b hb => ?_⟩
    have : b = n := by simpa using hb
    subst this
    exact fun z => hn (z ▸ ha)
theorem len_insI (ks : List Int) (n : Int) : (insI ks n).length ≤ ks.length + 1 := by
  unfold insI
  split
  · omega
  · simp
theorem keys_put {kvs : List (Key × V)} {ks : List Int} (e : kvs.map (·.1) = ks.map Sum.inl) (n : Int) (v : V) : (putK kvs (Sum.inl n) v).map (·.1) = (insI ks n).map Sum.inl := by
  have hm : (kvs.any fun kv => decide (kv.1 = Sum.inl n)) = true ↔ n ∈ ks := by
    rw [List.any_eq_true]
    constructor
    · rintro ⟨kv, hk, z⟩
      have z' : kv.1 = Sum.inl n := of_decide_eq_true z
      have : kv.1 ∈ kvs.map (·.1) := List.mem_map.mpr ⟨kv, hk, rfl⟩
      rw [e, z'] at this
      simpa using this
    · intro h
      have : (Sum.inl n : Key) ∈ kvs.map (·.1) := by rw [e]; exact List.mem_map.mpr ⟨n, h, rfl⟩
      obtain ⟨kv, hk, z⟩ := List.mem_map.mp this
      exact ⟨kv, hk, by simpa using z⟩
  unfold putK insI
  by_cases h : n ∈ ks
  · rw [if_pos (hm.mpr h), if_pos h, List.map_map, ← e]
    refine List.map_congr_left fun kv _ => ?_
    show (if kv.1 = Sum.inl n then (kv.1, v) else kv).1 = kv.1
    split <;> rfl
  · rw [if_neg (fun z => h (hm.mp z)), if_neg h, List.map_append, List.map_append, e]; rfl
/-- at f a dict whose keys are the ints ks -/
def DI (H : Hp) (f : Addr) (ks : List Int) : Prop := ∃ kvs, H f = some (.dK kvs) ∧ kvs.map (·.1) = ks.map Sum.inl
theorem DI.same {H H' : Hp} {f : Addr} {ks : List Int} (d : DI H f ks) (s : Same H H') : DI H' f ks := by
  obtain ⟨kvs, e, k⟩ := d
  exact ⟨kvs, s _ _ e, k⟩
theorem DI.len {H : Hp} {f : Addr} {ks : List Int} {kvs : List (Key × V)} (k : kvs.map (·.1) = ks.map Sum.inl) : kvs.length = ks.length := by
  have := congrArg List.length k
  simpa using this
theorem i_setD {H : Hp} {f : Addr} {ks : List Int} {n : Int} {v : V} {R : Hp → Prop} (d : DI H f ks) (hl : ks.length < 1000000) (h : ∀ kvs, DI (upd H f (.dK kvs)) f (insI ks n) → R (upd H f (.dK kvs))) : uSet (.ref f) (.int n) v H R := by
  obtain ⟨kvs, e, k⟩ := d
  refine .inr ⟨f, _, rfl, DPut.k (k := Sum.inl n) e (sz_lt (by rw [DI.len (H := H) (f := f) k]; exact hl)), h _ ⟨_, upd_same, keys_put k n v⟩⟩
theorem i_sortedD {K : Fg} {H : Hp} {f : Addr} {ks : List Int} {Q : VK} (d : DI H f ks) (h : ∀ (ys : List Int) (p : Addr), ys.Perm ks → ys.Pairwise (· ≤ ·) → H p = none → Q (.ref p) (upd H p (.lst (ys.map V.int)))) : uSorted K [.ref f] H Q := by
  obtain ⟨kvs, e, k⟩ := d
  exact .inr ⟨f, kvs, ks, rfl, .inl e, k, h⟩
/-! ### stocks -/
def IsDot (ks : List V) (x : Int) : Prop := ∃ v ∈ ks, ∃ k : Int, 1 ≤ k ∧ dotsV v k = x
structure StockOf (ks : List V) (b : Int) (L : List Int) : Prop where
  up : L.Pairwise (· < ·)
  mem : ∀ x, x ∈ L ↔ x ≤ b ∧ IsDot ks x
theorem lt_of_le_nd : ∀ {l : List Int}, l.Pairwise (· ≤ ·) → l.Nodup → l.Pairwise (· < ·)
  | [], _, _ => .nil
  | x :: r, h, n => by
    rw [List.pairwise_cons] at h ⊢
    rw [List.nodup_cons] at n
    exact ⟨fun y hy => by
      have h1 := h.1 y hy
      have h2 : x ≠ y := fun z => n.1 (z ▸ hy)
      omega, lt_of_le_nd h.2 n.2⟩
theorem up_ext : ∀ {l m : List Int}, l.Pairwise (· < ·) → m.Pairwise (· < ·) → (∀ x, x ∈ l ↔ x ∈ m) → l = m
  | [], [], _, _, _ => rfl
  | [], y :: q, _, _, h => by have := (h y).mpr (by simp); simp at this
  | x :: r, [], _, _, h => by have := (h x).mp (by simp); simp at this
  | x :: r, y :: q, h1, h2, h => by
    rw [List.pairwise_cons] at h1 h2
    have exy : x = y := by
      have a := (h x).mp (by simp)
      have b := (h y).mpr (by simp)
      rcases List.mem_cons.mp a with z | z
      · exact z
      · rcases List.mem_cons.mp b with w | w
        · exact w.symm
        · have := h2.1 x z
          have := h1.1 y w
          omega
    subst exy
    rw [up_ext h1.2 h2.2 fun z => ?_]
    have hz := h z
    constructor
    · intro m
      rcases List.mem_cons.mp (hz.mp (List.mem_cons_of_mem _ m)) with w | w
      · have := h1.1 z m; omega
      · exact w
    · intro m
      rcases List.mem_cons.mp (hz.mpr (List.mem_cons_of_mem _ m)) with w | w
      · have := h2.1 z m; omega
      · exact w
theorem StockOf.uniq {ks : List V} {b : Int} {L M : List Int} (h : StockOf ks b L) (g : StockOf ks b M) : L = M := up_ext h.up g.up fun x => by rw [h.mem, g.mem]
/-- ahead of kind i, and in kind i ahead of its k-th -/
def InSt (ks : List V) (b : Int) (i : Nat) (v : V) (k : Int) (x : Int) : Prop := x ≤ b ∧ (IsDot (ks.take i) x ∨ ∃ j : Int, 1 ≤ j ∧ j < k ∧ dotsV v j = x)
theorem isDot_take {ks : List V} {i : Nat} {v : V} (hi : ks[i]? = some v) (x : Int) : IsDot (ks.take (i + 1)) x ↔ IsDot (ks.take i) x ∨ ∃ j : Int, 1 ≤ j ∧ dotsV v j = x := by
  unfold IsDot
  rw [List.take_add_one, hi]
  constructor
  · rintro ⟨w, hw, k, h1, h2⟩
    rcases List.mem_append.mp hw with hw | hw
    · exact .inl ⟨w, hw, k, h1, h2⟩
    · have : w = v := by simpa using hw
      subst this
      exact .inr ⟨k, h1, h2⟩
  · rintro (⟨w, hw, k, h1, h2⟩ | ⟨j, h1, h2⟩)
    · exact ⟨w, List.mem_append_left _ hw, k, h1, h2⟩
    · exact ⟨v, List.mem_append_right _ (by simp), j, h1, h2⟩
section
variable {G : Gx} {H : Hp} {Q : VK} {E : XK} {a : Addr} {ks : List V}
def StkO (H : Hp) (a f : Addr) (ks : List V) (b : Int) (i : Nat) (σ : L2.St) (H' : Hp) : Prop := ∃ y3 y4 keys, σ = [some (.ref a), some (.int b), some (.ref f), y3, y4] ∧ Same H H' ∧ DI H' f keys ∧ keys.Nodup ∧ keys.length ≤ 1000 * i ∧ ∀ x, x ∈ keys ↔ x ≤ b ∧ IsDot (ks.take i) x
def StkI (H : Hp) (a f : Addr) (ks : List V) (b : Int) (i : Nat) (v : V) (m : Nat) (σ : L2.St) (H' : Hp) : Prop := ∃ (k : Int) (keys : List Int), σ = [some (.ref a), some (.int b), some (.ref f), some v, some (.int k)] ∧ 1 ≤ k ∧ k ≤ b + 1 ∧ m = (b + 1 - k).toNat ∧ Same H H' ∧ DI H' f keys ∧ keys.Nodup ∧ (keys.length : Int) ≤ 1000 * i + k ∧ ∀ x, x ∈ keys ↔ InSt ks b i v k x
theorem u_stock_of {b : Int} (ha : SqL G.K H a ks) (hk : ∀ v ∈ ks, IsKd v) (hn : ks.length ≤ 100) (h0 : 0 ≤ b) (h1 : b ≤ 900) (h : ∀ p L H', Same H H' → H p = none → H' p = some (.lst (L.map V.int)) → StockOf ks b L → Q (.ref p) H') : sp_stock_of G [.ref a, .int b] H Q E := by
  refine ⟨rfl, ?_⟩
  unfold t_stock_of
  wtm_at "w"
  intro f nf
  wtm_at "w"
  have s1 : Same H (upd H f (.dK [])) := same_new nf
  refine i_lstA (s1.seq ha) ?_
  refine lk_list (StkO H a f ks b) ⟨_, _, [], rfl, s1, ⟨[], upd_same, rfl⟩, List.nodup_nil, by simp, fun x => ?_⟩ (fun i σ H' _ ⟨_, _, _, _, s, _⟩ => s.seq ha) ?_ ?_
  · simp [IsDot]
  · rintro i v σ H2 hi ⟨y3, y4, keys, rfl, s, d, nd, hl, hm⟩
    have hv := hk v (List.mem_of_getElem? hi)
    have hi' : i < ks.length := (List.getElem?_eq_some_iff.mp hi).1
    wtm_at "w"
    refine i_while (StkI H a f ks b i v) b.toNat ⟨1, keys, rfl, by omega, by omega, by omega, s, d, nd, by omega, fun x => ?_⟩ ?_
    · rw [hm]
      unfold InSt
      constructor
      · rintro ⟨z1, z2⟩; exact ⟨z1, .inl z2⟩
      · rintro ⟨z1, z2 | ⟨j, z2, z3, _⟩⟩
        · exact ⟨z1, z2⟩
        · omega
    · rintro m σ H3 ⟨k, keys, rfl, k1, k2, em, s3, d3, nd3, hl3, hm3⟩
      have hge := dots_ge hv k1
      wtm_at "w"
      refine u_dots hv (by omega) (by omega) ?_
      wtm_at "w"
      refine i_ite (fun hle => ?_) (fun hle => ?_)
      · refine i_turn ?_
        wtm_at "w"
        refine u_dots hv (by omega) (by omega) ?_
        refine i_setD d3 (by omega) fun kvs d4 => ?_
        wtm_at "w"
        refine ⟨(b + 1 - (k + 1)).toNat, by omega, k + 1, insI keys (dotsV v k), rfl, by omega, by omega, rfl, same_mut s3 nf, d4, nd_insI nd3, by have := len_insI keys (dotsV v k); omega, fun x => ?_⟩
        rw [mem_insI, hm3]
        unfold InSt
        constructor
        · rintro (⟨z1, z2 | ⟨j, z2, z3, z4⟩⟩ | rfl)
          · exact ⟨z1, .inl z2⟩
          · exact ⟨z1, .inr ⟨j, z2, by omega, z4⟩⟩
          · exact ⟨hle, .inr ⟨k, k1, by omega, rfl⟩⟩
        · rintro ⟨z1, z2 | ⟨j, z2, z3, z4⟩⟩
          · exact .inl ⟨z1, .inl z2⟩
          · by_cases z : j = k
            · subst z; exact .inr z4.symm
            · exact .inl ⟨z1, .inr ⟨j, z2, by omega, z4⟩⟩
      · refine ⟨_, _, keys, rfl, s3, d3, nd3, by omega, fun x => ?_⟩
        rw [hm3, isDot_take hi]
        unfold InSt
        constructor
        · rintro ⟨z1, z2 | ⟨j, z2, z3, z4⟩⟩
          · exact ⟨z1, .inl z2⟩
          · exact ⟨z1, .inr ⟨j, z2, z4⟩⟩
        · rintro ⟨z1, z2 | ⟨j, z2, z4⟩⟩
          · exact ⟨z1, .inl z2⟩
          · refine ⟨z1, .inr ⟨j, z2, ?_, z4⟩⟩
            by_cases z : j < k
            · exact z
            · have := dots_le hv k1 (show k ≤ j by omega)
              omega
  · rintro σ H2 ⟨y3, y4, keys, rfl, s, d, nd, hl, hm⟩
    wtm_at "w"
    refine i_sortedD d fun ys p perm srt np => ?_
    refine h p ys _ (s.trans (same_new np)) (s.free np) upd_same ⟨lt_of_le_nd srt (perm.symm.nodup nd), fun x => ?_⟩
    rw [perm.mem_iff, hm, List.take_length]
theorem u_stock_to {b : Int} (ha : H a = some (.lst ks)) (hk : KdL ks) (h0 : 0 ≤ b) (h1 : b ≤ 200) (h : ∀ p L H', Same H H' → H p = none → H' p = some (.lst (L.map V.int)) → StockOf ks b L → Q (.ref p) H') : sp_stock_to G [.ref a, .int b] H Q E := by
  refine ⟨rfl, ?_⟩
  unfold t_stock_to
  have := hk.hi
  wtm_at "w"
  refine u_need_kinds ha hk fun H1 s1 => ?_
  wtm_at "w"
  refine u_need_to_most h0 h1 ?_
  wtm_at "w"
  refine u_stock_of (sq_of (s1 _ _ ha)) hk.kd (by omega) h0 (by omega) fun p L H' s np e st => h p L H' (s1.trans s) (s1.free np) e st
end
/-! ### what stands in a heap -/
theorem upd_old {H : Hp} {a p : Addr} {o u : HO} (np : H p = none) (e : H a = some o) : upd H p u a = some o := by rw [upd_ne (ne_of_none e np)]; exact e
theorem same_at {H H' : Hp} {a : Addr} {o : HO} (s : Same H H') (e : H a = some o) : H' a = some o := s a o e
theorem i_tyL {K : Fg} {H : Hp} {a : Addr} {xs : List V} {P : Prop} (e : H a = some (.lst xs)) (h : P) : tyV K "list" (.ref a) H ∧ P := ⟨.inl ⟨rfl, _, sq_of e⟩, h⟩
theorem i_new {n : Nat} {P : Prop} (hn : n ≤ 1000) (h : P) : n ≤ sizeLine ∧ P := ⟨sz_le (by omega), h⟩
theorem i_popAt {H : Hp} {l : Addr} {xs : List V} {i : Int} {k : Nat} {Q : VK} (e : H l = some (.lst xs)) (ei : i = (k : Int)) (hk : k < xs.length) (hz : xs.length ≤ 1000) (h : Q xs[k] (upd H l (.lst (xs.eraseIdx k)))) : rPopAt (.ref l) [.int i] H Q :=
  ⟨l, xs, i, k, xs[k], rfl, rfl, e, by omega, by omega, by rw [seqIndex_of (by omega) (by omega), ei]; rfl, List.getElem?_eq_getElem hk, h⟩
theorem i_ulist {K : Fg} {H : Hp} {p : Addr} {ys : List V} {Q : VK} (e : SqL K H p ys) (h : ∀ l, H l = none → Q (.ref l) (upd H l (.lst ys))) : uList K [.ref p] H Q := .inl ⟨p, ys, rfl, .inl e, h⟩
local macro_rules | `(tactic| wtm_at "hp") => `(tactic| solve_by_elim (maxDepth := 14) only [*, upd_same, upd_old, same_at, sq_of, st_of])
/-! ### drawing -/
/-- what draws: of a part of the heap of its own -/
def Drw (W : Wd) (sp : Sp) (s : V) : Prop := ∀ (H : Hp) (many : Int) (Q : VK) (E : XK), W.I H → 0 < many → many < 2 ^ 64 → (∀ r H', 0 ≤ r → r < many → Kp W H H' → Q (.int r) H') → sp [s, .int many] H Q E
def kinds11 : List V := [.int 3, .int 4, .int 5, .int 6, .int 7, .int 8, .int 9, .int 10, .int 11, .int 12, .str "cubes"]
theorem kinds11_kd {x : V} (h : x ∈ kinds11) : IsKd x := by
  simp only [kinds11, List.mem_cons, List.not_mem_nil, or_false] at h
  rcases h with rfl | rfl | rfl | rfl | rfl | rfl | rfl | rfl | rfl | rfl | rfl
  all_goals first | exact .inr rfl | exact .inl ⟨_, rfl, by decide, by decide⟩
theorem kinds11_nd : kinds11.Nodup := by decide
theorem erase_perm : ∀ (l : List V) {k : Nat} (h : k < l.length), ([l[k]] ++ l.eraseIdx k).Perm l
  | [], _, h => absurd h (Nat.not_lt_zero _)
  | x :: r, 0, _ => List.Perm.refl _
  | x :: r, k + 1, h => by
    have h' : k < r.length := by simpa using h
    show (r[k] :: x :: r.eraseIdx k).Perm (x :: r)
    exact (List.Perm.swap _ _ _).trans ((erase_perm r h').cons x)
theorem perm_pop {ks rest : List V} {k : Nat} (hk : k < rest.length) : ((ks ++ [rest[k]]) ++ rest.eraseIdx k).Perm (ks ++ rest) := by
  rw [List.append_assoc]
  exact (erase_perm rest hk).append_left ks
theorem kdl_of {ks rest : List V} (p : (ks ++ rest).Perm kinds11) (h1 : 1 ≤ ks.length) (h5 : ks.length ≤ 5) : KdL ks :=
  ⟨fun v hv => kinds11_kd (p.mem_iff.mp (List.mem_append_left _ hv)), (List.nodup_append.mp (p.nodup_iff.mpr kinds11_nd)).1, h1, h5⟩
section
variable {G : Gx} {H H0 : Hp} {Q : VK} {E : XK} {W : Wd}
def PopT (W : Wd) (H0 H : Hp) (l D : Addr) (i : Nat) (H' : Hp) : Prop := H0 D = none ∧ D ≠ l ∧ Kp W H0 H' ∧ ∃ ks rest, H' D = some (.lst ks) ∧ H' l = some (.lst rest) ∧ ks.length = i ∧ rest.length = 11 - i ∧ (ks ++ rest).Perm kinds11
theorem lc_pop {sp : Sp} {s : V} {σ : L2.St} {iv il is m : Nat} {l : Addr} (dr : Drw W sp s) (i0 : W.I H0) (k0 : Kp W H0 H) (n0 : H0 l = none) (e : H l = some (.lst kinds11)) (hm : m ≤ 5)
    (h1 : ∀ x, ((wipe σ [iv]).set iv (some x))[il]? = some (some (.ref l))) (h2 : ∀ x, ((wipe σ [iv]).set iv (some x))[is]? = some (some s)) (h3 : ∀ x, wipe ((wipe σ [iv]).set iv (some x)) [iv] = wipe σ [iv])
    (fin : ∀ p ks rest H', Kp W H0 H' → H0 p = none → At W H' p (.lst ks) → (ks ++ rest).Perm kinds11 → ks.length = m → Q (.ref p) H') :
    LcK (Itr 0 m) (gName iv) tYes (tBM G.K "list" rPopAt (tVar il) (tCons (tCall sp [] E0 (tCons (tVar is) (tCons (tCB (uLen G.K) (tCons (tVar il) tNil)) tNil))) tNil)) [iv] σ H Q := by
  have rl : ¬ W.R l := Wd.notR i0 n0
  refine lck walk_range (fun D i H' => PopT W H0 H l D i H') (fun D hD => ⟨k0.free hD, (ne_of_none e hD).symm, k0.new hD, [], kinds11, upd_same, upd_old hD e, rfl, rfl, List.Perm.refl _⟩) (fun _ _ _ _ _ => trivial) (fun D i x H1 H2 hi p y => ?_) (fun D H' hD p => ?_)
  · obtain ⟨nD, nDl, k1, ks, rest, eD, el, l1, l2, pm⟩ := p
    obtain ⟨rfl, rfl⟩ := y
    have rD : ¬ W.R D := Wd.notR i0 nD
    wtm_at "w"
    refine ⟨h3 _, ?_⟩
    wtm_at "w"
    refine i_var (h1 _) ?_
    refine i_tyL el ?_
    wtm_at "w"
    refine i_var (h2 _) ?_
    wtm_at "w"
    refine i_var (h1 _) ?_
    wtm_at "w"
    refine i_lenL (sq_of el) ?_
    wtm_at "w"
    refine dr _ _ _ _ k1.i (by omega) (by omega) fun r H3 r0 r1 k3 => ?_
    wtm_at "w"
    have k13 := k1.trans k3
    have el3 := (k3.at ⟨el, rl⟩).h
    have eD3 := (k3.at ⟨eD, rD⟩).h
    refine i_popAt (k := r.toNat) el3 (by omega) (by omega) (by omega) ?_
    have hk : r.toNat < rest.length := by omega
    refine ⟨ks, by rw [upd_ne nDl]; exact eD3, sz_lt (by omega), nD, nDl, (k13.mut n0 rl).mut nD rD, ks ++ [rest[r.toNat]], rest.eraseIdx r.toNat, upd_same, by rw [upd_ne nDl.symm, upd_same], by simp [l1], by rw [List.length_eraseIdx_of_lt hk]; omega, (perm_pop hk).trans pm⟩
  · obtain ⟨nD, nDl, k1, ks, rest, eD, el, l1, l2, pm⟩ := p
    exact fin D ks rest H' k1 nD ⟨eD, Wd.notR i0 nD⟩ pm l1
end
/-! ### the law's own stock -/
theorem mem_dotsN {v : V} {n : Nat} {x : Int} : x ∈ dotsN v n ↔ ∃ j < n, dotsV v ((j : Int) + 1) = x := by
  unfold dotsN
  simp only [List.mem_map, List.mem_range]
/-- of the first n of a kind, where the next is above b -/
theorem dots_to {v : V} (hv : IsKd v) {b : Int} {n : Nat} (h1 : ∀ j < n, dotsV v ((j : Int) + 1) ≤ b) (h2 : b < dotsV v ((n : Int) + 1)) (x : Int) : x ∈ dotsN v n ↔ x ≤ b ∧ ∃ k : Int, 1 ≤ k ∧ dotsV v k = x := by
  rw [mem_dotsN]
  constructor
  · rintro ⟨j, hj, rfl⟩
    exact ⟨h1 j hj, (j : Int) + 1, by omega, rfl⟩
  · rintro ⟨h3, k, hk, rfl⟩
    by_cases z : k ≤ n
    · exact ⟨(k - 1).toNat, by omega, by rw [show (((k - 1).toNat : Nat) : Int) + 1 = k by omega]⟩
    · have := dots_le hv (i := (n : Int) + 1) (j := k) (by omega) (by omega)
      omega
theorem dots_cnt {v : V} (hv : IsKd v) {b : Int} {n : Nat} (h1 : ∀ j < n, dotsV v ((j : Int) + 1) ≤ b) (h0 : 0 ≤ b) : (n : Int) ≤ b := by
  by_cases z : n = 0
  · omega
  · have h := h1 (n - 1) (by omega)
    have h2 := dots_ge hv (k := ((n - 1 : Nat) : Int) + 1) (by omega)
    omega
/-! ### a store by a cell -/
def StI (s : Addr) (H : Hp) : Prop := ∃ g c k : Int, H s = some (.lst [.int g, .int c, .int k])
def storeW (s : Addr) : Wd where
  R := fun a => a = s
  I := StI s
  tr := fun H a i r => by
    subst r; obtain ⟨g, c, k, e⟩ := i; rw [e]; simp
  up := fun H a o i r => by
    obtain ⟨g, c, k, e⟩ := i
    exact ⟨g, c, k, by rw [upd_ne (fun z => r z.symm)]; exact e⟩
  sm := fun H H' i s => by
    obtain ⟨g, c, k, e⟩ := i
    exact ⟨g, c, k, s _ _ e⟩
section
variable {G : Gx} {H : Hp} {Q : VK} {E : XK} {s : Addr}
theorem u_law_cell {a : Addr} {ns : List Int} {k : Int} (hs : SqL G.K H a (ns.map V.int)) (h0 : 0 ≤ k) (h1 : k < 1000) (h : ∀ c, Q (.int c) H) : sp_law_cell G [.ref a, .int k] H Q E := by
  refine ⟨rfl, ?_⟩
  unfold t_law_cell
  wtm_at "w"
  refine i_lenL hs ?_
  wtm_at "w"
  refine i_ite (fun hlt => ?_) (fun hlt => ?_)
  · wtm_at "w"
    rw [List.length_map] at hlt
    have hlt' : k.toNat < ns.length := by omega
    refine i_ixL hs (at_nat (n := k.toNat) (by omega) (v := .int ns[k.toNat]) (by rw [List.getElem?_map, List.getElem?_eq_getElem hlt']; rfl)) ?_
    exact h _
  · wtm_at "w"
    exact h _
theorem u_law_store {c : Int} (h : ∀ s H', Same H H' → H s = none → StI s H' → Q (.ref s) H') : sp_law_store G [.int c] H Q E := by
  refine ⟨rfl, ?_⟩
  unfold t_law_store
  wtm_at "w"
  refine i_ite (fun hlt => ?_) (fun hlt => ?_)
  · wtm_at "w"
    refine i_new (by simp) fun s ns => ?_
    exact h s _ (same_new ns) ns ⟨_, _, _, upd_same⟩
  · wtm_at "w"
    refine i_new (by simp) fun s ns => ?_
    exact h s _ (same_new ns) ns ⟨_, _, _, upd_same⟩
theorem store_upd {g c k : Int} (i : StI s H) : Kp (storeW s) H (upd H s (.lst [.int g, .int c, .int k])) := ⟨⟨g, c, k, upd_same⟩, keep_in (Keep.refl _ _) rfl⟩
theorem u_law_take_v2 {many : Int} (i : StI s H) (h0 : 0 < many) (h1 : many < 2 ^ 64) (h : ∀ r H', 0 ≤ r → r < many → Kp (storeW s) H H' → Q (.int r) H') : sp_law_take_v2 G [.ref s, .int many] H Q E := by
  refine ⟨rfl, ?_⟩
  unfold t_law_take_v2
  obtain ⟨g, c, k, e⟩ := id i
  wtm_at "w"
  wtm_at "ix"
  refine i_ite (fun hlt => ?_) (fun hlt => ?_)
  · wtm_at "w"
    wtm_at "ix"
    wtm_at "ix"
    refine i_setL e (n := 0) rfl ?_
    wtm_at "w"
    exact h _ _ (Int.emod_nonneg _ (by omega)) (Int.emod_lt_of_pos _ h0) (store_upd i)
  · wtm_at "w"
    wtm_at "ix"
    refine i_setL e (n := 2) rfl ?_
    have e2 : (upd H s (.lst [.int g, .int c, .int (k + 1)])) s = some (.lst [.int g, .int c, .int (k + 1)]) := upd_same
    have f2 : Kp (storeW s) H (upd H s (.lst [.int g, .int c, .int (k + 1)])) := store_upd i
    show tSeq _ _ _ _ (upd H s (.lst [.int g, .int c, .int (k + 1)]))
    generalize upd H s (.lst [.int g, .int c, .int (k + 1)]) = H2 at e2 f2 ⊢
    wtm_at "w"
    wtm_at "ix"
    wtm_at "ix"
    generalize e1 : (c + 7919 * (k + 1)) * 48271 % 2147483647 = r1
    have b1 : 0 ≤ r1 ∧ r1 < 2147483647 := by omega
    wtm_at "w"
    generalize e3 : r1 * r1 % 2147483629 = r2
    have b2 : 0 ≤ r2 ∧ r2 < 2147483629 := by omega
    wtm_at "w"
    wtm_at "ix"
    exact h _ _ (Int.emod_nonneg _ (by omega)) (Int.emod_lt_of_pos _ h0) f2
theorem drw_store : Drw (storeW s) (sp_law_take_v2 G) (.ref s) := fun _ _ _ _ i h0 h1 h => u_law_take_v2 i h0 h1 h
theorem u_law_kinds_v2 (i : StI s H) (h : ∀ p ks H', Kp (storeW s) H H' → H p = none → At (storeW s) H' p (.lst ks) → KdL ks → Q (.ref p) H') : sp_law_kinds_v2 G [.ref s] H Q E := by
  refine ⟨rfl, ?_⟩
  unfold t_law_kinds_v2
  wtm_at "w"
  refine i_new (by simp) fun l nl => ?_
  wtm_at "w"
  have k1 : Kp (storeW s) H (upd H l (.lst kinds11)) := (Kp.refl (W := storeW s) i).new nl
  have e1 : (upd H l (.lst kinds11)) l = some (.lst kinds11) := upd_same
  show sp_law_take_v2 _ _ (upd H l (.lst kinds11)) _ _
  generalize upd H l (.lst kinds11) = H1 at k1 e1 ⊢
  have rl : ¬ (storeW s).R l := Wd.notR (W := storeW s) i nl
  refine u_law_take_v2 k1.i (by decide) (by decide) fun r2 H3 c1 c2 k3 => ?_
  wtm_at "w"
  refine i_rngA1 (by omega) ?_
  refine lc_pop (W := storeW s) (H0 := H) drw_store i (k1.trans k3) nl (k3.at ⟨e1, rl⟩).h (by omega) (fun _ => rfl) (fun _ => rfl) (fun _ => rfl) fun p ks rest H' k np a pm hl => ?_
  exact h p ks H' k np a (kdl_of pm (by omega) (by omega))
theorem u_law_n (i : StI s H) (h : ∀ (n : Int) H', Kp (storeW s) H H' → 0 ≤ n → n ≤ 200 → Q (.int n) H') : sp_law_n G [.ref s] H Q E := by
  refine ⟨rfl, ?_⟩
  unfold t_law_n
  wtm_at "w"
  refine u_law_take_v2 i (by decide) (by decide) fun r1 H1 a1 a2 k1 => ?_
  wtm_at "w"
  refine u_law_take_v2 k1.i (by decide) (by decide) fun r2 H2 b1 b2 k2 => ?_
  wtm_at "w"
  refine u_law_take_v2 k2.i (by decide) (by decide) fun r3 H3 c1 c2 k3 => ?_
  wtm_at "w"
  refine u_law_take_v2 k3.i (by decide) (by decide) fun r4 H4 d1 d2 k4 => ?_
  wtm_at "w"
  refine i_new (by simp) fun q nq => ?_
  wtm_at "w"
  have k5 := (((k1.trans k2).trans k3).trans k4).new (o := .lst [.int r1, .int r2, .int r3, .int (200 - r4)]) nq
  have e5 : At (storeW s) (upd H4 q (.lst [.int r1, .int r2, .int r3, .int (200 - r4)])) q (.lst [.int r1, .int r2, .int r3, .int (200 - r4)]) := At.new k4.i nq
  generalize upd H4 q (.lst [.int r1, .int r2, .int r3, .int (200 - r4)]) = H5 at k5 e5 ⊢
  refine u_law_take_v2 k5.i (by decide) (by decide) fun r5 H6 f1 f2 k6 => ?_
  have hr : r5 = 0 ∨ r5 = 1 ∨ r5 = 2 ∨ r5 = 3 := by omega
  rcases hr with rfl | rfl | rfl | rfl
  · exact i_ixL (sq_of (k6.at e5).h) rfl (h _ _ (k5.trans k6) (by omega) (by omega))
  · exact i_ixL (sq_of (k6.at e5).h) rfl (h _ _ (k5.trans k6) (by omega) (by omega))
  · exact i_ixL (sq_of (k6.at e5).h) rfl (h _ _ (k5.trans k6) (by omega) (by omega))
  · exact i_ixL (sq_of (k6.at e5).h) rfl (h _ _ (k5.trans k6) (by omega) (by omega))
def DotsT2 (H : Hp) (v : V) (most : Int) (l : Addr) (m : Nat) (σ : L2.St) (H' : Hp) : Prop := ∃ (n : Nat) (more : Int) (y5 : Option V), σ = [some v, some (.int most), some (.ref l), some (.int (dotsV v ((n : Int) + 1))), some (.int more), y5] ∧
  Same H H' ∧ H' l = some (.lst ((dotsN v n).map V.int)) ∧ m = most.toNat + 1 - n ∧ (∀ j < n, dotsV v ((j : Int) + 1) ≤ most) ∧ (∀ s, v = .int s → more = (n : Int) * (s - 2))
theorem u_law_dots_v2 {v : V} {most : Int} (hv : IsKd v) (h0 : 0 ≤ most) (h1 : most ≤ 100000)
    (h : ∀ l n H', Same H H' → H l = none → H' l = some (.lst ((dotsN v n).map V.int)) → (∀ j < n, dotsV v ((j : Int) + 1) ≤ most) → most < dotsV v ((n : Int) + 1) → Q (.ref l) H') : sp_law_dots_v2 G [v, .int most] H Q E := by
  refine ⟨rfl, ?_⟩
  unfold t_law_dots_v2
  wtm_at "w"
  refine ⟨Nat.zero_le _, fun l nl => ?_⟩
  wtm_at "w"
  refine i_while (DotsT2 H v most l) (most.toNat + 1) ⟨0, 0, none, ?_, same_new nl, upd_same, by omega, fun j hj => absurd hj (Nat.not_lt_zero _), fun s _ => by omega⟩ ?_
  · show _ = [some v, some (.int most), some (.ref l), some (.int (dotsV v (0 + 1))), some (.int 0), none]
    rw [show (0 : Int) + 1 = 1 by rfl, dots_one hv]
    rfl
  · rintro m σ H' ⟨n, more, y5, rfl, s, e, em, hj, hm⟩
    wtm_at "w"
    refine i_ite (fun hle => ?_) (fun hle => ?_)
    · refine i_turn ?_
      have hk := dots_ge hv (k := (n : Int) + 1) (by omega)
      wtm_at "w"
      refine i_tyL e ?_
      wtm_at "w"
      refine i_app e (sz_lt (by simp [dotsN_len]; omega)) ?_
      wtm_at "w"
      have e2 : (upd H' l (.lst ((dotsN v n).map V.int ++ [.int (dotsV v ((n : Int) + 1))]))) l = some (.lst ((dotsN v (n + 1)).map V.int)) := by rw [upd_same, dotsN_succ, List.map_append]; rfl
      have s2 : Same H (upd H' l (.lst ((dotsN v n).map V.int ++ [.int (dotsV v ((n : Int) + 1))]))) := same_mut s nl
      generalize upd H' l (.lst ((dotsN v n).map V.int ++ [.int (dotsV v ((n : Int) + 1))])) = H2 at e2 s2 ⊢
      refine i_lenL (sq_of e2) ?_
      wtm_at "w"
      have fin : ∀ more' : Int, (∀ s, v = .int s → more' = ((n + 1 : Nat) : Int) * (s - 2)) → ∃ m', m' < m ∧ DotsT2 H v most l m' [some v, some (.int most), some (.ref l), some (.int (dotsV v ((n : Int) + 1 + 1))), some (.int more'), some (.int ((List.map V.int (dotsN v (n + 1))).length : Nat))] H2 := fun more' hm' =>
        ⟨most.toNat + 1 - (n + 1), by omega, n + 1, more', _, by rw [show ((n + 1 : Nat) : Int) = (n : Int) + 1 by omega], s2, e2, rfl, fun j hj' => by
          by_cases z : j < n
          · exact hj j z
          · have z2 : j = n := by omega
            subst z2; exact hle, hm'⟩
      rw [List.length_map, dotsN_len] at fin
      rcases hv with ⟨sd, rfl, h2, h3⟩ | rfl
      · wtm_at "w"
        have em2 := hm sd rfl
        have e1 : dotsV (.int sd) ((n : Int) + 1 + 1) = dotsV (.int sd) ((n : Int) + 1) + 1 + (more + sd - 2) := by
          rw [dots_succ_int, em2, Int.add_mul]; omega
        rw [← e1, List.length_map, dotsN_len]
        refine fin _ fun s' hs' => ?_
        cases hs'
        rw [em2, show ((n + 1 : Nat) : Int) = (n : Int) + 1 by omega, Int.add_mul]; omega
      · wtm_at "w"
        rw [List.length_map, dotsN_len]
        wtm_at "w"
        exact fin more fun s' hs' => by cases hs'
    · wtm_at "w"
      exact h l n H' s nl e hj (by omega)
end
section
variable {G : Gx} {H : Hp} {Q : VK} {E : XK} {a : Addr} {ks : List V}
def LSt3I (H : Hp) (a f : Addr) (ks : List V) (b : Int) (i : Nat) (v : V) (l : Addr) (ds : List Int) (j : Nat) (σ : L2.St) (H' : Hp) : Prop := ∃ (y4 : Option V) (keys : List Int), σ = [some (.ref a), some (.int b), some (.ref f), some v, y4] ∧ Same H H' ∧ f ≠ l ∧ DI H' f keys ∧ H' l = some (.lst (ds.map V.int)) ∧ keys.Nodup ∧ keys.length ≤ 1000 * i + j ∧ ∀ x : Int, x ∈ keys ↔ (x ≤ b ∧ IsDot (ks.take i) x) ∨ x ∈ ds.take j
theorem di_free {f l : Addr} {keys : List Int} (d : DI H f keys) (n : H l = none) : f ≠ l := by
  obtain ⟨kvs, e, _⟩ := d
  exact ne_of_none e n
theorem u_law_stock_v3 {b : Int} (ha : H a = some (.lst ks)) (hk : ∀ v ∈ ks, IsKd v) (hn : ks.length ≤ 100) (h0 : 0 ≤ b) (h1 : b ≤ 900) (h : ∀ p L H', Same H H' → H p = none → H' p = some (.lst (L.map V.int)) → StockOf ks b L → Q (.ref p) H') : sp_law_stock_v3 G [.ref a, .int b] H Q E := by
  refine ⟨rfl, ?_⟩
  unfold t_law_stock_v3
  wtm_at "w"
  intro f nf
  wtm_at "w"
  have s1 : Same H (upd H f (.dK [])) := same_new nf
  refine i_lstA (sq_of (s1 _ _ ha)) ?_
  refine lk_list (StkO H a f ks b) ⟨_, _, [], rfl, s1, ⟨[], upd_same, rfl⟩, List.nodup_nil, by simp, fun x => ?_⟩ (fun i σ H' _ ⟨_, _, _, _, s, _⟩ => sq_of (s _ _ ha)) ?_ ?_
  · simp [IsDot]
  · rintro i v σ H2 hi ⟨y3, y4, keys, rfl, s, d, nd, hl, hm⟩
    have hv := hk v (List.mem_of_getElem? hi)
    have hi' : i < ks.length := (List.getElem?_eq_some_iff.mp hi).1
    wtm_at "w"
    refine u_law_dots_v2 hv h0 (by omega) fun l n H3 s3 nl el g1 g2 => ?_
    refine i_lstA (sq_of el) ?_
    have hc := dots_cnt hv g1 h0
    refine lk_list (LSt3I H a f ks b i v l (dotsN v n)) ⟨_, keys, rfl, s.trans s3, di_free d nl, d.same s3, el, nd, by omega, fun x => ?_⟩ (fun i σ H' _ ⟨_, _, _, _, _, _, e, _⟩ => sq_of e) ?_ ?_
    · rw [hm]; simp
    · rintro j x σ H4 hj ⟨y4, keys, rfl, s4, nfl, d4, el4, nd4, hl4, hm4⟩
      rw [List.getElem?_map] at hj
      obtain ⟨x0, hx0, rfl⟩ := Option.map_eq_some_iff.mp hj
      have hj' : j < n := by have := (List.getElem?_eq_some_iff.mp hx0).1; rwa [dotsN_len] at this
      wtm_at "w"
      refine i_setD d4 (by omega) fun kvs d5 => ?_
      refine ⟨_, insI keys x0, rfl, same_mut s4 nf, nfl, d5, by rw [upd_ne nfl.symm]; exact el4, nd_insI nd4, by have := len_insI keys x0; omega, fun x => ?_⟩
      rw [mem_insI, hm4, List.take_add_one, hx0]
      simp only [Option.toList, List.mem_append, List.mem_singleton]
      constructor
      · rintro ((z | z) | z)
        · exact .inl z
        · exact .inr (.inl z)
        · exact .inr (.inr z)
      · rintro (z | z | z)
        · exact .inl (.inl z)
        · exact .inl (.inr z)
        · exact .inr z
    · rintro σ H4 ⟨y4, keys, rfl, s4, nfl, d4, el4, nd4, hl4, hm4⟩
      refine ⟨_, _, keys, rfl, s4, d4, nd4, by rw [List.length_map, dotsN_len] at hl4; omega, fun x => ?_⟩
      rw [hm4, isDot_take hi, List.length_map, List.take_length, dots_to hv g1 g2]
      constructor
      · rintro (⟨z1, z2⟩ | ⟨z1, z2⟩)
        · exact ⟨z1, .inl z2⟩
        · exact ⟨z1, .inr z2⟩
      · rintro ⟨z1, z2 | z2⟩
        · exact .inl ⟨z1, z2⟩
        · exact .inr ⟨z1, z2⟩
  · rintro σ H2 ⟨y3, y4, keys, rfl, s, d, nd, hl, hm⟩
    wtm_at "w"
    refine i_sortedD d fun ys p perm srt np => ?_
    refine h p ys _ (s.trans (same_new np)) (s.free np) upd_same ⟨lt_of_le_nd srt (perm.symm.nodup nd), fun x => ?_⟩
    rw [perm.mem_iff, hm, List.take_length]
end
/-! ### tables -/
def optV : Option Int → V
  | none => .non
  | some i => .int i
def tab (n : Nat) (g : Nat → V) : List V := (List.range n).map g
theorem tab_len (n : Nat) (g : Nat → V) : (tab n g).length = n := by unfold tab; simp
theorem tab_get {n i : Nat} {g : Nat → V} (h : i < n) : (tab n g)[i]? = some (g i) := by
  unfold tab; rw [List.getElem?_map, List.getElem?_range h]; rfl
theorem tab_at {n i : Nat} {g : Nat → V} {j : Int} (e : j = (i : Int)) (h : i < n) : atI (tab n g) j = some (g i) := at_nat e (tab_get h)
theorem tab_ext {n : Nat} {f g : Nat → V} (h : ∀ i < n, f i = g i) : tab n f = tab n g := by
  unfold tab
  exact List.map_congr_left fun i hi => h i (List.mem_range.mp hi)
theorem tab_set {n i : Nat} {g : Nat → V} {v : V} : (tab n g).set i v = tab n fun u => if u = i then v else g u := by
  refine List.ext_getElem? fun j => ?_
  rw [List.getElem?_set, tab_len]
  by_cases hj : j < n
  · rw [tab_get hj, tab_get hj]
    by_cases z : i = j
    · subst z; simp [hj]
    · rw [if_neg z, if_neg (fun w => z w.symm)]
  · have e1 : (tab n g)[j]? = none := List.getElem?_eq_none (by rw [tab_len]; omega)
    have e2 : (tab n fun u => if u = i then v else g u)[j]? = none := List.getElem?_eq_none (by rw [tab_len]; omega)
    rw [e1, e2]
    split
    · split <;> first | rfl | omega
    · rfl
theorem ixN_nat {n : Nat} {i : Int} {k : Nat} (e : i = (k : Int)) (h : k < n) : ixN n i = some k := by
  unfold ixN
  rw [if_pos (by omega), if_pos (by omega), e]; rfl
theorem at_last {xs : List V} {v : V} (h : xs[xs.length - 1]? = some v) : atI xs (-1) = some v := by
  have h0 : 0 < xs.length := by
    by_cases z : 0 < xs.length
    · exact z
    · rw [List.getElem?_eq_none (by omega)] at h; cases h
  unfold atI ixN
  rw [if_neg (by decide), if_pos (by omega)]
  show xs[((-1 : Int) + xs.length).toNat]? = some v
  rw [show ((-1 : Int) + xs.length).toNat = xs.length - 1 by omega]
  exact h
theorem rep_one (v : V) (k : Nat) : (List.replicate k [v]).flatten = List.replicate k v := by
  induction k with
  | zero => rfl
  | succ k ih => rw [List.replicate_succ, List.replicate_succ, List.flatten_cons, ih]; rfl
theorem tab_first {v w : V} {n : Nat} : [v] ++ List.replicate n w = tab (n + 1) fun u => if u = 0 then v else w := by
  refine List.ext_getElem? fun j => ?_
  cases j with
  | zero => rw [tab_get (by omega)]; rfl
  | succ j =>
    by_cases hj : j < n
    · rw [tab_get (by omega), if_neg (by omega)]
      show (List.replicate n w)[j]? = _
      rw [List.getElem?_replicate, if_pos hj]
    · rw [List.getElem?_eq_none (by simp; omega), List.getElem?_eq_none (by rw [tab_len]; omega)]
/-! ### the fewest unlike ones -/
def lbase : Nat → Option Int := fun t => if t = 0 then some 0 else none
def lbest : Option Int → Option Int → Option Int
  | none, c => c
  | some a, none => some (a + 1)
  | some a, some c => if a + 1 < c then some (a + 1) else some c
def lstep (p : Nat) (f : Nat → Option Int) : Nat → Option Int := fun t => if p ≤ t then lbest (f (t - p)) (f t) else f t
def lrow (S : List Int) : Nat → Option Int := S.foldl (fun f p => lstep p.toNat f) lbase
theorem lrow_snoc {S : List Int} {i : Nat} {p : Int} (h : S[i]? = some p) : lrow (S.take (i + 1)) = lstep p.toNat (lrow (S.take i)) := by
  unfold lrow
  rw [List.take_add_one, h, List.foldl_append]; rfl
theorem lfold_above {n : Nat} : ∀ (R : List Int) (f : Nat → Option Int), (∀ x ∈ R, (n : Int) < x) → ∀ t ≤ n, (R.foldl (fun f p => lstep p.toNat f) f) t = f t
  | [], _, _, _, _ => rfl
  | x :: r, f, h, t, ht => by
    rw [List.foldl_cons, lfold_above r _ (fun y hy => h y (List.mem_cons_of_mem _ hy)) t ht]
    have := h x (by simp)
    unfold lstep
    rw [if_neg (by omega)]
theorem lrow_above {L R : List Int} {n : Nat} (h : ∀ x ∈ R, (n : Int) < x) : lrow (L ++ R) n = lrow L n := by
  unfold lrow
  rw [List.foldl_append]
  exact lfold_above R _ h n (Nat.le_refl _)
theorem stock_split {ks : List V} {b c : Int} {L M : List Int} (h : StockOf ks b L) (hbc : b ≤ c) (g : StockOf ks c M) : ∃ R, M = L ++ R ∧ ∀ x ∈ R, b < x := by
  refine ⟨M.filter fun x => decide (b < x), ?_, fun x hx => by simpa using (List.mem_filter.mp hx).2⟩
  refine up_ext g.up (List.pairwise_append.mpr ⟨h.up, List.Pairwise.filter _ g.up, fun x hx y hy => ?_⟩) fun x => ?_
  · have h1 := ((h.mem x).mp hx).1
    have h2 : b < y := by simpa using (List.mem_filter.mp hy).2
    omega
  · rw [List.mem_append, List.mem_filter, h.mem, g.mem]
    constructor
    · rintro ⟨z1, z2⟩
      by_cases z : x ≤ b
      · exact .inl ⟨z, z2⟩
      · exact .inr ⟨⟨z1, z2⟩, by simpa using z⟩
    · rintro (⟨z1, z2⟩ | ⟨z, _⟩)
      · exact ⟨by omega, z2⟩
      · exact z
theorem StockOf.pos {ks : List V} {b : Int} {L : List Int} (h : StockOf ks b L) (hk : ∀ v ∈ ks, IsKd v) {x : Int} (hx : x ∈ L) : 1 ≤ x := by
  obtain ⟨_, v, hv, k, h1, rfl⟩ := (h.mem x).mp hx
  have := dots_ge (hk v hv) h1
  omega
theorem up_len : ∀ {l : List Int} {lo hi : Int}, l.Pairwise (· < ·) → (∀ x ∈ l, lo ≤ x ∧ x ≤ hi) → lo ≤ hi + 1 → (l.length : Int) ≤ hi + 1 - lo
  | [], lo, hi, _, _, h => by simp; omega
  | x :: r, lo, hi, p, h, hh => by
    rw [List.pairwise_cons] at p
    have h1 := h x (by simp)
    have h2 := up_len (l := r) (lo := x + 1) (hi := hi) p.2 (fun y hy => ⟨by have := p.1 y hy; omega, (h y (List.mem_cons_of_mem _ hy)).2⟩) (by omega)
    rw [List.length_cons]; omega
theorem StockOf.len {ks : List V} {b : Int} {L : List Int} (h : StockOf ks b L) (hk : ∀ v ∈ ks, IsKd v) (hb : 0 ≤ b) : (L.length : Int) ≤ b := by
  have := up_len (lo := 1) (hi := b) h.up (fun x hx => ⟨h.pos hk hx, ((h.mem x).mp hx).1⟩) (by omega)
  omega
/-- at qs the rows of a stock -/
structure LRows (H : Hp) (qs : List Addr) (f : Nat → Nat → V) (i n : Nat) : Prop where
  len : qs.length = i + 1
  row : ∀ j q, qs[j]? = some q → H q = some (.lst (tab (n + 1) (f j)))
theorem LRows.same {H H' : Hp} {qs : List Addr} {f : Nat → Nat → V} {i n : Nat} (r : LRows H qs f i n) (s : Same H H') : LRows H' qs f i n := ⟨r.len, fun j q h => s _ _ (r.row j q h)⟩
theorem LRows.last {H : Hp} {qs : List Addr} {f : Nat → Nat → V} {i n : Nat} (r : LRows H qs f i n) : ∃ q, atI (qs.map V.ref) (-1) = some (.ref q) ∧ H q = some (.lst (tab (n + 1) (f i))) := by
  have h : i < qs.length := by have := r.len; omega
  refine ⟨qs[i], at_last ?_, r.row i _ (List.getElem?_eq_getElem h)⟩
  rw [List.length_map, r.len, List.getElem?_map, Nat.add_sub_cancel, List.getElem?_eq_getElem h]; rfl
theorem LRows.snoc {H H' : Hp} {qs : List Addr} {f : Nat → Nat → V} {i n : Nat} {w r : Addr} {o : HO} (c : LRows H qs f i n) (s : Same H H') (hr : ∀ q ∈ qs, q ≠ r) (hw : w ≠ r) (e : H' w = some (.lst (tab (n + 1) (f (i + 1))))) : LRows (upd H' r o) (qs ++ [w]) f (i + 1) n := by
  refine ⟨by simp [c.len], fun j q hj => ?_⟩
  by_cases z : j < qs.length
  · rw [List.getElem?_append_left z] at hj
    rw [upd_ne (hr q (List.mem_of_getElem? hj))]
    exact s _ _ (c.row j q hj)
  · rw [List.getElem?_append_right (by omega)] at hj
    have z2 : j - qs.length = 0 := by
      by_cases y : j - qs.length = 0
      · exact y
      · rw [List.getElem?_eq_none (by simp; omega)] at hj; cases hj
    rw [z2] at hj
    have : w = q := by simpa using hj
    subst this
    rw [upd_ne hw, e, show j = i + 1 by have := c.len; omega]
section
variable {G : Gx} {H : Hp} {Q : VK} {E : XK} {a : Addr} {ks : List V}
def lmix (f : Nat → Option Int) (p k : Nat) : Nat → V := fun u => optV (if u < p + k then lstep p f u else f u)
theorem lmix_zero {f : Nat → Option Int} {p n : Nat} : tab n (fun u => optV (f u)) = tab n (lmix f p 0) := tab_ext fun i _ => by
  unfold lmix lstep
  split
  · rw [if_neg (by omega)]
  · rfl
theorem lmix_end {f : Nat → Option Int} {p n k : Nat} (h : n ≤ p + k) : tab n (lmix f p k) = tab n (fun u => optV (lstep p f u)) := tab_ext fun i hi => by
  unfold lmix
  rw [if_pos (by omega)]
theorem lmix_set {f : Nat → Option Int} {p n k : Nat} {v : V} (h : v = optV (lstep p f (p + k))) : (tab n (lmix f p k)).set (p + k) v = tab n (lmix f p (k + 1)) := by
  rw [tab_set]
  refine tab_ext fun i hi => ?_
  unfold lmix
  by_cases z : i = p + k
  · rw [if_pos z, if_pos (by omega), h, z]
  · rw [if_neg z]
    by_cases y : i < p + k
    · rw [if_pos y, if_pos (by omega)]
    · rw [if_neg y, if_neg (by omega)]
theorem lmix_keep {f : Nat → Option Int} {p n k : Nat} (h : lstep p f (p + k) = f (p + k)) : tab n (lmix f p k) = tab n (lmix f p (k + 1)) := tab_ext fun i hi => by
  unfold lmix
  by_cases z : i = p + k
  · rw [if_neg (by omega), if_pos (by omega), z, h]
  · by_cases y : i < p + k
    · rw [if_pos y, if_pos (by omega)]
    · rw [if_neg y, if_neg (by omega)]
theorem lmix_at {f : Nat → Option Int} {p k : Nat} : lmix f p k (p + k) = optV (f (p + k)) := by
  unfold lmix; rw [if_neg (by omega)]
theorem lstep_at {f : Nat → Option Int} {p k : Nat} : lstep p f (p + k) = lbest (f k) (f (p + k)) := by
  unfold lstep; rw [if_pos (by omega), Nat.add_sub_cancel_left]
def LRO (H : Hp) (a r : Addr) (S : List Int) (n : Nat) (i : Nat) (σ : L2.St) (H' : Hp) : Prop := ∃ qs y2 y4 y5 y6, σ = [some (.ref a), some (.int n), y2, some (.ref r), y4, y5, y6] ∧ Same H H' ∧ H' r = some (.lst (qs.map V.ref)) ∧ (∀ q ∈ qs, q ≠ r) ∧ LRows H' qs (fun j u => optV (lrow (S.take j) u)) i n
def LRI (H2 : Hp) (a r w : Addr) (p n : Nat) (f : Nat → Option Int) (k : Nat) (σ : L2.St) (H' : Hp) : Prop := ∃ y5 y6, σ = [some (.ref a), some (.int n), some (.ref w), some (.ref r), some (.int p), y5, y6] ∧ Same H2 H' ∧ H' w = some (.lst (tab (n + 1) (lmix f p k)))
theorem u_least_rows {S : List Int} {n : Nat} (ha : H a = some (.lst (S.map V.int))) (hS : ∀ x ∈ S, 1 ≤ x ∧ x ≤ 1000) (hn : n ≤ 900) (hl : S.length ≤ 1000)
    (h : ∀ p qs H', Same H H' → H p = none → H' p = some (.lst (qs.map V.ref)) → LRows H' qs (fun j u => optV (lrow (S.take j) u)) S.length n → Q (.ref p) H') : sp_least_rows G [.ref a, .int n] H Q E := by
  refine ⟨rfl, ?_⟩
  unfold t_least_rows
  wtm_at "w"
  refine i_new (by simp) fun p1 n1 => ?_
  wtm_at "w"
  refine i_new (by simp) fun p2 n2 => ?_
  wtm_at "w"
  refine i_rep upd_same (by omega) (by omega) (sz_le (by simp; omega)) fun p3 n3 => ?_
  rw [Int.toNat_natCast, rep_one]
  refine i_addL (xs := [.int 0]) (ys := List.replicate n .non) (upd_old n3 (upd_old n2 upd_same)) upd_same (sz_le (by simp; omega)) fun w0 n4 => ?_
  rw [tab_first]
  have s4 : Same H (upd (upd (upd (upd H p1 (.lst [.int 0])) p2 (.lst [.non])) p3 (.lst (List.replicate n .non))) w0 (.lst (tab (n + 1) fun u => if u = 0 then .int 0 else .non))) := ((((same_new n1).trans (same_new n2)).trans (same_new n3)).trans (same_new n4))
  have e4 : (upd (upd (upd (upd H p1 (.lst [.int 0])) p2 (.lst [.non])) p3 (.lst (List.replicate n .non))) w0 (.lst (tab (n + 1) fun u => if u = 0 then .int 0 else .non))) w0 = some (.lst (tab (n + 1) fun u => if u = 0 then .int 0 else .non)) := upd_same
  generalize upd (upd (upd (upd H p1 (.lst [.int 0])) p2 (.lst [.non])) p3 (.lst (List.replicate n .non))) w0 (.lst (tab (n + 1) fun u => if u = 0 then .int 0 else .non)) = H4 at s4 e4 ⊢
  wtm_at "w"
  refine i_new (by simp) fun r nr => ?_
  wtm_at "w"
  have nHr := s4.free nr
  have s5 := s4.trans (same_new (o := .lst [.ref w0]) nr)
  refine i_lstA (sq_of (s5 _ _ ha)) ?_
  refine lk_list (LRO H a r S n) ⟨[w0], _, _, _, _, rfl, s5, upd_same, fun q hq => ?_, by simp, fun j q hj => ?_⟩ (fun i σ H' _ ⟨_, _, _, _, _, _, s, _⟩ => sq_of (s _ _ ha)) ?_ ?_
  · have : q = w0 := by simpa using hq
    subst this
    exact ne_of_none e4 nr
  · have hj0 : j = 0 := by
      by_cases y : j = 0
      · exact y
      · rw [List.getElem?_eq_none (by simp; omega)] at hj; cases hj
    subst hj0
    have : w0 = q := by simpa using hj
    subst this
    rw [upd_old nr e4]
    refine congrArg (fun z => some (HO.lst z)) (tab_ext fun u _ => ?_)
    show _ = optV (if u = 0 then some 0 else none)
    split <;> rfl
  · rintro i x σ H5 hi ⟨qs, y2, y4, y5, y6, rfl, s, er, hqr, rows⟩
    rw [List.getElem?_map] at hi
    obtain ⟨p, hp, rfl⟩ := Option.map_eq_some_iff.mp hi
    have hp1 := hS p (List.mem_of_getElem? hp)
    obtain ⟨q, hq, eq⟩ := rows.last
    wtm_at "w"
    refine i_ixL (sq_of er) hq ?_
    wtm_at "w"
    refine i_ulist (sq_of eq) fun w nw => ?_
    wtm_at "w"
    obtain ⟨P, rfl⟩ : ∃ P : Nat, p = (P : Int) := ⟨p.toNat, by omega⟩
    refine i_rngA2 (by omega) ?_
    have nwr : w ≠ r := (ne_of_none er nw).symm
    refine lk_range (LRI H5 a r w P n (lrow (S.take i))) ⟨_, _, rfl, same_new nw, by rw [upd_same, ← lmix_zero]⟩ ?_ ?_
    · rintro k σ H6 hk ⟨y5, y6, rfl, s6, ew⟩
      have hk' : P + k < n + 1 := by omega
      wtm_at "w"
      refine i_ixL (sq_of (s6 _ _ er)) hq ?_
      wtm_at "w"
      refine i_ixL (sq_of (s6 _ _ eq)) (tab_at (i := k) (by omega) (by omega)) ?_
      wtm_at "wa"
      have gw : atI (tab (n + 1) (lmix (lrow (S.take i)) P k)) ((P : Int) + (k : Nat)) = some (optV (lrow (S.take i) (P + k))) := by
        rw [← lmix_at]; exact tab_at (by omega) hk'
      have ls := lstep_at (f := lrow (S.take i)) (p := P) (k := k)
      cases c1 : lrow (S.take i) k with
      | none =>
        refine i_F (by simp [optV]) ?_
        wtm_at "wa"
        refine ⟨_, _, rfl, s6, ?_⟩
        rw [ew, lmix_keep (by rw [ls, c1]; rfl)]
      | some av =>
        refine i_T (by simp [optV]) ?_
        wtm_at "wa"
        refine i_ixL (sq_of ew) gw ?_
        wtm_at "wa"
        cases c2 : lrow (S.take i) (P + k) with
        | none =>
          refine i_T (by simp [optV]) ?_
          wtm_at "wa"
          show uAdd (.int av) _ _ _
          wtm_at "wa"
          refine i_setL ew (n := P + k) (by rw [tab_len]; exact ixN_nat (by omega) hk') ?_
          refine ⟨_, _, rfl, same_mut s6 nw, ?_⟩
          rw [upd_same, lmix_set (by rw [ls, c1, c2]; rfl)]
        | some cv =>
          refine i_F (by simp [optV]) ?_
          wtm_at "wa"
          show uAdd (.int av) _ _ _
          wtm_at "wa"
          refine i_ixL (sq_of ew) gw ?_
          rw [c2]
          show uLt (.int (av + 1)) (.int cv) _ _
          wtm_at "wa"
          refine i_ite (fun hlt => ?_) (fun hlt => ?_)
          · wtm_at "wa"
            show uAdd (.int av) _ _ _
            wtm_at "wa"
            refine i_setL ew (n := P + k) (by rw [tab_len]; exact ixN_nat (by omega) hk') ?_
            refine ⟨_, _, rfl, same_mut s6 nw, ?_⟩
            rw [upd_same, lmix_set (by rw [ls, c1, c2]; show _ = optV (if av + 1 < cv then _ else _); rw [if_pos hlt]; rfl)]
          · wtm_at "wa"
            refine ⟨_, _, rfl, s6, ?_⟩
            rw [ew, lmix_keep (by rw [ls, c1, c2]; show (if av + 1 < cv then _ else _) = _; rw [if_neg hlt])]
    · rintro σ H6 ⟨y5, y6, rfl, s6, ew⟩
      wtm_at "w"
      refine i_tyL (s6 _ _ er) ?_
      wtm_at "w"
      have hqn : qs.length < 2000 := by have := rows.len; have := (List.getElem?_eq_some_iff.mp hp).1; omega
      refine i_app (s6 _ _ er) (sz_lt (by rw [List.length_map]; omega)) ?_
      rw [lmix_end (by omega)] at ew
      refine ⟨qs ++ [w], _, _, _, _, rfl, same_mut (s.trans s6) nHr, by rw [upd_same, List.map_append]; rfl, fun q hq => ?_, rows.snoc s6 hqr nwr ?_⟩
      · rcases List.mem_append.mp hq with z | z
        · exact hqr q z
        · have : q = w := by simpa using z
          subst this; exact nwr
      · rw [ew]
        refine congrArg (fun z => some (HO.lst z)) (tab_ext fun u _ => ?_)
        rw [lrow_snoc hp, Int.toNat_natCast]
  · rintro σ H5 ⟨qs, y2, y4, y5, y6, rfl, s, er, hqr, rows⟩
    wtm_at "w"
    rw [List.length_map] at rows
    exact h r qs H5 s nHr er rows
end
/-! ### the law's own rows of unlike ones -/
section
variable {G : Gx} {H : Hp} {Q : VK} {E : XK} {a : Addr} {ks : List V}
def LLO (H : Hp) (a r : Addr) (S : List Int) (n : Nat) (i : Nat) (σ : L2.St) (H' : Hp) : Prop := ∃ qs y2 y4 y5 y6 y7, σ = [some (.ref a), some (.int n), y2, some (.ref r), y4, y5, y6, y7] ∧ Same H H' ∧ H' r = some (.lst (qs.map V.ref)) ∧ (∀ q ∈ qs, q ≠ r) ∧ LRows H' qs (fun j u => optV (lrow (S.take j) u)) i n
def LLI (H2 : Hp) (a r w e : Addr) (p n : Nat) (f : Nat → Option Int) (k : Nat) (σ : L2.St) (H' : Hp) : Prop := ∃ y6 y7, σ = [some (.ref a), some (.int n), some (.ref w), some (.ref r), some (.int p), some (.ref e), y6, y7] ∧ Same H2 H' ∧ H' w = some (.lst (tab (n + 1) (lmix f p k)))
theorem u_law_least {S : List Int} {n : Nat} (ha : H a = some (.lst (S.map V.int))) (hS : ∀ x ∈ S, 1 ≤ x ∧ x ≤ 1000) (hn : n ≤ 900) (hl : S.length ≤ 1000)
    (h : ∀ p qs H', Same H H' → H p = none → H' p = some (.lst (qs.map V.ref)) → LRows H' qs (fun j u => optV (lrow (S.take j) u)) S.length n → Q (.ref p) H') : sp_law_least G [.ref a, .int n] H Q E := by
  refine ⟨rfl, ?_⟩
  unfold t_law_least
  wtm_at "w"
  refine i_new (by simp) fun p1 n1 => ?_
  wtm_at "w"
  refine i_new (by simp) fun p2 n2 => ?_
  wtm_at "w"
  refine i_rep upd_same (by omega) (by omega) (sz_le (by simp; omega)) fun p3 n3 => ?_
  rw [Int.toNat_natCast, rep_one]
  refine i_addL (xs := [.int 0]) (ys := List.replicate n .non) (upd_old n3 (upd_old n2 upd_same)) upd_same (sz_le (by simp; omega)) fun w0 n4 => ?_
  rw [tab_first]
  have s4 : Same H (upd (upd (upd (upd H p1 (.lst [.int 0])) p2 (.lst [.non])) p3 (.lst (List.replicate n .non))) w0 (.lst (tab (n + 1) fun u => if u = 0 then .int 0 else .non))) := ((((same_new n1).trans (same_new n2)).trans (same_new n3)).trans (same_new n4))
  have e4 : (upd (upd (upd (upd H p1 (.lst [.int 0])) p2 (.lst [.non])) p3 (.lst (List.replicate n .non))) w0 (.lst (tab (n + 1) fun u => if u = 0 then .int 0 else .non))) w0 = some (.lst (tab (n + 1) fun u => if u = 0 then .int 0 else .non)) := upd_same
  generalize upd (upd (upd (upd H p1 (.lst [.int 0])) p2 (.lst [.non])) p3 (.lst (List.replicate n .non))) w0 (.lst (tab (n + 1) fun u => if u = 0 then .int 0 else .non)) = H4 at s4 e4 ⊢
  wtm_at "w"
  refine i_new (by simp) fun r nr => ?_
  wtm_at "w"
  have nHr := s4.free nr
  have s5 := s4.trans (same_new (o := .lst [.ref w0]) nr)
  refine i_lstA (sq_of (s5 _ _ ha)) ?_
  refine lk_list (LLO H a r S n) ⟨[w0], _, _, _, _, _, rfl, s5, upd_same, fun q hq => ?_, by simp, fun j q hj => ?_⟩ (fun i σ H' _ ⟨_, _, _, _, _, _, _, s, _⟩ => sq_of (s _ _ ha)) ?_ ?_
  · have : q = w0 := by simpa using hq
    subst this
    exact ne_of_none e4 nr
  · have hj0 : j = 0 := by
      by_cases y : j = 0
      · exact y
      · rw [List.getElem?_eq_none (by simp; omega)] at hj; cases hj
    subst hj0
    have : w0 = q := by simpa using hj
    subst this
    rw [upd_old nr e4]
    refine congrArg (fun z => some (HO.lst z)) (tab_ext fun u _ => ?_)
    show _ = optV (if u = 0 then some 0 else none)
    split <;> rfl
  · rintro i x σ H5 hi ⟨qs, y2, y4, y5, y6, y7, rfl, s, er, hqr, rows⟩
    rw [List.getElem?_map] at hi
    obtain ⟨p, hp, rfl⟩ := Option.map_eq_some_iff.mp hi
    have hp1 := hS p (List.mem_of_getElem? hp)
    obtain ⟨q, hq, eq⟩ := rows.last
    wtm_at "w"
    refine i_ixL (sq_of er) hq ?_
    wtm_at "w"
    refine i_ulist (sq_of eq) fun w nw => ?_
    wtm_at "w"
    obtain ⟨P, rfl⟩ : ∃ P : Nat, p = (P : Int) := ⟨p.toNat, by omega⟩
    refine i_rngA2 (by omega) ?_
    have nwr : w ≠ r := (ne_of_none er nw).symm
    refine lk_range (LLI H5 a r w q P n (lrow (S.take i))) ⟨_, _, rfl, same_new nw, by rw [upd_same, ← lmix_zero]⟩ ?_ ?_
    · rintro k σ H6 hk ⟨y6, y7, rfl, s6, ew⟩
      have hk' : P + k < n + 1 := by omega
      wtm_at "w"
      refine i_ixL (sq_of (s6 _ _ eq)) (tab_at (i := k) (by omega) (by omega)) ?_
      wtm_at "wa"
      have gw : atI (tab (n + 1) (lmix (lrow (S.take i)) P k)) ((P : Int) + (k : Nat)) = some (optV (lrow (S.take i) (P + k))) := by
        rw [← lmix_at]; exact tab_at (by omega) hk'
      have ls := lstep_at (f := lrow (S.take i)) (p := P) (k := k)
      cases c1 : lrow (S.take i) k with
      | none =>
        refine i_F (by simp [optV]) ?_
        wtm_at "wa"
        refine ⟨_, _, rfl, s6, ?_⟩
        rw [ew, lmix_keep (by rw [ls, c1]; rfl)]
      | some av =>
        refine i_T (by simp [optV]) ?_
        wtm_at "wa"
        refine i_ixL (sq_of ew) gw ?_
        wtm_at "wa"
        cases c2 : lrow (S.take i) (P + k) with
        | none =>
          refine i_T (by simp [optV]) ?_
          wtm_at "wa"
          show uAdd (.int av) _ _ _
          wtm_at "wa"
          refine i_setL ew (n := P + k) (by rw [tab_len]; exact ixN_nat (by omega) hk') ?_
          refine ⟨_, _, rfl, same_mut s6 nw, ?_⟩
          rw [upd_same, lmix_set (by rw [ls, c1, c2]; rfl)]
        | some cv =>
          refine i_F (by simp [optV]) ?_
          wtm_at "wa"
          show uAdd (.int av) _ _ _
          wtm_at "wa"
          refine i_ixL (sq_of ew) gw ?_
          rw [c2]
          show uLt (.int (av + 1)) (.int cv) _ _
          wtm_at "wa"
          refine i_ite (fun hlt => ?_) (fun hlt => ?_)
          · wtm_at "wa"
            show uAdd (.int av) _ _ _
            wtm_at "wa"
            refine i_setL ew (n := P + k) (by rw [tab_len]; exact ixN_nat (by omega) hk') ?_
            refine ⟨_, _, rfl, same_mut s6 nw, ?_⟩
            rw [upd_same, lmix_set (by rw [ls, c1, c2]; show _ = optV (if av + 1 < cv then _ else _); rw [if_pos hlt]; rfl)]
          · wtm_at "wa"
            refine ⟨_, _, rfl, s6, ?_⟩
            rw [ew, lmix_keep (by rw [ls, c1, c2]; show (if av + 1 < cv then _ else _) = _; rw [if_neg hlt])]
    · rintro σ H6 ⟨y6, y7, rfl, s6, ew⟩
      wtm_at "w"
      refine i_tyL (s6 _ _ er) ?_
      wtm_at "w"
      have hqn : qs.length < 2000 := by have := rows.len; have := (List.getElem?_eq_some_iff.mp hp).1; omega
      refine i_app (s6 _ _ er) (sz_lt (by rw [List.length_map]; omega)) ?_
      rw [lmix_end (by omega)] at ew
      refine ⟨qs ++ [w], _, _, _, _, _, rfl, same_mut (s.trans s6) nHr, by rw [upd_same, List.map_append]; rfl, fun q hq => ?_, rows.snoc s6 hqr nwr ?_⟩
      · rcases List.mem_append.mp hq with z | z
        · exact hqr q z
        · have : q = w := by simpa using z
          subst this; exact nwr
      · rw [ew]
        refine congrArg (fun z => some (HO.lst z)) (tab_ext fun u _ => ?_)
        rw [lrow_snoc hp, Int.toNat_natCast]
  · rintro σ H5 ⟨qs, y2, y4, y5, y6, y7, rfl, s, er, hqr, rows⟩
    wtm_at "w"
    rw [List.length_map] at rows
    exact h r qs H5 s nHr er rows
end
/-! [f(store) for turn in range(m)] -/
section
variable {G : Gx} {H : Hp} {Q : VK} {W : Wd}
theorem lc_ns {sp : Sp} {s : V} {σ : L2.St} {iv is m : Nat} {lo hi : Int} (dr : ∀ (H : Hp) (Q : VK) (E : XK), W.I H → (∀ (n : Int) H', Kp W H H' → lo ≤ n → n ≤ hi → Q (.int n) H') → sp [s] H Q E) (i0 : W.I H) (hm : m ≤ 1000)
    (h2 : ∀ x, ((wipe σ [iv]).set iv (some x))[is]? = some (some s)) (h3 : ∀ x, wipe ((wipe σ [iv]).set iv (some x)) [iv] = wipe σ [iv])
    (fin : ∀ p (ns : List Int) H', Kp W H H' → H p = none → At W H' p (.lst (ns.map V.int)) → (∀ n ∈ ns, lo ≤ n ∧ n ≤ hi) → ns.length = m → Q (.ref p) H') :
    LcK (Itr 0 m) (gName iv) tYes (tCall sp [] E0 (tCons (tVar is) tNil)) [iv] σ H Q := by
  refine lck walk_range (fun D i H' => H D = none ∧ Kp W H H' ∧ ∃ ns : List Int, H' D = some (.lst (ns.map V.int)) ∧ ns.length = i ∧ ∀ n ∈ ns, lo ≤ n ∧ n ≤ hi) (fun D hD => ⟨hD, (Kp.refl i0).new hD, [], upd_same, rfl, by simp⟩) (fun _ _ _ _ _ => trivial) (fun D i x H1 H2 hi p y => ?_) (fun D H' hD p => ?_)
  · obtain ⟨nD, k1, ns, eD, l1, hns⟩ := p
    obtain ⟨rfl, rfl⟩ := y
    have rD : ¬ W.R D := Wd.notR i0 nD
    wtm_at "w"
    refine ⟨h3 _, ?_⟩
    wtm_at "w"
    refine i_var (h2 _) ?_
    wtm_at "w"
    refine dr _ _ _ k1.i fun n H3 k3 n0 n1 => ?_
    refine ⟨ns.map V.int, (k3.at ⟨eD, rD⟩).h, sz_lt (by rw [List.length_map]; omega), nD, (k1.trans k3).mut nD rD, ns ++ [n], by rw [upd_same, List.map_append]; rfl, by simp [l1], fun z hz => ?_⟩
    rcases List.mem_append.mp hz with hz | hz
    · exact hns z hz
    · have : z = n := by simpa using hz
      subst this; exact ⟨n0, n1⟩
  · obtain ⟨nD, k1, ns, eD, l1, hns⟩ := p
    exact fin D ns H' k1 nD ⟨eD, Wd.notR i0 nD⟩ hns l1
end
/-! ### more steps -/
theorem given_mem {f : Nat → Option V} : ∀ {n : Nat} {y : V}, y ∈ given f n → ∃ i < n, f i = some y
  | 0, _, h => by cases h
  | n + 1, y, h => by
    rcases List.mem_append.mp h with h | h
    · obtain ⟨i, hi, e⟩ := given_mem h
      exact ⟨i, by omega, e⟩
    · cases e : f n with
      | none => rw [e] at h; cases h
      | some z =>
        rw [e] at h
        have : y = z := by simpa using h
        subst this
        exact ⟨n, by omega, e⟩
theorem inV_noT {xs : List V} (h : ∀ x ∈ xs, x = .bl false) : inV (.bl true) xs = false := by
  unfold inV
  rw [List.any_eq_false]
  intro x hx
  rw [h x hx]; decide
/-! ### how many unlike sums -/
section
variable {G : Gx} {H : Hp} {Q : VK} {E : XK} {a : Addr} {ks : List V}
theorem StockOf.lim {b : Int} {L : List Int} (h : StockOf ks b L) (hk : ∀ v ∈ ks, IsKd v) (hb : b ≤ 1000) : ∀ x ∈ L, 1 ≤ x ∧ x ≤ 1000 := fun x hx => ⟨h.pos hk hx, by have := ((h.mem x).mp hx).1; omega⟩
end
/-! ### the fewest parts -/
/-! ### the first of unlike ones -/
def firstP (P : Nat → Bool) : Nat → Option Nat
  | 0 => none
  | t + 1 => match firstP P t with
    | some a => some a
    | none => if P t then some t else none
theorem firstP_some {P : Nat → Bool} : ∀ {t a : Nat}, firstP P t = some a → a < t ∧ P a = true ∧ ∀ j < a, P j = false
  | 0, _, h => by cases h
  | t + 1, a, h => by
    unfold firstP at h
    cases e : firstP P t with
    | some b =>
      rw [e] at h
      cases h
      obtain ⟨h1, h2, h3⟩ := firstP_some e
      exact ⟨by omega, h2, h3⟩
    | none =>
      rw [e] at h
      by_cases z : P t = true
      · simp only [z, if_true, Option.some.injEq] at h
        subst h
        refine ⟨by omega, z, fun j hj => ?_⟩
        exact firstP_none e j hj
      · simp only [z] at h
        cases h
where
  firstP_none {P : Nat → Bool} : ∀ {t : Nat}, firstP P t = none → ∀ j < t, P j = false
    | 0, _, j, hj => absurd hj (Nat.not_lt_zero _)
    | t + 1, h, j, hj => by
      unfold firstP at h
      cases e : firstP P t with
      | some b => rw [e] at h; cases h
      | none =>
        rw [e] at h
        by_cases z : P t = true
        · simp [z] at h
        · by_cases y : j = t
          · subst y; simpa using z
          · exact firstP_none e j (by omega)
theorem firstP_is {P : Nat → Bool} {t a : Nat} (h1 : a < t) (h2 : P a = true) (h3 : ∀ j < a, P j = false) : firstP P t = some a := by
  cases e : firstP P t with
  | none =>
    have := firstP_some.firstP_none e a h1
    rw [h2] at this; cases this
  | some b =>
    obtain ⟨g1, g2, g3⟩ := firstP_some e
    by_cases z : a < b
    · have := g3 a z; rw [h2] at this; cases this
    · by_cases y : b < a
      · have := h3 b y; rw [g2] at this; cases this
      · rw [show a = b by omega]
theorem firstP_ex {P : Nat → Bool} {t a : Nat} (h1 : a < t) (h2 : P a = true) : ∃ b, firstP P t = some b := by
  cases e : firstP P t with
  | none =>
    have := firstP_some.firstP_none e a h1
    rw [h2] at this; cases this
  | some b => exact ⟨b, rfl⟩
theorem firstP_cut {P P' : Nat → Bool} {t u : Nat} (h1 : ∀ j < u, P j = P' j) (h2 : ∀ j < t, u ≤ j → P j = false) (h3 : u ≤ t ∨ True) : firstP P t = firstP P' (min t u) := by
  cases e : firstP P t with
  | none =>
    have n := firstP_some.firstP_none e
    cases e2 : firstP P' (min t u) with
    | none => rfl
    | some b =>
      obtain ⟨g1, g2, g3⟩ := firstP_some e2
      rw [← h1 b (by omega), n b (by omega)] at g2
      cases g2
  | some a =>
    obtain ⟨g1, g2, g3⟩ := firstP_some e
    have hau : a < u := by
      by_cases z : a < u
      · exact z
      · rw [h2 a g1 (by omega)] at g2; cases g2
    exact (firstP_is (by omega) (by rw [← h1 a hau]; exact g2) (fun j hj => by rw [← h1 j (by omega)]; exact g3 j hj)).symm
theorem given_first {P : Nat → Bool} : ∀ (t : Nat), (given (fun k => if P k then some (.int (k : Nat)) else none) t)[0]? = (firstP P t).map fun a => V.int (a : Nat)
  | 0 => rfl
  | t + 1 => by
    have ih := given_first (P := P) t
    show (given _ t ++ (match (if P t then some (V.int (t : Nat)) else none) with | some y => [y] | none => []))[0]? = _
    unfold firstP
    cases e : firstP P t with
    | some b =>
      rw [e] at ih
      have hl : 0 < (given (fun k => if P k then some (.int (k : Nat)) else none) t).length := by
        by_cases z : 0 < (given (fun k => if P k then some (.int (k : Nat)) else none) t).length
        · exact z
        · rw [List.getElem?_eq_none (by omega)] at ih; cases ih
      rw [List.getElem?_append_left hl, ih]
    | none =>
      rw [e] at ih
      have hl : given (fun k => if P k then some (.int (k : Nat)) else none) t = [] := by
        cases z : given (fun k => if P k then some (.int (k : Nat)) else none) t with
        | nil => rfl
        | cons x r => rw [z] at ih; cases ih
      rw [hl]
      by_cases z : P t = true <;> simp [z]
def uOk (S : List Int) (n : Nat) (m : Int) (j : Nat) : Bool := decide (S.getD j 0 ≤ (n : Int)) && decide (lrow (S.take j) (n - (S.getD j 0).toNat) = some m)
def greedy (S : List Int) : Nat → Nat → Nat → List Int
  | 0, _, _ => []
  | m + 1, top, n => match firstP (uOk S n (m : Int)) top with
    | some j => S.getD j 0 :: greedy S m j (n - (S.getD j 0).toNat)
    | none => []
theorem uOk_app {L R : List Int} {n : Nat} {m : Int} {j : Nat} (h : j < L.length) : uOk (L ++ R) n m j = uOk L n m j := by
  unfold uOk
  have e1 : (L ++ R).getD j 0 = L.getD j 0 := by
    rw [List.getD_eq_getElem?_getD, List.getD_eq_getElem?_getD, List.getElem?_append_left h]
  have e2 : (L ++ R).take j = L.take j := by rw [List.take_append_of_le_length (by omega)]
  rw [e1, e2]
theorem uOk_above {L R : List Int} {n : Nat} {m : Int} {j : Nat} (hR : ∀ x ∈ R, (n : Int) < x) (h : L.length ≤ j) (h2 : j < (L ++ R).length) : uOk (L ++ R) n m j = false := by
  unfold uOk
  have e1 : (L ++ R).getD j 0 ∈ R := by
    rw [List.getD_eq_getElem?_getD, List.getElem?_append_right h, List.getElem?_eq_getElem (by rw [List.length_append] at h2; omega)]
    exact List.getElem_mem _
  have := hR _ e1
  rw [decide_eq_false (by omega), Bool.false_and]
theorem greedy_above {L R : List Int} {N : Nat} (hR : ∀ x ∈ R, (N : Int) < x) : ∀ (m top n : Nat), n ≤ N → top ≤ (L ++ R).length → greedy (L ++ R) m top n = greedy L m (min top L.length) n
  | 0, _, _, _, _ => rfl
  | m + 1, top, n, hn, ht => by
    unfold greedy
    have hR' : ∀ x ∈ R, (n : Int) < x := fun x hx => by have := hR x hx; omega
    rw [firstP_cut (P' := uOk L n m) (u := L.length) (fun j hj => uOk_app hj) (fun j hj hu => uOk_above hR' hu (by omega)) (.inr trivial)]
    cases e : firstP (uOk L n m) (min top L.length) with
    | none => rfl
    | some j =>
      obtain ⟨g1, _, _⟩ := firstP_some e
      have hj : j < L.length := by omega
      have e1 : (L ++ R).getD j 0 = L.getD j 0 := by
        rw [List.getD_eq_getElem?_getD, List.getD_eq_getElem?_getD, List.getElem?_append_left hj]
      show (L ++ R).getD j 0 :: greedy (L ++ R) m j _ = L.getD j 0 :: greedy L m j _
      rw [e1, greedy_above hR m j _ (by omega) (by omega), Nat.min_eq_left (by omega)]
theorem lbest_nn {x y : Option Int} (hx : ∀ v, x = some v → 0 ≤ v) (hy : ∀ v, y = some v → 0 ≤ v) : ∀ v, lbest x y = some v → 0 ≤ v := by
  intro v h
  cases x with
  | none => exact hy v h
  | some a => cases y with
    | none =>
      have := hx a rfl
      have h' : a + 1 = v := Option.some.inj h
      omega
    | some c =>
      have h' : (if a + 1 < c then some (a + 1) else some c) = some v := h
      have := hx a rfl
      have := hy c rfl
      split at h' <;> cases h' <;> omega
theorem lrow_nn (S : List Int) : ∀ t v, lrow S t = some v → 0 ≤ v := by
  unfold lrow
  have : ∀ (S : List Int) (f : Nat → Option Int), (∀ t v, f t = some v → 0 ≤ v) → ∀ t v, S.foldl (fun f p => lstep p.toNat f) f t = some v → 0 ≤ v := by
    intro S
    induction S with
    | nil => intro f h t v e; exact h t v e
    | cons p r ih =>
      intro f h t v e
      rw [List.foldl_cons] at e
      refine ih _ (fun t v e => ?_) t v e
      unfold lstep at e
      split at e
      · exact lbest_nn (fun v e => h _ v e) (fun v e => h _ v e) v e
      · exact h t v e
  refine this S lbase fun t v e => ?_
  unfold lbase at e
  split at e
  · cases e; omega
  · cases e
theorem lrow_zero {m : Int} {n : Nat} (h : lrow [] n = some m) : m = 0 := by
  have h' : (if n = 0 then some (0 : Int) else none) = some m := h
  split at h'
  · cases h'; rfl
  · cases h'
/-- where m is the fewest and above 0, some one is the last part -/
theorem lrow_last {S : List Int} (hp : ∀ x ∈ S, 1 ≤ x) {n : Nat} {m : Nat} : ∀ {top : Nat}, top ≤ S.length → lrow (S.take top) n = some ((m + 1 : Nat) : Int) → ∃ j < top, uOk S n m j = true
  | 0, _, h => by
    have := lrow_zero (m := ((m + 1 : Nat) : Int)) (n := n) h
    omega
  | t + 1, ht, h => by
    have hg : S[t]? = some S[t] := List.getElem?_eq_getElem (by omega)
    have hd : S.getD t 0 = S[t] := by rw [List.getD_eq_getElem?_getD, hg]; rfl
    have hp1 := hp S[t] (List.getElem_mem _)
    rw [lrow_snoc hg] at h
    have old : lrow (S.take t) n = some ((m + 1 : Nat) : Int) → ∃ j < t + 1, uOk S n m j = true := fun e => by
      obtain ⟨j, hj, e⟩ := lrow_last hp (by omega) e
      exact ⟨j, by omega, e⟩
    unfold lstep at h
    by_cases z : S[t].toNat ≤ n
    · rw [if_pos z] at h
      have new : lrow (S.take t) (n - S[t].toNat) = some (m : Int) → ∃ j < t + 1, uOk S n m j = true := fun e => by
        refine ⟨t, by omega, ?_⟩
        unfold uOk
        rw [hd, decide_eq_true (by omega), decide_eq_true e]; rfl
      cases e1 : lrow (S.take t) (n - S[t].toNat) with
      | none => rw [e1] at h; exact old h
      | some a =>
        rw [e1] at h
        cases e2 : lrow (S.take t) n with
        | none =>
          rw [e2] at h
          have h' : a + 1 = ((m + 1 : Nat) : Int) := Option.some.inj h
          exact new (by rw [e1, show a = (m : Int) by omega])
        | some c =>
          rw [e2] at h
          have h' : (if a + 1 < c then some (a + 1) else some c) = some ((m + 1 : Nat) : Int) := h
          by_cases y : a + 1 < c
          · rw [if_pos y] at h'
            have h'' := Option.some.inj h'
            exact new (by rw [e1, show a = (m : Int) by omega])
          · rw [if_neg y] at h'
            exact old (by rw [e2, h'])
    · rw [if_neg z] at h
      exact old h
section
variable {K : Fg} {H : Hp} {Q : VK}
theorem i_eqOI {o : Option Int} {m : Int} (h : Q (.bl (decide (o = some m))) H) : uEq K (optV o) (.int m) H Q := by
  cases o with
  | none => refine i_eqNI ?_; exact h
  | some i =>
    refine i_eqI ?_
    rw [show decide (some i = some m) = decide (i = m) by rw [Bool.eq_iff_iff]; simp] at h
    exact h
end
theorem LRows.at {H : Hp} {qs : List Addr} {f : Nat → Nat → V} {i n j : Nat} {jv : Int} (r : LRows H qs f i n) (e : jv = (j : Int)) (hj : j ≤ i) : ∃ q, atI (qs.map V.ref) jv = some (.ref q) ∧ H q = some (.lst (tab (n + 1) (f j))) := by
  have h : j < qs.length := by have := r.len; omega
  refine ⟨qs[j], at_nat e ?_, r.row j _ (List.getElem?_eq_getElem h)⟩
  rw [List.getElem?_map, List.getElem?_eq_getElem h]; rfl
theorem ints_at {S : List Int} {j : Nat} {jv : Int} (e : jv = (j : Int)) (hj : j < S.length) : atI (S.map V.int) jv = some (.int (S.getD j 0)) := by
  refine at_nat e ?_
  rw [List.getElem?_map, List.getD_eq_getElem?_getD, List.getElem?_eq_getElem hj]; rfl
theorem getD_mem {S : List Int} {j : Nat} (hj : j < S.length) : S.getD j 0 ∈ S := by
  rw [List.getD_eq_getElem?_getD, List.getElem?_eq_getElem hj]
  exact List.getElem_mem _
section
variable {G : Gx} {H : Hp} {Q : VK} {E : XK} {a : Addr} {ks : List V}
/-- the test at a place -/
theorem u_ok {D : Ends} {σ : L2.St} {QB : Bool → Hp → Prop} {iS iR iJ iN : Nat} {tm : TE} {sp rp : Addr} {S : List Int} {qs : List Addr} {N n j : Nat} {m jv : Int} (h1 : σ[iS]? = some (some (.ref sp))) (h2 : σ[iR]? = some (some (.ref rp))) (h3 : σ[iJ]? = some (some (.int jv))) (h4 : σ[iN]? = some (some (.int n))) (ej : jv = (j : Int))
    (es : H sp = some (.lst (S.map V.int))) (er : H rp = some (.lst (qs.map V.ref))) (rows : LRows H qs (fun j u => optV (lrow (S.take j) u)) S.length N) (hp : ∀ x ∈ S, 1 ≤ x) (hj : j < S.length) (hn : n ≤ N) (hm : ∀ (H : Hp) (Q : VK), Q (.int m) H → tm σ H Q)
    (h : QB (uOk S n m j) H) : tAnd (tTest (tOp uLe (tOp (uIx G.K) (tVar iS) (tVar iJ)) (tVar iN))) (tTest (tOp (uEq G.K) (tOp (uIx G.K) (tOp (uIx G.K) (tVar iR) (tVar iJ)) (tOp uSub (tVar iN) (tOp (uIx G.K) (tVar iS) (tVar iJ)))) tm)) σ H QB := by
  have hx := hp _ (getD_mem hj)
  have gs := ints_at (S := S) ej hj
  obtain ⟨q, hq, eq⟩ := rows.at ej (by omega)
  wtm_at "wa"
  refine i_var h1 ?_
  wtm_at "wa"
  refine i_var h3 ?_
  refine i_ixL (sq_of es) gs ?_
  wtm_at "wa"
  refine i_var h4 ?_
  wtm_at "wa"
  unfold uOk at h
  refine i_ite (fun hle => ?_) (fun hle => ?_)
  · rw [decide_eq_true hle, Bool.true_and] at h
    wtm_at "wa"
    refine i_var h2 ?_
    wtm_at "wa"
    refine i_var h3 ?_
    refine i_ixL (sq_of er) hq ?_
    wtm_at "wa"
    refine i_var h4 ?_
    wtm_at "wa"
    refine i_var h1 ?_
    wtm_at "wa"
    refine i_var h3 ?_
    refine i_ixL (sq_of es) gs ?_
    wtm_at "wa"
    refine i_ixL (sq_of eq) (tab_at (i := n - (S.getD j 0).toNat) (by omega) (by omega)) ?_
    refine hm _ _ ?_
    refine i_eqOI ?_
    wtm_at "wa"
    exact h
  · rw [decide_eq_false hle, Bool.false_and] at h
    exact h
end
section
variable {G : Gx} {H : Hp} {Q : VK} {E : XK} {a : Addr} {ks : List V}
theorem greedy_step {S : List Int} {m top n j : Nat} (h : firstP (uOk S n (m : Int)) top = some j) : greedy S (m + 1) top n = S.getD j 0 :: greedy S m j (n - (S.getD j 0).toNat) := by
  show (match firstP (uOk S n (m : Int)) top with | some j => S.getD j 0 :: greedy S m j (n - (S.getD j 0).toNat) | none => []) = _
  rw [h]
theorem uOk_row {S : List Int} {n j : Nat} {m : Int} (h : uOk S n m j = true) : S.getD j 0 ≤ (n : Int) ∧ lrow (S.take j) (n - (S.getD j 0).toNat) = some m := by
  unfold uOk at h
  rw [Bool.and_eq_true] at h
  exact ⟨of_decide_eq_true h.1, of_decide_eq_true h.2⟩
/-- where such a loop stands -/
structure GrI (S : List Int) (G0 : List Int) (fs : List Int) (m top n N : Nat) : Prop where
  g : fs ++ greedy S m top n = G0
  r : lrow (S.take top) n = some (m : Int)
  t : top ≤ S.length
  n : n ≤ N
theorem GrI.next {S : List Int} {G0 fs : List Int} {m top n N j : Nat} (i : GrI S G0 fs (m + 1) top n N) (h : firstP (uOk S n (m : Int)) top = some j) : GrI S G0 (fs ++ [S.getD j 0]) m j (n - (S.getD j 0).toNat) N := by
  obtain ⟨h1, h2, _⟩ := firstP_some h
  have := i.t
  have := i.n
  exact ⟨by rw [← i.g, greedy_step h, List.append_assoc]; rfl, (uOk_row h2).2, by omega, by omega⟩
theorem GrI.ex {S : List Int} (hp : ∀ x ∈ S, 1 ≤ x) {G0 fs : List Int} {m top n N : Nat} (i : GrI S G0 fs (m + 1) top n N) : ∃ j, firstP (uOk S n (m : Int)) top = some j := by
  obtain ⟨j, h1, h2⟩ := lrow_last hp i.t i.r
  exact firstP_ex h1 h2
def FuT (H : Hp) (a sp rp l : Addr) (S G0 : List Int) (N c : Nat) (σ : L2.St) (H' : Hp) : Prop := ∃ (fs : List Int) (top n : Nat) (y7 : Option V), σ = [some (.ref a), some (.int n), some (.ref sp), some (.ref rp), some (.int (c : Nat)), some (.ref l), some (.int top), y7] ∧ Same H H' ∧ H' l = some (.lst (fs.map V.int)) ∧ fs.length + c ≤ N ∧ GrI S G0 fs c top n N
theorem lrow_bd (S : List Int) (hp : ∀ x ∈ S, 1 ≤ x) : ∀ t v, lrow S t = some v → v ≤ t := by
  unfold lrow
  have : ∀ (S : List Int) (hp : ∀ x ∈ S, 1 ≤ x) (f : Nat → Option Int), (∀ (t : Nat) v, f t = some v → v ≤ t) → ∀ (t : Nat) v, S.foldl (fun f p => lstep p.toNat f) f t = some v → v ≤ t := by
    intro S
    induction S with
    | nil => intro _ f h t v e; exact h t v e
    | cons p r ih =>
      intro hp f h t v e
      rw [List.foldl_cons] at e
      have hp1 := hp p (by simp)
      refine ih (fun x hx => hp x (List.mem_cons_of_mem _ hx)) _ (fun t v e => ?_) t v e
      unfold lstep at e
      split at e
      · cases e1 : f (t - p.toNat) with
        | none => rw [e1] at e; exact h t v e
        | some x =>
          rw [e1] at e
          have hx := h _ x e1
          cases e2 : f t with
          | none =>
            rw [e2] at e
            have h' : x + 1 = v := Option.some.inj e
            omega
          | some y =>
            rw [e2] at e
            have hy := h _ y e2
            have h' : (if x + 1 < y then some (x + 1) else some y) = some v := e
            split at h' <;> cases h' <;> omega
      · exact h t v e
  refine this S hp lbase fun t v e => ?_
  unfold lbase at e
  split at e
  · cases e; omega
  · cases e
theorem u_first_unlike {n : Nat} (ha : H a = some (.lst ks)) (hk : KdL ks) (h1 : n ≤ 200) (hN : ∀ L H', Same H H' → StockOf ks n L → lrow L n = none → Q .non H')
    (hY : ∀ p L m H', Same H H' → H p = none → StockOf ks n L → lrow L n = some ((m : Nat) : Int) → H' p = some (.lst ((greedy L m L.length n).map V.int)) → (greedy L m L.length n).length ≤ 1000 → Q (.ref p) H') : sp_first_unlike G [.ref a, .int n] H Q E := by
  refine ⟨rfl, ?_⟩
  unfold t_first_unlike
  wtm_at "w"
  refine u_stock_to ha hk (by omega) (by omega) fun p L H1 s1 np e1 st => ?_
  wtm_at "w"
  have hlen := st.len hk.kd (by omega)
  have hpos : ∀ x ∈ L, 1 ≤ x := fun x hx => st.pos hk.kd hx
  refine u_least_rows e1 (st.lim hk.kd (by omega)) (by omega) (by omega) fun r qs H2 s2 nr er rows => ?_
  wtm_at "w"
  obtain ⟨q, hq, eq⟩ := rows.last
  refine i_ixL (sq_of er) hq ?_
  wtm_at "w"
  refine i_ixL (sq_of eq) (tab_at (i := n) rfl (by omega)) ?_
  rw [List.take_length]
  wtm_at "w"
  cases em : lrow L n with
  | none =>
    refine i_T (by simp [optV]) ?_
    wtm_at "w"
    exact hN L H2 (s1.trans s2) st em
  | some mv =>
    refine i_F (by simp [optV]) ?_
    have m0 := lrow_nn L _ _ em
    have mb := lrow_bd L hpos _ _ em
    obtain ⟨m, rfl⟩ : ∃ m : Nat, mv = (m : Int) := ⟨mv.toNat, by omega⟩
    wtm_at "w"
    refine i_new (by simp) fun l nl => ?_
    wtm_at "w"
    refine i_lenL (sq_of (upd_old nl (s2 _ _ e1))) ?_
    rw [List.length_map]
    wtm_at "w"
    have s12 := s1.trans s2
    have s3 : Same H (upd H2 l (.lst [])) := s12.trans (same_new nl)
    have s23 : Same H2 (upd H2 l (.lst [])) := same_new nl
    have nl0 := s12.free nl
    refine i_while (FuT H2 a p r l L (greedy L m L.length n) n) m ⟨[], L.length, n, _, rfl, s23, upd_same, by simp; omega, ⟨rfl, by rw [List.take_length]; exact em, Nat.le_refl _, Nat.le_refl _⟩⟩ ?_
    rintro c σ H4 ⟨fs, top, n', y7, rfl, s4, el, hfl, gi⟩
    wtm_at "w"
    refine i_ite (fun hgt => ?_) (fun hgt => ?_)
    · refine i_turn ?_
      obtain ⟨c, rfl⟩ : ∃ c', c = c' + 1 := ⟨c - 1, by omega⟩
      wtm_at "w"
      have htop := gi.t
      refine i_rngA1 (by omega) ?_
      rw [Int.toNat_natCast]
      obtain ⟨j0, hj0⟩ := gi.ex hpos
      have ec : ((c + 1 : Nat) : Int) - 1 = (c : Int) := by omega
      rw [ec]
      have rows4 := rows.same s4
      refine lk_range (fun i σ H' => ∃ y7, σ = [some (.ref a), some (.int n'), some (.ref p), some (.ref r), some (.int c), some (.ref l), some (.int top), y7] ∧ H' = H4 ∧ ∀ j < i, uOk L n' c j = false) ⟨_, rfl, rfl, fun j hj => absurd hj (Nat.not_lt_zero _)⟩ ?_ ?_
      · rintro i σ H5 hi ⟨y7, rfl, rfl, hno⟩
        wtm_at "w"
        refine u_ok (D := ⟨fun _ _ => True, fun _ _ => True, fun _ _ => True, fun _ _ => True⟩) (j := i) rfl rfl rfl rfl (by omega) (s4 _ _ (s2 _ _ e1)) (s4 _ _ er) rows4 hpos (by omega) gi.n (fun H Q h => ⟨_, rfl, h⟩) ?_
        refine i_both (fun hok => ?_) (fun hok => ?_)
        · wtm_at "w"
          have hf : firstP (uOk L n' (c : Int)) top = some i := firstP_is hi hok hno
          have hil : i < L.length := by omega
          have gs := ints_at (S := L) (j := i) (jv := 0 + (i : Int)) (by omega) hil
          obtain ⟨u1, u2⟩ := uOk_row hok
          have hx1 := hpos _ (getD_mem hil)
          have gn := gi.n
          refine i_tyL el ?_
          wtm_at "w"
          refine i_ixL (sq_of (s4 _ _ (s2 _ _ e1))) gs ?_
          wtm_at "w"
          refine i_app el (sz_lt (by rw [List.length_map]; omega)) ?_
          have s5 := same_mut (o := .lst (fs.map V.int ++ [.int (L.getD i 0)])) s4 nl
          wtm_at "w"
          refine i_ixL (sq_of (s5 _ _ (s2 _ _ e1))) gs ?_
          wtm_at "w"
          refine ⟨c, by omega, fs ++ [L.getD i 0], i, n' - (L.getD i 0).toNat, some (.int (0 + (i : Nat))), ?_, s5, by rw [upd_same, List.map_append]; rfl, by simp; omega, gi.next hf⟩
          rw [show ((n' - (L.getD i 0).toNat : Nat) : Int) = (n' : Int) - L.getD i 0 by omega, show (0 : Int) + (i : Nat) = (i : Int) by omega]
          rfl
        · wtm_at "w"
          refine ⟨_, rfl, rfl, fun j hj => ?_⟩
          by_cases z : j = i
          · subst z; exact hok
          · exact hno j (by omega)
      · rintro σ H5 ⟨y7, rfl, rfl, hno⟩
        obtain ⟨g1, g2, _⟩ := firstP_some hj0
        rw [hno j0 g1] at g2
        cases g2
    · wtm_at "w"
      have c0 : c = 0 := by omega
      subst c0
      have gg := gi.g
      have : fs = greedy L m L.length n := by rw [← gg]; exact (List.append_nil _).symm
      subst this
      exact hY l L m H4 (s12.trans s4) nl0 st em el (by omega)
theorem u_law_due_v5 {sp rp : Addr} {S : List Int} {qs : List Addr} {n N : Nat} (es : H sp = some (.lst (S.map V.int))) (er : H rp = some (.lst (qs.map V.ref))) (rows : LRows H qs (fun j u => optV (lrow (S.take j) u)) S.length N) (hpos : ∀ x ∈ S, 1 ≤ x) (hn : n ≤ N) (hNn : N ≤ 900) (hlen : S.length ≤ 1000)
    (hN : ∀ H', Same H H' → lrow S n = none → Q .non H')
    (hY : ∀ p m H', Same H H' → H p = none → lrow S n = some ((m : Nat) : Int) → H' p = some (.lst ((greedy S m S.length n).map V.int)) → Q (.ref p) H') : sp_law_due_v5 G [.ref sp, .ref rp, .int n] H Q E := by
  refine ⟨rfl, ?_⟩
  unfold t_law_due_v5
  wtm_at "w"
  obtain ⟨q, hq, eq⟩ := rows.last
  refine i_ixL (sq_of er) hq ?_
  wtm_at "w"
  have gq := tab_at (n := N + 1) (i := n) (j := (n : Int)) (g := fun u => optV (lrow (S.take S.length) u)) rfl (by omega)
  refine i_ixL (sq_of eq) gq ?_
  rw [List.take_length] at gq ⊢
  wtm_at "w"
  cases em : lrow S n with
  | none =>
    refine i_T (by simp [optV]) ?_
    wtm_at "w"
    exact hN H (fun _ _ z => z) em
  | some mv =>
    refine i_F (by simp [optV]) ?_
    have m0 := lrow_nn S _ _ em
    have mb := lrow_bd S hpos _ _ em
    obtain ⟨m, rfl⟩ : ∃ m : Nat, mv = (m : Int) := ⟨mv.toNat, by omega⟩
    wtm_at "w"
    refine i_new (by simp) fun l nl => ?_
    wtm_at "w"
    have s23 : Same H (upd H l (.lst [])) := same_new nl
    refine i_lenL (sq_of (s23 _ _ es)) ?_
    rw [List.length_map]
    wtm_at "w"
    refine i_ixL (sq_of (s23 _ _ er)) hq ?_
    wtm_at "w"
    rw [em] at gq
    have eq' := s23 _ _ eq
    simp only [List.take_length] at eq'
    refine i_ixL (sq_of eq') gq ?_
    wtm_at "w"
    refine i_while (fun c σ H' => ∃ (fs : List Int) (top n' : Nat) (y6 y7 : Option V), σ = [some (.ref sp), some (.ref rp), some (.int n'), some (.ref l), some (.int top), some (.int (c : Nat)), y6, y7] ∧ Same H H' ∧ H' l = some (.lst (fs.map V.int)) ∧ fs.length + c ≤ N ∧ GrI S (greedy S m S.length n) fs c top n' N) m ⟨[], S.length, n, _, _, rfl, s23, upd_same, by simp; omega, ⟨rfl, by rw [List.take_length]; exact em, Nat.le_refl _, hn⟩⟩ ?_
    rintro c σ H4 ⟨fs, top, n', y6, y7, rfl, s4, el, hfl, gi⟩
    wtm_at "w"
    refine i_ite (fun hgt => ?_) (fun hgt => ?_)
    · refine i_turn ?_
      obtain ⟨c, rfl⟩ : ∃ c', c = c' + 1 := ⟨c - 1, by omega⟩
      wtm_at "w"
      have htop := gi.t
      refine i_rngA1 (by omega) ?_
      rw [Int.toNat_natCast]
      obtain ⟨j0, hj0⟩ := gi.ex hpos
      have ec : ((c + 1 : Nat) : Int) - 1 = (c : Int) := by omega
      refine lck_pure walk_range (by omega) (fun k => if uOk S n' (c : Int) k then some (.int (k : Nat)) else none) (fun _ _ => trivial) (fun i x H5 H6 KK NN hi s y hK hN => ?_) (fun pp H5 npp s5 e5 => ?_)
      · obtain ⟨rfl, rfl⟩ := y
        wtm_at "w"
        refine ⟨rfl, ?_⟩
        have s45 := s4.trans s
        refine u_ok (D := ⟨fun _ _ => True, fun _ _ => True, fun _ _ => True, fun _ _ => True⟩) (j := i) (n := n') (m := (c : Int)) rfl rfl rfl rfl (by omega) (s45 _ _ es) (s45 _ _ er) (rows.same s45) hpos (by omega) gi.n (fun H Q h => ?_) ?_
        · wtm_at "w"
          rw [ec]; exact h
        · refine i_both (fun hok => ?_) (fun hok => ?_)
          · wtm_at "w"
            exact hK _ _ (by rw [hok]; show some (V.int (i : Nat)) = some (V.int (0 + (i : Nat))); rw [show (0 : Int) + (i : Nat) = (i : Nat) by omega]) (fun _ _ z => z)
          · exact hN _ (by rw [hok]; rfl) (fun _ _ z => z)
      · have g0 := given_first (P := uOk S n' (c : Int)) top
        rw [hj0] at g0
        obtain ⟨j1, j2, j3⟩ := firstP_some hj0
        obtain ⟨u1, u2⟩ := uOk_row j2
        have hil : j0 < S.length := by omega
        have gs := ints_at (S := S) (j := j0) (jv := (j0 : Int)) rfl hil
        have hx1 := hpos _ (getD_mem hil)
        have gn := gi.n
        wtm_at "w"
        refine i_ixL (sq_of e5) (at_nat (n := 0) rfl g0) ?_
        have s05 := s4.trans s5
        have el5 := s5 _ _ el
        wtm_at "w"
        refine i_tyL el5 ?_
        wtm_at "w"
        refine i_ixL (sq_of (s05 _ _ es)) gs ?_
        wtm_at "w"
        refine i_app el5 (sz_lt (by rw [List.length_map]; omega)) ?_
        have s6 := same_mut (o := .lst (fs.map V.int ++ [.int (S.getD j0 0)])) s05 nl
        wtm_at "w"
        refine i_ixL (sq_of (s6 _ _ es)) gs ?_
        wtm_at "w"
        refine ⟨c, by omega, fs ++ [S.getD j0 0], j0, n' - (S.getD j0 0).toNat, some (.ref pp), y7, ?_, s6, by rw [upd_same, List.map_append]; rfl, by simp; omega, gi.next hj0⟩
        rw [show ((n' - (S.getD j0 0).toNat : Nat) : Int) = (n' : Int) - S.getD j0 0 by omega, ← ec]
        rfl
    · wtm_at "w"
      have c0 : c = 0 := by omega
      subst c0
      have gg := gi.g
      have : fs = greedy S m S.length n := by rw [← gg]; exact (List.append_nil _).symm
      subst this
      exact hY l m H4 s4 nl em el
end
section
variable {G : Gx} {H : Hp} {Q : VK} {E : XK}
theorem store_same {H H1 H2 H' : Hp} {st : Addr} (s1 : Same H H1) (nst : H1 st = none) (s2 : Same H1 H2) (k : Kp (storeW st) H2 H') : Same H H' := fun b o hb => k.k b o (fun z => by
  have z' : b = st := z
  rw [z'] at hb
  rw [s1 _ _ hb] at nst
  cases nst) (s2 _ _ (s1 _ _ hb))
theorem law_k20_ok {a : Addr} {ns : List Int} (hs : SqL G.K H a (ns.map V.int)) (hl : ns.length ≤ 63) (hq : ∀ H', Q (.bl true) H') : sp_law_k20 G [.ref a] H Q E := by
  refine ⟨rfl, ?_⟩
  unfold t_law_k20
  wtm_at "w"
  refine i_lenL hs ?_
  wtm_at "w"
  rw [List.length_map]
  generalize hm : (if (8 : Int) < (if (3 : Int) > (ns.length : Int) then 3 else (ns.length : Int)) then 8 else (if (3 : Int) > (ns.length : Int) then 3 else (ns.length : Int))) = m
  have hm1 : 1 ≤ m ∧ m ≤ 8 := by
    rw [← hm]
    split <;> split <;> omega
  refine i_rngA1 (by omega) ?_
  refine lk_range (fun i σ H' => ∃ y1 y2 y3 y4 y5 y6 y7 y8 y9 y10 y11, σ = [some (.ref a), y1, y2, y3, y4, y5, y6, y7, y8, y9, y10, y11] ∧ Same H H') ⟨_, _, _, _, _, _, _, _, _, _, _, rfl, fun _ _ z => z⟩ ?_ ?_
  · rintro i σ H1 hi ⟨y1, y2, y3, y4, y5, y6, y7, y8, y9, y10, y11, rfl, s1⟩
    wtm_at "w"
    refine u_law_cell (s1.seq hs) (by omega) (by omega) fun c => ?_
    wtm_at "w"
    refine u_law_store fun st H2 s2 nst i2 => ?_
    wtm_at "w"
    refine u_law_kinds_v2 i2 fun kp ks H3 k3 nk e3 hk => ?_
    wtm_at "w"
    refine i_ulist (sq_of e3.h) fun g ng => ?_
    wtm_at "w"
    have k4 : Kp (storeW st) H2 (upd H3 g (.lst ks)) := k3.new ng
    have e4 := e3.same (same_new (o := .lst ks) ng)
    have g4 : At (storeW st) (upd H3 g (.lst ks)) g (.lst ks) := At.new k3.i ng
    generalize upd H3 g (.lst ks) = H4 at k4 e4 g4 ⊢
    refine u_law_stock_v3 e4.h hk.kd (by have := hk.hi; omega) (by decide) (by decide) fun sp L H5 s5 nsp e5 hL => ?_
    wtm_at "w"
    have hLl := hL.len hk.kd (by decide)
    have hpos : ∀ p ∈ L, 1 ≤ p := fun p hm => hL.pos hk.kd hm
    refine u_law_least (n := 200) e5 (hL.lim hk.kd (by decide)) (by decide) (by omega) fun r qs H6 s6 nr er rows => ?_
    wtm_at "w"
    have s46 := s5.trans s6
    have k6 := k4.same s46
    have e6 := e4.same s46
    have g6 := g4.same s46
    have l6 : At (storeW st) H6 sp (.lst (L.map V.int)) := ⟨s6 _ _ e5, Wd.notR k4.i nsp⟩
    have r6 : At (storeW st) H6 r (.lst (qs.map V.ref)) := ⟨er, Wd.notR (k4.same s5).i nr⟩
    have hqs : ∀ q ∈ qs, ¬ (storeW st).R q := fun q hq z => by
      have z' : q = st := z
      obtain ⟨j, hj, ej⟩ := List.getElem_of_mem hq
      have eq := rows.row j q (by rw [List.getElem?_eq_getElem hj, ej])
      obtain ⟨g', c', k', ez⟩ := k6.i
      rw [z', ez] at eq
      have := congrArg List.length (HO.lst.inj (Option.some.inj eq))
      rw [tab_len] at this
      simp at this
    refine i_rngA1 (by decide) ?_
    refine lc_ns (W := storeW st) (lo := 0) (hi := 200) (fun H Q E i h => u_law_n i h) k6.i (by decide) (fun _ => rfl) (fun _ => rfl) fun dp ds H7 k7 nd e7 hds hdl => ?_
    have rows7 : LRows H7 qs (fun j u => optV (lrow (L.take j) u)) L.length 200 := by
      have hh := rows.len
      rw [show L.length = L.length from rfl] at hh
      exact ⟨rows.len, fun j q hj => k7.k _ _ (hqs q (List.mem_of_getElem? hj)) (rows.row j q hj)⟩
    wtm_at "w"
    refine i_new (by simp) fun p8 n8 => ?_
    refine i_addL (xs := ds.map V.int) (ys := [.int 0, .int 2, .int 200]) (upd_old n8 e7.h) upd_same (sz_le (by simp; omega)) fun p9 n9 => ?_
    have s89 : Same H7 (upd (upd H7 p8 (.lst [.int 0, .int 2, .int 200])) p9 (.lst (ds.map V.int ++ [.int 0, .int 2, .int 200]))) := (same_new n8).trans (same_new n9)
    have e9 : (upd (upd H7 p8 (.lst [.int 0, .int 2, .int 200])) p9 (.lst (ds.map V.int ++ [.int 0, .int 2, .int 200]))) p9 = some (.lst ((ds ++ [0, 2, 200]).map V.int)) := by rw [upd_same, List.map_append]; rfl
    have k9 := (k6.trans k7).same s89
    have e9k := (k7.at e6).same s89
    have g9 := (k7.at g6).same s89
    have r9 := (k7.at r6).same s89
    have l9 := (k7.at l6).same s89
    have rows9 := rows7.same s89
    generalize upd (upd H7 p8 (.lst [.int 0, .int 2, .int 200])) p9 (.lst (ds.map V.int ++ [.int 0, .int 2, .int 200])) = H9 at s89 e9 k9 e9k g9 r9 l9 rows9 ⊢
    refine i_lstA (sq_of e9) ?_
    refine lk_list (fun j σ H' => ∃ y7 y8 y9 y10 y11, σ = [some (.ref a), some (.int (0 + (i : Nat))), some (.ref st), some (.ref kp), some (.ref g), some (.ref sp), some (.ref r), y7, y8, y9, y10, y11] ∧ Same H9 H') ⟨_, _, _, _, _, rfl, fun _ _ z => z⟩ (fun i σ H' _ ⟨_, _, _, _, _, _, s⟩ => sq_of (s _ _ e9)) ?_ ?_
    · rintro j x σ H10 hj ⟨y7, y8, y9, y10, y11, rfl, s10⟩
      rw [List.getElem?_map] at hj
      obtain ⟨n, hn, rfl⟩ := Option.map_eq_some_iff.mp hj
      have hn2 : 0 ≤ n ∧ n ≤ 200 := by
        rcases List.mem_append.mp (List.mem_of_getElem? hn) with z | z
        · exact hds n z
        · simp only [List.mem_cons, List.not_mem_nil, or_false] at z
          omega
      obtain ⟨N, rfl⟩ : ∃ N : Nat, n = (N : Int) := ⟨n.toNat, by omega⟩
      have link : ∀ {L2 : List Int}, StockOf ks N L2 → lrow L N = lrow L2 N ∧ ∀ m, greedy L m L.length N = greedy L2 m L2.length N := fun {L2} hL2 => by
        obtain ⟨R, eR, hR⟩ := stock_split hL2 (by omega) hL
        subst eR
        exact ⟨lrow_above hR, fun m => by rw [greedy_above hR m _ _ (Nat.le_refl _) (Nat.le_refl _), List.length_append, Nat.min_eq_right (by omega)]⟩
      wtm_at "w"
      refine u_law_due_v5 (N := 200) (s10 _ _ l9.h) (s10 _ _ r9.h) (rows9.same s10) hpos (by omega) (by decide) (by omega) (fun H11 s11 eN => ?_) (fun du m H11 s11 ndu eM edu => ?_)
      · wtm_at "w"
        have s911 := s10.trans s11
        refine u_first_unlike (s911 _ _ g9.h) hk (by omega) (fun L2 H12 s12 hL2 e2 => ?_) (fun fo L2 m H12 s12 nfo hL2 e2 efo hfl => ?_)
        · have s912 := s911.trans s12
          wtm_at "w"
          wtm_at "wa"
          refine i_neL (sq_of (s912 _ _ g9.h)) (sq_of (s912 _ _ e9k.h)) (kds_sV hk.kd) (kds_sV hk.kd) ?_
          wtm_at "wa"
          refine i_F (by simp) ?_
          exact ⟨_, _, _, _, _, rfl, s912⟩
        · rw [(link hL2).1, e2] at eN
          cases eN
      · wtm_at "w"
        have s911 := s10.trans s11
        refine u_first_unlike (s911 _ _ g9.h) hk (by omega) (fun L2 H12 s12 hL2 e2 => ?_) (fun fo L2 m2 H12 s12 nfo hL2 e2 efo hfl => ?_)
        · rw [(link hL2).1, e2] at eM
          cases eM
        · have hmm : m2 = m := by
            rw [(link hL2).1, e2] at eM
            have := Option.some.inj eM
            omega
          subst hmm
          have s912 := s911.trans s12
          rw [(link hL2).2] at edu
          generalize hgr : greedy L2 m2 L2.length N = gr at edu efo hfl
          wtm_at "wa"
          refine i_isiLL efo ?_
          wtm_at "wa"
          refine i_neL (sq_of efo) (sq_of (s12 _ _ edu)) (ints_sV _) (ints_sV _) ?_
          wtm_at "wa"
          refine i_F (by simp) ?_
          wtm_at "wa"
          refine i_lstA (sq_of efo) ?_
          refine lck_pure walk_list (by rw [List.length_map]; omega) (fun _ => some (.bl false)) (fun H' s => sq_of (s _ _ efo)) (fun i x H3 H4 KK NN hi s y hK hN => ?_) (fun tl H13 ntl s13 etl => ?_)
          · obtain ⟨rfl, hx⟩ := y
            rw [List.getElem?_map] at hx
            obtain ⟨x0, _, rfl⟩ := Option.map_eq_some_iff.mp hx
            wtm_at "w"
            refine ⟨rfl, ?_⟩
            wtm_at "w"
            exact hK _ _ rfl (fun _ _ z => z)
          · have hb : ∀ x ∈ given (fun _ => some (V.bl false)) (gr.map V.int).length, x = .bl false := fun x hx => by
              obtain ⟨_, _, z⟩ := given_mem hx
              cases z; rfl
            refine i_inL (sq_of etl) rfl (List.all_eq_true.mpr fun x hx => by rw [hb x hx]; rfl) ?_
            wtm_at "wa"
            rw [inV_noT hb]
            wtm_at "wa"
            refine i_tyL (s13 _ _ efo) ?_
            wtm_at "w"
            refine i_app (s13 _ _ efo) (sz_lt (by rw [List.length_map]; omega)) ?_
            have s14 : Same H11 (upd H13 fo (.lst (gr.map V.int ++ [.int 1]))) := same_mut (s12.trans s13) nfo
            generalize upd H13 fo (.lst (gr.map V.int ++ [.int 1])) = H14 at s14 ⊢
            have s914 := s911.trans s14
            wtm_at "wa"
            refine u_first_unlike (s914 _ _ g9.h) hk (by omega) (fun L3 H15 s15 hL3 e3 => ?_) (fun fo3 L3 m3 H15 s15 nfo3 hL3 e3 efo3 hfl3 => ?_)
            · rw [hL3.uniq hL2, e2] at e3
              cases e3
            · have hLL := hL3.uniq hL2
              subst hLL
              have hmm : m3 = m2 := by
                rw [e2] at e3
                have := Option.some.inj e3
                omega
              subst hmm
              rw [hgr] at efo3
              wtm_at "wa"
              refine i_neL (sq_of efo3) (sq_of (s15 _ _ (s14 _ _ edu))) (ints_sV _) (ints_sV _) ?_
              wtm_at "wa"
              refine i_F (by simp) ?_
              wtm_at "wa"
              have s915 := s914.trans s15
              refine i_neL (sq_of (s915 _ _ g9.h)) (sq_of (s915 _ _ e9k.h)) (kds_sV hk.kd) (kds_sV hk.kd) ?_
              wtm_at "wa"
              refine i_F (by simp) ?_
              exact ⟨_, _, _, _, _, rfl, s915⟩
    · rintro σ H10 ⟨y7, y8, y9, y10, y11, rfl, s10⟩
      exact ⟨_, _, _, _, _, _, _, _, _, _, _, rfl, store_same s1 nst s2 (k9.same s10)⟩
  · rintro σ H1 ⟨y1, y2, y3, y4, y5, y6, y7, y8, y9, y10, y11, rfl, s1⟩
    wtm_at "w"
    exact hq _
end
/-! ### the text of the row -/
def topS (i : Nat) : Stmt := PySem.Challenge.pw_fewshapes_k20_first_unlike.main.body.getD i (.Pass ⟨0, 0, 0, 0⟩)
abbrev s_is_whole : Stmt := topS 10
theorem sc_is_whole : FnScope ["thing"] ["thing"] (defScope s_is_whole) := ⟨rfl, rfl, rfl, by decide +kernel, rfl, by decide +kernel, by decide +kernel⟩
abbrev s_is_kind : Stmt := topS 11
theorem sc_is_kind : FnScope ["thing"] ["thing"] (defScope s_is_kind) := ⟨rfl, rfl, rfl, by decide +kernel, rfl, by decide +kernel, by decide +kernel⟩
abbrev s_are_kinds : Stmt := topS 12
theorem sc_are_kinds : FnScope ["thing", "kind", "k"] ["thing"] (defScope s_are_kinds) := ⟨rfl, rfl, rfl, by decide +kernel, rfl, by decide +kernel, by decide +kernel⟩
abbrev s_need_kinds : Stmt := topS 13
theorem sc_need_kinds : FnScope ["thing"] ["thing"] (defScope s_need_kinds) := ⟨rfl, rfl, rfl, by decide +kernel, rfl, by decide +kernel, by decide +kernel⟩
abbrev s_need_to_most : Stmt := topS 14
theorem sc_need_to_most : FnScope ["thing"] ["thing"] (defScope s_need_to_most) := ⟨rfl, rfl, rfl, by decide +kernel, rfl, by decide +kernel, by decide +kernel⟩
abbrev s_dots : Stmt := topS 15
theorem sc_dots : FnScope ["kind", "k"] ["kind", "k"] (defScope s_dots) := ⟨rfl, rfl, rfl, by decide +kernel, rfl, by decide +kernel, by decide +kernel⟩
abbrev s_stock_of : Stmt := topS 16
theorem sc_stock_of : FnScope ["kinds", "b", "found", "kind", "k"] ["kinds", "b"] (defScope s_stock_of) := ⟨rfl, rfl, rfl, by decide +kernel, rfl, by decide +kernel, by decide +kernel⟩
abbrev s_stock_to : Stmt := topS 17
theorem sc_stock_to : FnScope ["kinds", "b"] ["kinds", "b"] (defScope s_stock_to) := ⟨rfl, rfl, rfl, by decide +kernel, rfl, by decide +kernel, by decide +kernel⟩
abbrev s_least_rows : Stmt := topS 19
theorem sc_least_rows : FnScope ["stock", "n", "row", "rows", "part", "total", "ahead"] ["stock", "n"] (defScope s_least_rows) := ⟨rfl, rfl, rfl, by decide +kernel, rfl, by decide +kernel, by decide +kernel⟩
abbrev s_first_unlike : Stmt := topS 20
theorem sc_first_unlike : FnScope ["kinds", "n", "stock", "rows", "many", "found", "top", "at"] ["kinds", "n"] (defScope s_first_unlike) := ⟨rfl, rfl, rfl, by decide +kernel, rfl, by decide +kernel, by decide +kernel⟩
abbrev s_law_cell : Stmt := topS 22
theorem sc_law_cell : FnScope ["script", "k"] ["script", "k"] (defScope s_law_cell) := ⟨rfl, rfl, rfl, by decide +kernel, rfl, by decide +kernel, by decide +kernel⟩
abbrev s_law_store : Stmt := topS 23
theorem sc_law_store : FnScope ["cell", "great"] ["cell"] (defScope s_law_store) := ⟨rfl, rfl, rfl, by decide +kernel, rfl, by decide +kernel, by decide +kernel⟩
abbrev s_law_take_v2 : Stmt := topS 24
theorem sc_law_take_v2 : FnScope ["store", "many", "told", "one"] ["store", "many"] (defScope s_law_take_v2) := ⟨rfl, rfl, rfl, by decide +kernel, rfl, by decide +kernel, by decide +kernel⟩
abbrev s_law_kinds_v2 : Stmt := topS 25
theorem sc_law_kinds_v2 : FnScope ["store", "left", "k"] ["store"] (defScope s_law_kinds_v2) := ⟨rfl, rfl, rfl, by decide +kernel, rfl, by decide +kernel, by decide +kernel⟩
abbrev s_law_dots_v2 : Stmt := topS 26
theorem sc_law_dots_v2 : FnScope ["kind", "b", "found", "here", "more", "k"] ["kind", "b"] (defScope s_law_dots_v2) := ⟨rfl, rfl, rfl, by decide +kernel, rfl, by decide +kernel, by decide +kernel⟩
abbrev s_law_stock_v3 : Stmt := topS 27
theorem sc_law_stock_v3 : FnScope ["kinds", "b", "known", "kind", "number"] ["kinds", "b"] (defScope s_law_stock_v3) := ⟨rfl, rfl, rfl, by decide +kernel, rfl, by decide +kernel, by decide +kernel⟩
abbrev s_law_n : Stmt := topS 28
theorem sc_law_n : FnScope ["store", "some"] ["store"] (defScope s_law_n) := ⟨rfl, rfl, rfl, by decide +kernel, rfl, by decide +kernel, by decide +kernel⟩
abbrev s_law_least : Stmt := topS 29
theorem sc_law_least : FnScope ["stock", "b", "row", "found", "part", "early", "n", "many"] ["stock", "b"] (defScope s_law_least) := ⟨rfl, rfl, rfl, by decide +kernel, rfl, by decide +kernel, by decide +kernel⟩
abbrev s_law_due_v5 : Stmt := topS 30
theorem sc_law_due_v5 : FnScope ["stock", "least", "n", "found", "top", "many", "places", "k"] ["stock", "least", "n"] (defScope s_law_due_v5) := ⟨rfl, rfl, rfl, by decide +kernel, rfl, by decide +kernel, by decide +kernel⟩
abbrev s_law_k20 : Stmt := topS 31
theorem sc_law_k20 : FnScope ["script", "at", "store", "kinds", "given", "stock", "least", "n", "due", "found", "turn", "one"] ["script"] (defScope s_law_k20) := ⟨rfl, rfl, rfl, by decide +kernel, rfl, by decide +kernel, by decide +kernel⟩
/-- what the top has left -/
structure Txt (G : Gx) (mg : Str → Option Value) where
  a_is_whole : Addr
  d_is_whole : FuncData
  F_is_whole : Fun G.K "is_whole" "is_whole" s_is_whole a_is_whole d_is_whole
  b_is_whole : Binds G.K d_is_whole ["thing"] []
  g_is_whole : mg "is_whole" = some (.ref a_is_whole)
  a_is_kind : Addr
  d_is_kind : FuncData
  F_is_kind : Fun G.K "is_kind" "is_kind" s_is_kind a_is_kind d_is_kind
  b_is_kind : Binds G.K d_is_kind ["thing"] []
  g_is_kind : mg "is_kind" = some (.ref a_is_kind)
  a_are_kinds : Addr
  d_are_kinds : FuncData
  F_are_kinds : Fun G.K "are_kinds" "are_kinds" s_are_kinds a_are_kinds d_are_kinds
  b_are_kinds : Binds G.K d_are_kinds ["thing"] []
  g_are_kinds : mg "are_kinds" = some (.ref a_are_kinds)
  a_need_kinds : Addr
  d_need_kinds : FuncData
  F_need_kinds : Fun G.K "need_kinds" "need_kinds" s_need_kinds a_need_kinds d_need_kinds
  b_need_kinds : Binds G.K d_need_kinds ["thing"] []
  g_need_kinds : mg "need_kinds" = some (.ref a_need_kinds)
  a_need_to_most : Addr
  d_need_to_most : FuncData
  F_need_to_most : Fun G.K "need_to_most" "need_to_most" s_need_to_most a_need_to_most d_need_to_most
  b_need_to_most : Binds G.K d_need_to_most ["thing"] []
  g_need_to_most : mg "need_to_most" = some (.ref a_need_to_most)
  a_dots : Addr
  d_dots : FuncData
  F_dots : Fun G.K "dots" "dots" s_dots a_dots d_dots
  b_dots : Binds G.K d_dots ["kind", "k"] []
  g_dots : mg "dots" = some (.ref a_dots)
  a_stock_of : Addr
  d_stock_of : FuncData
  F_stock_of : Fun G.K "stock_of" "stock_of" s_stock_of a_stock_of d_stock_of
  b_stock_of : Binds G.K d_stock_of ["kinds", "b"] []
  g_stock_of : mg "stock_of" = some (.ref a_stock_of)
  a_stock_to : Addr
  d_stock_to : FuncData
  F_stock_to : Fun G.K "stock_to" "stock_to" s_stock_to a_stock_to d_stock_to
  b_stock_to : Binds G.K d_stock_to ["kinds", "b"] []
  g_stock_to : mg "stock_to" = some (.ref a_stock_to)
  a_least_rows : Addr
  d_least_rows : FuncData
  F_least_rows : Fun G.K "least_rows" "least_rows" s_least_rows a_least_rows d_least_rows
  b_least_rows : Binds G.K d_least_rows ["stock", "n"] []
  g_least_rows : mg "least_rows" = some (.ref a_least_rows)
  a_first_unlike : Addr
  d_first_unlike : FuncData
  F_first_unlike : Fun G.K "first_unlike" "first_unlike" s_first_unlike a_first_unlike d_first_unlike
  b_first_unlike : Binds G.K d_first_unlike ["kinds", "n"] []
  g_first_unlike : mg "first_unlike" = some (.ref a_first_unlike)
  a_law_cell : Addr
  d_law_cell : FuncData
  F_law_cell : Fun G.K "_law_cell" "_law_cell" s_law_cell a_law_cell d_law_cell
  b_law_cell : Binds G.K d_law_cell ["script", "k"] []
  g_law_cell : mg "_law_cell" = some (.ref a_law_cell)
  a_law_store : Addr
  d_law_store : FuncData
  F_law_store : Fun G.K "_law_store" "_law_store" s_law_store a_law_store d_law_store
  b_law_store : Binds G.K d_law_store ["cell"] []
  g_law_store : mg "_law_store" = some (.ref a_law_store)
  a_law_take_v2 : Addr
  d_law_take_v2 : FuncData
  F_law_take_v2 : Fun G.K "_law_take" "_law_take" s_law_take_v2 a_law_take_v2 d_law_take_v2
  b_law_take_v2 : Binds G.K d_law_take_v2 ["store", "many"] []
  g_law_take : mg "_law_take" = some (.ref a_law_take_v2)
  a_law_kinds_v2 : Addr
  d_law_kinds_v2 : FuncData
  F_law_kinds_v2 : Fun G.K "_law_kinds" "_law_kinds" s_law_kinds_v2 a_law_kinds_v2 d_law_kinds_v2
  b_law_kinds_v2 : Binds G.K d_law_kinds_v2 ["store"] []
  g_law_kinds : mg "_law_kinds" = some (.ref a_law_kinds_v2)
  a_law_dots_v2 : Addr
  d_law_dots_v2 : FuncData
  F_law_dots_v2 : Fun G.K "_law_dots" "_law_dots" s_law_dots_v2 a_law_dots_v2 d_law_dots_v2
  b_law_dots_v2 : Binds G.K d_law_dots_v2 ["kind", "b"] []
  g_law_dots : mg "_law_dots" = some (.ref a_law_dots_v2)
  a_law_stock_v3 : Addr
  d_law_stock_v3 : FuncData
  F_law_stock_v3 : Fun G.K "_law_stock" "_law_stock" s_law_stock_v3 a_law_stock_v3 d_law_stock_v3
  b_law_stock_v3 : Binds G.K d_law_stock_v3 ["kinds", "b"] []
  g_law_stock : mg "_law_stock" = some (.ref a_law_stock_v3)
  a_law_n : Addr
  d_law_n : FuncData
  F_law_n : Fun G.K "_law_n" "_law_n" s_law_n a_law_n d_law_n
  b_law_n : Binds G.K d_law_n ["store"] []
  g_law_n : mg "_law_n" = some (.ref a_law_n)
  a_law_least : Addr
  d_law_least : FuncData
  F_law_least : Fun G.K "_law_least" "_law_least" s_law_least a_law_least d_law_least
  b_law_least : Binds G.K d_law_least ["stock", "b"] []
  g_law_least : mg "_law_least" = some (.ref a_law_least)
  a_law_due_v5 : Addr
  d_law_due_v5 : FuncData
  F_law_due_v5 : Fun G.K "_law_due" "_law_due" s_law_due_v5 a_law_due_v5 d_law_due_v5
  b_law_due_v5 : Binds G.K d_law_due_v5 ["stock", "least", "n"] []
  g_law_due : mg "_law_due" = some (.ref a_law_due_v5)
  a_law_k20 : Addr
  d_law_k20 : FuncData
  F_law_k20 : Fun G.K "law" "law" s_law_k20 a_law_k20 d_law_k20
  b_law_k20 : Binds G.K d_law_k20 ["script"] []
  g_law : mg "law" = some (.ref a_law_k20)
  n_bool : mg "bool" = none
  n_enumerate : mg "enumerate" = none
  n_int : mg "int" = none
  n_isinstance : mg "isinstance" = none
  n_len : mg "len" = none
  n_list : mg "list" = none
  n_max : mg "max" = none
  n_min : mg "min" = none
  n_range : mg "range" = none
  n_sorted : mg "sorted" = none
  n_str : mg "str" = none
  k_CUBES : Tok
  c_CUBES : mg "CUBES" = some (.str "cubes" k_CUBES)
  k_FEWEST_CORNERS : Tok
  c_FEWEST_CORNERS : mg "FEWEST_CORNERS" = some (.int 3 k_FEWEST_CORNERS)
  k_MOST : Tok
  c_MOST : mg "MOST" = some (.int 200 k_MOST)
  k_MOST_CORNERS : Tok
  c_MOST_CORNERS : mg "MOST_CORNERS" = some (.int 12 k_MOST_CORNERS)
  k_MOST_KINDS : Tok
  c_MOST_KINDS : mg "MOST_KINDS" = some (.int 5 k_MOST_KINDS)
section
variable {P : Program} {w : World} {G : Gx} {mg : Str → Option Value} {base : Heap}
theorem ok_is_whole (T : Txt G mg) : FnOk P w G.K mg base CX0 1 T.a_is_whole T.d_is_whole ["thing"] (sp0 (sp_is_whole G)) := by
  refine T.F_is_whole.ok sc_is_whole (fun vs H Q E h => h.1) (fun cdv A outer s H vs Q E hr h => ⟨t_is_whole G E0, ?_, h.2⟩)
  exact (pss_one (ps_ret (pe_and (pe_callB k_isi (by rfl) T.n_isinstance (by decide +kernel) (pa_cons (pv 0) (pa_cons (pe_bltn (by rfl) T.n_int (by decide +kernel) rfl) pa_nil))) (pe_one (pe_not (pe_callB k_isi (by rfl) T.n_isinstance (by decide +kernel) (pa_cons (pv 0) (pa_cons (pe_bltn (by rfl) T.n_bool (by decide +kernel) rfl) pa_nil))))))))
theorem ok_is_kind (T : Txt G mg) : FnOk P w G.K mg base CX0 2 T.a_is_kind T.d_is_kind ["thing"] (sp0 (sp_is_kind G)) := by
  refine T.F_is_kind.ok sc_is_kind (fun vs H Q E h => h.1) (fun cdv A outer s H vs Q E hr h => ⟨t_is_kind G E0, ?_, h.2⟩)
  exact (pss_cons (ps_if (pt_val (pe_callB k_isi (by rfl) T.n_isinstance (by decide +kernel) (pa_cons (pv 0) (pa_cons (pe_bltn (by rfl) T.n_str (by decide +kernel) rfl) pa_nil)))) (pss_one (ps_ret (pe_cmpR (o_eq hr.units) (pv 0) (pe_glob (by rfl) T.c_CUBES ⟨_, rfl⟩) (nomark _)))) pss_nil)
      (pss_one (ps_ret (pe_and (pcall (ok_is_whole T) (hr.mono (by decide)) (by rfl) T.g_is_whole T.F_is_whole.kp T.b_is_whole (pa_cons (pv 0) pa_nil)) (pe_one (pe_chain o_le o_le (pe_glob (by rfl) T.c_FEWEST_CORNERS ⟨_, rfl⟩) (pv 0) (pe_glob (by rfl) T.c_MOST_CORNERS ⟨_, rfl⟩)))))))
theorem ok_are_kinds (T : Txt G mg) : FnOk P w G.K mg base CX0 3 T.a_are_kinds T.d_are_kinds ["thing"] (sp0 (sp_are_kinds G)) := by
  refine T.F_are_kinds.ok sc_are_kinds (fun vs H Q E h => h.1) (fun cdv A outer s H vs Q E hr h => ⟨t_are_kinds G E0, ?_, h.2⟩)
  exact (pss_cons (ps_if (PW.pt (pw_or (pt_not (pt_val (pe_callB k_isi (by rfl) T.n_isinstance (by decide +kernel) (pa_cons (pv 0) (pa_cons (pe_bltn (by rfl) T.n_list (by decide +kernel) rfl) pa_nil))))) (pw_or1 (pt_not (pt_chain o_le o_le pe_int (pe_callB k_len (by rfl) T.n_len (by decide +kernel) (pa_cons (pv 0) pa_nil)) (pe_glob (by rfl) T.c_MOST_KINDS ⟨_, rfl⟩)))))) (pss_one (ps_ret pe_bl)) pss_nil)
      (pss_cons (ps_if (pt_cmpR (o_ne hr.units) (pe_lc (own := [("kind", 1)]) (g := (gName 1)) (tt := (tNot (tB (tCall (sp_is_kind G) [] E0 (tCons (tVar 1) tNil))))) (by rfl) sc_are_kinds.nd  (pi_list (pv 0)) (blkOk_by (own := [("kind", 1)]) (N := ["thing", "kind", "k"]) (sc := defScope s_are_kinds) (by decide +kernel)) (fun _ _ _ _ _ => (pgn 1 sc_are_kinds.nd)) (fun _ _ _ _ _ => (pts_one (pt_not (pt_val (pcall (ok_is_kind T) (hr.mono (by decide)) (by rfl) T.g_is_kind T.F_is_kind.kp T.b_is_kind (pa_cons (pv 1) pa_nil)))))) (fun _ _ _ _ _ => (pv 1))) (pe_lst pa_nil) (nomark _)) (pss_one (ps_ret pe_bl)) pss_nil)
      (pss_one (ps_ret (pe_cmpR (o_eq hr.units) (pe_lc (own := [("k", 2), ("kind", 1)]) (g := (gTup G.K 2 (gCons (gName 2) (gCons (gName 1) gNil)))) (tt := (tTest (tOp (uIn G.K) (tVar 1) (tSl (uSl G.K) (tVar 0) tNoPart (tPart (tVar 2)))))) (by rfl) sc_are_kinds.nd  (pi_enum (by rfl) T.n_enumerate (pa_cons (pv 0) pa_nil)) (blkOk_by (own := [("k", 2), ("kind", 1)]) (N := ["thing", "kind", "k"]) (sc := defScope s_are_kinds) (by decide +kernel)) (fun _ _ _ _ _ => (pg_tup (by rfl) (pgs_cons (pgn 2 sc_are_kinds.nd) (pgs_cons (pgn 1 sc_are_kinds.nd) pgs_nil)))) (fun _ _ _ _ _ => (pts_one (pt_cmpR o_in (pv 1) (pe_slice o_sl (pv 0) po_none (po_some (pv 2))) (by rfl)))) (fun _ _ _ _ _ => (pv 2))) (pe_lst pa_nil) (nomark _))))))
theorem ok_need_kinds (T : Txt G mg) : FnOk P w G.K mg base CX0 4 T.a_need_kinds T.d_need_kinds ["thing"] (sp0 (sp_need_kinds G)) := by
  refine T.F_need_kinds.ok sc_need_kinds (fun vs H Q E h => h.1) (fun cdv A outer s H vs Q E hr h => ⟨t_need_kinds G E0, ?_, h.2⟩)
  exact (pss_one (ps_if (pt_not (pt_val (pcall (ok_are_kinds T) (hr.mono (by decide)) (by rfl) T.g_are_kinds T.F_are_kinds.kp T.b_are_kinds (pa_cons (pv 0) pa_nil)))) (pss_one prz0) pss_nil))
theorem ok_need_to_most (T : Txt G mg) : FnOk P w G.K mg base CX0 2 T.a_need_to_most T.d_need_to_most ["thing"] (sp0 (sp_need_to_most G)) := by
  refine T.F_need_to_most.ok sc_need_to_most (fun vs H Q E h => h.1) (fun cdv A outer s H vs Q E hr h => ⟨t_need_to_most G E0, ?_, h.2⟩)
  exact (pss_one (ps_if (PW.pt (pw_or (pt_not (pt_val (pcall (ok_is_whole T) (hr.mono (by decide)) (by rfl) T.g_is_whole T.F_is_whole.kp T.b_is_whole (pa_cons (pv 0) pa_nil)))) (pw_or1 (pt_not (pt_chain o_le o_le pe_int (pv 0) (pe_glob (by rfl) T.c_MOST ⟨_, rfl⟩)))))) (pss_one prz0) pss_nil))
theorem ok_dots (T : Txt G mg) : FnOk P w G.K mg base CX0 1 T.a_dots T.d_dots ["kind", "k"] (sp0 (sp_dots G)) := by
  refine T.F_dots.ok sc_dots (fun vs H Q E h => h.1) (fun cdv A outer s H vs Q E hr h => ⟨t_dots G E0, ?_, h.2⟩)
  exact (pss_cons (ps_if (pt_cmpR (o_eq hr.units) (pv 0) (pe_glob (by rfl) T.c_CUBES ⟨_, rfl⟩) (nomark _)) (pss_one (ps_ret (pe_op o_mul (pe_op o_mul (pv 1) (pv 1)) (pv 1)))) pss_nil)
      (pss_one (ps_ret (pe_op o_add (pv 1) (pe_op o_mul (pe_op o_sub (pv 0) pe_int) (pe_op o_div (pe_op o_mul (pv 1) (pe_op o_sub (pv 1) pe_int)) pe_int))))))
theorem ok_stock_of (T : Txt G mg) : FnOk P w G.K mg base CX0 2 T.a_stock_of T.d_stock_of ["kinds", "b"] (sp0 (sp_stock_of G)) := by
  refine T.F_stock_of.ok sc_stock_of (fun vs H Q E h => h.1) (fun cdv A outer s H vs Q E hr h => ⟨t_stock_of G E0, ?_, h.2⟩)
  exact (pss_cons (pst 2 sc_stock_of.nd pe_dnewK)
      (pss_cons (ps_for PassesOwn.never (by rfl) (pi_list (pv 0)) (pgn 3 sc_stock_of.nd) (pss_cons (pst 4 sc_stock_of.nd pe_int)
      (pss_one (ps_while PassesOwn.never (pt_cmpR o_le (pcall (ok_dots T) (hr.mono (by decide)) (by rfl) T.g_dots T.F_dots.kp T.b_dots (pa_cons (pv 3) (pa_cons (pv 4) pa_nil))) (pv 1) (nomark _)) (pss_cons (ps_asg pe_bl (pg_sub (pv 2) (pcall (ok_dots T) (hr.mono (by decide)) (by rfl) T.g_dots T.F_dots.kp T.b_dots (pa_cons (pv 3) (pa_cons (pv 4) pa_nil))) (s_any (hu_of hr))))
      (pss_one (pau 4 sc_stock_of.nd pe_int ip_add)))))))
      (pss_one (ps_ret (pe_callB (k_sorted (by rfl)) (by rfl) T.n_sorted (by decide +kernel) (pa_cons (pv 2) pa_nil))))))
theorem ok_stock_to (T : Txt G mg) : FnOk P w G.K mg base CX0 5 T.a_stock_to T.d_stock_to ["kinds", "b"] (sp0 (sp_stock_to G)) := by
  refine T.F_stock_to.ok sc_stock_to (fun vs H Q E h => h.1) (fun cdv A outer s H vs Q E hr h => ⟨t_stock_to G E0, ?_, h.2⟩)
  exact (pss_cons (ps_expr (pcall (ok_need_kinds T) (hr.mono (by decide)) (by rfl) T.g_need_kinds T.F_need_kinds.kp T.b_need_kinds (pa_cons (pv 0) pa_nil)))
      (pss_cons (ps_expr (pcall (ok_need_to_most T) (hr.mono (by decide)) (by rfl) T.g_need_to_most T.F_need_to_most.kp T.b_need_to_most (pa_cons (pv 1) pa_nil)))
      (pss_one (ps_ret (pcall (ok_stock_of T) (hr.mono (by decide)) (by rfl) T.g_stock_of T.F_stock_of.kp T.b_stock_of (pa_cons (pv 0) (pa_cons (pv 1) pa_nil)))))))
theorem ok_least_rows (T : Txt G mg) : FnOk P w G.K mg base CX0 1 T.a_least_rows T.d_least_rows ["stock", "n"] (sp0 (sp_least_rows G)) := by
  refine T.F_least_rows.ok sc_least_rows (fun vs H Q E h => h.1) (fun cdv A outer s H vs Q E hr h => ⟨t_least_rows G E0, ?_, h.2⟩)
  exact (pss_cons (pst 2 sc_least_rows.nd (pe_op o_add (pe_lst (pa_cons pe_int pa_nil)) (pe_op o_mul (pe_lst (pa_cons pe_non pa_nil)) (pv 1))))
      (pss_cons (pst 3 sc_least_rows.nd (pe_lst (pa_cons (pv 2) pa_nil)))
      (pss_cons (ps_for PassesOwn.never (by rfl) (pi_list (pv 0)) (pgn 4 sc_least_rows.nd) (pss_cons (pst 2 sc_least_rows.nd (pe_callTy (k_list (by rfl)) (by rfl) T.n_list (by decide +kernel) (pa_cons (pe_ix o_ix (pv 3) (pe_un o_neg pe_int) (fun _ _ => rfl)) pa_nil)))
      (pss_cons (ps_for PassesOwn.never (by rfl) (pi_range2 (by rfl) T.n_range (pa_cons (pv 4) (pa_cons (pe_op o_add (pv 1) pe_int) pa_nil))) (pgn 5 sc_least_rows.nd) (pss_cons (pst 6 sc_least_rows.nd (pe_ix o_ix (pe_ix o_ix (pv 3) (pe_un o_neg pe_int) (fun _ _ => rfl)) (pe_op o_sub (pv 5) (pv 4)) (fun _ _ => rfl)))
      (pss_one (ps_if (PW.pt (pw_and (pt_cmpR o_isNot (pv 6) pe_non (nomark _)) (pw_and1 (PW.pt (pw_or (pt_cmpR o_is (pe_ix o_ix (pv 2) (pv 5) (fun _ _ => rfl)) pe_non (nomark _)) (pw_or1 (pt_cmpR o_lt (pe_op o_add (pv 6) pe_int) (pe_ix o_ix (pv 2) (pv 5) (fun _ _ => rfl)) (nomark _)))))))) (pss_one (ps_asg (pe_op o_add (pv 6) pe_int) (pg_sub (pv 2) (pv 5) (s_any (hu_of hr))))) pss_nil))))
      (pss_one (ps_expr (pe_bm PySem.F.plainAttrs_list PySem.F.slot_list_append PySem.F.type_list_append mt_append (pv 3) (pa_cons (pv 2) pa_nil)))))))
      (pss_one (ps_ret (pv 3))))))
theorem ok_first_unlike (T : Txt G mg) : FnOk P w G.K mg base CX0 6 T.a_first_unlike T.d_first_unlike ["kinds", "n"] (sp0 (sp_first_unlike G)) := by
  refine T.F_first_unlike.ok sc_first_unlike (fun vs H Q E h => h.1) (fun cdv A outer s H vs Q E hr h => ⟨t_first_unlike G E0, ?_, h.2⟩)
  exact (pss_cons (pst 2 sc_first_unlike.nd (pcall (ok_stock_to T) (hr.mono (by decide)) (by rfl) T.g_stock_to T.F_stock_to.kp T.b_stock_to (pa_cons (pv 0) (pa_cons (pv 1) pa_nil))))
      (pss_cons (pst 3 sc_first_unlike.nd (pcall (ok_least_rows T) (hr.mono (by decide)) (by rfl) T.g_least_rows T.F_least_rows.kp T.b_least_rows (pa_cons (pv 2) (pa_cons (pv 1) pa_nil))))
      (pss_cons (pst 4 sc_first_unlike.nd (pe_ix o_ix (pe_ix o_ix (pv 3) (pe_un o_neg pe_int) (fun _ _ => rfl)) (pv 1) (fun _ _ => rfl)))
      (pss_cons (ps_if (pt_cmpR o_is (pv 4) pe_non (nomark _)) (pss_one (ps_ret pe_non)) pss_nil)
      (pss_cons (pst 5 sc_first_unlike.nd (pe_lst pa_nil))
      (pss_cons (pst 6 sc_first_unlike.nd (pe_callB k_len (by rfl) T.n_len (by decide +kernel) (pa_cons (pv 2) pa_nil)))
      (pss_cons (ps_while PassesOwn.never (pt_cmpR o_gt (pv 4) pe_int (nomark _)) (pss_cons (pau 4 sc_first_unlike.nd pe_int ip_sub)
      (pss_cons (ps_for PassesOwn.never (by rfl) (pi_range1 (by rfl) T.n_range (pa_cons (pv 6) pa_nil)) (pgn 7 sc_first_unlike.nd) (pss_one (ps_if (PW.pt (pw_and (pt_cmpR o_le (pe_ix o_ix (pv 2) (pv 7) (fun _ _ => rfl)) (pv 1) (nomark _)) (pw_and1 (pt_cmpR (o_eq hr.units) (pe_ix o_ix (pe_ix o_ix (pv 3) (pv 7) (fun _ _ => rfl)) (pe_op o_sub (pv 1) (pe_ix o_ix (pv 2) (pv 7) (fun _ _ => rfl))) (fun _ _ => rfl)) (pv 4) (nomark _))))) (pss_one ps_break) pss_nil)))
      (pss_cons (ps_expr (pe_bm PySem.F.plainAttrs_list PySem.F.slot_list_append PySem.F.type_list_append mt_append (pv 5) (pa_cons (pe_ix o_ix (pv 2) (pv 7) (fun _ _ => rfl)) pa_nil)))
      (pss_cons (pau 1 sc_first_unlike.nd (pe_ix o_ix (pv 2) (pv 7) (fun _ _ => rfl)) ip_sub)
      (pss_one (pst 6 sc_first_unlike.nd (pv 7))))))))
      (pss_one (ps_ret (pv 5))))))))))
theorem ok_law_cell (T : Txt G mg) : FnOk P w G.K mg base CX0 1 T.a_law_cell T.d_law_cell ["script", "k"] (sp0 (sp_law_cell G)) := by
  refine T.F_law_cell.ok sc_law_cell (fun vs H Q E h => h.1) (fun cdv A outer s H vs Q E hr h => ⟨t_law_cell G E0, ?_, h.2⟩)
  exact (pss_cons (ps_if (pt_cmpR o_lt (pv 1) (pe_callB k_len (by rfl) T.n_len (by decide +kernel) (pa_cons (pv 0) pa_nil)) (nomark _)) (pss_one (ps_ret (pe_ix o_ix (pv 0) (pv 1) (fun _ _ => rfl)))) pss_nil)
      (pss_one (ps_ret (pe_op o_add (pe_op o_add (pe_op o_mul (pe_op o_mul pe_int (pv 1)) (pv 1)) (pe_op o_mul pe_int (pv 1))) pe_int))))
theorem ok_law_store (T : Txt G mg) : FnOk P w G.K mg base CX0 1 T.a_law_store T.d_law_store ["cell"] (sp0 (sp_law_store G)) := by
  refine T.F_law_store.ok sc_law_store (fun vs H Q E h => h.1) (fun cdv A outer s H vs Q E hr h => ⟨t_law_store G E0, ?_, h.2⟩)
  exact (pss_cons (pst 1 sc_law_store.nd pe_int)
      (pss_cons (ps_if (pt_cmpR o_ge (pv 0) (pe_op o_pow pe_int pe_int) (nomark _)) (pss_one (pst 1 sc_law_store.nd (pv 0))) pss_nil)
      (pss_one (ps_ret (pe_lst (pa_cons (pv 1) (pa_cons (pe_op o_mod (pv 0) pe_int) (pa_cons pe_int pa_nil))))))))
theorem ok_law_take_v2 (T : Txt G mg) : FnOk P w G.K mg base CX0 1 T.a_law_take_v2 T.d_law_take_v2 ["store", "many"] (sp0 (sp_law_take_v2 G)) := by
  refine T.F_law_take_v2.ok sc_law_take_v2 (fun vs H Q E h => h.1) (fun cdv A outer s H vs Q E hr h => ⟨t_law_take_v2 G E0, ?_, h.2⟩)
  exact (pss_cons (ps_if (pt_cmpR o_gt (pe_ix o_ix (pv 0) pe_int (fun _ _ => rfl)) pe_int (nomark _)) (pss_cons (pst 2 sc_law_take_v2.nd (pe_op o_mod (pe_ix o_ix (pv 0) pe_int (fun _ _ => rfl)) (pv 1)))
      (pss_cons (ps_asg (pe_op o_div (pe_ix o_ix (pv 0) pe_int (fun _ _ => rfl)) (pv 1)) (pg_sub (pv 0) pe_int (s_any (hu_of hr))))
      (pss_one (ps_ret (pv 2))))) pss_nil)
      (pss_cons (ps_asg (pe_op o_add (pe_ix o_ix (pv 0) pe_int (fun _ _ => rfl)) pe_int) (pg_sub (pv 0) pe_int (s_any (hu_of hr))))
      (pss_cons (pst 3 sc_law_take_v2.nd (pe_op o_mod (pe_op o_mul (pe_op o_add (pe_ix o_ix (pv 0) pe_int (fun _ _ => rfl)) (pe_op o_mul pe_int (pe_ix o_ix (pv 0) pe_int (fun _ _ => rfl)))) pe_int) pe_int))
      (pss_cons (pst 3 sc_law_take_v2.nd (pe_op o_mod (pe_op o_mul (pv 3) (pv 3)) pe_int))
      (pss_cons (pst 3 sc_law_take_v2.nd (pe_op o_mod (pe_op o_mul (pe_op o_add (pv 3) (pe_op o_mul pe_int (pe_ix o_ix (pv 0) pe_int (fun _ _ => rfl)))) pe_int) pe_int))
      (pss_one (ps_ret (pe_op o_mod (pe_op o_div (pv 3) pe_int) (pv 1)))))))))
theorem ok_law_kinds_v2 (T : Txt G mg) : FnOk P w G.K mg base CX0 2 T.a_law_kinds_v2 T.d_law_kinds_v2 ["store"] (sp0 (sp_law_kinds_v2 G)) := by
  refine T.F_law_kinds_v2.ok sc_law_kinds_v2 (fun vs H Q E h => h.1) (fun cdv A outer s H vs Q E hr h => ⟨t_law_kinds_v2 G E0, ?_, h.2⟩)
  exact (pss_cons (pst 1 sc_law_kinds_v2.nd (pe_lst (pa_cons pe_int (pa_cons pe_int (pa_cons pe_int (pa_cons pe_int (pa_cons pe_int (pa_cons pe_int (pa_cons pe_int (pa_cons pe_int (pa_cons pe_int (pa_cons pe_int (pa_cons pe_str pa_nil)))))))))))))
      (pss_one (ps_ret (pe_lc (own := [("k", 2)]) (g := (gName 2)) (tt := tYes) (by rfl) sc_law_kinds_v2.nd  (pi_range1 (by rfl) T.n_range (pa_cons (pe_op o_add pe_int (pcall (ok_law_take_v2 T) (hr.mono (by decide)) (by rfl) T.g_law_take T.F_law_take_v2.kp T.b_law_take_v2 (pa_cons (pv 0) (pa_cons pe_int pa_nil)))) pa_nil)) (blkOk_by (own := [("k", 2)]) (N := ["store", "left", "k"]) (sc := defScope s_law_kinds_v2) (by decide +kernel)) (fun _ _ _ _ _ => (pgn 2 sc_law_kinds_v2.nd)) (fun _ _ _ _ _ => pts_nil) (fun _ _ _ _ _ => (pe_bm PySem.F.plainAttrs_list PySem.F.slot_list_pop PySem.F.type_list_pop mt_popAt (pv 1) (pa_cons (pcall (ok_law_take_v2 T) (hr.mono (by decide)) (by rfl) T.g_law_take T.F_law_take_v2.kp T.b_law_take_v2 (pa_cons (pv 0) (pa_cons (pe_callB k_len (by rfl) T.n_len (by decide +kernel) (pa_cons (pv 1) pa_nil)) pa_nil))) pa_nil)))))))
theorem ok_law_dots_v2 (T : Txt G mg) : FnOk P w G.K mg base CX0 1 T.a_law_dots_v2 T.d_law_dots_v2 ["kind", "b"] (sp0 (sp_law_dots_v2 G)) := by
  refine T.F_law_dots_v2.ok sc_law_dots_v2 (fun vs H Q E h => h.1) (fun cdv A outer s H vs Q E hr h => ⟨t_law_dots_v2 G E0, ?_, h.2⟩)
  exact (pss_cons (pst 2 sc_law_dots_v2.nd (pe_lst pa_nil))
      (pss_cons (pst 3 sc_law_dots_v2.nd pe_int)
      (pss_cons (pst 4 sc_law_dots_v2.nd pe_int)
      (pss_cons (ps_while PassesOwn.never (pt_cmpR o_le (pv 3) (pv 1) (nomark _)) (pss_cons (ps_expr (pe_bm PySem.F.plainAttrs_list PySem.F.slot_list_append PySem.F.type_list_append mt_append (pv 2) (pa_cons (pv 3) pa_nil)))
      (pss_cons (pst 5 sc_law_dots_v2.nd (pe_callB k_len (by rfl) T.n_len (by decide +kernel) (pa_cons (pv 2) pa_nil)))
      (pss_one (ps_if (pt_cmpR (o_eq hr.units) (pv 0) pe_str (nomark _)) (pss_one (pst 3 sc_law_dots_v2.nd (pe_op o_mul (pe_op o_mul (pe_op o_add (pv 5) pe_int) (pe_op o_add (pv 5) pe_int)) (pe_op o_add (pv 5) pe_int)))) (pss_cons (pst 4 sc_law_dots_v2.nd (pe_op o_sub (pe_op o_add (pv 4) (pv 0)) pe_int))
      (pss_one (pst 3 sc_law_dots_v2.nd (pe_op o_add (pe_op o_add (pv 3) pe_int) (pv 4))))))))))
      (pss_one (ps_ret (pv 2)))))))
theorem ok_law_stock_v3 (T : Txt G mg) : FnOk P w G.K mg base CX0 2 T.a_law_stock_v3 T.d_law_stock_v3 ["kinds", "b"] (sp0 (sp_law_stock_v3 G)) := by
  refine T.F_law_stock_v3.ok sc_law_stock_v3 (fun vs H Q E h => h.1) (fun cdv A outer s H vs Q E hr h => ⟨t_law_stock_v3 G E0, ?_, h.2⟩)
  exact (pss_cons (pst 2 sc_law_stock_v3.nd pe_dnewK)
      (pss_cons (ps_for PassesOwn.never (by rfl) (pi_list (pv 0)) (pgn 3 sc_law_stock_v3.nd) (pss_one (ps_for PassesOwn.never (by rfl) (pi_list (pcall (ok_law_dots_v2 T) (hr.mono (by decide)) (by rfl) T.g_law_dots T.F_law_dots_v2.kp T.b_law_dots_v2 (pa_cons (pv 3) (pa_cons (pv 1) pa_nil)))) (pgn 4 sc_law_stock_v3.nd) (pss_one (ps_asg pe_bl (pg_sub (pv 2) (pv 4) (s_any (hu_of hr))))))))
      (pss_one (ps_ret (pe_callB (k_sorted (by rfl)) (by rfl) T.n_sorted (by decide +kernel) (pa_cons (pv 2) pa_nil))))))
theorem ok_law_n (T : Txt G mg) : FnOk P w G.K mg base CX0 2 T.a_law_n T.d_law_n ["store"] (sp0 (sp_law_n G)) := by
  refine T.F_law_n.ok sc_law_n (fun vs H Q E h => h.1) (fun cdv A outer s H vs Q E hr h => ⟨t_law_n G E0, ?_, h.2⟩)
  exact (pss_cons (pst 1 sc_law_n.nd (pe_lst (pa_cons (pcall (ok_law_take_v2 T) (hr.mono (by decide)) (by rfl) T.g_law_take T.F_law_take_v2.kp T.b_law_take_v2 (pa_cons (pv 0) (pa_cons pe_int pa_nil))) (pa_cons (pcall (ok_law_take_v2 T) (hr.mono (by decide)) (by rfl) T.g_law_take T.F_law_take_v2.kp T.b_law_take_v2 (pa_cons (pv 0) (pa_cons pe_int pa_nil))) (pa_cons (pcall (ok_law_take_v2 T) (hr.mono (by decide)) (by rfl) T.g_law_take T.F_law_take_v2.kp T.b_law_take_v2 (pa_cons (pv 0) (pa_cons pe_int pa_nil))) (pa_cons (pe_op o_sub pe_int (pcall (ok_law_take_v2 T) (hr.mono (by decide)) (by rfl) T.g_law_take T.F_law_take_v2.kp T.b_law_take_v2 (pa_cons (pv 0) (pa_cons pe_int pa_nil)))) pa_nil))))))
      (pss_one (ps_ret (pe_ix o_ix (pv 1) (pcall (ok_law_take_v2 T) (hr.mono (by decide)) (by rfl) T.g_law_take T.F_law_take_v2.kp T.b_law_take_v2 (pa_cons (pv 0) (pa_cons pe_int pa_nil))) (fun _ _ => rfl)))))
theorem ok_law_least (T : Txt G mg) : FnOk P w G.K mg base CX0 1 T.a_law_least T.d_law_least ["stock", "b"] (sp0 (sp_law_least G)) := by
  refine T.F_law_least.ok sc_law_least (fun vs H Q E h => h.1) (fun cdv A outer s H vs Q E hr h => ⟨t_law_least G E0, ?_, h.2⟩)
  exact (pss_cons (pst 2 sc_law_least.nd (pe_op o_add (pe_lst (pa_cons pe_int pa_nil)) (pe_op o_mul (pe_lst (pa_cons pe_non pa_nil)) (pv 1))))
      (pss_cons (pst 3 sc_law_least.nd (pe_lst (pa_cons (pv 2) pa_nil)))
      (pss_cons (ps_for PassesOwn.never (by rfl) (pi_list (pv 0)) (pgn 4 sc_law_least.nd) (pss_cons (pst 5 sc_law_least.nd (pe_ix o_ix (pv 3) (pe_un o_neg pe_int) (fun _ _ => rfl)))
      (pss_cons (pst 2 sc_law_least.nd (pe_callTy (k_list (by rfl)) (by rfl) T.n_list (by decide +kernel) (pa_cons (pv 5) pa_nil)))
      (pss_cons (ps_for PassesOwn.never (by rfl) (pi_range2 (by rfl) T.n_range (pa_cons (pv 4) (pa_cons (pe_op o_add (pv 1) pe_int) pa_nil))) (pgn 6 sc_law_least.nd) (pss_cons (pst 7 sc_law_least.nd (pe_ix o_ix (pv 5) (pe_op o_sub (pv 6) (pv 4)) (fun _ _ => rfl)))
      (pss_one (ps_if (PW.pt (pw_and (pt_cmpR o_isNot (pv 7) pe_non (nomark _)) (pw_and1 (PW.pt (pw_or (pt_cmpR o_is (pe_ix o_ix (pv 2) (pv 6) (fun _ _ => rfl)) pe_non (nomark _)) (pw_or1 (pt_cmpR o_lt (pe_op o_add (pv 7) pe_int) (pe_ix o_ix (pv 2) (pv 6) (fun _ _ => rfl)) (nomark _)))))))) (pss_one (ps_asg (pe_op o_add (pv 7) pe_int) (pg_sub (pv 2) (pv 6) (s_any (hu_of hr))))) pss_nil))))
      (pss_one (ps_expr (pe_bm PySem.F.plainAttrs_list PySem.F.slot_list_append PySem.F.type_list_append mt_append (pv 3) (pa_cons (pv 2) pa_nil))))))))
      (pss_one (ps_ret (pv 3))))))
theorem ok_law_due_v5 (T : Txt G mg) : FnOk P w G.K mg base CX0 1 T.a_law_due_v5 T.d_law_due_v5 ["stock", "least", "n"] (sp0 (sp_law_due_v5 G)) := by
  refine T.F_law_due_v5.ok sc_law_due_v5 (fun vs H Q E h => h.1) (fun cdv A outer s H vs Q E hr h => ⟨t_law_due_v5 G E0, ?_, h.2⟩)
  exact (pss_cons (ps_if (pt_cmpR o_is (pe_ix o_ix (pe_ix o_ix (pv 1) (pe_un o_neg pe_int) (fun _ _ => rfl)) (pv 2) (fun _ _ => rfl)) pe_non (nomark _)) (pss_one (ps_ret pe_non)) pss_nil)
      (pss_cons (pst 3 sc_law_due_v5.nd (pe_lst pa_nil))
      (pss_cons (pst 4 sc_law_due_v5.nd (pe_callB k_len (by rfl) T.n_len (by decide +kernel) (pa_cons (pv 0) pa_nil)))
      (pss_cons (pst 5 sc_law_due_v5.nd (pe_ix o_ix (pe_ix o_ix (pv 1) (pe_un o_neg pe_int) (fun _ _ => rfl)) (pv 2) (fun _ _ => rfl)))
      (pss_cons (ps_while PassesOwn.never (pt_cmpR o_gt (pv 5) pe_int (nomark _)) (pss_cons (ps_setLc (i := 6) (own := [("k", 7)]) (g := (gName 7)) (tt := (tAnd (tTest (tOp uLe (tOp (uIx G.K) (tVar 0) (tVar 7)) (tVar 2))) (tTest (tOp (uEq G.K) (tOp (uIx G.K) (tOp (uIx G.K) (tVar 1) (tVar 7)) (tOp uSub (tVar 2) (tOp (uIx G.K) (tVar 0) (tVar 7)))) (tOp uSub (tVar 5) (tC (.int 1))))))) (by rfl) sc_law_due_v5.nd rfl rfl (sw_true rfl rfl rfl (by decide +kernel))  (pi_range1 (by rfl) T.n_range (pa_cons (pv 4) pa_nil)) (blkOk_by (own := [("k", 7)]) (N := ["stock", "least", "n", "found", "top", "many", "places", "k"]) (sc := defScope s_law_due_v5) (by decide +kernel)) (fun _ _ _ _ _ => (pgn 7 sc_law_due_v5.nd)) (fun _ _ _ _ _ => (pts_one (PW.pt (pw_and (pt_cmpR o_le (pe_ix o_ix (pv 0) (pv 7) (fun _ _ => rfl)) (pv 2) (nomark _)) (pw_and1 (pt_cmpR (o_eq hr.units) (pe_ix o_ix (pe_ix o_ix (pv 1) (pv 7) (fun _ _ => rfl)) (pe_op o_sub (pv 2) (pe_ix o_ix (pv 0) (pv 7) (fun _ _ => rfl))) (fun _ _ => rfl)) (pe_op o_sub (pv 5) pe_int) (nomark _))))))) (fun _ _ _ _ _ => (pv 7)))
      (pss_cons (pst 4 sc_law_due_v5.nd (pe_ix o_ix (pv 6) pe_int (fun _ _ => rfl)))
      (pss_cons (ps_expr (pe_bm PySem.F.plainAttrs_list PySem.F.slot_list_append PySem.F.type_list_append mt_append (pv 3) (pa_cons (pe_ix o_ix (pv 0) (pv 4) (fun _ _ => rfl)) pa_nil)))
      (pss_cons (pst 2 sc_law_due_v5.nd (pe_op o_sub (pv 2) (pe_ix o_ix (pv 0) (pv 4) (fun _ _ => rfl))))
      (pss_one (pst 5 sc_law_due_v5.nd (pe_op o_sub (pv 5) pe_int))))))))
      (pss_one (ps_ret (pv 3))))))))
theorem ok_law_k20 (T : Txt G mg) : FnOk P w G.K mg base CX0 7 T.a_law_k20 T.d_law_k20 ["script"] (sp0 (sp_law_k20 G)) := by
  refine T.F_law_k20.ok sc_law_k20 (fun vs H Q E h => h.1) (fun cdv A outer s H vs Q E hr h => ⟨t_law_k20 G E0, ?_, h.2⟩)
  exact (pss_cons (ps_for PassesOwn.never (by rfl) (pi_range1 (by rfl) T.n_range (pa_cons (pe_callB (k_min (by rfl)) (by rfl) T.n_min (by decide +kernel) (pa_cons (pe_callB (k_max (by rfl)) (by rfl) T.n_max (by decide +kernel) (pa_cons (pe_callB k_len (by rfl) T.n_len (by decide +kernel) (pa_cons (pv 0) pa_nil)) (pa_cons pe_int pa_nil))) (pa_cons pe_int pa_nil))) pa_nil)) (pgn 1 sc_law_k20.nd) (pss_cons (pst 2 sc_law_k20.nd (pcall (ok_law_store T) (hr.mono (by decide)) (by rfl) T.g_law_store T.F_law_store.kp T.b_law_store (pa_cons (pcall (ok_law_cell T) (hr.mono (by decide)) (by rfl) T.g_law_cell T.F_law_cell.kp T.b_law_cell (pa_cons (pv 0) (pa_cons (pv 1) pa_nil))) pa_nil)))
      (pss_cons (pst 3 sc_law_k20.nd (pcall (ok_law_kinds_v2 T) (hr.mono (by decide)) (by rfl) T.g_law_kinds T.F_law_kinds_v2.kp T.b_law_kinds_v2 (pa_cons (pv 2) pa_nil)))
      (pss_cons (pst 4 sc_law_k20.nd (pe_callTy (k_list (by rfl)) (by rfl) T.n_list (by decide +kernel) (pa_cons (pv 3) pa_nil)))
      (pss_cons (pst 5 sc_law_k20.nd (pcall (ok_law_stock_v3 T) (hr.mono (by decide)) (by rfl) T.g_law_stock T.F_law_stock_v3.kp T.b_law_stock_v3 (pa_cons (pv 3) (pa_cons pe_int pa_nil))))
      (pss_cons (pst 6 sc_law_k20.nd (pcall (ok_law_least T) (hr.mono (by decide)) (by rfl) T.g_law_least T.F_law_least.kp T.b_law_least (pa_cons (pv 5) (pa_cons pe_int pa_nil))))
      (pss_one (ps_for PassesOwn.never (by rfl) (pi_list (pe_op o_add (pe_lc (own := [("turn", 10)]) (g := (gName 10)) (tt := tYes) (by rfl) sc_law_k20.nd  (pi_range1 (by rfl) T.n_range (pa_cons pe_int pa_nil)) (blkOk_by (own := [("turn", 10)]) (N := ["script", "at", "store", "kinds", "given", "stock", "least", "n", "due", "found", "turn", "one"]) (sc := defScope s_law_k20) (by decide +kernel)) (fun _ _ _ _ _ => (pgn 10 sc_law_k20.nd)) (fun _ _ _ _ _ => pts_nil) (fun _ _ _ _ _ => (pcall (ok_law_n T) (hr.mono (by decide)) (by rfl) T.g_law_n T.F_law_n.kp T.b_law_n (pa_cons (pv 2) pa_nil)))) (pe_lst (pa_cons pe_int (pa_cons pe_int (pa_cons pe_int pa_nil)))))) (pgn 7 sc_law_k20.nd) (pss_cons (pst 8 sc_law_k20.nd (pcall (ok_law_due_v5 T) (hr.mono (by decide)) (by rfl) T.g_law_due T.F_law_due_v5.kp T.b_law_due_v5 (pa_cons (pv 5) (pa_cons (pv 6) (pa_cons (pv 7) pa_nil)))))
      (pss_cons (pst 9 sc_law_k20.nd (pcall (ok_first_unlike T) (hr.mono (by decide)) (by rfl) T.g_first_unlike T.F_first_unlike.kp T.b_first_unlike (pa_cons (pv 4) (pa_cons (pv 7) pa_nil))))
      (pss_one (ps_if (pt_cmpR o_is (pv 8) pe_non (nomark _)) (pss_one (ps_if (PW.pt (pw_or (pt_cmpR o_isNot (pv 9) pe_non (nomark _)) (pw_or1 (pt_cmpR (o_ne hr.units) (pv 4) (pv 3) (nomark _))))) (pss_one (ps_ret pe_bl)) pss_nil)) (pss_cons (ps_if (PW.pt (pw_or (pt_not (pt_val (pe_callB k_isi (by rfl) T.n_isinstance (by decide +kernel) (pa_cons (pv 9) (pa_cons (pe_bltn (by rfl) T.n_list (by decide +kernel) rfl) pa_nil))))) (pw_or (pt_cmpR (o_ne hr.units) (pv 9) (pv 8) (nomark _)) (pw_or1 (pt_cmpR o_in pe_bl (pe_lc (own := [("one", 11)]) (g := (gName 11)) (tt := tYes) (by rfl) sc_law_k20.nd  (pi_list (pv 9)) (blkOk_by (own := [("one", 11)]) (N := ["script", "at", "store", "kinds", "given", "stock", "least", "n", "due", "found", "turn", "one"]) (sc := defScope s_law_k20) (by decide +kernel)) (fun _ _ _ _ _ => (pgn 11 sc_law_k20.nd)) (fun _ _ _ _ _ => pts_nil) (fun _ _ _ _ _ => (pe_callB k_isi (by rfl) T.n_isinstance (by decide +kernel) (pa_cons (pv 11) (pa_cons (pe_bltn (by rfl) T.n_bool (by decide +kernel) rfl) pa_nil))))) (by rfl)))))) (pss_one (ps_ret pe_bl)) pss_nil)
      (pss_cons (ps_expr (pe_bm PySem.F.plainAttrs_list PySem.F.slot_list_append PySem.F.type_list_append mt_append (pv 9) (pa_cons pe_int pa_nil)))
      (pss_one (ps_if (PW.pt (pw_or (pt_cmpR (o_ne hr.units) (pcall (ok_first_unlike T) (hr.mono (by decide)) (by rfl) T.g_first_unlike T.F_first_unlike.kp T.b_first_unlike (pa_cons (pv 4) (pa_cons (pv 7) pa_nil))) (pv 8) (nomark _)) (pw_or1 (pt_cmpR (o_ne hr.units) (pv 4) (pv 3) (nomark _))))) (pss_one (ps_ret pe_bl)) pss_nil))))))))))))))))
      (pss_one (ps_ret pe_bl)))
end
theorem txt_mk {K : PySem.W.Frag} {h : Heap} {mg : Str → Option Value} (X : K.In h) (Gs : h.Ns mainGlobals mg)
    {f1 : Addr} {od1 an1 : Option Addr} {sl1 : Array (Option Value)} {oc1 kV1 dc1 pm1 cd1 ct1 : Value}
    {f2 : Addr} {od2 an2 : Option Addr} {sl2 : Array (Option Value)} {oc2 kV2 dc2 pm2 cd2 ct2 : Value}
    {f3 : Addr} {od3 an3 : Option Addr} {sl3 : Array (Option Value)} {oc3 kV3 dc3 pm3 cd3 ct3 : Value}
    {f4 : Addr} {od4 an4 : Option Addr} {sl4 : Array (Option Value)} {oc4 kV4 dc4 pm4 cd4 ct4 : Value}
    {f5 : Addr} {od5 an5 : Option Addr} {sl5 : Array (Option Value)} {oc5 kV5 dc5 pm5 cd5 ct5 : Value}
    {f6 : Addr} {od6 an6 : Option Addr} {sl6 : Array (Option Value)} {oc6 kV6 dc6 pm6 cd6 ct6 : Value}
    {f7 : Addr} {od7 an7 : Option Addr} {sl7 : Array (Option Value)} {oc7 kV7 dc7 pm7 cd7 ct7 : Value}
    {f8 : Addr} {od8 an8 : Option Addr} {sl8 : Array (Option Value)} {oc8 kV8 dc8 pm8 cd8 ct8 : Value}
    {f9 : Addr} {od9 an9 : Option Addr} {sl9 : Array (Option Value)} {oc9 kV9 dc9 pm9 cd9 ct9 : Value}
    {f10 : Addr} {od10 an10 : Option Addr} {sl10 : Array (Option Value)} {oc10 kV10 dc10 pm10 cd10 ct10 : Value}
    {f11 : Addr} {od11 an11 : Option Addr} {sl11 : Array (Option Value)} {oc11 kV11 dc11 pm11 cd11 ct11 : Value}
    {f12 : Addr} {od12 an12 : Option Addr} {sl12 : Array (Option Value)} {oc12 kV12 dc12 pm12 cd12 ct12 : Value}
    {f13 : Addr} {od13 an13 : Option Addr} {sl13 : Array (Option Value)} {oc13 kV13 dc13 pm13 cd13 ct13 : Value}
    {f14 : Addr} {od14 an14 : Option Addr} {sl14 : Array (Option Value)} {oc14 kV14 dc14 pm14 cd14 ct14 : Value}
    {f15 : Addr} {od15 an15 : Option Addr} {sl15 : Array (Option Value)} {oc15 kV15 dc15 pm15 cd15 ct15 : Value}
    {f16 : Addr} {od16 an16 : Option Addr} {sl16 : Array (Option Value)} {oc16 kV16 dc16 pm16 cd16 ct16 : Value}
    {f17 : Addr} {od17 an17 : Option Addr} {sl17 : Array (Option Value)} {oc17 kV17 dc17 pm17 cd17 ct17 : Value}
    {f18 : Addr} {od18 an18 : Option Addr} {sl18 : Array (Option Value)} {oc18 kV18 dc18 pm18 cd18 ct18 : Value}
    {f19 : Addr} {od19 an19 : Option Addr} {sl19 : Array (Option Value)} {oc19 kV19 dc19 pm19 cd19 ct19 : Value}
    {f20 : Addr} {od20 an20 : Option Addr} {sl20 : Array (Option Value)} {oc20 kV20 dc20 pm20 cd20 ct20 : Value}
    {tk0 : Tok}
    {tk1 : Tok}
    {tk2 : Tok}
    {tk3 : Tok}
    {tk4 : Tok}
    (a1 : PySem.W.nsIn K mainGlobals "is_whole" = some (some (.ref f1)))
    (l1 : K.lookup f1 = some ⟨oc1, od1, .func (PySem.W.fnOf "is_whole" "is_whole" (defArgs s_is_whole) (defBody s_is_whole) (defScope s_is_whole) .none kV1 dc1 pm1 an1 cd1 ct1), sl1⟩)
    (c1 : PySem.W.codeIn K cd1 "is_whole" = true)
    (k1 : PySem.W.keepIn K (.ref f1) = true)
    (a2 : PySem.W.nsIn K mainGlobals "is_kind" = some (some (.ref f2)))
    (l2 : K.lookup f2 = some ⟨oc2, od2, .func (PySem.W.fnOf "is_kind" "is_kind" (defArgs s_is_kind) (defBody s_is_kind) (defScope s_is_kind) .none kV2 dc2 pm2 an2 cd2 ct2), sl2⟩)
    (c2 : PySem.W.codeIn K cd2 "is_kind" = true)
    (k2 : PySem.W.keepIn K (.ref f2) = true)
    (a3 : PySem.W.nsIn K mainGlobals "are_kinds" = some (some (.ref f3)))
    (l3 : K.lookup f3 = some ⟨oc3, od3, .func (PySem.W.fnOf "are_kinds" "are_kinds" (defArgs s_are_kinds) (defBody s_are_kinds) (defScope s_are_kinds) .none kV3 dc3 pm3 an3 cd3 ct3), sl3⟩)
    (c3 : PySem.W.codeIn K cd3 "are_kinds" = true)
    (k3 : PySem.W.keepIn K (.ref f3) = true)
    (a4 : PySem.W.nsIn K mainGlobals "need_kinds" = some (some (.ref f4)))
    (l4 : K.lookup f4 = some ⟨oc4, od4, .func (PySem.W.fnOf "need_kinds" "need_kinds" (defArgs s_need_kinds) (defBody s_need_kinds) (defScope s_need_kinds) .none kV4 dc4 pm4 an4 cd4 ct4), sl4⟩)
    (c4 : PySem.W.codeIn K cd4 "need_kinds" = true)
    (k4 : PySem.W.keepIn K (.ref f4) = true)
    (a5 : PySem.W.nsIn K mainGlobals "need_to_most" = some (some (.ref f5)))
    (l5 : K.lookup f5 = some ⟨oc5, od5, .func (PySem.W.fnOf "need_to_most" "need_to_most" (defArgs s_need_to_most) (defBody s_need_to_most) (defScope s_need_to_most) .none kV5 dc5 pm5 an5 cd5 ct5), sl5⟩)
    (c5 : PySem.W.codeIn K cd5 "need_to_most" = true)
    (k5 : PySem.W.keepIn K (.ref f5) = true)
    (a6 : PySem.W.nsIn K mainGlobals "dots" = some (some (.ref f6)))
    (l6 : K.lookup f6 = some ⟨oc6, od6, .func (PySem.W.fnOf "dots" "dots" (defArgs s_dots) (defBody s_dots) (defScope s_dots) .none kV6 dc6 pm6 an6 cd6 ct6), sl6⟩)
    (c6 : PySem.W.codeIn K cd6 "dots" = true)
    (k6 : PySem.W.keepIn K (.ref f6) = true)
    (a7 : PySem.W.nsIn K mainGlobals "stock_of" = some (some (.ref f7)))
    (l7 : K.lookup f7 = some ⟨oc7, od7, .func (PySem.W.fnOf "stock_of" "stock_of" (defArgs s_stock_of) (defBody s_stock_of) (defScope s_stock_of) .none kV7 dc7 pm7 an7 cd7 ct7), sl7⟩)
    (c7 : PySem.W.codeIn K cd7 "stock_of" = true)
    (k7 : PySem.W.keepIn K (.ref f7) = true)
    (a8 : PySem.W.nsIn K mainGlobals "stock_to" = some (some (.ref f8)))
    (l8 : K.lookup f8 = some ⟨oc8, od8, .func (PySem.W.fnOf "stock_to" "stock_to" (defArgs s_stock_to) (defBody s_stock_to) (defScope s_stock_to) .none kV8 dc8 pm8 an8 cd8 ct8), sl8⟩)
    (c8 : PySem.W.codeIn K cd8 "stock_to" = true)
    (k8 : PySem.W.keepIn K (.ref f8) = true)
    (a9 : PySem.W.nsIn K mainGlobals "least_rows" = some (some (.ref f9)))
    (l9 : K.lookup f9 = some ⟨oc9, od9, .func (PySem.W.fnOf "least_rows" "least_rows" (defArgs s_least_rows) (defBody s_least_rows) (defScope s_least_rows) .none kV9 dc9 pm9 an9 cd9 ct9), sl9⟩)
    (c9 : PySem.W.codeIn K cd9 "least_rows" = true)
    (k9 : PySem.W.keepIn K (.ref f9) = true)
    (a10 : PySem.W.nsIn K mainGlobals "first_unlike" = some (some (.ref f10)))
    (l10 : K.lookup f10 = some ⟨oc10, od10, .func (PySem.W.fnOf "first_unlike" "first_unlike" (defArgs s_first_unlike) (defBody s_first_unlike) (defScope s_first_unlike) .none kV10 dc10 pm10 an10 cd10 ct10), sl10⟩)
    (c10 : PySem.W.codeIn K cd10 "first_unlike" = true)
    (k10 : PySem.W.keepIn K (.ref f10) = true)
    (a11 : PySem.W.nsIn K mainGlobals "_law_cell" = some (some (.ref f11)))
    (l11 : K.lookup f11 = some ⟨oc11, od11, .func (PySem.W.fnOf "_law_cell" "_law_cell" (defArgs s_law_cell) (defBody s_law_cell) (defScope s_law_cell) .none kV11 dc11 pm11 an11 cd11 ct11), sl11⟩)
    (c11 : PySem.W.codeIn K cd11 "_law_cell" = true)
    (k11 : PySem.W.keepIn K (.ref f11) = true)
    (a12 : PySem.W.nsIn K mainGlobals "_law_store" = some (some (.ref f12)))
    (l12 : K.lookup f12 = some ⟨oc12, od12, .func (PySem.W.fnOf "_law_store" "_law_store" (defArgs s_law_store) (defBody s_law_store) (defScope s_law_store) .none kV12 dc12 pm12 an12 cd12 ct12), sl12⟩)
    (c12 : PySem.W.codeIn K cd12 "_law_store" = true)
    (k12 : PySem.W.keepIn K (.ref f12) = true)
    (a13 : PySem.W.nsIn K mainGlobals "_law_take" = some (some (.ref f13)))
    (l13 : K.lookup f13 = some ⟨oc13, od13, .func (PySem.W.fnOf "_law_take" "_law_take" (defArgs s_law_take_v2) (defBody s_law_take_v2) (defScope s_law_take_v2) .none kV13 dc13 pm13 an13 cd13 ct13), sl13⟩)
    (c13 : PySem.W.codeIn K cd13 "_law_take" = true)
    (k13 : PySem.W.keepIn K (.ref f13) = true)
    (a14 : PySem.W.nsIn K mainGlobals "_law_kinds" = some (some (.ref f14)))
    (l14 : K.lookup f14 = some ⟨oc14, od14, .func (PySem.W.fnOf "_law_kinds" "_law_kinds" (defArgs s_law_kinds_v2) (defBody s_law_kinds_v2) (defScope s_law_kinds_v2) .none kV14 dc14 pm14 an14 cd14 ct14), sl14⟩)
    (c14 : PySem.W.codeIn K cd14 "_law_kinds" = true)
    (k14 : PySem.W.keepIn K (.ref f14) = true)
    (a15 : PySem.W.nsIn K mainGlobals "_law_dots" = some (some (.ref f15)))
    (l15 : K.lookup f15 = some ⟨oc15, od15, .func (PySem.W.fnOf "_law_dots" "_law_dots" (defArgs s_law_dots_v2) (defBody s_law_dots_v2) (defScope s_law_dots_v2) .none kV15 dc15 pm15 an15 cd15 ct15), sl15⟩)
    (c15 : PySem.W.codeIn K cd15 "_law_dots" = true)
    (k15 : PySem.W.keepIn K (.ref f15) = true)
    (a16 : PySem.W.nsIn K mainGlobals "_law_stock" = some (some (.ref f16)))
    (l16 : K.lookup f16 = some ⟨oc16, od16, .func (PySem.W.fnOf "_law_stock" "_law_stock" (defArgs s_law_stock_v3) (defBody s_law_stock_v3) (defScope s_law_stock_v3) .none kV16 dc16 pm16 an16 cd16 ct16), sl16⟩)
    (c16 : PySem.W.codeIn K cd16 "_law_stock" = true)
    (k16 : PySem.W.keepIn K (.ref f16) = true)
    (a17 : PySem.W.nsIn K mainGlobals "_law_n" = some (some (.ref f17)))
    (l17 : K.lookup f17 = some ⟨oc17, od17, .func (PySem.W.fnOf "_law_n" "_law_n" (defArgs s_law_n) (defBody s_law_n) (defScope s_law_n) .none kV17 dc17 pm17 an17 cd17 ct17), sl17⟩)
    (c17 : PySem.W.codeIn K cd17 "_law_n" = true)
    (k17 : PySem.W.keepIn K (.ref f17) = true)
    (a18 : PySem.W.nsIn K mainGlobals "_law_least" = some (some (.ref f18)))
    (l18 : K.lookup f18 = some ⟨oc18, od18, .func (PySem.W.fnOf "_law_least" "_law_least" (defArgs s_law_least) (defBody s_law_least) (defScope s_law_least) .none kV18 dc18 pm18 an18 cd18 ct18), sl18⟩)
    (c18 : PySem.W.codeIn K cd18 "_law_least" = true)
    (k18 : PySem.W.keepIn K (.ref f18) = true)
    (a19 : PySem.W.nsIn K mainGlobals "_law_due" = some (some (.ref f19)))
    (l19 : K.lookup f19 = some ⟨oc19, od19, .func (PySem.W.fnOf "_law_due" "_law_due" (defArgs s_law_due_v5) (defBody s_law_due_v5) (defScope s_law_due_v5) .none kV19 dc19 pm19 an19 cd19 ct19), sl19⟩)
    (c19 : PySem.W.codeIn K cd19 "_law_due" = true)
    (k19 : PySem.W.keepIn K (.ref f19) = true)
    (a20 : PySem.W.nsIn K mainGlobals "law" = some (some (.ref f20)))
    (l20 : K.lookup f20 = some ⟨oc20, od20, .func (PySem.W.fnOf "law" "law" (defArgs s_law_k20) (defBody s_law_k20) (defScope s_law_k20) .none kV20 dc20 pm20 an20 cd20 ct20), sl20⟩)
    (c20 : PySem.W.codeIn K cd20 "law" = true)
    (k20 : PySem.W.keepIn K (.ref f20) = true)
    (z0 : PySem.W.nsIn K mainGlobals "bool" = some none)
    (z1 : PySem.W.nsIn K mainGlobals "enumerate" = some none)
    (z2 : PySem.W.nsIn K mainGlobals "int" = some none)
    (z3 : PySem.W.nsIn K mainGlobals "isinstance" = some none)
    (z4 : PySem.W.nsIn K mainGlobals "len" = some none)
    (z5 : PySem.W.nsIn K mainGlobals "list" = some none)
    (z6 : PySem.W.nsIn K mainGlobals "max" = some none)
    (z7 : PySem.W.nsIn K mainGlobals "min" = some none)
    (z8 : PySem.W.nsIn K mainGlobals "range" = some none)
    (z9 : PySem.W.nsIn K mainGlobals "sorted" = some none)
    (z10 : PySem.W.nsIn K mainGlobals "str" = some none)
    (y0 : PySem.W.nsIn K mainGlobals "CUBES" = some (some (.str "cubes" tk0)))
    (y1 : PySem.W.nsIn K mainGlobals "FEWEST_CORNERS" = some (some (.int 3 tk1)))
    (y2 : PySem.W.nsIn K mainGlobals "MOST" = some (some (.int 200 tk2)))
    (y3 : PySem.W.nsIn K mainGlobals "MOST_CORNERS" = some (some (.int 12 tk3)))
    (y4 : PySem.W.nsIn K mainGlobals "MOST_KINDS" = some (some (.int 5 tk4))) :
    ∃ T : Txt ⟨K, fun _ => 0⟩ mg, mg "law" = some (.ref T.a_law_k20) ∧ T.d_law_k20 = PySem.W.fnOf "law" "law" (defArgs s_law_k20) (defBody s_law_k20) (defScope s_law_k20) .none kV20 dc20 pm20 an20 cd20 ct20 := by
  refine ⟨{
    a_is_whole := f1
    d_is_whole := _
    F_is_whole := fun_mk l1 c1 k1
    b_is_whole := (fun_mk (st := s_is_whole) l1 c1 k1).binds (ps := ["thing"]) (fun _ _ _ _ _ _ us hl => match us, hl with | [_], _ => rfl)
    g_is_whole := PySem.W.mg_of X Gs a1
    a_is_kind := f2
    d_is_kind := _
    F_is_kind := fun_mk l2 c2 k2
    b_is_kind := (fun_mk (st := s_is_kind) l2 c2 k2).binds (ps := ["thing"]) (fun _ _ _ _ _ _ us hl => match us, hl with | [_], _ => rfl)
    g_is_kind := PySem.W.mg_of X Gs a2
    a_are_kinds := f3
    d_are_kinds := _
    F_are_kinds := fun_mk l3 c3 k3
    b_are_kinds := (fun_mk (st := s_are_kinds) l3 c3 k3).binds (ps := ["thing"]) (fun _ _ _ _ _ _ us hl => match us, hl with | [_], _ => rfl)
    g_are_kinds := PySem.W.mg_of X Gs a3
    a_need_kinds := f4
    d_need_kinds := _
    F_need_kinds := fun_mk l4 c4 k4
    b_need_kinds := (fun_mk (st := s_need_kinds) l4 c4 k4).binds (ps := ["thing"]) (fun _ _ _ _ _ _ us hl => match us, hl with | [_], _ => rfl)
    g_need_kinds := PySem.W.mg_of X Gs a4
    a_need_to_most := f5
    d_need_to_most := _
    F_need_to_most := fun_mk l5 c5 k5
    b_need_to_most := (fun_mk (st := s_need_to_most) l5 c5 k5).binds (ps := ["thing"]) (fun _ _ _ _ _ _ us hl => match us, hl with | [_], _ => rfl)
    g_need_to_most := PySem.W.mg_of X Gs a5
    a_dots := f6
    d_dots := _
    F_dots := fun_mk l6 c6 k6
    b_dots := (fun_mk (st := s_dots) l6 c6 k6).binds (ps := ["kind", "k"]) (fun _ _ _ _ _ _ us hl => match us, hl with | [_, _], _ => rfl)
    g_dots := PySem.W.mg_of X Gs a6
    a_stock_of := f7
    d_stock_of := _
    F_stock_of := fun_mk l7 c7 k7
    b_stock_of := (fun_mk (st := s_stock_of) l7 c7 k7).binds (ps := ["kinds", "b"]) (fun _ _ _ _ _ _ us hl => match us, hl with | [_, _], _ => rfl)
    g_stock_of := PySem.W.mg_of X Gs a7
    a_stock_to := f8
    d_stock_to := _
    F_stock_to := fun_mk l8 c8 k8
    b_stock_to := (fun_mk (st := s_stock_to) l8 c8 k8).binds (ps := ["kinds", "b"]) (fun _ _ _ _ _ _ us hl => match us, hl with | [_, _], _ => rfl)
    g_stock_to := PySem.W.mg_of X Gs a8
    a_least_rows := f9
    d_least_rows := _
    F_least_rows := fun_mk l9 c9 k9
    b_least_rows := (fun_mk (st := s_least_rows) l9 c9 k9).binds (ps := ["stock", "n"]) (fun _ _ _ _ _ _ us hl => match us, hl with | [_, _], _ => rfl)
    g_least_rows := PySem.W.mg_of X Gs a9
    a_first_unlike := f10
    d_first_unlike := _
    F_first_unlike := fun_mk l10 c10 k10
    b_first_unlike := (fun_mk (st := s_first_unlike) l10 c10 k10).binds (ps := ["kinds", "n"]) (fun _ _ _ _ _ _ us hl => match us, hl with | [_, _], _ => rfl)
    g_first_unlike := PySem.W.mg_of X Gs a10
    a_law_cell := f11
    d_law_cell := _
    F_law_cell := fun_mk l11 c11 k11
    b_law_cell := (fun_mk (st := s_law_cell) l11 c11 k11).binds (ps := ["script", "k"]) (fun _ _ _ _ _ _ us hl => match us, hl with | [_, _], _ => rfl)
    g_law_cell := PySem.W.mg_of X Gs a11
    a_law_store := f12
    d_law_store := _
    F_law_store := fun_mk l12 c12 k12
    b_law_store := (fun_mk (st := s_law_store) l12 c12 k12).binds (ps := ["cell"]) (fun _ _ _ _ _ _ us hl => match us, hl with | [_], _ => rfl)
    g_law_store := PySem.W.mg_of X Gs a12
    a_law_take_v2 := f13
    d_law_take_v2 := _
    F_law_take_v2 := fun_mk l13 c13 k13
    b_law_take_v2 := (fun_mk (st := s_law_take_v2) l13 c13 k13).binds (ps := ["store", "many"]) (fun _ _ _ _ _ _ us hl => match us, hl with | [_, _], _ => rfl)
    g_law_take := PySem.W.mg_of X Gs a13
    a_law_kinds_v2 := f14
    d_law_kinds_v2 := _
    F_law_kinds_v2 := fun_mk l14 c14 k14
    b_law_kinds_v2 := (fun_mk (st := s_law_kinds_v2) l14 c14 k14).binds (ps := ["store"]) (fun _ _ _ _ _ _ us hl => match us, hl with | [_], _ => rfl)
    g_law_kinds := PySem.W.mg_of X Gs a14
    a_law_dots_v2 := f15
    d_law_dots_v2 := _
    F_law_dots_v2 := fun_mk l15 c15 k15
    b_law_dots_v2 := (fun_mk (st := s_law_dots_v2) l15 c15 k15).binds (ps := ["kind", "b"]) (fun _ _ _ _ _ _ us hl => match us, hl with | [_, _], _ => rfl)
    g_law_dots := PySem.W.mg_of X Gs a15
    a_law_stock_v3 := f16
    d_law_stock_v3 := _
    F_law_stock_v3 := fun_mk l16 c16 k16
    b_law_stock_v3 := (fun_mk (st := s_law_stock_v3) l16 c16 k16).binds (ps := ["kinds", "b"]) (fun _ _ _ _ _ _ us hl => match us, hl with | [_, _], _ => rfl)
    g_law_stock := PySem.W.mg_of X Gs a16
    a_law_n := f17
    d_law_n := _
    F_law_n := fun_mk l17 c17 k17
    b_law_n := (fun_mk (st := s_law_n) l17 c17 k17).binds (ps := ["store"]) (fun _ _ _ _ _ _ us hl => match us, hl with | [_], _ => rfl)
    g_law_n := PySem.W.mg_of X Gs a17
    a_law_least := f18
    d_law_least := _
    F_law_least := fun_mk l18 c18 k18
    b_law_least := (fun_mk (st := s_law_least) l18 c18 k18).binds (ps := ["stock", "b"]) (fun _ _ _ _ _ _ us hl => match us, hl with | [_, _], _ => rfl)
    g_law_least := PySem.W.mg_of X Gs a18
    a_law_due_v5 := f19
    d_law_due_v5 := _
    F_law_due_v5 := fun_mk l19 c19 k19
    b_law_due_v5 := (fun_mk (st := s_law_due_v5) l19 c19 k19).binds (ps := ["stock", "least", "n"]) (fun _ _ _ _ _ _ us hl => match us, hl with | [_, _, _], _ => rfl)
    g_law_due := PySem.W.mg_of X Gs a19
    a_law_k20 := f20
    d_law_k20 := _
    F_law_k20 := fun_mk l20 c20 k20
    b_law_k20 := (fun_mk (st := s_law_k20) l20 c20 k20).binds (ps := ["script"]) (fun _ _ _ _ _ _ us hl => match us, hl with | [_], _ => rfl)
    g_law := PySem.W.mg_of X Gs a20
    n_bool := PySem.W.mg_none_of X Gs z0
    n_enumerate := PySem.W.mg_none_of X Gs z1
    n_int := PySem.W.mg_none_of X Gs z2
    n_isinstance := PySem.W.mg_none_of X Gs z3
    n_len := PySem.W.mg_none_of X Gs z4
    n_list := PySem.W.mg_none_of X Gs z5
    n_max := PySem.W.mg_none_of X Gs z6
    n_min := PySem.W.mg_none_of X Gs z7
    n_range := PySem.W.mg_none_of X Gs z8
    n_sorted := PySem.W.mg_none_of X Gs z9
    n_str := PySem.W.mg_none_of X Gs z10
    k_CUBES := tk0
    c_CUBES := PySem.W.mg_of X Gs y0
    k_FEWEST_CORNERS := tk1
    c_FEWEST_CORNERS := PySem.W.mg_of X Gs y1
    k_MOST := tk2
    c_MOST := PySem.W.mg_of X Gs y2
    k_MOST_CORNERS := tk3
    c_MOST_CORNERS := PySem.W.mg_of X Gs y3
    k_MOST_KINDS := tk4
    c_MOST_KINDS := PySem.W.mg_of X Gs y4 }, PySem.W.mg_of X Gs a20, rfl⟩
/-- the law, as its caller asks it -/
def spLaw (K : PySem.W.Frag) : Sp := fun vs H Q _ => ∃ (a : Addr) (ns : List Int), vs = [.ref a] ∧ SqL K H a (ns.map V.int) ∧ ns.length ≤ 63 ∧ ∀ H', Q (.bl true) H'
/-- the law of the readings -/
def LawHolds : Prop := ∀ (G : Gx) (H : Hp) (a : Addr) (ns : List Int) (Q : VK), SqL G.K H a (ns.map V.int) → ns.length ≤ 63 → (∀ H', Q (.bl true) H') → sp_law_k20 G [.ref a] H Q E0
theorem law_holds : LawHolds := fun G H a ns Q hs hl hq => law_k20_ok hs hl hq
theorem all_mk (HL : LawHolds) {l : PySem.W.OpenLaw} {w : World} {K : PySem.W.Frag} {h : Heap} {mg : Str → Option Value} {fa : Addr} (X : K.In h) (Gs : h.Ns mainGlobals mg) (hfa : mg "law" = some (.ref fa))
    {f1 : Addr} {od1 an1 : Option Addr} {sl1 : Array (Option Value)} {oc1 kV1 dc1 pm1 cd1 ct1 : Value}
    {f2 : Addr} {od2 an2 : Option Addr} {sl2 : Array (Option Value)} {oc2 kV2 dc2 pm2 cd2 ct2 : Value}
    {f3 : Addr} {od3 an3 : Option Addr} {sl3 : Array (Option Value)} {oc3 kV3 dc3 pm3 cd3 ct3 : Value}
    {f4 : Addr} {od4 an4 : Option Addr} {sl4 : Array (Option Value)} {oc4 kV4 dc4 pm4 cd4 ct4 : Value}
    {f5 : Addr} {od5 an5 : Option Addr} {sl5 : Array (Option Value)} {oc5 kV5 dc5 pm5 cd5 ct5 : Value}
    {f6 : Addr} {od6 an6 : Option Addr} {sl6 : Array (Option Value)} {oc6 kV6 dc6 pm6 cd6 ct6 : Value}
    {f7 : Addr} {od7 an7 : Option Addr} {sl7 : Array (Option Value)} {oc7 kV7 dc7 pm7 cd7 ct7 : Value}
    {f8 : Addr} {od8 an8 : Option Addr} {sl8 : Array (Option Value)} {oc8 kV8 dc8 pm8 cd8 ct8 : Value}
    {f9 : Addr} {od9 an9 : Option Addr} {sl9 : Array (Option Value)} {oc9 kV9 dc9 pm9 cd9 ct9 : Value}
    {f10 : Addr} {od10 an10 : Option Addr} {sl10 : Array (Option Value)} {oc10 kV10 dc10 pm10 cd10 ct10 : Value}
    {f11 : Addr} {od11 an11 : Option Addr} {sl11 : Array (Option Value)} {oc11 kV11 dc11 pm11 cd11 ct11 : Value}
    {f12 : Addr} {od12 an12 : Option Addr} {sl12 : Array (Option Value)} {oc12 kV12 dc12 pm12 cd12 ct12 : Value}
    {f13 : Addr} {od13 an13 : Option Addr} {sl13 : Array (Option Value)} {oc13 kV13 dc13 pm13 cd13 ct13 : Value}
    {f14 : Addr} {od14 an14 : Option Addr} {sl14 : Array (Option Value)} {oc14 kV14 dc14 pm14 cd14 ct14 : Value}
    {f15 : Addr} {od15 an15 : Option Addr} {sl15 : Array (Option Value)} {oc15 kV15 dc15 pm15 cd15 ct15 : Value}
    {f16 : Addr} {od16 an16 : Option Addr} {sl16 : Array (Option Value)} {oc16 kV16 dc16 pm16 cd16 ct16 : Value}
    {f17 : Addr} {od17 an17 : Option Addr} {sl17 : Array (Option Value)} {oc17 kV17 dc17 pm17 cd17 ct17 : Value}
    {f18 : Addr} {od18 an18 : Option Addr} {sl18 : Array (Option Value)} {oc18 kV18 dc18 pm18 cd18 ct18 : Value}
    {f19 : Addr} {od19 an19 : Option Addr} {sl19 : Array (Option Value)} {oc19 kV19 dc19 pm19 cd19 ct19 : Value}
    {f20 : Addr} {od20 an20 : Option Addr} {sl20 : Array (Option Value)} {oc20 kV20 dc20 pm20 cd20 ct20 : Value}
    {tk0 : Tok}
    {tk1 : Tok}
    {tk2 : Tok}
    {tk3 : Tok}
    {tk4 : Tok}
    (a1 : PySem.W.nsIn K mainGlobals "is_whole" = some (some (.ref f1)))
    (l1 : K.lookup f1 = some ⟨oc1, od1, .func (PySem.W.fnOf "is_whole" "is_whole" (defArgs s_is_whole) (defBody s_is_whole) (defScope s_is_whole) .none kV1 dc1 pm1 an1 cd1 ct1), sl1⟩)
    (c1 : PySem.W.codeIn K cd1 "is_whole" = true)
    (k1 : PySem.W.keepIn K (.ref f1) = true)
    (a2 : PySem.W.nsIn K mainGlobals "is_kind" = some (some (.ref f2)))
    (l2 : K.lookup f2 = some ⟨oc2, od2, .func (PySem.W.fnOf "is_kind" "is_kind" (defArgs s_is_kind) (defBody s_is_kind) (defScope s_is_kind) .none kV2 dc2 pm2 an2 cd2 ct2), sl2⟩)
    (c2 : PySem.W.codeIn K cd2 "is_kind" = true)
    (k2 : PySem.W.keepIn K (.ref f2) = true)
    (a3 : PySem.W.nsIn K mainGlobals "are_kinds" = some (some (.ref f3)))
    (l3 : K.lookup f3 = some ⟨oc3, od3, .func (PySem.W.fnOf "are_kinds" "are_kinds" (defArgs s_are_kinds) (defBody s_are_kinds) (defScope s_are_kinds) .none kV3 dc3 pm3 an3 cd3 ct3), sl3⟩)
    (c3 : PySem.W.codeIn K cd3 "are_kinds" = true)
    (k3 : PySem.W.keepIn K (.ref f3) = true)
    (a4 : PySem.W.nsIn K mainGlobals "need_kinds" = some (some (.ref f4)))
    (l4 : K.lookup f4 = some ⟨oc4, od4, .func (PySem.W.fnOf "need_kinds" "need_kinds" (defArgs s_need_kinds) (defBody s_need_kinds) (defScope s_need_kinds) .none kV4 dc4 pm4 an4 cd4 ct4), sl4⟩)
    (c4 : PySem.W.codeIn K cd4 "need_kinds" = true)
    (k4 : PySem.W.keepIn K (.ref f4) = true)
    (a5 : PySem.W.nsIn K mainGlobals "need_to_most" = some (some (.ref f5)))
    (l5 : K.lookup f5 = some ⟨oc5, od5, .func (PySem.W.fnOf "need_to_most" "need_to_most" (defArgs s_need_to_most) (defBody s_need_to_most) (defScope s_need_to_most) .none kV5 dc5 pm5 an5 cd5 ct5), sl5⟩)
    (c5 : PySem.W.codeIn K cd5 "need_to_most" = true)
    (k5 : PySem.W.keepIn K (.ref f5) = true)
    (a6 : PySem.W.nsIn K mainGlobals "dots" = some (some (.ref f6)))
    (l6 : K.lookup f6 = some ⟨oc6, od6, .func (PySem.W.fnOf "dots" "dots" (defArgs s_dots) (defBody s_dots) (defScope s_dots) .none kV6 dc6 pm6 an6 cd6 ct6), sl6⟩)
    (c6 : PySem.W.codeIn K cd6 "dots" = true)
    (k6 : PySem.W.keepIn K (.ref f6) = true)
    (a7 : PySem.W.nsIn K mainGlobals "stock_of" = some (some (.ref f7)))
    (l7 : K.lookup f7 = some ⟨oc7, od7, .func (PySem.W.fnOf "stock_of" "stock_of" (defArgs s_stock_of) (defBody s_stock_of) (defScope s_stock_of) .none kV7 dc7 pm7 an7 cd7 ct7), sl7⟩)
    (c7 : PySem.W.codeIn K cd7 "stock_of" = true)
    (k7 : PySem.W.keepIn K (.ref f7) = true)
    (a8 : PySem.W.nsIn K mainGlobals "stock_to" = some (some (.ref f8)))
    (l8 : K.lookup f8 = some ⟨oc8, od8, .func (PySem.W.fnOf "stock_to" "stock_to" (defArgs s_stock_to) (defBody s_stock_to) (defScope s_stock_to) .none kV8 dc8 pm8 an8 cd8 ct8), sl8⟩)
    (c8 : PySem.W.codeIn K cd8 "stock_to" = true)
    (k8 : PySem.W.keepIn K (.ref f8) = true)
    (a9 : PySem.W.nsIn K mainGlobals "least_rows" = some (some (.ref f9)))
    (l9 : K.lookup f9 = some ⟨oc9, od9, .func (PySem.W.fnOf "least_rows" "least_rows" (defArgs s_least_rows) (defBody s_least_rows) (defScope s_least_rows) .none kV9 dc9 pm9 an9 cd9 ct9), sl9⟩)
    (c9 : PySem.W.codeIn K cd9 "least_rows" = true)
    (k9 : PySem.W.keepIn K (.ref f9) = true)
    (a10 : PySem.W.nsIn K mainGlobals "first_unlike" = some (some (.ref f10)))
    (l10 : K.lookup f10 = some ⟨oc10, od10, .func (PySem.W.fnOf "first_unlike" "first_unlike" (defArgs s_first_unlike) (defBody s_first_unlike) (defScope s_first_unlike) .none kV10 dc10 pm10 an10 cd10 ct10), sl10⟩)
    (c10 : PySem.W.codeIn K cd10 "first_unlike" = true)
    (k10 : PySem.W.keepIn K (.ref f10) = true)
    (a11 : PySem.W.nsIn K mainGlobals "_law_cell" = some (some (.ref f11)))
    (l11 : K.lookup f11 = some ⟨oc11, od11, .func (PySem.W.fnOf "_law_cell" "_law_cell" (defArgs s_law_cell) (defBody s_law_cell) (defScope s_law_cell) .none kV11 dc11 pm11 an11 cd11 ct11), sl11⟩)
    (c11 : PySem.W.codeIn K cd11 "_law_cell" = true)
    (k11 : PySem.W.keepIn K (.ref f11) = true)
    (a12 : PySem.W.nsIn K mainGlobals "_law_store" = some (some (.ref f12)))
    (l12 : K.lookup f12 = some ⟨oc12, od12, .func (PySem.W.fnOf "_law_store" "_law_store" (defArgs s_law_store) (defBody s_law_store) (defScope s_law_store) .none kV12 dc12 pm12 an12 cd12 ct12), sl12⟩)
    (c12 : PySem.W.codeIn K cd12 "_law_store" = true)
    (k12 : PySem.W.keepIn K (.ref f12) = true)
    (a13 : PySem.W.nsIn K mainGlobals "_law_take" = some (some (.ref f13)))
    (l13 : K.lookup f13 = some ⟨oc13, od13, .func (PySem.W.fnOf "_law_take" "_law_take" (defArgs s_law_take_v2) (defBody s_law_take_v2) (defScope s_law_take_v2) .none kV13 dc13 pm13 an13 cd13 ct13), sl13⟩)
    (c13 : PySem.W.codeIn K cd13 "_law_take" = true)
    (k13 : PySem.W.keepIn K (.ref f13) = true)
    (a14 : PySem.W.nsIn K mainGlobals "_law_kinds" = some (some (.ref f14)))
    (l14 : K.lookup f14 = some ⟨oc14, od14, .func (PySem.W.fnOf "_law_kinds" "_law_kinds" (defArgs s_law_kinds_v2) (defBody s_law_kinds_v2) (defScope s_law_kinds_v2) .none kV14 dc14 pm14 an14 cd14 ct14), sl14⟩)
    (c14 : PySem.W.codeIn K cd14 "_law_kinds" = true)
    (k14 : PySem.W.keepIn K (.ref f14) = true)
    (a15 : PySem.W.nsIn K mainGlobals "_law_dots" = some (some (.ref f15)))
    (l15 : K.lookup f15 = some ⟨oc15, od15, .func (PySem.W.fnOf "_law_dots" "_law_dots" (defArgs s_law_dots_v2) (defBody s_law_dots_v2) (defScope s_law_dots_v2) .none kV15 dc15 pm15 an15 cd15 ct15), sl15⟩)
    (c15 : PySem.W.codeIn K cd15 "_law_dots" = true)
    (k15 : PySem.W.keepIn K (.ref f15) = true)
    (a16 : PySem.W.nsIn K mainGlobals "_law_stock" = some (some (.ref f16)))
    (l16 : K.lookup f16 = some ⟨oc16, od16, .func (PySem.W.fnOf "_law_stock" "_law_stock" (defArgs s_law_stock_v3) (defBody s_law_stock_v3) (defScope s_law_stock_v3) .none kV16 dc16 pm16 an16 cd16 ct16), sl16⟩)
    (c16 : PySem.W.codeIn K cd16 "_law_stock" = true)
    (k16 : PySem.W.keepIn K (.ref f16) = true)
    (a17 : PySem.W.nsIn K mainGlobals "_law_n" = some (some (.ref f17)))
    (l17 : K.lookup f17 = some ⟨oc17, od17, .func (PySem.W.fnOf "_law_n" "_law_n" (defArgs s_law_n) (defBody s_law_n) (defScope s_law_n) .none kV17 dc17 pm17 an17 cd17 ct17), sl17⟩)
    (c17 : PySem.W.codeIn K cd17 "_law_n" = true)
    (k17 : PySem.W.keepIn K (.ref f17) = true)
    (a18 : PySem.W.nsIn K mainGlobals "_law_least" = some (some (.ref f18)))
    (l18 : K.lookup f18 = some ⟨oc18, od18, .func (PySem.W.fnOf "_law_least" "_law_least" (defArgs s_law_least) (defBody s_law_least) (defScope s_law_least) .none kV18 dc18 pm18 an18 cd18 ct18), sl18⟩)
    (c18 : PySem.W.codeIn K cd18 "_law_least" = true)
    (k18 : PySem.W.keepIn K (.ref f18) = true)
    (a19 : PySem.W.nsIn K mainGlobals "_law_due" = some (some (.ref f19)))
    (l19 : K.lookup f19 = some ⟨oc19, od19, .func (PySem.W.fnOf "_law_due" "_law_due" (defArgs s_law_due_v5) (defBody s_law_due_v5) (defScope s_law_due_v5) .none kV19 dc19 pm19 an19 cd19 ct19), sl19⟩)
    (c19 : PySem.W.codeIn K cd19 "_law_due" = true)
    (k19 : PySem.W.keepIn K (.ref f19) = true)
    (a20 : PySem.W.nsIn K mainGlobals "law" = some (some (.ref f20)))
    (l20 : K.lookup f20 = some ⟨oc20, od20, .func (PySem.W.fnOf "law" "law" (defArgs s_law_k20) (defBody s_law_k20) (defScope s_law_k20) .none kV20 dc20 pm20 an20 cd20 ct20), sl20⟩)
    (c20 : PySem.W.codeIn K cd20 "law" = true)
    (k20 : PySem.W.keepIn K (.ref f20) = true)
    (z0 : PySem.W.nsIn K mainGlobals "bool" = some none)
    (z1 : PySem.W.nsIn K mainGlobals "enumerate" = some none)
    (z2 : PySem.W.nsIn K mainGlobals "int" = some none)
    (z3 : PySem.W.nsIn K mainGlobals "isinstance" = some none)
    (z4 : PySem.W.nsIn K mainGlobals "len" = some none)
    (z5 : PySem.W.nsIn K mainGlobals "list" = some none)
    (z6 : PySem.W.nsIn K mainGlobals "max" = some none)
    (z7 : PySem.W.nsIn K mainGlobals "min" = some none)
    (z8 : PySem.W.nsIn K mainGlobals "range" = some none)
    (z9 : PySem.W.nsIn K mainGlobals "sorted" = some none)
    (z10 : PySem.W.nsIn K mainGlobals "str" = some none)
    (y0 : PySem.W.nsIn K mainGlobals "CUBES" = some (some (.str "cubes" tk0)))
    (y1 : PySem.W.nsIn K mainGlobals "FEWEST_CORNERS" = some (some (.int 3 tk1)))
    (y2 : PySem.W.nsIn K mainGlobals "MOST" = some (some (.int 200 tk2)))
    (y3 : PySem.W.nsIn K mainGlobals "MOST_CORNERS" = some (some (.int 12 tk3)))
    (y4 : PySem.W.nsIn K mainGlobals "MOST_KINDS" = some (some (.int 5 tk4))) :
    ∃ fd : FuncData, (∀ (s : Shared) (v : Value), BindsTo s fd ⟨[v], []⟩ [("script", v)]) ∧ ∀ base : Heap, K.In base → base.Ns mainGlobals mg → FnOk l.prog w K mg base CX0 7 fa fd ["script"] (spLaw K) := by
  obtain ⟨T, e1, e2⟩ := txt_mk X Gs a1 l1 c1 k1 a2 l2 c2 k2 a3 l3 c3 k3 a4 l4 c4 k4 a5 l5 c5 k5 a6 l6 c6 k6 a7 l7 c7 k7 a8 l8 c8 k8 a9 l9 c9 k9 a10 l10 c10 k10 a11 l11 c11 k11 a12 l12 c12 k12 a13 l13 c13 k13 a14 l14 c14 k14 a15 l15 c15 k15 a16 l16 c16 k16 a17 l17 c17 k17 a18 l18 c18 k18 a19 l19 c19 k19 a20 l20 c20 k20 z0 z1 z2 z3 z4 z5 z6 z7 z8 z9 z10 y0 y1 y2 y3 y4
  have e := hfa.symm.trans e1
  cases e
  refine ⟨T.d_law_k20, fun s v => ?_, fun base _ _ => ?_⟩
  · rw [e2]
    exact .of_eq rfl
  · refine (ok_law_k20 (P := l.prog) (w := w) (base := base) T).imp fun vs H Q E h => ?_
    obtain ⟨a, ns, rfl, hS, hl, q⟩ := h
    exact HL ⟨K, fun _ => 0⟩ H a ns Q hS hl q
end Fs
open PySem PySem.W PyProof.Rows
set_option maxHeartbeats 0 in
theorem PySem.Challenge.cw_fewshapes_k20_first_unlike_holds : PySem.Challenge.rw_fewshapes_k20_first_unlike.Holds := by
  w_on; o_law; k_head; (case hw => w_witness2)
  k_fill
  refine L2.walk_of (l := PySem.Challenge.rw_fewshapes_k20_first_unlike) (n := 63) (k := 7) (x := "script") (CX := fun _ => L2.CX0) (sp := fun w => Fs.spLaw _) rfl (by decide) rfl ⟨rfl, by decide, by decide⟩ (fun w h Y => PySem.W.kIn_of Y) ?F (fun _ _ a ns hl _ hS => ⟨a, ns, rfl, hS, hl, fun _ => rfl⟩) (fun _ _ _ _ _ h => h)
  case F =>
    intro w mg fa h KX G hmg
    refine' Fs.all_mk Fs.law_holds KX G hmg ?a1 ?l1 ?c1 ?k1 ?a2 ?l2 ?c2 ?k2 ?a3 ?l3 ?c3 ?k3 ?a4 ?l4 ?c4 ?k4 ?a5 ?l5 ?c5 ?k5 ?a6 ?l6 ?c6 ?k6 ?a7 ?l7 ?c7 ?k7 ?a8 ?l8 ?c8 ?k8 ?a9 ?l9 ?c9 ?k9 ?a10 ?l10 ?c10 ?k10 ?a11 ?l11 ?c11 ?k11 ?a12 ?l12 ?c12 ?k12 ?a13 ?l13 ?c13 ?k13 ?a14 ?l14 ?c14 ?k14 ?a15 ?l15 ?c15 ?k15 ?a16 ?l16 ?c16 ?k16 ?a17 ?l17 ?c17 ?k17 ?a18 ?l18 ?c18 ?k18 ?a19 ?l19 ?c19 ?k19 ?a20 ?l20 ?c20 ?k20 ?z0 ?z1 ?z2 ?z3 ?z4 ?z5 ?z6 ?z7 ?z8 ?z9 ?z10 ?y0 ?y1 ?y2 ?y3 ?y4
    (case a1 => k_is)
    (case l1 => k_is)
    (case c1 => k_is)
    (case k1 => k_is)
    (case a2 => k_is)
    (case l2 => k_is)
    (case c2 => k_is)
    (case k2 => k_is)
    (case a3 => k_is)
    (case l3 => k_is)
    (case c3 => k_is)
    (case k3 => k_is)
    (case a4 => k_is)
    (case l4 => k_is)
    (case c4 => k_is)
    (case k4 => k_is)
    (case a5 => k_is)
    (case l5 => k_is)
    (case c5 => k_is)
    (case k5 => k_is)
    (case a6 => k_is)
    (case l6 => k_is)
    (case c6 => k_is)
    (case k6 => k_is)
    (case a7 => k_is)
    (case l7 => k_is)
    (case c7 => k_is)
    (case k7 => k_is)
    (case a8 => k_is)
    (case l8 => k_is)
    (case c8 => k_is)
    (case k8 => k_is)
    (case a9 => k_is)
    (case l9 => k_is)
    (case c9 => k_is)
    (case k9 => k_is)
    (case a10 => k_is)
    (case l10 => k_is)
    (case c10 => k_is)
    (case k10 => k_is)
    (case a11 => k_is)
    (case l11 => k_is)
    (case c11 => k_is)
    (case k11 => k_is)
    (case a12 => k_is)
    (case l12 => k_is)
    (case c12 => k_is)
    (case k12 => k_is)
    (case a13 => k_is)
    (case l13 => k_is)
    (case c13 => k_is)
    (case k13 => k_is)
    (case a14 => k_is)
    (case l14 => k_is)
    (case c14 => k_is)
    (case k14 => k_is)
    (case a15 => k_is)
    (case l15 => k_is)
    (case c15 => k_is)
    (case k15 => k_is)
    (case a16 => k_is)
    (case l16 => k_is)
    (case c16 => k_is)
    (case k16 => k_is)
    (case a17 => k_is)
    (case l17 => k_is)
    (case c17 => k_is)
    (case k17 => k_is)
    (case a18 => k_is)
    (case l18 => k_is)
    (case c18 => k_is)
    (case k18 => k_is)
    (case a19 => k_is)
    (case l19 => k_is)
    (case c19 => k_is)
    (case k19 => k_is)
    (case a20 => k_is)
    (case l20 => k_is)
    (case c20 => k_is)
    (case k20 => k_is)
    (case z0 => k_is)
    (case z1 => k_is)
    (case z2 => k_is)
    (case z3 => k_is)
    (case z4 => k_is)
    (case z5 => k_is)
    (case z6 => k_is)
    (case z7 => k_is)
    (case z8 => k_is)
    (case z9 => k_is)
    (case z10 => k_is)
    (case y0 => k_is)
    (case y1 => k_is)
    (case y2 => k_is)
    (case y3 => k_is)
    (case y4 => k_is)
