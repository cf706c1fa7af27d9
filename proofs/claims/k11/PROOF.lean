import PyProof.Rows.All
import Wide.All
import OpenK.AllK
import Wide.FinOn
import HandS.ForMost
import HandS.Exc
import HandS.TryOnly
import HandS.ExcOwn
import HandS.WordsExc
import HandS.IsInst
import HandS.Wide
import HandS.WideBits
import HandS.SortInts
import HandS.Style
import HandS.More
import HandS.Conv
import HandS.Small
import HandS.RaiseMore
import HandS.Walk
import HandS.SetFor
import KE.DataFind
import KE.DataCmp
import KE.SortData
import HandS.Deep
import PySem.Challenge.RW_fewshapes_k11_whole_by_all_sums
set_option Elab.async false
set_option linter.all false
set_option maxRecDepth 100000
set_option maxHeartbeats 4000000
namespace Fs
open PySem PySem.Spec PyProof.Rows L2
abbrev Fg := PySem.W.Frag
/-! ### readings: one name an operation, whatever the kinds -/
def rAddS : R2 := fun x y H Q => ∃ i j, x = .str i ∧ y = .str j ∧ i.length + j.length ≤ sizeLine ∧ Q (.str (i ++ j)) H
def uAdd : R2 := fun x y H Q => rI0 (fun i j => .int (i + j)) x y H Q ∨ (rAddS x y H Q ∨ rCat x y H Q)
def uSub : R2 := rI0 fun i j => .int (i - j)
def uMul : R2 := fun x y H Q => rI CMulX (fun i j => .int (i * j)) x y H Q ∨ (rI CMul (fun i j => .int (i * j)) x y H Q ∨ rRep x y H Q)
def uDiv : R2 := rI CDivW fun i j => .int (i / j)
def uMod : R2 := rI (fun _ j => 0 < j) fun i j => .int (i % j)
def uPow : R2 := rI CPow fun i j => .int (i ^ j.toNat)
def uAnd : R2 := rI0 fun i j => .int (Builtin.bitAnd i j)
def uOr : R2 := rI0 fun i j => .int (Builtin.bitOr i j)
def uLt : R2 := rI0 fun i j => .bl (decide (i < j))
def uLe : R2 := rI0 fun i j => .bl (decide (i ≤ j))
def uGt : R2 := rI0 fun i j => .bl (decide (j < i))
def uGe : R2 := rI0 fun i j => .bl (decide (j ≤ i))
def uEq (K : Fg) : R2 := fun x y H Q => rEq x y H Q ∨ rEqD K x y H Q
def uNe (K : Fg) : R2 := fun x y H Q => rNe x y H Q ∨ rNeD K x y H Q
def uIn (K : Fg) : R2 := rIn K false
def uNotIn (K : Fg) : R2 := rIn K true
def rIsN : R2 := fun x y H Q => y = .non ∧ Q (.bl (decide (x = .non))) H
def rNotN : R2 := fun x y H Q => y = .non ∧ Q (.bl (!decide (x = .non))) H
def uIs : R2 := fun x y H Q => rIsN x y H Q ∨ rIsB x y H Q
def uIsNot : R2 := fun x y H Q => rNotN x y H Q ∨ rNotB x y H Q
def uIx (K : Fg) : R2 := rIx K
def uSl (K : Fg) : V → Option Int → Option Int → Hp → VK → Prop := fun x lo hi H Q => rSlL K x lo hi H Q ∨ rSlS x lo hi H Q
def uNeg : V → Hp → VK → Prop := rU fun i => .int (-i)
abbrev RC := List V → Hp → VK → Prop
def uLen (K : Fg) : RC := fun xs H Q => ∃ x n, xs = [x] ∧ LenV K x H n ∧ Q (.int n) H
def rMax2 : RC := fun xs H Q => ∃ i j, xs = [.int i, .int j] ∧ Q (.int (if j > i then j else i)) H
def rMin2 : RC := fun xs H Q => ∃ i j, xs = [.int i, .int j] ∧ Q (.int (if j < i then j else i)) H
def uMax (K : Fg) : RC := fun xs H Q => rMax2 xs H Q ∨ rMax K xs H Q
def uMin (K : Fg) : RC := fun xs H Q => rMin2 xs H Q ∨ rMin K xs H Q
def rInt1 : RC := fun xs H Q => (∃ i, xs = [.int i] ∧ Q (.int i) H) ∨ ∃ k, xs = [.bl k] ∧ Q (.int (if k then 1 else 0)) H
def rIntS : RC := fun xs H Q => ∃ a n, xs = [.str a] ∧ PySem.intText? a = some n ∧ a.length ≤ 640 ∧ Q (.int n) H
def uInt : RC := fun xs H Q => rInt1 xs H Q ∨ rIntS xs H Q
def uAbs : RC := fun xs H Q => ∃ i, xs = [.int i] ∧ Q (.int (if i < 0 then -i else i)) H
def uIsi (K : Fg) : RC := rIsi K
def uSum (K : Fg) : RC := rSum K
def rListOf (K : Fg) : RC := fun xs H Q => ∃ p ys, xs = [.ref p] ∧ (SqL K H p ys ∨ SqT K H p ys) ∧ ∀ l, H l = none → Q (.ref l) (upd H l (.lst ys))
def uSet : TSet := fun o i v H Q => rSetL o i v H Q ∨ rSetD o i v H Q
/-- sorted(d), the keys ints, any number of them -/
def rSortedDA : RC := fun xs H Q => ∃ (a : Addr) (kvs : List (Key × V)) (ks : List Int), xs = [.ref a] ∧ Rd H a (.dK kvs) ∧ kvs.map (·.1) = ks.map Sum.inl ∧
    ∀ (ys : List Int) (p : Addr), ys.Perm ks → ys.Pairwise (· ≤ ·) → H p = none → Q (.ref p) (upd H p (.lst (ys.map V.int)))
def uSorted (K : Fg) : RC := fun xs H Q => rSortedI K xs H Q ∨ rSortedDA xs H Q
def uList (K : Fg) : RC := fun xs H Q => rListOf K xs H Q ∨ rListD xs H Q
/-- raise C(..): the wish of an error of the class at C -/
def tRz (E : XK) (C : Addr) : TS := fun _ _ H => E (.ref C) none H
/-- a promise at calls that let nothing out -/
def sp0 (sp : Sp) : Sp := fun vs H Q _ => sp vs H Q E0
/-- what the readings lean on: the written part, where the classes stand -/
structure Gx where
  K : Fg
  C : String → Addr
section
variable {X : Cx}
theorem o_add : OpR X (binaryOp .Add) uAdd := op_add.or (op_add_str.or op_cat)
theorem o_sub : OpR X (binaryOp .Sub) uSub := op_sub
theorem o_mul : OpR X (binaryOp .Mult) uMul := op_mulX.or (op_mul.or op_rep)
theorem o_div : OpR X (binaryOp .FloorDiv) uDiv := op_fdivW
theorem o_mod : OpR X (binaryOp .Mod) uMod := op_mod
theorem o_pow : OpR X (binaryOp .Pow) uPow := op_pow
theorem o_lt : OpR X (compareOp .Lt) uLt := op_lt
theorem o_le : OpR X (compareOp .LtE) uLe := op_le
theorem o_gt : OpR X (compareOp .Gt) uGt := op_gt
theorem o_ge : OpR X (compareOp .GtE) uGe := op_ge
theorem o_eq (hu : X.A.units + 64 < cLine) : OpR X (compareOp .Eq) (uEq X.K) := op_eq.or (op_eqD hu)
theorem o_ne (hu : X.A.units + 64 < cLine) : OpR X (compareOp .NotEq) (uNe X.K) := op_ne.or (op_neD hu)
theorem o_in : OpR X (compareOp .In) (uIn X.K) := op_in_seq
theorem o_notIn : OpR X (compareOp .NotIn) (uNotIn X.K) := op_notIn_seq
theorem o_isNot : OpR X (compareOp .IsNot) uIsNot := op_notN.or op_notBl
theorem o_ix : IxR X (uIx X.K) := ix_seq
theorem o_sl : SlR X (uSl X.K) := sl_list.or sl_str
theorem o_neg : UnR X (unaryOp .USub) uNeg := un_neg
theorem k_len : CallR X (.builtin "len") (uLen X.K) := call_len
theorem k_max (hc : X.calm = true) : CallR X (.builtin "max") (uMax X.K) := (call_max2 hc).or (cr_max hc)
theorem k_min (hc : X.calm = true) : CallR X (.builtin "min") (uMin X.K) := (call_min2 hc).or (cr_min hc)
theorem k_int : CallR X (.type "int") uInt := call_int1.or call_int_str
theorem k_isi : CallR X (.builtin "isinstance") (uIsi X.K) := call_isi
theorem k_sum (hc : X.calm = true) : CallR X (.builtin "sum") (uSum X.K) := cr_sum hc
theorem s_any (hu : X.A.units + 1 < cLine) : PSet X uSet := by
  intro pins s σ H o i v ov iv u Q I ro ri rv h
  rcases h with h | h
  · exact set_list pins s σ H o i v ov iv u Q I ro ri rv h
  · exact set_dict hu pins s σ H o i v ov iv u Q I ro ri rv h
theorem k_sortedDA (hcalm : X.calm = true) : CallR X (.builtin "sorted") rSortedDA := by
  intro pins s σ H xs us Q I r q
  obtain ⟨a, kvs, ks, ex, hd, hks, q⟩ := q
  subst ex
  obtain ⟨u, eu, rx⟩ := vals1 r
  subst eu
  cases rx
  obtain ⟨z, lo, vs, rel, dd⟩ := dk_rd I.hok hd
  obtain ⟨ep, hat⟩ := dd.dictAt
  have hkeys : vs.map (·.1) = ks.map Sum.inl := rel.keys.symm.trans hks
  have hl : vs.length = ks.length := by
    have e := congrArg List.length hkeys
    rw [List.length_map, List.length_map] at e
    exact e
  have h16 : vs.length ≤ sizeLine := by rw [← rel.length]; exact z
  refine Calls.call_function_entry PyProof.Rows.kind_sorted PyProof.Rows.plain_sorted PyProof.Rows.entry_sorted (PyProof.Rows.args_sorted1 _) ?_
  unfold Builtin.«sorted»
  refine wpAny_bind (m := checkCount "sorted" 1 1 _) (wpAny_pure ?_)
  refine wpAny_bind (PySem.W.kdu_collect (A := X.A.in1) (PySem.W.kdl_dict (knd := mixKind X.prog X.w) (kvs := vs) (ep := ep) lo) (I.ok.hd hcalm) hat h16 fun h' tk acc hk hacc => ?_)
  have hal : acc.toList.length = ks.length := by rw [Array.length_toList, hacc.1, hl]
  have hS : IntsAre acc.toList ks := ints_each hal fun j v e => by
    obtain ⟨k, x, e1, e2⟩ := hacc.2 j v (by rw [← Array.getElem?_toList]; exact e)
    have e3 : (vs.map (·.1))[j]? = some k := by rw [List.getElem?_map, e1]; rfl
    rw [hkeys, List.getElem?_map] at e3
    cases e4 : ks[j]? with
    | none => rw [e4] at e3; cases e3
    | some y =>
      rw [e4] at e3
      have e5 : Sum.inl y = k := Option.some.inj e3
      subst e5
      rcases keyIs_shape (show keyIs (Sum.inl y) v = true from e2) with ⟨i, t, ek, ev⟩ | ⟨z, t, ek, ev⟩
      · cases ek
        exact ⟨y, t, rfl, ev⟩
      · cases ek
  have I1 : Inv X pins σ H { s with heap := h', toks := tk } := I.kept hk
  have hz2 : acc.toList.length ≤ sizeLine := by rw [hal, ← hl]; exact h16
  refine wpAny_bind (wpAny_newList ?_ hz2)
  have hoL : (h'.push (seqObj "list" acc.toList.toArray 0)).get? h'.objs.size = some (seqObj "list" acc.toList.toArray 0) := Heap.get?_push_size _ rfl
  show wpAny _ _ _ _ _ { s with heap := h'.push (seqObj "list" acc.toList.toArray 0), toks := tk }
  refine wpAny_bind (wpAny_holding (wpAny_call_entry PyProof.Rows.slot_list_sort ⟨_, hoL, rfl⟩ PyProof.Rows.entry_list_sort
    (SrtO.list_sort_ord (s := { s with heap := h'.push (seqObj "list" acc.toList.toArray 0), toks := tk }) SrtO.swo_int hoL hz2 (fun h2 => SrtO.ints_sortable hS h2) fun out g1 g2 => ⟨_, rfl, ?_⟩) (PyProof.Rows.args_list_sort _)))
  obtain ⟨k1, k2, k3⟩ := SrtO.ints_out hS g1 g2
  obtain ⟨e', he'⟩ := PyProof.Rows.sortedHeap_at (vs := acc.toList) (out := out.toArray) hoL
  have hlen : ((out.map SrtO.iv).map V.int).length ≤ sizeLine := by
    rw [List.length_map, k2.length_eq, ← hl]
    exact h16
  refine wpAny_pure ⟨_, rfl, .ref h'.objs.size, upd H h'.objs.size (.lst ((out.map SrtO.iv).map V.int)), I1.laid (t' := tk) (fun b u e => ?_) (Nat.le_refl _)
    (show ObjOk X.prog X.w _ _ _ (.lst ((out.map SrtO.iv).map V.int)) from ⟨hlen, out, e', vals_of_ints k1, he'⟩), rfl, q _ _ k2 k3 (I1.hok.fresh (Nat.le_refl _))⟩
  have hb : b < h'.objs.size := Heap.lt_size e
  rw [PyProof.Rows.sortedHeap_old (Nat.ne_of_lt hb) (by rw [size_push']; exact Nat.lt_succ_of_lt hb)]
  exact Heap.get?_push_of_some _ e
theorem k_sorted (hc : X.calm = true) : CallR X (.builtin "sorted") (uSorted X.K) := cr_sortedI.or (k_sortedDA hc)
theorem k_list (hc : X.calm = true) : CallR X (.type "list") (uList X.K) := call_list_of.or (call_list_dK hc)
/-- slots of names -/
theorem pgn (i : Nat) {x : Str} {pos : Pos} (hN : X.N.Nodup) (hi : X.N[i]? = some x := by rfl) (hx : Loc X.env.scope x := by first | exact Or.inl rfl | exact Or.inr rfl) (hf : X.fn x = true ∨ X.env.scope.names.lookup x = some .local := by first | exact .inl rfl | exact .inr rfl) : PG X (.Name x pos) (gName i) := pg_name hN hi hx hf
theorem pst (i : Nat) {x : Str} {e : Expr} {te : TE} {pos pos' : Pos} (hN : X.N.Nodup) (he : PE X e te) (hi : X.N[i]? = some x := by rfl) (hx : Loc X.env.scope x := by first | exact Or.inl rfl | exact Or.inr rfl) (hs : swapsWith e (some (.Name x pos')) pos.line X.env = pure false := by rfl) (hf : X.fn x = true ∨ X.env.scope.names.lookup x = some .local := by first | exact .inl rfl | exact .inr rfl) :
    PS X (.Assign [.Name x pos'] e pos) (tAsg te (gName i)) := ps_set hN hi hx he hs hf
theorem pau (i : Nat) {x : Str} {e : Expr} {te : TE} {op : Operator} {ti : TIp} {pos pos' : Pos} (hN : X.N.Nodup) (he : PE X e te) (ho : PIp X op ti) (hi : X.N[i]? = some x := by rfl) (hx : Loc X.env.scope x := by first | exact Or.inl rfl | exact Or.inr rfl) (hf : X.fn x = true ∨ X.env.scope.names.lookup x = some .local := by first | exact .inl rfl | exact .inr rfl) :
    PS X (.AugAssign (.Name x pos') op e pos) (tAug i te ti) := ps_aug hN hi hx he ho hf
end
/-! ### calls that let nothing out -/
section
variable {X : Cx} {k : Nat} {f : Addr} {fd : FuncData} {ps : List Str} {sp : Sp} {x : Str} {p pos : Pos} {e : Expr} {es : List Expr} {t : TA}
theorem pcall (F : FnOk X.prog X.w X.K X.mg X.base CX0 k f fd ps (sp0 sp)) (hr : Room k X.A) (hg : Gl X x) (hm : X.mg x = some (.ref f)) (hk : PySem.W.keepIn X.K (.ref f) = true) (hb : Binds X.K fd ps []) (ha : PA X (e :: es) t)
    (hdb : (x == ("__debug__" : Str)) = false := by decide) (he : starEach (e :: es) X.env = (false, eval e X.env) :: starEach es X.env := by rfl) (hpl : (backTo pos (starEach es X.env)).any (·.1) = false := by rfl) :
    PE X (.Call (.Name x p) (e :: es) [] pos) (tCall sp [] E0 t) := pe_call (sp := sp0 sp) F hr hg hm hk hb .nil pass0 ha hdb he hpl
theorem prz0 {st : Stmt} {C : Addr} : PS X st (tRz E0 C) := ⟨fun _ _ _ _ _ _ h => h.elim⟩
end
/-! ### steps of a reading -/
section
variable {K : Fg} {D : Ends} {σ : L2.St} {H : Hp} {t u : TS} {te ta tb tc : TE} {c c2 : TT} {g : TG} {Q : VK} {QB : Bool → Hp → Prop} {QA : List V → Hp → Prop} {x y v : V} {i j : Int} {b : Bool} {a p l : Addr} {xs ys : List V} {z s : Str}
theorem i_seq (h : t { D with nx := u D } σ H) : tSeq t u D σ H := h
theorem i_next (h : D.nx σ H) : tNext D σ H := h
theorem i_asg (h : te σ H fun x H1 => g x σ H1 D.nx) : tAsg te g D σ H := h
theorem i_gname {n : Nat} {R : L2.St → Hp → Prop} (h : R (σ.set n (some v)) H) : gName n v σ H R := h
theorem i_ifS (h : c σ H fun b H1 => if b = true then t D σ H1 else u D σ H1) : tIfS c t u D σ H := h
theorem i_ret (h : te σ H D.rt) : tRet te D σ H := h
theorem i_retN (h : D.rt .non H) : tRetN D σ H := h
theorem i_drop (h : te σ H fun _ H1 => D.nx σ H1) : tDrop te D σ H := h
theorem i_brk (h : D.bk σ H) : tBreak D σ H := h
theorem i_aug {n : Nat} {ti : TIp} (hx : σ[n]? = some (some x)) (h : te σ H fun y H1 => ti x y H1 fun z H2 => D.nx (σ.set n (some z)) H2) : tAug n te ti D σ H := ⟨x, hx, h⟩
theorem i_ipI {f : Int → Int → Int} (h : Q (.int (f i j)) H) : ipI f (.int i) (.int j) H Q := ⟨i, j, rfl, rfl, h⟩
theorem i_var {n : Nat} (hx : σ[n]? = some (some v)) (h : Q v H) : tVar n σ H Q := ⟨v, hx, h⟩
theorem i_c (h : Q v H) : tC v σ H Q := h
theorem i_op {r : R2} (h : ta σ H fun x H1 => tb σ H1 fun y H2 => r x y H2 Q) : tOp r ta tb σ H Q := h
theorem i_un {r : V → Hp → VK → Prop} (h : ta σ H fun x H1 => r x H1 Q) : tUn r ta σ H Q := h
theorem i_call {sp : Sp} {E : XK} {t : TA} (h : t σ H fun vs H1 => sp vs H1 Q E) : tCall sp [] E t σ H Q := by
  have e : (fun vs H1 => sp (vs ++ []) H1 Q E) = fun vs H1 => sp vs H1 Q E := by
    funext vs H1
    rw [List.append_nil]
  show t σ H fun vs H1 => sp (vs ++ []) H1 Q E
  rw [e]
  exact h
theorem i_cb {r : RC} {t : TA} (h : t σ H fun vs H1 => r vs H1 Q) : tCB r t σ H Q := h
theorem i_nil (h : QA [] H) : tNil σ H QA := h
theorem i_cons {tr : TA} (h : ta σ H fun x H1 => tr σ H1 fun xs H2 => QA (x :: xs) H2) : tCons ta tr σ H QA := h
theorem i_bm {T : String} {r : V → List V → Hp → VK → Prop} {t : TA} (h : ta σ H fun x H1 => tyV K T x H1 ∧ t σ H1 fun xs H2 => r x xs H2 Q) : tBM K T r ta t σ H Q := h
theorem i_bm0 {T : String} {r : V → List V → Hp → VK → Prop} (h : ta σ H fun x H1 => tyV K T x H1 ∧ r x [] H1 Q) : tBM0 K T r ta σ H Q := h
theorem i_lst {t : TA} (h : t σ H fun xs H1 => xs.length ≤ sizeLine ∧ ∀ p, H1 p = none → Q (.ref p) (upd H1 p (.lst xs))) : tLst t σ H Q := h
theorem i_tup {t : TA} (h : t σ H fun xs H1 => xs.length ≤ sizeLine ∧ ∀ p, H1 p = none → Q (.ref p) (upd H1 p (.tup xs))) : tTup t σ H Q := h
theorem i_sl {r : V → Option Int → Option Int → Hp → VK → Prop} {tl th : TO} (h : te σ H fun x H1 => tl σ H1 fun l H2 => th σ H2 fun u H3 => r x l u H3 Q) : tSl r te tl th σ H Q := h
theorem i_nopart {R : Option Int → Hp → Prop} (h : R none H) : tNoPart σ H R := h
theorem i_part {R : Option Int → Hp → Prop} (h : te σ H fun x H1 => ∃ i, x = .int i ∧ R (some i) H1) : tPart te σ H R := h
theorem i_exint {R : Int → Prop} (h : R i) : ∃ j, V.int i = .int j ∧ R j := ⟨i, rfl, h⟩
theorem i_exbl {R : Bool → Prop} (h : R b) : ∃ j, V.bl b = .bl j ∧ R j := ⟨b, rfl, h⟩
theorem i_if (h : c σ H fun b H1 => if b = true then ta σ H1 Q else tb σ H1 Q) : tIf c ta tb σ H Q := h
theorem i_andV (h : ta σ H fun x H1 => ∃ c, x = .bl c ∧ if c = true then tb σ H1 Q else Q (.bl false) H1) : tAndV ta tb σ H Q := h
theorem i_orV (h : ta σ H fun x H1 => ∃ c, x = .bl c ∧ if c = true then Q (.bl true) H1 else tb σ H1 Q) : tOrV ta tb σ H Q := h
theorem i_notV (h : ta σ H fun x H1 => ∃ c, x = .bl c ∧ Q (.bl (!c)) H1) : tNotV ta σ H Q := h
theorem i_test (h : te σ H fun x H1 => ∃ k, x = .bl k ∧ QB k H1) : tTest te σ H QB := h
theorem i_B (h : te σ H fun x H1 => ∃ k, x = .bl k ∧ QB k H1) : tB te σ H QB := h
theorem i_and (h : c σ H fun b H1 => if b = true then c2 σ H1 QB else QB false H1) : tAnd c c2 σ H QB := h
theorem i_or (h : c σ H fun b H1 => if b = true then QB true H1 else c2 σ H1 QB) : tOr c c2 σ H QB := h
theorem i_not (h : c σ H fun b H1 => QB (!b) H1) : tNot c σ H QB := h
theorem i_yes (h : QB true H) : tYes σ H QB := h
theorem i_chain {r r' : R2} (h : ta σ H fun x H1 => tb σ H1 fun y H2 => r x y H2 fun z H3 => ∃ k, z = .bl k ∧ (if k = true then tc σ H3 fun w' H4 => r' y w' H4 Q else Q (.bl false) H3)) : tChain r r' ta tb tc σ H Q := h
/-! numbers -/
theorem i_add (h : Q (.int (i + j)) H) : uAdd (.int i) (.int j) H Q := .inl ⟨i, j, rfl, rfl, h⟩
theorem i_addL (h1 : H a = some (.lst xs)) (h2 : H p = some (.lst ys)) (hz : xs.length + ys.length ≤ sizeLine) (h : ∀ q, H q = none → Q (.ref q) (upd H q (.lst (xs ++ ys)))) : uAdd (.ref a) (.ref p) H Q := .inr (.inr ⟨a, p, xs, ys, rfl, rfl, h1, h2, hz, h⟩)
theorem i_sub (h : Q (.int (i - j)) H) : uSub (.int i) (.int j) H Q := ⟨i, j, rfl, rfl, h⟩
theorem i_mulL (h1 : -(2 ^ 64) < i ∧ i < 2 ^ 64) (h : Q (.int (i * j)) H) : uMul (.int i) (.int j) H Q := .inr (.inl ⟨i, j, rfl, rfl, .inl h1, h⟩)
theorem i_mulR (h1 : -(2 ^ 64) < j ∧ j < 2 ^ 64) (h : Q (.int (i * j)) H) : uMul (.int i) (.int j) H Q := .inr (.inl ⟨i, j, rfl, rfl, .inr h1, h⟩)
theorem i_mulX (h1 : CMulX i j) (h : Q (.int (i * j)) H) : uMul (.int i) (.int j) H Q := .inl ⟨i, j, rfl, rfl, h1, h⟩
theorem i_div (h1 : CDivW i j) (h : Q (.int (i / j)) H) : uDiv (.int i) (.int j) H Q := ⟨i, j, rfl, rfl, h1, h⟩
theorem div_ok (h0 : 0 < j) (h1 : j < 2 ^ 64) : CDivW i j := wide_div (b := 64) h0 (by omega) (by decide) (by decide)
theorem i_mod (h1 : 0 < j) (h : Q (.int (i % j)) H) : uMod (.int i) (.int j) H Q := ⟨i, j, rfl, rfl, h1, h⟩
theorem i_pow (h1 : CPow i j) (h : Q (.int (i ^ j.toNat)) H) : uPow (.int i) (.int j) H Q := ⟨i, j, rfl, rfl, h1, h⟩
theorem i_band (h : Q (.int (Builtin.bitAnd i j)) H) : uAnd (.int i) (.int j) H Q := ⟨i, j, rfl, rfl, h⟩
theorem i_bor (h : Q (.int (Builtin.bitOr i j)) H) : uOr (.int i) (.int j) H Q := ⟨i, j, rfl, rfl, h⟩
theorem i_neg (h : Q (.int (-i)) H) : uNeg (.int i) H Q := ⟨i, rfl, h⟩
theorem i_lt (h : Q (.bl (decide (i < j))) H) : uLt (.int i) (.int j) H Q := ⟨i, j, rfl, rfl, h⟩
theorem i_le (h : Q (.bl (decide (i ≤ j))) H) : uLe (.int i) (.int j) H Q := ⟨i, j, rfl, rfl, h⟩
theorem i_gt (h : Q (.bl (decide (j < i))) H) : uGt (.int i) (.int j) H Q := ⟨i, j, rfl, rfl, h⟩
theorem i_ge (h : Q (.bl (decide (j ≤ i))) H) : uGe (.int i) (.int j) H Q := ⟨i, j, rfl, rfl, h⟩
theorem dec_VI : decide (V.int i = V.int j) = decide (i = j) := by rw [Bool.eq_iff_iff]; simp
theorem dec_VS : decide (V.str z = V.str s) = decide (z = s) := by rw [Bool.eq_iff_iff]; simp
theorem i_eqI (h : Q (.bl (decide (i = j))) H) : uEq K (.int i) (.int j) H Q := .inl ⟨rfl, by rw [dec_VI]; exact h⟩
theorem i_neI (h : Q (.bl (!decide (i = j))) H) : uNe K (.int i) (.int j) H Q := .inl ⟨rfl, by rw [dec_VI]; exact h⟩
theorem i_eqS (h : Q (.bl (decide (z = s))) H) : uEq K (.str z) (.str s) H Q := .inl ⟨rfl, by rw [dec_VS]; exact h⟩
theorem i_neS (h : Q (.bl (!decide (z = s))) H) : uNe K (.str z) (.str s) H Q := .inl ⟨rfl, by rw [dec_VS]; exact h⟩
theorem i_eqIS (h : Q (.bl false) H) : uEq K (.int i) (.str s) H Q := .inl ⟨rfl, by rw [decide_eq_false (fun z => nomatch z)]; exact h⟩
theorem i_neIS (h : Q (.bl true) H) : uNe K (.int i) (.str s) H Q := .inl ⟨rfl, by rw [decide_eq_false (fun z => nomatch z)]; exact h⟩
theorem i_eqIN (h : Q (.bl false) H) : uEq K (.int i) .non H Q := .inl ⟨rfl, by rw [decide_eq_false (fun z => nomatch z)]; exact h⟩
theorem i_neIN (h : Q (.bl true) H) : uNe K (.int i) .non H Q := .inl ⟨rfl, by rw [decide_eq_false (fun z => nomatch z)]; exact h⟩
theorem i_eqNI (h : Q (.bl false) H) : uEq K .non (.int i) H Q := .inl ⟨rfl, by rw [decide_eq_false (fun z => nomatch z)]; exact h⟩
theorem i_neNI (h : Q (.bl true) H) : uNe K .non (.int i) H Q := .inl ⟨rfl, by rw [decide_eq_false (fun z => nomatch z)]; exact h⟩
theorem i_neNN (h : Q (.bl false) H) : uNe K .non .non H Q := .inl ⟨rfl, by rw [decide_eq_true rfl]; exact h⟩
theorem i_isN (h : Q (.bl (decide (x = .non))) H) : uIs x .non H Q := .inl ⟨rfl, h⟩
theorem i_notN (h : Q (.bl (!decide (x = .non))) H) : uIsNot x .non H Q := .inl ⟨rfl, h⟩
theorem i_isB {b2 : Bool} (h : Q (.bl (decide (b = b2))) H) : uIs (.bl b) (.bl b2) H Q := .inr ⟨b, b2, rfl, rfl, h⟩
theorem i_notB {b2 : Bool} (h : Q (.bl (!decide (b = b2))) H) : uIsNot (.bl b) (.bl b2) H Q := .inr ⟨b, b2, rfl, rfl, h⟩
theorem i_max2 (h : Q (.int (if j > i then j else i)) H) : uMax K [.int i, .int j] H Q := .inl ⟨i, j, rfl, h⟩
theorem i_min2 (h : Q (.int (if j < i then j else i)) H) : uMin K [.int i, .int j] H Q := .inl ⟨i, j, rfl, h⟩
theorem i_minL {ns : List Int} (hs : SqL K H a (ns.map V.int)) (h0 : 0 < ns.length) (h : ∀ m, m ∈ ns → (∀ y, y ∈ ns → m ≤ y) → Q (.int m) H) : uMin K [.ref a] H Q := .inr ⟨a, ns, rfl, hs, h0, h⟩
theorem i_sumL {ns : List Int} (hs : SqL K H a (ns.map V.int)) (h : Q (.int ns.sum) H) : uSum K [.ref a] H Q := ⟨a, ns, rfl, hs, h⟩
theorem i_intI (h : Q (.int i) H) : uInt [.int i] H Q := .inl (.inl ⟨i, rfl, h⟩)
theorem i_intB (h : Q (.int (if b then 1 else 0)) H) : uInt [.bl b] H Q := .inl (.inr ⟨b, rfl, h⟩)
theorem i_abs (h : Q (.int (if i < 0 then -i else i)) H) : uAbs [.int i] H Q := ⟨i, rfl, h⟩
theorem i_lenL (hs : SqL K H a xs) (h : Q (.int xs.length) H) : uLen K [.ref a] H Q := ⟨_, xs.length, rfl, .inl ⟨xs, hs, rfl⟩, h⟩
theorem i_ixL (hs : SqL K H a xs) (ha : atI xs i = some v) (h : Q v H) : uIx K (.ref a) (.int i) H Q := .inl ⟨a, xs, i, v, rfl, rfl, hs, ha, h⟩
theorem i_slL {lo hi : Option Int} (hs : SqL K H a xs) (h : ∀ p, H p = none → Q (.ref p) (upd H p (.lst (cutV xs lo hi)))) : uSl K (.ref a) lo hi H Q := .inl ⟨a, xs, rfl, hs, h⟩
theorem i_setL {R : Hp → Prop} {n : Nat} (hs : H a = some (.lst xs)) (hi : ixN xs.length i = some n) (h : R (upd H a (.lst (xs.set n v)))) : uSet (.ref a) (.int i) v H R := .inl ⟨a, xs, i, n, rfl, rfl, hs, hi, h⟩
theorem i_inL (hs : SqL K H a xs) (hx : flatV x = true) (hf : xs.all flatV = true) (h : Q (.bl (inV x xs)) H) : uIn K x (.ref a) H Q := ⟨a, xs, rfl, .inl hs, hx, hf, h⟩
theorem i_ninL (hs : SqL K H a xs) (hx : flatV x = true) (hf : xs.all flatV = true) (h : Q (.bl (!inV x xs)) H) : uNotIn K x (.ref a) H Q := ⟨a, xs, rfl, .inl hs, hx, hf, h⟩
theorem i_gsub {to ti : TE} {ts : TSet} {R : L2.St → Hp → Prop} (h : to σ H fun o H1 => ti σ H1 fun i H2 => ts o i v H2 fun H3 => R σ H3) : gSub to ti ts v σ H R := h
theorem i_app (hs : H a = some (.lst xs)) (hz : xs.length < sizeLine) (h : Q .non (upd H a (.lst (xs ++ [v])))) : rAppend (.ref a) [v] H Q := ⟨a, xs, v, rfl, rfl, hs, hz, h⟩
/-! isinstance of what is no object -/
theorem i_isiII (h : Q (.bl true) H) : uIsi K [.int i, .ty "int"] H Q := ⟨_, _, _, _, true, rfl, .ty _, .base (.int i), kit_ty (by decide +kernel), h⟩
theorem i_isiIB (h : Q (.bl false) H) : uIsi K [.int i, .ty "bool"] H Q := ⟨_, _, _, _, false, rfl, .ty _, .base (.int i), kit_ty (by decide +kernel), h⟩
theorem i_isiIS (h : Q (.bl false) H) : uIsi K [.int i, .ty "str"] H Q := ⟨_, _, _, _, false, rfl, .ty _, .base (.int i), kit_ty (by decide +kernel), h⟩
theorem i_isiIL (h : Q (.bl false) H) : uIsi K [.int i, .ty "list"] H Q := ⟨_, _, _, _, false, rfl, .ty _, .base (.int i), kit_ty (by decide +kernel), h⟩
theorem i_isiSI (h : Q (.bl false) H) : uIsi K [.str s, .ty "int"] H Q := ⟨_, _, _, _, false, rfl, .ty _, .base (.str s), kit_ty (by decide +kernel), h⟩
theorem i_isiSB (h : Q (.bl false) H) : uIsi K [.str s, .ty "bool"] H Q := ⟨_, _, _, _, false, rfl, .ty _, .base (.str s), kit_ty (by decide +kernel), h⟩
theorem i_isiSS (h : Q (.bl true) H) : uIsi K [.str s, .ty "str"] H Q := ⟨_, _, _, _, true, rfl, .ty _, .base (.str s), kit_ty (by decide +kernel), h⟩
theorem i_isiSL (h : Q (.bl false) H) : uIsi K [.str s, .ty "list"] H Q := ⟨_, _, _, _, false, rfl, .ty _, .base (.str s), kit_ty (by decide +kernel), h⟩
theorem i_isiBI (h : Q (.bl true) H) : uIsi K [.bl b, .ty "int"] H Q := ⟨_, _, _, _, true, rfl, .ty _, .base (.bl b), kit_ty (by decide +kernel), h⟩
theorem i_isiBB (h : Q (.bl true) H) : uIsi K [.bl b, .ty "bool"] H Q := ⟨_, _, _, _, true, rfl, .ty _, .base (.bl b), kit_ty (by decide +kernel), h⟩
theorem i_isiBS (h : Q (.bl false) H) : uIsi K [.bl b, .ty "str"] H Q := ⟨_, _, _, _, false, rfl, .ty _, .base (.bl b), kit_ty (by decide +kernel), h⟩
theorem i_isiNI (h : Q (.bl false) H) : uIsi K [.non, .ty "int"] H Q := ⟨_, _, _, _, false, rfl, .ty _, .base .non, kit_ty (by decide +kernel), h⟩
theorem i_isiNB (h : Q (.bl false) H) : uIsi K [.non, .ty "bool"] H Q := ⟨_, _, _, _, false, rfl, .ty _, .base .non, kit_ty (by decide +kernel), h⟩
theorem i_isiLL (e : H a = some (.lst xs)) (h : Q (.bl true) H) : uIsi K [.ref a, .ty "list"] H Q := ⟨_, _, _, _, true, rfl, .ty _, .base (.lst e), kit_ty (by decide +kernel), h⟩
/-! a test that changes nothing, its answer known -/
def PureT (c : TT) (σ : L2.St) (H : Hp) (b : Bool) : Prop := ∀ QB : Bool → Hp → Prop, QB b H → c σ H QB
theorem i_andP {b1 b2 : Bool} (h1 : PureT c σ H b1) (h2 : b1 = true → PureT c2 σ H b2) (h : QB (b1 && b2) H) : tAnd c c2 σ H QB := h1 _ (by
  cases b1 with
  | true => exact h2 rfl _ h
  | false => exact h)
theorem i_orP {b1 b2 : Bool} (h1 : PureT c σ H b1) (h2 : b1 = false → PureT c2 σ H b2) (h : QB (b1 || b2) H) : tOr c c2 σ H QB := h1 _ (by
  cases b1 with
  | true => exact h
  | false => exact h2 rfl _ h)
/-! ways -/
theorem i_ite {d A B : Prop} [Decidable d] (h1 : d → A) (h2 : ¬ d → B) : if decide d = true then A else B := by
  by_cases h : d
  · rw [if_pos (decide_eq_true h)]; exact h1 h
  · rw [if_neg (by simp [h])]; exact h2 h
theorem i_iteN {d A B : Prop} [Decidable d] (h1 : d → B) (h2 : ¬ d → A) : if (!decide d) = true then A else B := by
  by_cases h : d
  · rw [if_neg (by simp [h])]; exact h1 h
  · rw [if_pos (by simp [h])]; exact h2 h
theorem i_T {d : Bool} {A B : Prop} (hd : d = true) (h : A) : if d = true then A else B := by rw [if_pos hd]; exact h
theorem i_F {d : Bool} {A B : Prop} (hd : d = false) (h : B) : if d = true then A else B := by rw [if_neg (by simp [hd])]; exact h
theorem i_both {d : Bool} {A B : Prop} (h1 : d = true → A) (h2 : d = false → B) : if d = true then A else B := by
  cases d
  · exact i_F rfl (h2 rfl)
  · exact i_T rfl (h1 rfl)
end
/-! ### heaps -/
theorem same_new {H : Hp} {p : Addr} {o : HO} (h : H p = none) : Same H (upd H p o) := fun b x e => by
  rw [upd_ne (ne_of_none e h)]
  exact e
/-- what was known at H0 stays, though an object that H0 did not know is turned -/
theorem same_mut {H0 H : Hp} {p : Addr} {o : HO} (s : Same H0 H) (h : H0 p = none) : Same H0 (upd H p o) := fun b x e => by
  rw [upd_ne (ne_of_none e h)]
  exact s b x e
theorem sq_of {K : Fg} {H : Hp} {a : Addr} {xs : List V} (h : H a = some (.lst xs)) : SqL K H a xs := .inl (.inl h)
theorem st_of {K : Fg} {H : Hp} {a : Addr} {xs : List V} (h : H a = some (.tup xs)) : SqT K H a xs := .inl (.inl h)
theorem at_nat {xs : List V} {n : Nat} {v : V} {i : Int} (e : i = (n : Int)) (h : xs[n]? = some v) : atI xs i = some v := by
  rw [e]; exact atI_nat h
theorem sz_le {n : Nat} (h : n ≤ 1000000) : n ≤ sizeLine := Nat.le_trans h (by decide)
theorem sz_lt {n : Nat} (h : n < 1000000) : n < sizeLine := Nat.lt_of_lt_of_le h (by decide)
/-- what stands outside a region is kept -/
def Keep (R : Addr → Prop) (H H' : Hp) : Prop := ∀ a o, ¬ R a → H a = some o → H' a = some o
theorem Keep.refl (R : Addr → Prop) (H : Hp) : Keep R H H := fun _ _ _ h => h
theorem Keep.trans {R : Addr → Prop} {H H1 H2 : Hp} (a : Keep R H H1) (b : Keep R H1 H2) : Keep R H H2 := fun x o n h => b x o n (a x o n h)
theorem Same.keep {R : Addr → Prop} {H H' : Hp} (s : Same H H') : Keep R H H' := fun a o _ h => s a o h
theorem keep_mut {R : Addr → Prop} {H0 H : Hp} {p : Addr} {o : HO} (s : Keep R H0 H) (h : H0 p = none) : Keep R H0 (upd H p o) := fun b x n e => by
  rw [upd_ne (ne_of_none e h)]
  exact s b x n e
theorem keep_in {R : Addr → Prop} {H0 H : Hp} {p : Addr} {o : HO} (s : Keep R H0 H) (h : R p) : Keep R H0 (upd H p o) := fun b x n e => by
  rw [upd_ne (fun z => n (by rw [z]; exact h))]
  exact s b x n e
/-! ### loops -/
def LoopK (J : It) (g : TG) (tb : TS) (D : Ends) (σ : L2.St) (H : Hp) : Prop := ∃ W : Nat → Nat → L2.St → Hp → Prop, (∃ m, W 0 m σ H) ∧ ∀ i m σ H, W i m σ H →
  (J.stop i H ∧ D.nx σ H) ∨ (J.go i H ∧ ∃ N : L2.St → Hp → Prop, (∀ σ' H', N σ' H' → ∃ m', m' < m ∧ W (i + 1) m' σ' H') ∧ ∀ x H', J.yld i H x H' → g x σ H' fun σ2 H2 => tb { D with nx := N, ct := N, bk := D.nx } σ2 H2)
def LcK (J : It) (g : TG) (tt : TT) (te : TE) (vs : List Nat) (σ : L2.St) (H1 : Hp) (Q : VK) : Prop := ∀ D, H1 D = none → ∃ W : Nat → Nat → Hp → Prop, (∃ m, W 0 m (upd H1 D (.lst []))) ∧ ∀ i m H, W i m H →
  (J.stop i H ∧ Q (.ref D) H) ∨ (J.go i H ∧ ∃ Nx : Hp → Prop, (∀ H', Nx H' → ∃ m', m' < m ∧ W (i + 1) m' H') ∧ ∀ x H', J.yld i H x H' → g x (wipe σ vs) H' fun σ2 H2 => wipe σ2 vs = wipe σ vs ∧ tt σ2 H2 fun b H3 =>
    if b = true then te σ2 H3 fun y H4 => ∃ acc, H4 D = some (.lst acc) ∧ acc.length < sizeLine ∧ Nx (upd H4 D (.lst (acc ++ [y]))) else Nx H3)
def RngA1 (vs : List V) (H : Hp) (R : It → Hp → Prop) : Prop := ∃ j : Int, vs = [.int j] ∧ -(2 ^ 62) ≤ j ∧ j < 2 ^ 62 ∧ R (Itr 0 j.toNat) H
def RngA2 (vs : List V) (H : Hp) (R : It → Hp → Prop) : Prop := ∃ i j : Int, vs = [.int i, .int j] ∧ (-(2 ^ 62) ≤ i ∧ i < 2 ^ 62 ∧ -(2 ^ 62) ≤ j ∧ j < 2 ^ 62) ∧ R (Itr i (j - i).toNat) H
def RngA3 (vs : List V) (H : Hp) (R : It → Hp → Prop) : Prop := ∃ (i j c : Int) (n : Nat), vs = [.int i, .int j, .int c] ∧ RgC i j c n ∧ R (Itc i c n) H
def LstA (K : Fg) (x : V) (H : Hp) (R : It → Hp → Prop) : Prop := ∃ a, x = .ref a ∧ (∃ xs, SqL K H a xs) ∧ R (Itl K a) H
def TupA (K : Fg) (x : V) (H : Hp) (R : It → Hp → Prop) : Prop := ∃ a, x = .ref a ∧ (∃ xs, SqT K H a xs) ∧ R (Itt K a) H
def EnumA (K : Fg) (vs : List V) (H : Hp) (R : It → Hp → Prop) : Prop := ∃ a xs, vs = [.ref a] ∧ SqL K H a xs ∧ R (Ite K a) H
def ZipA (K : Fg) (vs : List V) (H : Hp) (R : It → Hp → Prop) : Prop := ∃ a b xs ys, vs = [.ref a, .ref b] ∧ SqL K H a xs ∧ SqL K H b ys ∧ R (Itz K a b) H
def StrA (v : V) (H : Hp) (R : It → Hp → Prop) : Prop := ∃ x, v = .str x ∧ R (Its x) H
section
variable {K : Fg} {D : Ends} {σ : L2.St} {H : Hp} {tb : TS} {te : TE} {ta : TA} {c tt : TT} {g : TG} {Q : VK} {wi : TI} {R : It → Hp → Prop} {J : It} {vs : List Nat} {i j lo : Int} {n : Nat} {a b : Addr} {xs ys : List V} {z : Str}
theorem i_for (h : wi σ H fun J H1 => LoopK J g tb D σ H1) : tFor wi g tb D σ H := h
theorem i_lc (h : wi σ H fun J H1 => LcK J g tt te vs σ H1 Q) : tLc wi g tt te vs σ H Q := h
theorem i_rng1 (h : ta σ H fun vs H1 => RngA1 vs H1 R) : iRng1 ta σ H R := h
theorem i_rng2 (h : ta σ H fun vs H1 => RngA2 vs H1 R) : iRng2 ta σ H R := h
theorem i_rng3 (h : ta σ H fun vs H1 => RngA3 vs H1 R) : iRng3 ta σ H R := h
theorem i_list (h : te σ H fun x H1 => LstA K x H1 R) : iList K te σ H R := h
theorem i_tupl (h : te σ H fun x H1 => TupA K x H1 R) : iTup K te σ H R := h
theorem i_enum (h : ta σ H fun vs H1 => EnumA K vs H1 R) : iEnum K ta σ H R := h
theorem i_zip (h : ta σ H fun vs H1 => ZipA K vs H1 R) : iZip K ta σ H R := h
theorem i_str (h : te σ H fun x H1 => StrA x H1 R) : iStr te σ H R := h
theorem i_rngA1 (h : -(2 ^ 62) ≤ j ∧ j < 2 ^ 62) (k : R (Itr 0 j.toNat) H) : RngA1 [.int j] H R := ⟨j, rfl, h.1, h.2, k⟩
theorem i_rngA2 (h : -(2 ^ 62) ≤ i ∧ i < 2 ^ 62 ∧ -(2 ^ 62) ≤ j ∧ j < 2 ^ 62) (k : R (Itr i (j - i).toNat) H) : RngA2 [.int i, .int j] H R := ⟨i, j, rfl, h, k⟩
theorem i_lstA (h : SqL K H a xs) (k : R (Itl K a) H) : LstA K (.ref a) H R := ⟨a, rfl, ⟨xs, h⟩, k⟩
theorem i_enumA (h : SqL K H a xs) (k : R (Ite K a) H) : EnumA K [.ref a] H R := ⟨a, xs, rfl, h, k⟩
theorem i_strA (k : R (Its z) H) : StrA (.str z) H R := ⟨z, rfl, k⟩
/-- a for, by what holds ahead of each turn -/
theorem lk {G : Hp → Prop} {Y : Nat → Hp → V → Hp → Prop} (w : Walk J n G Y) (Pv : Nat → L2.St → Hp → Prop) (h0 : Pv 0 σ H) (hG : ∀ i σ H, i ≤ n → Pv i σ H → G H)
    (hs : ∀ i x σ H H', i < n → Pv i σ H → Y i H x H' → g x σ H' fun σ2 H2 => tb { D with nx := Pv (i + 1), ct := Pv (i + 1), bk := D.nx } σ2 H2) (hd : ∀ σ H, Pv n σ H → D.nx σ H) : LoopK J g tb D σ H := for_it w Pv h0 hG hs hd
theorem lk_range (Pv : Nat → L2.St → Hp → Prop) (h0 : Pv 0 σ H)
    (hs : ∀ i σ H, i < n → Pv i σ H → g (.int (lo + i)) σ H fun σ2 H2 => tb { D with nx := Pv (i + 1), ct := Pv (i + 1), bk := D.nx } σ2 H2) (hd : ∀ σ H, Pv n σ H → D.nx σ H) : LoopK (Itr lo n) g tb D σ H := for_range Pv h0 hs hd
theorem lk_list (Pv : Nat → L2.St → Hp → Prop) (h0 : Pv 0 σ H) (hl : ∀ i σ H, i ≤ xs.length → Pv i σ H → SqL K H a xs)
    (hs : ∀ i x σ H, xs[i]? = some x → Pv i σ H → g x σ H fun σ2 H2 => tb { D with nx := Pv (i + 1), ct := Pv (i + 1), bk := D.nx } σ2 H2) (hd : ∀ σ H, Pv xs.length σ H → D.nx σ H) : LoopK (Itl K a) g tb D σ H := for_list Pv h0 hl hs hd
def TurnK (W : Nat → L2.St → Hp → Prop) (m : Nat) (tb : TS) (D : Ends) (σ : L2.St) (H : Hp) : Prop := ∃ N : L2.St → Hp → Prop, (∀ σ' H', N σ' H' → ∃ m', m' < m ∧ W m' σ' H') ∧ tb { D with nx := N, ct := N, bk := D.nx } σ H
theorem i_turn {W : Nat → L2.St → Hp → Prop} {m : Nat} (h : tb { D with nx := fun σ2 H2 => ∃ m', m' < m ∧ W m' σ2 H2, ct := fun σ2 H2 => ∃ m', m' < m ∧ W m' σ2 H2, bk := D.nx } σ H) : TurnK W m tb D σ H := ⟨_, fun _ _ z => z, h⟩
theorem i_while (W : Nat → L2.St → Hp → Prop) (m0 : Nat) (h0 : W m0 σ H)
    (hs : ∀ m σ' H', W m σ' H' → c σ' H' fun b H1 => if b = true then TurnK W m tb D σ' H1 else D.nx σ' H1) : tWhile c tb D σ H := ⟨W, ⟨m0, h0⟩, hs⟩
/-- a comprehension -/
theorem lck {G : Hp → Prop} {Y : Nat → Hp → V → Hp → Prop} (w : Walk J n G Y) (Pv : Addr → Nat → Hp → Prop) (h0 : ∀ D, H D = none → Pv D 0 (upd H D (.lst []))) (hG : ∀ D i H, i ≤ n → Pv D i H → G H)
    (hs : ∀ D i x H H', i < n → Pv D i H → Y i H x H' → g x (wipe σ vs) H' fun σ2 H2 => wipe σ2 vs = wipe σ vs ∧ tt σ2 H2 fun b H3 =>
      if b = true then te σ2 H3 fun y H4 => ∃ acc, H4 D = some (.lst acc) ∧ acc.length < sizeLine ∧ Pv D (i + 1) (upd H4 D (.lst (acc ++ [y]))) else Pv D (i + 1) H3) (hd : ∀ D H', H D = none → Pv D n H' → Q (.ref D) H') : LcK J g tt te vs σ H Q :=
  fun D hD => lc_it w (Pv D) (h0 D hD) (hG D) (hs D) (fun H' p => hd D H' hD p)
/-- one that changes nothing: which turns give, and what -/
def given (f : Nat → Option V) : Nat → List V
  | 0 => []
  | n + 1 => given f n ++ (match f n with | some y => [y] | none => [])
theorem given_len (f : Nat → Option V) : ∀ n, (given f n).length ≤ n
  | 0 => Nat.le_refl _
  | n + 1 => by
    have h := given_len f n
    unfold given
    rw [List.length_append]
    cases f n <;> simp <;> omega
theorem lck_pure {G : Hp → Prop} {Y : Nat → Hp → V → Hp → Prop} (w : Walk J n G Y) (hn : n ≤ 100000) (f : Nat → Option V) (hG : ∀ H', Same H H' → G H')
    (turn : ∀ i x H1 H2 (KK : V → Hp → Prop) (NN : Hp → Prop), i < n → Same H H1 → Y i H1 x H2 → (∀ y H4, f i = some y → Same H1 H4 → KK y H4) → (∀ H3, f i = none → Same H1 H3 → NN H3) →
      g x (wipe σ vs) H2 fun σ2 H2 => wipe σ2 vs = wipe σ vs ∧ tt σ2 H2 fun b H3 => if b = true then te σ2 H3 KK else NN H3)
    (fin : ∀ p H', H p = none → Same H H' → H' p = some (.lst (given f n)) → Q (.ref p) H') : LcK J g tt te vs σ H Q := by
  refine lck w (fun D i H' => H D = none ∧ Same H H' ∧ H' D = some (.lst (given f i))) (fun D hD => ⟨hD, same_new hD, upd_same⟩) (fun D i H' _ p => hG H' p.2.1) (fun D i x H1 H2 hi p y => ?_) (fun D H' hD p => fin D H' hD p.2.1 p.2.2)
  obtain ⟨p0, p1, p2⟩ := p
  refine turn i x H1 H2 _ _ hi p1 y (fun y H4 hf s4 => ?_) (fun H3 hf s3 => ?_)
  · refine ⟨given f i, s4 _ _ p2, sz_lt (by have := given_len f i; omega), p0, same_mut (p1.trans s4) p0, ?_⟩
    rw [upd_same]
    show some (HO.lst (given f i ++ [y])) = some (HO.lst (given f i ++ (match f i with | some y => [y] | none => [])))
    rw [hf]
  · refine ⟨p0, p1.trans s3, ?_⟩
    rw [s3 _ _ p2]
    show some (HO.lst (given f i)) = some (HO.lst (given f i ++ (match f i with | some y => [y] | none => [])))
    rw [hf, List.append_nil]
end
/-- where classes stand -/
def cAt (l : List (String × Addr)) (n : String) : Addr := (l.lookup n).getD 0
/-! ### attributes of one's own objects -/
def tFl (C : Addr) (ta : TE) (f : Str) : TE := fun σ H Q => ta σ H fun x H1 => ∃ p dx fs v, x = .ref p ∧ H1 p = some (.ins C dx fs) ∧ fs.lookup f = some v ∧ Q v H1
def tFls (C : Addr) (ta tv : TE) (f : Str) : TS := fun D σ H => tv σ H fun y H1 => ta σ H1 fun x H2 => ∃ p dx fs, x = .ref p ∧ H2 p = some (.ins C dx fs) ∧ fs.length < 1000 ∧ D.nx σ (upd H2 p (.ins C dx (putF f y fs)))
/-! ### making, and methods, that let nothing out -/
section
variable {K : Fg} {D : Ends} {σ : L2.St} {H : Hp} {ta tv : TE} {Q : VK} {C p dx : Addr} {f : Str} {fs : List (Str × V)} {v y : V} {ys : List V}
def FlA (C : Addr) (f : Str) (x : V) (H : Hp) (Q : VK) : Prop := ∃ p dx fs v, x = .ref p ∧ H p = some (.ins C dx fs) ∧ fs.lookup f = some v ∧ Q v H
theorem i_fl (h : ta σ H fun x H1 => FlA C f x H1 Q) : tFl C ta f σ H Q := h
def FlsA (C : Addr) (f : Str) (y x : V) (H : Hp) (R : Hp → Prop) : Prop := ∃ p dx fs, x = .ref p ∧ H p = some (.ins C dx fs) ∧ fs.length < 1000 ∧ R (upd H p (.ins C dx (putF f y fs)))
theorem i_fls (h : tv σ H fun y H1 => ta σ H1 fun x H2 => FlsA C f y x H2 fun H3 => D.nx σ H3) : tFls C ta tv f D σ H := h
def MkA (C : Addr) (sp : Sp) (E : XK) (vs : List V) (H : Hp) (Q : VK) : Prop := ∀ x dx, H x = none → H dx = none → dx ≠ x → sp (.ref x :: vs) (upd (upd H dx (.own x)) x (.ins C dx [])) (fun v H2 => v = .non ∧ Q (.ref x) H2) E
theorem i_make {sp : Sp} {E : XK} {t : TA} (h : t σ H fun vs H1 => MkA C sp E vs H1 Q) : tMake C sp [] E t σ H Q := by
  have e : (fun vs H1 => MkA C sp E (vs ++ []) H1 Q) = fun vs H1 => MkA C sp E vs H1 Q := by
    funext vs H1
    rw [List.append_nil]
  show t σ H fun vs H1 => MkA C sp E (vs ++ []) H1 Q
  rw [e]
  exact h
def MtA (C : Addr) (m : Str) (x : V) (H : Hp) (R : Hp → Prop) : Prop := ∃ p dx fs, x = .ref p ∧ H p = some (.ins C dx fs) ∧ fs.lookup m = none ∧ R H
theorem i_meth {sp : Sp} {E : XK} {t : TA} {m : Str} (h : ta σ H fun x H1 => MtA C m x H1 fun H1 => t σ H1 fun vs H2 => sp (x :: vs) H2 Q E) : tMeth C m sp [] E ta t σ H Q := by
  have e : (fun x H1 => MtA C m x H1 fun H1 => t σ H1 fun vs H2 => sp (x :: (vs ++ [])) H2 Q E) = fun x H1 => MtA C m x H1 fun H1 => t σ H1 fun vs H2 => sp (x :: vs) H2 Q E := by
    funext x H1
    simp only [List.append_nil]
  show ta σ H fun x H1 => MtA C m x H1 fun H1 => t σ H1 fun vs H2 => sp (x :: (vs ++ [])) H2 Q E
  rw [e]
  exact h
end
/-! ### lists of ints in order -/
theorem dp_intsA {K : Fg} {H : Hp} : ∀ (ns : List Int), DpAll K H (ns.map V.int) (ns.map PyData.int)
  | [] => .nil
  | n :: r => .cons (.int n) (dp_intsA r)
/-! ### sorted(..) of lists of ints -/
abbrev Rw := Addr × List Int
def encR (b : Rw) : PyData := .list (b.2.map PyData.int)
def leR (p q : Rw) : Bool := decide (p.2 ≤ q.2)
def uSortedLL (K : Fg) : RC := fun xs H Q => ∃ (a : Addr) (bs : List Rw), xs = [.ref a] ∧ SqL K H a (bs.map fun b => .ref b.1) ∧ (∀ b ∈ bs, SqL K H b.1 (b.2.map V.int)) ∧
    ∀ p, H p = none → Q (.ref p) (upd H p (.lst ((bs.mergeSort leR).map fun b => .ref b.1)))
theorem k_sortedLL {X : Cx} (hu : X.A.units + 64 < cLine) : CallR X (.builtin "sorted") (uSortedLL X.K) := by
  intro pins s σ H xs us Q I r q
  obtain ⟨a, bs, rfl, hs, hb, q⟩ := q
  obtain ⟨its, rv, hl, hz⟩ := I.list hs
  rw [Vals.ref1 r]
  have hlen0 := rv.length
  rw [List.length_map] at hlen0
  have each : ∀ {bs : List Rw} {us : List Value}, Vals (bs.map fun b => V.ref b.1) us → PySem.W.EachIs (fun v (b : Rw) => v = .ref b.1) us bs := by
    intro bs
    induction bs with
    | nil => intro us h; cases h; exact .nil
    | cons b t ih =>
      intro us h
      cases h with
      | cons h1 h2 => exact .cons h1 (ih h2)
  have eachR : ∀ {bs : List Rw} {us : List Value}, (∀ b ∈ bs, SqL X.K H b.1 (b.2.map V.int)) → Vals (bs.map fun b => V.ref b.1) us → PySem.W.EachIs (fun v (b : Rw) => ∃ as, Reads s.heap v (encR b) as) us bs := by
    intro bs
    induction bs with
    | nil => intro us _ h; cases h; exact .nil
    | cons b t ih =>
      intro us hb h
      cases h with
      | cons h1 h2 => exact .cons (Dp.reads I _ _ _ (.lst (hb b (by simp)) (dp_intsA b.2)) h1) (ih (fun x hx => hb x (List.mem_cons_of_mem _ hx)) h2)
  have back : ∀ {bs : List Rw} {us : List Value}, PySem.W.EachIs (fun v (b : Rw) => v = .ref b.1) us bs → Vals (bs.map fun b => V.ref b.1) us := by
    intro bs us h
    induction h with
    | nil => exact .nil
    | cons h1 h2 ih => exact .cons h1 ih
  have hzb : bs.length ≤ sizeLine := by rw [List.length_map] at hz; exact hz
  refine PySem.W.sorted_data (enc := encR) hl.isList (each rv) (eachR hb rv) (PySem.W.AllAlike.of fun b b' => ?_) (PySem.W.Sortable.others fun b => ⟨(fun z => nomatch z), (fun _ z => nomatch z)⟩) hzb (fun b _ => ?_) fun out ho hE => ?_
  · show PySem.W.alikeAll _ _ = true
    exact PySem.W.alike_ints b.2 b'.2
  · have d : (encR b).depth = 1 := by unfold encR; simp [PyData.depth, PySem.W.depth_ints]
    rw [d]; omega
  · have ele : PySem.W.dataLe false encR = leR := by
      have := PySem.W.dataLe_rows (β := Rw) (fun b => b.2)
      exact this
    rw [ele] at hE
    obtain ⟨ep, he'⟩ := PyProof.Rows.sortedAll_at s.heap its (List.toArray out)
    have hlen : ((bs.mergeSort leR).map fun b => V.ref b.1).length ≤ sizeLine := by rw [List.length_map, List.length_mergeSort]; exact hzb
    exact ⟨.ref _, upd H (s.heap.objs.size + 1) (.lst ((bs.mergeSort leR).map fun b => V.ref b.1)), I.laid (t' := s.toks) (fun _ _ => PyProof.Rows.sortedAll_old) (Nat.le_succ _) ⟨hlen, out, ep, back hE, he'⟩, rfl, q _ (I.hok.fresh (Nat.le_succ _))⟩
theorem i_sortedLL {K : Fg} {H : Hp} {Q : VK} {a : Addr} {bs : List Rw} (hs : SqL K H a (bs.map fun b => .ref b.1)) (hb : ∀ b ∈ bs, SqL K H b.1 (b.2.map V.int)) (h : ∀ p, H p = none → Q (.ref p) (upd H p (.lst ((bs.mergeSort leR).map fun b => .ref b.1)))) : uSortedLL K [.ref a] H Q := ⟨a, bs, rfl, hs, hb, h⟩
/-! ### in, of lists in lists -/
def uInDp (K : Fg) : R2 := rInD K
theorem o_inDp {X : Cx} {k : Nat} (hr : Room k X.A) : OpR X (compareOp .In) (uInDp X.K) := op_inD (by have := hr.un; omega)
theorem i_inDp {K : Fg} {H : Hp} {Q : VK} {x y : V} {d : PyData} {ds : List PyData} (h1 : Dp K H x d) (h2 : Dp K H y (.list ds)) (s1 : SeqAt.shaped d = true) (s2 : SeqAt.shaped (.list ds) = true) (h : Q (.bl (ds.any fun z => PyData.eqv z d)) H) : uInDp K x y H Q := ⟨d, ds, h1, h2, s1, s2, h⟩
/-- range(0, n, c), c from 1 on -/
theorem rg_up {n c : Int} (h0 : 0 ≤ n) (h1 : n < 2 ^ 40) (c1 : 1 ≤ c) (c2 : c < 1073741824) : ∃ m : Nat, RgC 0 n c m ∧ ∀ i < m, (i : Int) * c < n := by
  have hq0 : 0 ≤ (n + c - 1) / c := Int.ediv_nonneg (by omega) (by omega)
  refine ⟨((n + c - 1) / c).toNat, ⟨by omega, by omega, ?_, ?_⟩, fun i hi => ?_⟩
  · unfold Builtin.Range.small
    rw [PyProof.Rows.rangeSize_pos c1 h0]
    have hle : (n + c - 1) / c * c ≤ n + c - 1 := Int.ediv_mul_le _ (by omega)
    have hle2 : (n + c - 1) / c ≤ n + c - 1 := Int.ediv_le_self _ (by omega)
    generalize (n + c - 1) / c = q at *
    simp only [Builtin.Range.rangeFitsLong, Bool.and_eq_true, Bool.or_eq_true, decide_eq_true_eq, beq_iff_eq]
    refine ⟨by omega, .inr ?_⟩
    rw [if_pos (by omega), Bool.and_eq_true, decide_eq_true_iff, decide_eq_true_iff]
    omega
  · rw [PyProof.Rows.rangeSize_pos c1 h0]; omega
  · have h2 : ((i : Int) + 1) * c ≤ n + c - 1 := by
      have h3 : (i : Int) + 1 ≤ (n + c - 1) / c := by omega
      have h4 := Int.ediv_mul_le (n + c - 1) (show c ≠ 0 by omega)
      have h5 := Int.mul_le_mul_of_nonneg_right h3 (show 0 ≤ c by omega)
      omega
    rw [Int.add_mul, Int.one_mul] at h2
    omega
def t_is_whole (G : Gx) (E : XK) : TS :=
      (tRet (tAndV (tCB (uIsi G.K) (tCons (tVar 0) (tCons (tC (.ty "int")) tNil))) (tNotV (tCB (uIsi G.K) (tCons (tVar 0) (tCons (tC (.ty "bool")) tNil))))))
def sp_is_whole (G : Gx) : Sp := fun vs H Q E => vs.length = 1 ∧ t_is_whole G E { nx := fun _ H' => Q .non H', rt := Q } (start ["thing"] vs) H
def t_is_kind (G : Gx) (E : XK) : TS :=
      (tSeq (tIfS (tB (tCB (uIsi G.K) (tCons (tVar 0) (tCons (tC (.ty "str")) tNil)))) (tRet (tOp (uEq G.K) (tVar 0) (tC (.str "cubes")))) tNext)
      (tRet (tAndV (tCall (sp_is_whole G) [] E (tCons (tVar 0) tNil)) (tChain uLe uLe (tC (.int 3)) (tVar 0) (tC (.int 12))))))
def sp_is_kind (G : Gx) : Sp := fun vs H Q E => vs.length = 1 ∧ t_is_kind G E { nx := fun _ H' => Q .non H', rt := Q } (start ["thing"] vs) H
def t_are_kinds (G : Gx) (E : XK) : TS :=
      (tSeq (tIfS (tOr (tNot (tB (tCB (uIsi G.K) (tCons (tVar 0) (tCons (tC (.ty "list")) tNil))))) (tNot (tTest (tChain uLe uLe (tC (.int 1)) (tCB (uLen G.K) (tCons (tVar 0) tNil)) (tC (.int 5)))))) (tRet (tC (.bl false))) tNext)
      (tSeq (tIfS (tTest (tOp (uNe G.K) (tLc (iList G.K (tVar 0)) (gName 1) (tNot (tB (tCall (sp_is_kind G) [] E0 (tCons (tVar 1) tNil)))) (tVar 1) [1]) (tLst tNil))) (tRet (tC (.bl false))) tNext)
      (tRet (tOp (uEq G.K) (tLc (iEnum G.K (tCons (tVar 0) tNil)) (gTup G.K 2 (gCons (gName 2) (gCons (gName 1) gNil))) (tTest (tOp (uIn G.K) (tVar 1) (tSl (uSl G.K) (tVar 0) tNoPart (tPart (tVar 2))))) (tVar 2) [2, 1]) (tLst tNil)))))
def sp_are_kinds (G : Gx) : Sp := fun vs H Q E => vs.length = 1 ∧ t_are_kinds G E { nx := fun _ H' => Q .non H', rt := Q } (start ["thing", "kind", "k"] vs) H
def t_law_deck (G : Gx) (E : XK) : TS :=
      (tSeq (tAsg (tLst tNil) (gName 1))
      (tSeq (tFor (iRng1 (tCons (tCB (uMax G.K) (tCons (tC (.int 1)) (tCons (tCB (uMin G.K) (tCons (tC (.int 63)) (tCons (tCB (uLen G.K) (tCons (tVar 0) tNil)) tNil))) tNil))) tNil)) (gName 2) (tSeq (tAsg (tC (.int 0)) (gName 3))
      (tSeq (tIfS (tTest (tOp uLt (tVar 2) (tCB (uLen G.K) (tCons (tVar 0) tNil)))) (tAsg (tOp (uIx G.K) (tVar 0) (tVar 2)) (gName 3)) tNext)
      (tDrop (tBM G.K "list" rAppend (tVar 1) (tCons (tLst (tCons (tVar 3) (tCons (tCB uInt (tCons (tOp uGe (tVar 3) (tOp uPow (tC (.int 10)) (tC (.int 18)))) tNil)) (tCons (tOp uMul (tC (.int 31)) (tVar 2)) tNil)))) tNil))))))
      (tRet (tLst (tCons (tVar 1) (tCons (tC (.int 0)) tNil))))))
def sp_law_deck (G : Gx) : Sp := fun vs H Q E => vs.length = 1 ∧ t_law_deck G E { nx := fun _ H' => Q .non H', rt := Q } (start ["script", "pools", "k", "cell"] vs) H
def t_law_draw (G : Gx) (E : XK) : TS :=
      (tSeq (tAsg (tOp (uIx G.K) (tOp (uIx G.K) (tVar 0) (tC (.int 0))) (tOp uMod (tOp (uIx G.K) (tVar 0) (tC (.int 1))) (tCB (uLen G.K) (tCons (tOp (uIx G.K) (tVar 0) (tC (.int 0))) tNil)))) (gName 2))
      (tSeq (tAsg (tOp uAdd (tOp (uIx G.K) (tVar 0) (tC (.int 1))) (tC (.int 1))) (gSub (tVar 0) (tC (.int 1)) uSet))
      (tSeq (tIfS (tAnd (tTest (tOp (uEq G.K) (tOp (uIx G.K) (tVar 2) (tC (.int 1))) (tC (.int 1)))) (tTest (tOp uGt (tOp (uIx G.K) (tVar 2) (tC (.int 0))) (tC (.int 0))))) (tSeq (tAsg (tOp uMod (tOp (uIx G.K) (tVar 2) (tC (.int 0))) (tVar 1)) (gName 3))
      (tSeq (tAsg (tOp uDiv (tOp (uIx G.K) (tVar 2) (tC (.int 0))) (tVar 1)) (gSub (tVar 2) (tC (.int 0)) uSet))
      (tRet (tVar 3)))) tNext)
      (tSeq (tAsg (tOp uAdd (tOp (uIx G.K) (tVar 2) (tC (.int 2))) (tC (.int 1))) (gSub (tVar 2) (tC (.int 2)) uSet))
      (tSeq (tAsg (tOp uMod (tOp uAdd (tOp uMod (tOp (uIx G.K) (tVar 2) (tC (.int 0))) (tC (.int 99999999977))) (tOp uMul (tC (.int 700001)) (tOp (uIx G.K) (tVar 2) (tC (.int 2))))) (tC (.int 99999999947))) (gName 4))
      (tSeq (tAsg (tOp uMod (tOp uMul (tVar 4) (tVar 4)) (tC (.int 99999999821))) (gName 4))
      (tSeq (tAsg (tOp uMod (tOp uMul (tVar 4) (tOp uAdd (tVar 4) (tC (.int 19)))) (tC (.int 9999999967))) (gName 4))
      (tRet (tOp uMod (tOp uDiv (tVar 4) (tC (.int 13))) (tVar 1))))))))))
def sp_law_draw (G : Gx) : Sp := fun vs H Q E => vs.length = 2 ∧ t_law_draw G E { nx := fun _ H' => Q .non H', rt := Q } (start ["deck", "many", "pool", "found", "number"] vs) H
def t_law_some_kinds (G : Gx) (E : XK) : TS :=
      (tSeq (tAsg (tLst (tCons (tC (.int 3)) (tCons (tC (.int 4)) (tCons (tC (.int 5)) (tCons (tC (.int 6)) (tCons (tC (.int 7)) (tCons (tC (.int 8)) (tCons (tC (.int 9)) (tCons (tC (.int 10)) (tCons (tC (.int 11)) (tCons (tC (.int 12)) (tCons (tC (.str "cubes")) tNil)))))))))))) (gName 1))
      (tRet (tLc (iRng1 (tCons (tOp (uIx G.K) (tLst (tCons (tOp uAdd (tC (.int 1)) (tCall (sp_law_draw G) [] E (tCons (tVar 0) (tCons (tC (.int 5)) tNil)))) (tCons (tC (.int 1)) (tCons (tC (.int 2)) tNil)))) (tCall (sp_law_draw G) [] E (tCons (tVar 0) (tCons (tC (.int 3)) tNil)))) tNil)) (gName 2) tYes (tBM G.K "list" rPopAt (tVar 1) (tCons (tCall (sp_law_draw G) [] E0 (tCons (tVar 0) (tCons (tCB (uLen G.K) (tCons (tVar 1) tNil)) tNil))) tNil)) [2])))
def sp_law_some_kinds (G : Gx) : Sp := fun vs H Q E => vs.length = 1 ∧ t_law_some_kinds G E { nx := fun _ H' => Q .non H', rt := Q } (start ["deck", "left", "k"] vs) H
def t_dots (G : Gx) (E : XK) : TS :=
      (tSeq (tIfS (tTest (tOp (uEq G.K) (tVar 0) (tC (.str "cubes")))) (tRet (tOp uMul (tOp uMul (tVar 1) (tVar 1)) (tVar 1))) tNext)
      (tRet (tOp uAdd (tVar 1) (tOp uMul (tOp uSub (tVar 0) (tC (.int 2))) (tOp uDiv (tOp uMul (tVar 1) (tOp uSub (tVar 1) (tC (.int 1)))) (tC (.int 2)))))))
def sp_dots (G : Gx) : Sp := fun vs H Q E => vs.length = 2 ∧ t_dots G E { nx := fun _ H' => Q .non H', rt := Q } (start ["kind", "k"] vs) H
def t_law_dots (G : Gx) (E : XK) : TS :=
      (tSeq (tAsg (tLst tNil) (gName 2))
      (tSeq (tAsg (tC (.int 1)) (gName 3))
      (tSeq (tAsg (tC (.int 1)) (gName 4))
      (tSeq (tAsg (tC (.int 1)) (gName 5))
      (tSeq (tWhile (tTest (tOp uLe (tVar 4) (tVar 1))) (tSeq (tDrop (tBM G.K "list" rAppend (tVar 2) (tCons (tVar 4) tNil)))
      (tSeq (tAsg (tOp uAdd (tVar 3) (tC (.int 1))) (gName 3))
      (tIfS (tTest (tOp (uEq G.K) (tVar 0) (tC (.str "cubes")))) (tAsg (tOp uPow (tVar 3) (tC (.int 3))) (gName 4)) (tSeq (tAsg (tOp uSub (tOp uAdd (tVar 5) (tVar 0)) (tC (.int 2))) (gName 5))
      (tAsg (tOp uAdd (tVar 4) (tVar 5)) (gName 4)))))))
      (tRet (tVar 2)))))))
def sp_law_dots (G : Gx) : Sp := fun vs H Q E => vs.length = 2 ∧ t_law_dots G E { nx := fun _ H' => Q .non H', rt := Q } (start ["kind", "most", "found", "k", "number", "more"] vs) H
def t_need_kinds (G : Gx) (E : XK) : TS :=
      (tIfS (tNot (tB (tCall (sp_are_kinds G) [] E (tCons (tVar 0) tNil)))) (tRz E (G.C "NoKinds")) tNext)
def sp_need_kinds (G : Gx) : Sp := fun vs H Q E => vs.length = 1 ∧ t_need_kinds G E { nx := fun _ H' => Q .non H', rt := Q } (start ["thing"] vs) H
def t_need_to_most (G : Gx) (E : XK) : TS :=
      (tIfS (tOr (tNot (tB (tCall (sp_is_whole G) [] E (tCons (tVar 0) tNil)))) (tNot (tTest (tChain uLe uLe (tC (.int 0)) (tVar 0) (tC (.int 200)))))) (tRz E (G.C "NoNumber")) tNext)
def sp_need_to_most (G : Gx) : Sp := fun vs H Q E => vs.length = 1 ∧ t_need_to_most G E { nx := fun _ H' => Q .non H', rt := Q } (start ["thing"] vs) H
def t_stock_of (G : Gx) (E : XK) : TS :=
      (tSeq (tAsg tDNewK (gName 2))
      (tSeq (tFor (iList G.K (tVar 0)) (gName 3) (tSeq (tAsg (tC (.int 1)) (gName 4))
      (tWhile (tTest (tOp uLe (tCall (sp_dots G) [] E (tCons (tVar 3) (tCons (tVar 4) tNil))) (tVar 1))) (tSeq (tAsg (tC (.bl true)) (gSub (tVar 2) (tCall (sp_dots G) [] E (tCons (tVar 3) (tCons (tVar 4) tNil))) uSet))
      (tAug 4 (tC (.int 1)) (ipI fun i j => i + j))))))
      (tRet (tCB (uSorted G.K) (tCons (tVar 2) tNil)))))
def sp_stock_of (G : Gx) : Sp := fun vs H Q E => vs.length = 2 ∧ t_stock_of G E { nx := fun _ H' => Q .non H', rt := Q } (start ["kinds", "b", "found", "kind", "k"] vs) H
def t_law_stock (G : Gx) (E : XK) : TS :=
      (tSeq (tAsg (tLst tNil) (gName 2))
      (tSeq (tFor (iList G.K (tVar 0)) (gName 3) (tFor (iList G.K (tCall (sp_law_dots G) [] E (tCons (tVar 3) (tCons (tVar 1) tNil)))) (gName 4) (tIfS (tTest (tOp (uNotIn G.K) (tVar 4) (tVar 2))) (tDrop (tBM G.K "list" rAppend (tVar 2) (tCons (tVar 4) tNil))) tNext)))
      (tRet (tCB (uSorted G.K) (tCons (tVar 2) tNil)))))
def sp_law_stock (G : Gx) : Sp := fun vs H Q E => vs.length = 2 ∧ t_law_stock G E { nx := fun _ H' => Q .non H', rt := Q } (start ["kinds", "most", "found", "kind", "number"] vs) H
def t_is_sum (G : Gx) (E : XK) : TS :=
      (tSeq (tDrop (tCall (sp_need_kinds G) [] E (tCons (tVar 0) tNil)))
      (tSeq (tDrop (tCall (sp_need_to_most G) [] E (tCons (tVar 1) tNil)))
      (tSeq (tIfS (tOr (tNot (tB (tCB (uIsi G.K) (tCons (tVar 2) (tCons (tC (.ty "list")) tNil))))) (tTest (tOp (uNe G.K) (tLc (iList G.K (tVar 2)) (gName 4) (tNot (tB (tCall (sp_is_whole G) [] E0 (tCons (tVar 4) tNil)))) (tVar 4) [4]) (tLst tNil)))) (tRet (tC (.bl false))) tNext)
      (tSeq (tAsg (tCall (sp_stock_of G) [] E (tCons (tVar 0) (tCons (tVar 1) tNil))) (gName 3))
      (tSeq (tIfS (tOr (tTest (tOp (uNe G.K) (tLc (iList G.K (tVar 2)) (gName 4) (tTest (tOp (uNotIn G.K) (tVar 4) (tVar 3))) (tVar 4) [4]) (tLst tNil))) (tTest (tOp (uNe G.K) (tCB (uSum G.K) (tCons (tVar 2) tNil)) (tVar 1)))) (tRet (tC (.bl false))) tNext)
      (tRet (tOp (uEq G.K) (tLc (iRng2 (tCons (tC (.int 1)) (tCons (tCB (uLen G.K) (tCons (tVar 2) tNil)) tNil))) (gName 5) (tTest (tOp uLt (tOp (uIx G.K) (tVar 2) (tOp uSub (tVar 5) (tC (.int 1)))) (tOp (uIx G.K) (tVar 2) (tVar 5)))) (tVar 5) [5]) (tLst tNil))))))))
def sp_is_sum (G : Gx) : Sp := fun vs H Q E => vs.length = 3 ∧ t_is_sum G E { nx := fun _ H' => Q .non H', rt := Q } (start ["kinds", "n", "thing", "stock", "part", "k"] vs) H
def t_fewest_by (G : Gx) (E : XK) : TS :=
      (tSeq (tAsg (tLst (tCons (tC (.int 0)) tNil)) (gName 2))
      (tSeq (tFor (iRng2 (tCons (tC (.int 1)) (tCons (tOp uAdd (tVar 1) (tC (.int 1))) tNil))) (gName 3) (tDrop (tBM G.K "list" rAppend (tVar 2) (tCons (tOp uAdd (tC (.int 1)) (tCB (uMin G.K) (tCons (tLc (iList G.K (tVar 0)) (gName 4) (tTest (tOp uLe (tVar 4) (tVar 3))) (tOp (uIx G.K) (tVar 2) (tOp uSub (tVar 3) (tVar 4))) [4]) tNil))) tNil))))
      (tRet (tVar 2))))
def sp_fewest_by (G : Gx) : Sp := fun vs H Q E => vs.length = 2 ∧ t_fewest_by G E { nx := fun _ H' => Q .non H', rt := Q } (start ["stock", "b", "found", "n", "part"] vs) H
def t_fewest_parts (G : Gx) (E : XK) : TS :=
      (tSeq (tDrop (tCall (sp_need_kinds G) [] E (tCons (tVar 0) tNil)))
      (tSeq (tDrop (tCall (sp_need_to_most G) [] E (tCons (tVar 1) tNil)))
      (tRet (tOp (uIx G.K) (tCall (sp_fewest_by G) [] E (tCons (tCall (sp_stock_of G) [] E (tCons (tVar 0) (tCons (tVar 1) tNil))) (tCons (tVar 1) tNil))) (tVar 1)))))
def sp_fewest_parts (G : Gx) : Sp := fun vs H Q E => vs.length = 2 ∧ t_fewest_parts G E { nx := fun _ H' => Q .non H', rt := Q } (start ["kinds", "n"] vs) H
def t_fewest_to (G : Gx) (E : XK) : TS :=
      (tSeq (tDrop (tCall (sp_need_kinds G) [] E (tCons (tVar 0) tNil)))
      (tSeq (tDrop (tCall (sp_need_to_most G) [] E (tCons (tVar 1) tNil)))
      (tRet (tCall (sp_fewest_by G) [] E (tCons (tCall (sp_stock_of G) [] E (tCons (tVar 0) (tCons (tVar 1) tNil))) (tCons (tVar 1) tNil))))))
def sp_fewest_to (G : Gx) : Sp := fun vs H Q E => vs.length = 2 ∧ t_fewest_to G E { nx := fun _ H' => Q .non H', rt := Q } (start ["kinds", "b"] vs) H
def t_tables_of (G : Gx) (E : XK) : TS :=
      (tSeq (tAsg (tLst tNil) (gName 2))
      (tSeq (tFor (iList G.K (tVar 0)) (gName 3) (tIfS (tTest (tOp (uEq G.K) (tVar 2) (tLst tNil))) (tDrop (tBM G.K "list" rAppend (tVar 2) (tCons (tLstRg (tRg1 (tOp uAdd (tVar 1) (tC (.int 1))))) tNil))) (tSeq (tDrop (tBM G.K "list" rAppend (tVar 2) (tCons (tCB (uList G.K) (tCons (tOp (uIx G.K) (tVar 2) (tUn uNeg (tC (.int 1)))) tNil)) tNil)))
      (tFor (iRng2 (tCons (tVar 3) (tCons (tOp uAdd (tVar 1) (tC (.int 1))) tNil))) (gName 4) (tAsg (tCB (uMin G.K) (tCons (tOp (uIx G.K) (tOp (uIx G.K) (tVar 2) (tUn uNeg (tC (.int 1)))) (tVar 4)) (tCons (tOp uAdd (tC (.int 1)) (tOp (uIx G.K) (tOp (uIx G.K) (tVar 2) (tUn uNeg (tC (.int 1)))) (tOp uSub (tVar 4) (tVar 3)))) tNil))) (gSub (tOp (uIx G.K) (tVar 2) (tUn uNeg (tC (.int 1)))) (tVar 4) uSet))))))
      (tRet (tVar 2))))
def sp_tables_of (G : Gx) : Sp := fun vs H Q E => vs.length = 2 ∧ t_tables_of G E { nx := fun _ H' => Q .non H', rt := Q } (start ["stock", "n", "found", "part", "number"] vs) H
def t_first_sum (G : Gx) (E : XK) : TS :=
      (tSeq (tDrop (tCall (sp_need_kinds G) [] E (tCons (tVar 0) tNil)))
      (tSeq (tDrop (tCall (sp_need_to_most G) [] E (tCons (tVar 1) tNil)))
      (tSeq (tAsg (tCall (sp_stock_of G) [] E (tCons (tVar 0) (tCons (tVar 1) tNil))) (gName 2))
      (tSeq (tAsg (tCall (sp_tables_of G) [] E (tCons (tVar 2) (tCons (tVar 1) tNil))) (gName 3))
      (tSeq (tAsg (tLst tNil) (gName 4))
      (tSeq (tAsg (tVar 1) (gName 5))
      (tSeq (tAsg (tIf (tTest (tOp uGt (tVar 1) (tC (.int 0)))) (tOp (uIx G.K) (tOp (uIx G.K) (tVar 3) (tUn uNeg (tC (.int 1)))) (tVar 1)) (tC (.int 0))) (gName 6))
      (tSeq (tWhile (tTest (tOp uGt (tVar 5) (tC (.int 0)))) (tSeq (tAug 6 (tC (.int 1)) (ipI fun i j => i - j))
      (tSeq (tAsg (tC (.int 0)) (gName 7))
      (tSeq (tWhile (tOr (tTest (tOp uGt (tOp (uIx G.K) (tVar 2) (tVar 7)) (tVar 5))) (tTest (tOp (uNe G.K) (tOp (uIx G.K) (tOp (uIx G.K) (tVar 3) (tVar 7)) (tOp uSub (tVar 5) (tOp (uIx G.K) (tVar 2) (tVar 7)))) (tVar 6)))) (tAug 7 (tC (.int 1)) (ipI fun i j => i + j)))
      (tSeq (tDrop (tBM G.K "list" rAppend (tVar 4) (tCons (tOp (uIx G.K) (tVar 2) (tVar 7)) tNil)))
      (tAug 5 (tOp (uIx G.K) (tVar 2) (tVar 7)) (ipI fun i j => i - j)))))))
      (tRet (tVar 4))))))))))
def sp_first_sum (G : Gx) : Sp := fun vs H Q E => vs.length = 2 ∧ t_first_sum G E { nx := fun _ H' => Q .non H', rt := Q } (start ["kinds", "n", "stock", "tables", "found", "left", "wanted", "at"] vs) H
def t_law_all_v2 (G : Gx) (E : XK) : TS :=
      (tSeq (tAsg (tLst tNil) (gName 2))
      (tSeq (tAsg (tLst (tCons (tTup (tCons (tLst tNil) (tCons (tVar 1) tNil))) tNil)) (gName 3))
      (tSeq (tWhile (tTest (tOp (uNe G.K) (tVar 3) (tLst tNil))) (tSeq (tAsg (tBM0 G.K "list" rPop (tVar 3)) (gTup G.K 2 (gCons (gName 4) (gCons (gName 5) gNil))))
      (tSeq (tIfS (tTest (tOp (uEq G.K) (tVar 5) (tC (.int 0)))) (tDrop (tBM G.K "list" rAppend (tVar 2) (tCons (tVar 4) tNil))) tNext)
      (tSeq (tAsg (tOp (uIx G.K) (tOp uAdd (tVar 4) (tLst (tCons (tVar 1) tNil))) (tOp uSub (tUn uNeg (tC (.int 1))) (tCB uInt (tCons (tOp (uNe G.K) (tVar 4) (tLst tNil)) tNil)))) (gName 6))
      (tDrop (tBM G.K "list" rExtend (tVar 3) (tCons (tLc (iList G.K (tVar 0)) (gName 7) (tTest (tOp uLe (tVar 7) (tCB (uMin G.K) (tCons (tVar 5) (tCons (tVar 6) tNil))))) (tTup (tCons (tOp uAdd (tVar 4) (tLst (tCons (tVar 7) tNil))) (tCons (tOp uSub (tVar 5) (tVar 7)) tNil))) [7]) tNil)))))))
      (tRet (tCB (uSortedLL G.K) (tCons (tVar 2) tNil))))))
def sp_law_all_v2 (G : Gx) : Sp := fun vs H Q E => vs.length = 2 ∧ t_law_all_v2 G E { nx := fun _ H' => Q .non H', rt := Q } (start ["stock", "n", "found", "waiting", "some", "left", "last", "part"] vs) H
def t_law_any (G : Gx) (E : XK) : TS :=
      (tSeq (tAsg (tLst tNil) (gName 2))
      (tSeq (tWhile (tTest (tOp uLt (tCB (uSum G.K) (tCons (tVar 2) tNil)) (tVar 1))) (tDrop (tBM G.K "list" rAppend (tVar 2) (tCons (tOp uAdd (tC (.int 1)) (tCall (sp_law_draw G) [] E (tCons (tVar 0) (tCons (tOp uSub (tVar 1) (tCB (uSum G.K) (tCons (tVar 2) tNil))) tNil)))) tNil))))
      (tRet (tRevL G.K (tCB (uSorted G.K) (tCons (tVar 2) tNil))))))
def sp_law_any (G : Gx) : Sp := fun vs H Q E => vs.length = 2 ∧ t_law_any G E { nx := fun _ H' => Q .non H', rt := Q } (start ["deck", "n", "found"] vs) H
def t_law_right_v6 (G : Gx) (E : XK) : TS :=
      (tSeq (tAsg (tCall (sp_law_all_v2 G) [] E (tCons (tCall (sp_law_stock G) [] E (tCons (tVar 1) (tCons (tVar 2) tNil))) (tCons (tVar 2) tNil))) (gName 3))
      (tSeq (tAsg (tCB (uMin G.K) (tCons (tLc (iList G.K (tVar 3)) (gName 6) tYes (tCB (uLen G.K) (tCons (tVar 6) tNil)) [6]) tNil)) (gName 4))
      (tSeq (tIfS (tOr (tTest (tOp (uNe G.K) (tCall (sp_fewest_parts G) [] E (tCons (tVar 1) (tCons (tVar 2) tNil))) (tVar 4))) (tTest (tOp (uNe G.K) (tOp (uIx G.K) (tCall (sp_fewest_to G) [] E (tCons (tVar 1) (tCons (tVar 2) tNil))) (tVar 2)) (tVar 4)))) (tRet (tC (.bl false))) tNext)
      (tSeq (tIfS (tTest (tOp (uNe G.K) (tCall (sp_first_sum G) [] E (tCons (tVar 1) (tCons (tVar 2) tNil))) (tOp (uIx G.K) (tLc (iList G.K (tVar 3)) (gName 6) (tTest (tOp (uEq G.K) (tCB (uLen G.K) (tCons (tVar 6) tNil)) (tVar 4))) (tVar 6) [6]) (tC (.int 0))))) (tRet (tC (.bl false))) tNext)
      (tSeq (tFor (iRng3 (tCons (tC (.int 0)) (tCons (tCB (uLen G.K) (tCons (tVar 3) tNil)) (tCons (tOp uAdd (tC (.int 1)) (tOp uDiv (tCB (uLen G.K) (tCons (tVar 3) tNil)) (tC (.int 30)))) tNil)))) (gName 5) (tSeq (tAsg (tCB (uList G.K) (tCons (tOp (uIx G.K) (tVar 3) (tVar 5)) tNil)) (gName 6))
      (tSeq (tIfS (tTest (tOp uIsNot (tCall (sp_is_sum G) [] E (tCons (tVar 1) (tCons (tVar 2) (tCons (tVar 6) tNil)))) (tC (.bl true)))) (tRet (tC (.bl false))) tNext)
      (tSeq (tAsg (tCall (sp_law_draw G) [] E (tCons (tVar 0) (tCons (tOp uAdd (tCB (uLen G.K) (tCons (tVar 6) tNil)) (tC (.int 1))) tNil))) (gName 7))
      (tSeq (tAsg (tLst (tCons (tOp uAdd (tOp uAdd (tSl (uSl G.K) (tVar 6) tNoPart (tPart (tVar 7))) (tLst (tCons (tOp uAdd (tC (.int 1)) (tCall (sp_law_draw G) [] E (tCons (tVar 0) (tCons (tC (.int 24)) tNil)))) tNil))) (tSl (uSl G.K) (tVar 6) (tPart (tOp uAdd (tVar 7) (tC (.int 1)))) tNoPart)) (tCons (tOp uAdd (tSl (uSl G.K) (tVar 6) tNoPart (tPart (tVar 7))) (tSl (uSl G.K) (tVar 6) (tPart (tOp uAdd (tVar 7) (tC (.int 1)))) tNoPart)) (tCons (tOp uAdd (tVar 6) (tLst (tCons (tC (.int 1)) tNil))) tNil)))) (gName 8))
      (tFor (iList G.K (tOp uAdd (tVar 8) (tLst (tCons (tCall (sp_law_any G) [] E (tCons (tVar 0) (tCons (tVar 2) tNil))) tNil)))) (gName 9) (tIfS (tTest (tOp (uNe G.K) (tCall (sp_is_sum G) [] E (tCons (tVar 1) (tCons (tVar 2) (tCons (tVar 9) tNil)))) (tOp (uInDp G.K) (tVar 9) (tVar 3)))) (tRet (tC (.bl false))) tNext)))))))
      (tRet (tC (.bl true))))))))
def sp_law_right_v6 (G : Gx) : Sp := fun vs H Q E => vs.length = 3 ∧ t_law_right_v6 G E { nx := fun _ H' => Q .non H', rt := Q } (start ["deck", "kinds", "n", "rows", "fewest", "k", "row", "at", "some", "near"] vs) H
def t_law_k11 (G : Gx) (E : XK) : TS :=
      (tSeq (tAsg (tCall (sp_law_deck G) [] E (tCons (tVar 0) tNil)) (gName 1))
      (tSeq (tFor (iRng1 (tCons (tC (.int 6)) tNil)) (gName 2) (tSeq (tAsg (tCall (sp_law_some_kinds G) [] E (tCons (tVar 1) tNil)) (gName 3))
      (tFor (iList G.K (tLst (tCons (tCall (sp_law_draw G) [] E (tCons (tVar 1) (tCons (tC (.int 25)) tNil))) (tCons (tCall (sp_law_draw G) [] E (tCons (tVar 1) (tCons (tC (.int 25)) tNil))) (tCons (tC (.int 24)) (tCons (tC (.int 0)) tNil)))))) (gName 4) (tIfS (tNot (tB (tCall (sp_law_right_v6 G) [] E (tCons (tVar 1) (tCons (tVar 3) (tCons (tVar 4) tNil)))))) (tRet (tC (.bl false))) tNext))))
      (tRet (tC (.bl true)))))
def sp_law_k11 (G : Gx) : Sp := fun vs H Q E => vs.length = 1 ∧ t_law_k11 G E { nx := fun _ H' => Q .non H', rt := Q } (start ["script", "deck", "k", "kinds", "n"] vs) H
local macro_rules | `(tactic| wtm_at "w1") => `(tactic| with_reducible first
  | refine i_seq ?_ | refine i_asg ?_ | refine i_gname ?_ | refine i_ifS ?_ | refine i_ret ?_ | refine i_drop ?_ | refine i_next ?_ | refine i_brk ?_ | refine i_retN ?_
  | refine i_op ?_ | refine i_var rfl ?_ | refine i_c ?_ | refine i_call ?_ | refine i_cb ?_ | refine i_cons ?_ | refine i_nil ?_ | refine i_un ?_
  | refine i_test ?_ | refine i_B ?_ | refine i_not ?_ | refine i_exbl ?_ | refine i_exint ?_
  | refine i_andV ?_ | refine i_orV ?_ | refine i_notV ?_ | refine i_if ?_ | refine i_chain ?_ | refine i_yes ?_
  | refine i_add ?_ | refine i_sub ?_ | refine i_lt ?_ | refine i_le ?_ | refine i_gt ?_ | refine i_ge ?_ | refine i_eqI ?_ | refine i_neI ?_ | refine i_eqS ?_ | refine i_neS ?_ | refine i_eqIS ?_ | refine i_neIS ?_
  | refine i_eqIN ?_ | refine i_neIN ?_ | refine i_eqNI ?_ | refine i_neNI ?_ | refine i_neNN ?_
  | refine i_isN ?_ | refine i_notN ?_ | refine i_isB ?_ | refine i_notB ?_ | refine i_max2 ?_ | refine i_min2 ?_ | refine i_intI ?_ | refine i_intB ?_ | refine i_abs ?_ | refine i_neg ?_ | refine i_band ?_ | refine i_bor ?_
  | refine i_isiII ?_ | refine i_isiIB ?_ | refine i_isiIS ?_ | refine i_isiIL ?_ | refine i_isiSI ?_ | refine i_isiSB ?_ | refine i_isiSS ?_ | refine i_isiSL ?_ | refine i_isiBI ?_ | refine i_isiBB ?_ | refine i_isiBS ?_ | refine i_isiNI ?_ | refine i_isiNB ?_
  | refine i_bm ?_ | refine i_bm0 ?_ | refine i_lst ?_ | refine i_tup ?_ | refine i_sl ?_ | refine i_nopart ?_ | refine i_part ?_ | refine i_gsub ?_ | refine i_aug rfl ?_ | refine i_ipI ?_
  | refine i_for ?_ | refine i_lc ?_ | refine i_rng1 ?_ | refine i_rng2 ?_ | refine i_rng3 ?_ | refine i_list ?_ | refine i_tupl ?_ | refine i_enum ?_ | refine i_zip ?_ | refine i_str ?_ | refine i_strA ?_
  | refine i_fl ?_ | refine i_fls ?_ | refine i_make ?_ | refine i_meth ?_
  | refine i_T rfl ?_ | refine i_F rfl ?_)
local macro_rules | `(tactic| wtm_at "num") => `(tactic| first | decide | omega)
local macro_rules | `(tactic| wtm_at "w2") => `(tactic| first
  | ((with_reducible refine i_pow ?_ ?_); · exact ⟨by decide, by decide, by decide⟩)
  | ((with_reducible refine i_mod ?_ ?_); · wtm_at "num")
  | ((with_reducible refine i_mulL ?_ ?_); · wtm_at "num")
  | ((with_reducible refine i_mulR ?_ ?_); · wtm_at "num")
  | ((with_reducible refine i_div ?_ ?_); · exact div_ok (by wtm_at "num") (by wtm_at "num")))
local macro_rules | `(tactic| wtm_at "w") => `(tactic| repeat (first | wtm_at "w1" | wtm_at "w2"))
local macro_rules | `(tactic| wtm_at "ao") => `(tactic| (with_reducible first | refine i_and ?_ | refine i_or ?_))
local macro_rules | `(tactic| wtm_at "ix") => `(tactic| (refine i_ixL (sq_of (by assumption)) (by rfl) ?_; wtm_at "w"))
local macro_rules | `(tactic| wtm_at "wa") => `(tactic| repeat (first | wtm_at "w1" | wtm_at "ao" | wtm_at "w2"))
/-! ### kinds and their numbers -/
/-- a kind: 3 to 12, or "cubes" -/
def IsKd (v : V) : Prop := (∃ s : Int, v = .int s ∧ 3 ≤ s ∧ s ≤ 12) ∨ v = .str "cubes"
/-- the k-th number of a kind -/
def dotsV : V → Int → Int
  | .int s, k => k + (s - 2) * (k * (k - 1) / 2)
  | _, k => k * k * k
section
variable {G : Gx} {H : Hp} {Q : VK} {E : XK}
theorem u_is_whole_int {n : Int} (h : Q (.bl true) H) : sp_is_whole G [.int n] H Q E := by
  refine ⟨rfl, ?_⟩
  unfold t_is_whole
  wtm_at "w"
  exact h
theorem u_is_kind_int {n : Int} (h : Q (.bl (decide (3 ≤ n ∧ n ≤ 12))) H) : sp_is_kind G [.int n] H Q E := by
  refine ⟨rfl, ?_⟩
  unfold t_is_kind
  wtm_at "w"
  refine u_is_whole_int ?_
  wtm_at "w"
  refine i_ite (fun h3 => ?_) (fun h3 => ?_)
  · wtm_at "w"
    rw [show decide (3 ≤ n ∧ n ≤ 12) = decide (n ≤ 12) by simp [h3]] at h
    exact h
  · rw [show decide (3 ≤ n ∧ n ≤ 12) = false by simp [h3]] at h
    exact h
theorem u_is_kind_cubes (h : Q (.bl true) H) : sp_is_kind G [.str "cubes"] H Q E := by
  refine ⟨rfl, ?_⟩
  unfold t_is_kind
  wtm_at "w"
  rw [decide_eq_true rfl]
  exact h
theorem u_is_kind {v : V} (hv : IsKd v) (h : Q (.bl true) H) : sp_is_kind G [v] H Q E := by
  rcases hv with ⟨s, rfl, h1, h2⟩ | rfl
  · refine u_is_kind_int ?_
    rw [decide_eq_true ⟨h1, h2⟩]
    exact h
  · exact u_is_kind_cubes h
theorem big_mul {i j : Int} (a b : Nat) (ha : i.natAbs < 2 ^ a) (hb : j.natAbs < 2 ^ b) (h : a + b ≤ 134217728) : CMulX i j := mulx_ok ha hb h
theorem u_dots {v : V} {k : Int} (hv : IsKd v) (h0 : 0 ≤ k) (h1 : k < 2 ^ 100) (h : Q (.int (dotsV v k)) H) : sp_dots G [v, .int k] H Q E := by
  have ek : k.natAbs < 2 ^ 100 := by omega
  refine ⟨rfl, ?_⟩
  unfold t_dots
  rcases hv with ⟨s, rfl, h2, h3⟩ | rfl
  · wtm_at "w"
    refine i_mulX (big_mul 100 101 ek (by omega) (by decide)) ?_
    wtm_at "w"
    exact h
  · wtm_at "w"
    refine i_mulX (big_mul 100 100 ek ek (by decide)) ?_
    wtm_at "w"
    refine i_mulX (big_mul 200 100 (wide_lt ek ek) ek (by decide)) ?_
    exact h
end
/-! ### a part of the heap of one's own -/
structure Wd where
  R : Addr → Prop
  I : Hp → Prop
  tr : ∀ H a, I H → R a → H a ≠ none
  up : ∀ H a o, I H → ¬ R a → I (upd H a o)
  sm : ∀ H H', I H → Same H H' → I H'
structure Kp (W : Wd) (H H' : Hp) : Prop where
  i : W.I H'
  k : Keep W.R H H'
structure At (W : Wd) (H : Hp) (a : Addr) (o : HO) : Prop where
  h : H a = some o
  r : ¬ W.R a
section
variable {W : Wd} {H H0 H1 H2 : Hp} {a p : Addr} {o : HO}
theorem Kp.refl (i : W.I H) : Kp W H H := ⟨i, Keep.refl _ _⟩
theorem Kp.trans (x : Kp W H H1) (y : Kp W H1 H2) : Kp W H H2 := ⟨y.i, x.k.trans y.k⟩
theorem Wd.notR (i : W.I H) (h : H p = none) : ¬ W.R p := fun r => W.tr H p i r h
theorem Kp.free (x : Kp W H H1) (h : H1 p = none) : H p = none := by
  cases e : H p with
  | none => rfl
  | some o =>
    have n := Wd.notR x.i h
    rw [x.k p o n e] at h
    cases h
theorem Kp.at (x : Kp W H H1) (z : At W H a o) : At W H1 a o := ⟨x.k a o z.r z.h, z.r⟩
theorem Kp.same (x : Kp W H0 H) (s : Same H H1) : Kp W H0 H1 := ⟨W.sm _ _ x.i s, fun b u n e => s _ _ (x.k b u n e)⟩
theorem Kp.new (x : Kp W H0 H) (h : H p = none) : Kp W H0 (upd H p o) := x.same (same_new h)
theorem Kp.mut (x : Kp W H0 H) (h : H0 p = none) (r : ¬ W.R p) : Kp W H0 (upd H p o) := ⟨W.up _ _ _ x.i r, keep_mut x.k h⟩
theorem At.new (i : W.I H) (h : H p = none) : At W (upd H p o) p o := ⟨upd_same, Wd.notR i h⟩
theorem At.same (z : At W H a o) (s : Same H H1) : At W H1 a o := ⟨s _ _ z.h, z.r⟩
theorem At.ne (z : At W H a o) (h : H p = none) : a ≠ p := ne_of_none z.h h
theorem At.upd {o2 : HO} (z : At W H a o) (n : a ≠ p) : At W (upd H p o2) a o := ⟨by rw [upd_ne n]; exact z.h, z.r⟩
end
/-! ### the deck -/
structure DkI (d pl : Addr) (ps : List Addr) (H : Hp) : Prop where
  n : ∃ n : Int, H d = some (.lst [.ref pl, .int n])
  l : H pl = some (.lst (ps.map V.ref))
  ne : 0 < ps.length
  le : ps.length ≤ 63
  p : ∀ p ∈ ps, ∃ c f k : Int, H p = some (.lst [.int c, .int f, .int k])
def DkR (d pl : Addr) (ps : List Addr) : Addr → Prop := fun a => a = d ∨ a = pl ∨ a ∈ ps
def deckW (d pl : Addr) (ps : List Addr) : Wd where
  R := DkR d pl ps
  I := DkI d pl ps
  tr := fun H a i r => by
    rcases r with rfl | rfl | r
    · obtain ⟨n, e⟩ := i.n; rw [e]; simp
    · rw [i.l]; simp
    · obtain ⟨c, f, k, e⟩ := i.p a r; rw [e]; simp
  up := fun H a o i r => by
    have n : ∀ b, DkR d pl ps b → b ≠ a := fun b rb z => r (by rw [← z]; exact rb)
    refine ⟨?_, ?_, i.ne, i.le, fun p hp => ?_⟩
    · obtain ⟨m, e⟩ := i.n; exact ⟨m, by rw [upd_ne (n d (.inl rfl))]; exact e⟩
    · rw [upd_ne (n pl (.inr (.inl rfl)))]; exact i.l
    · obtain ⟨c, f, k, e⟩ := i.p p hp; exact ⟨c, f, k, by rw [upd_ne (n p (.inr (.inr hp)))]; exact e⟩
  sm := fun H H' i s => by
    refine ⟨?_, s _ _ i.l, i.ne, i.le, fun p hp => ?_⟩
    · obtain ⟨m, e⟩ := i.n; exact ⟨m, s _ _ e⟩
    · obtain ⟨c, f, k, e⟩ := i.p p hp; exact ⟨c, f, k, s _ _ e⟩
theorem deck_dl {d pl : Addr} {ps : List Addr} {H : Hp} (i : DkI d pl ps H) : d ≠ pl := fun z => by
  obtain ⟨n, e⟩ := i.n
  have e2 := i.l
  rw [← z, e] at e2
  have e3 := HO.lst.inj (Option.some.inj e2)
  cases ps with
  | nil => cases e3
  | cons x r => cases r with
    | nil => cases e3
    | cons y r => simp at e3
theorem deck_dp {d pl : Addr} {ps : List Addr} {H : Hp} (i : DkI d pl ps H) {p : Addr} (hp : p ∈ ps) : d ≠ p := fun z => by
  obtain ⟨n, e⟩ := i.n
  obtain ⟨c, f, k, e2⟩ := i.p p hp
  rw [← z, e] at e2
  have e3 := HO.lst.inj (Option.some.inj e2)
  simp at e3
theorem deck_lp {d pl : Addr} {ps : List Addr} {H : Hp} (i : DkI d pl ps H) {p : Addr} (hp : p ∈ ps) : pl ≠ p := fun z => by
  obtain ⟨c, f, k, e2⟩ := i.p p hp
  have e := i.l
  rw [z, e2] at e
  have e3 := HO.lst.inj (Option.some.inj e)
  cases ps with
  | nil => cases e3
  | cons x r => simp at e3
theorem deck_d {d pl : Addr} {ps : List Addr} {H : Hp} {m : Int} (i : DkI d pl ps H) : DkI d pl ps (upd H d (.lst [.ref pl, .int m])) :=
  ⟨⟨m, upd_same⟩, by rw [upd_ne (deck_dl i).symm]; exact i.l, i.ne, i.le, fun p hp => by
    obtain ⟨c, f, k, e⟩ := i.p p hp
    exact ⟨c, f, k, by rw [upd_ne (deck_dp i hp).symm]; exact e⟩⟩
theorem deck_p {d pl : Addr} {ps : List Addr} {H : Hp} {p : Addr} {c f k : Int} (i : DkI d pl ps H) (hp : p ∈ ps) : DkI d pl ps (upd H p (.lst [.int c, .int f, .int k])) :=
  ⟨by obtain ⟨n, e⟩ := i.n; exact ⟨n, by rw [upd_ne (deck_dp i hp)]; exact e⟩, by rw [upd_ne (deck_lp i hp)]; exact i.l, i.ne, i.le, fun q hq => by
    by_cases z : q = p
    · subst z; exact ⟨c, f, k, upd_same⟩
    · obtain ⟨c, f, k, e⟩ := i.p q hq
      exact ⟨c, f, k, by rw [upd_ne z]; exact e⟩⟩
section
variable {G : Gx} {H : Hp} {Q : VK} {E : XK}
set_option maxHeartbeats 4000000 in
theorem u_law_draw {d pl : Addr} {ps : List Addr} {many : Int} (i : DkI d pl ps H) (h0 : 0 < many) (h1 : many < 2 ^ 64)
    (h : ∀ r H', 0 ≤ r → r < many → Kp (deckW d pl ps) H H' → Q (.int r) H') : sp_law_draw G [.ref d, .int many] H Q E := by
  refine ⟨rfl, ?_⟩
  unfold t_law_draw
  obtain ⟨n, ed⟩ := i.n
  have el := i.l
  have hn := i.ne
  wtm_at "w"
  wtm_at "ix"
  wtm_at "ix"
  wtm_at "ix"
  refine i_lenL (sq_of el) ?_
  rw [List.length_map]
  refine i_mod (by omega) ?_
  obtain ⟨j, ej, hj⟩ : ∃ j : Nat, n % (ps.length : Int) = (j : Int) ∧ j < ps.length := ⟨(n % (ps.length : Int)).toNat, by have := Int.emod_nonneg n (show (ps.length : Int) ≠ 0 by omega); omega, by have := Int.emod_lt_of_pos n (show 0 < (ps.length : Int) by omega); have := Int.emod_nonneg n (show (ps.length : Int) ≠ 0 by omega); omega⟩
  have hm : ps[j] ∈ ps := List.getElem_mem hj
  refine i_ixL (sq_of el) (at_nat (n := j) ej (v := .ref ps[j]) (by rw [List.getElem?_map, List.getElem?_eq_getElem hj]; rfl)) ?_
  wtm_at "w"
  wtm_at "ix"
  refine i_setL ed (n := 1) rfl ?_
  have i1 : DkI d pl ps (upd H d (.lst [.ref pl, .int (n + 1)])) := deck_d i
  have k1 : Kp (deckW d pl ps) H (upd H d (.lst [.ref pl, .int (n + 1)])) := ⟨i1, keep_in (Keep.refl _ _) (.inl rfl)⟩
  show tSeq _ _ _ _ (upd H d (.lst [.ref pl, .int (n + 1)]))
  generalize upd H d (.lst [.ref pl, .int (n + 1)]) = H1 at i1 k1 ⊢
  generalize hp : ps[j] = p at hm ⊢
  obtain ⟨c, f, k, ep⟩ := i1.p p hm
  have fin : ∀ c f k : Int, Kp (deckW d pl ps) H (upd H1 p (.lst [.int c, .int f, .int k])) := fun c f k => ⟨deck_p i1 hm, keep_in k1.k (.inr (.inr hm))⟩
  wtm_at "w"
  refine i_andP (b1 := decide (f = 1)) (b2 := decide (0 < c)) (fun QB h => ?_) (fun _ QB h => ?_) ?_
  · wtm_at "w"
    wtm_at "ix"
    exact h
  · wtm_at "w"
    wtm_at "ix"
    exact h
  refine i_both (fun hf => ?_) (fun hf => ?_)
  · wtm_at "w"
    wtm_at "ix"
    wtm_at "ix"
    refine i_setL ep (n := 0) rfl ?_
    wtm_at "w"
    exact h _ _ (Int.emod_nonneg _ (by omega)) (Int.emod_lt_of_pos _ h0) (fin _ _ _)
  · wtm_at "w"
    wtm_at "ix"
    refine i_setL ep (n := 2) rfl ?_
    have e2 : (upd H1 p (.lst [.int c, .int f, .int (k + 1)])) p = some (.lst [.int c, .int f, .int (k + 1)]) := upd_same
    have f2 := fin c f (k + 1)
    show tSeq _ _ _ _ (upd H1 p (.lst [.int c, .int f, .int (k + 1)]))
    generalize upd H1 p (.lst [.int c, .int f, .int (k + 1)]) = H2 at e2 f2 ⊢
    wtm_at "w"
    wtm_at "ix"
    wtm_at "ix"
    generalize e1 : (c % 99999999977 + 700001 * (k + 1)) % 99999999947 = r1
    have b1 : 0 ≤ r1 ∧ r1 < 99999999947 := by omega
    wtm_at "w"
    generalize e3 : r1 * r1 % 99999999821 = r2
    have b2 : 0 ≤ r2 ∧ r2 < 99999999821 := by omega
    wtm_at "w"
    exact h _ _ (Int.emod_nonneg _ (by omega)) (Int.emod_lt_of_pos _ h0) f2
def DeckT (H : Hp) (a pl : Addr) (i : Nat) (σ : L2.St) (H' : Hp) : Prop := ∃ (ps : List Addr) (y2 y3 : Option V), σ = [some (.ref a), some (.ref pl), y2, y3] ∧ Same H H' ∧ H' pl = some (.lst (ps.map V.ref)) ∧ ps.length = i ∧ (∀ p ∈ ps, ∃ c f k : Int, H' p = some (.lst [.int c, .int f, .int k]))
theorem deck_turn {H H' : Hp} {a pl p : Addr} {i : Nat} {ps : List Addr} {y2 y3 : Option V} {c f k : Int} (npl : H pl = none) (s : Same H H') (e : H' pl = some (.lst (ps.map V.ref))) (el : ps.length = i) (ep : ∀ p ∈ ps, ∃ c f k : Int, H' p = some (.lst [.int c, .int f, .int k])) (hp : H' p = none) :
    DeckT H a pl (i + 1) [some (.ref a), some (.ref pl), y2, y3] (upd (upd H' p (.lst [.int c, .int f, .int k])) pl (.lst (ps.map V.ref ++ [.ref p]))) := by
  have npp : pl ≠ p := ne_of_none e hp
  refine ⟨ps ++ [p], _, _, rfl, same_mut (s.trans (same_new hp)) npl, ?_, by simp [el], fun q hq => ?_⟩
  · rw [upd_same, List.map_append]; rfl
  · rcases List.mem_append.mp hq with hq | hq
    · obtain ⟨c2, f, k, eq⟩ := ep q hq
      refine ⟨c2, f, k, ?_⟩
      have n1 : q ≠ p := ne_of_none eq hp
      have n2 : q ≠ pl := fun z => by
        rw [z, e] at eq
        have e3 := HO.lst.inj (Option.some.inj eq)
        cases ps with
        | nil => cases hq
        | cons x r => simp at e3
      rw [upd_ne n2, upd_ne n1]; exact eq
    · have z : q = p := by simpa using hq
      subst z
      exact ⟨_, _, _, by rw [upd_ne npp.symm, upd_same]⟩
theorem u_law_deck {a : Addr} {ns : List Int} (hs : SqL G.K H a (ns.map V.int)) (hl : ns.length ≤ 63)
    (h : ∀ d pl ps H', Same H H' → DkI d pl ps H' → Q (.ref d) H') : sp_law_deck G [.ref a] H Q E := by
  refine ⟨rfl, ?_⟩
  unfold t_law_deck
  wtm_at "w"
  refine ⟨Nat.zero_le _, fun pl npl => ?_⟩
  wtm_at "w"
  have s1 : Same H (upd H pl (.lst [])) := same_new npl
  refine i_lenL (s1.seq hs) ?_
  wtm_at "w"
  rw [List.length_map]
  generalize hm : (if (if (ns.length : Int) < 63 then (ns.length : Int) else 63) > 1 then (if (ns.length : Int) < 63 then (ns.length : Int) else 63) else 1) = m
  have hm1 : 1 ≤ m ∧ m ≤ 63 := by
    rw [← hm]
    split <;> split <;> omega
  refine i_rngA1 (by omega) ?_
  refine lk_range (DeckT H a pl) ⟨[], none, none, rfl, s1, upd_same, rfl, by simp⟩ ?_ ?_
  · rintro i σ H' hi ⟨ps, y2, y3, rfl, s, e, el, ep⟩
    wtm_at "w"
    refine i_lenL (s.seq hs) ?_
    wtm_at "w"
    refine i_ite (fun hlt => ?_) (fun hlt => ?_)
    · wtm_at "w"
      rw [List.length_map] at hlt
      have hlt' : i < ns.length := by omega
      refine i_ixL (s.seq hs) (at_nat (n := i) (by omega) (v := .int ns[i]) (by rw [List.getElem?_map, List.getElem?_eq_getElem hlt']; rfl)) ?_
      wtm_at "w"
      refine ⟨.inl ⟨rfl, _, sq_of e⟩, ?_⟩
      wtm_at "w"
      refine ⟨sz_le (by simp), fun p hp => ?_⟩
      wtm_at "w"
      refine i_app (xs := ps.map V.ref) (by rw [upd_ne (ne_of_none e hp)]; exact e) (sz_lt (by simp; omega)) ?_
      exact deck_turn npl s e el ep hp
    · wtm_at "w"
      refine ⟨.inl ⟨rfl, _, sq_of e⟩, ?_⟩
      wtm_at "w"
      refine ⟨sz_le (by simp), fun p hp => ?_⟩
      wtm_at "w"
      refine i_app (xs := ps.map V.ref) (by rw [upd_ne (ne_of_none e hp)]; exact e) (sz_lt (by simp; omega)) ?_
      exact deck_turn npl s e el ep hp
  · rintro σ H' ⟨ps, y2, y3, rfl, s, e, el, ep⟩
    wtm_at "w"
    refine ⟨sz_le (by simp), fun d hd => ?_⟩
    refine h d pl ps _ (s.trans (same_new hd)) ⟨⟨0, upd_same⟩, ?_, by omega, by omega, fun p hp => ?_⟩
    · rw [upd_ne (ne_of_none e hd)]; exact e
    · obtain ⟨c, f, k, eq⟩ := ep p hp
      exact ⟨c, f, k, by rw [upd_ne (ne_of_none eq hd)]; exact eq⟩
end
/-! ### numbers of a kind in order -/
theorem tri_succ (k : Int) : (k + 1) * k / 2 = k * (k - 1) / 2 + k := by
  have e : (k + 1) * k = k * (k - 1) + k * 2 := by
    rw [Int.add_mul, Int.mul_sub]; omega
  rw [e, Int.add_mul_ediv_right _ _ (by decide)]
theorem dots_succ_int (s k : Int) : dotsV (.int s) (k + 1) = dotsV (.int s) k + (1 + k * (s - 2)) := by
  unfold dotsV
  have e : k + 1 - 1 = k := by omega
  simp only [e]
  rw [tri_succ, Int.mul_add, Int.mul_comm (s - 2) k]
  omega
theorem cube_succ (k : Int) : (k + 1) * (k + 1) * (k + 1) = k * k * k + (3 * (k * k) + 3 * k + 1) := by
  have e : (k + 1) * (k + 1) = k * k + 2 * k + 1 := by rw [Int.add_mul, Int.mul_add]; omega
  rw [e, Int.add_mul, Int.add_mul, Int.mul_add, Int.mul_add, Int.mul_assoc 2 k k]
  have : k * k * k + k * k * 1 = k * k * k + k * k := by rw [Int.mul_one]
  omega
theorem dots_lt {v : V} (hv : IsKd v) {k : Int} (hk : 1 ≤ k) : dotsV v k + 1 ≤ dotsV v (k + 1) := by
  rcases hv with ⟨s, rfl, h1, h2⟩ | rfl
  · rw [dots_succ_int]
    have : 0 ≤ k * (s - 2) := Int.mul_nonneg (by omega) (by omega)
    omega
  · show k * k * k + 1 ≤ (k + 1) * (k + 1) * (k + 1)
    rw [cube_succ]
    have : 0 ≤ k * k := Int.mul_nonneg (by omega) (by omega)
    omega
theorem dots_one {v : V} (hv : IsKd v) : dotsV v 1 = 1 := by
  rcases hv with ⟨s, rfl, h1, h2⟩ | rfl
  · show 1 + (s - 2) * (1 * (1 - 1) / 2) = 1
    rw [show (1 * (1 - 1) / 2 : Int) = 0 by decide]; omega
  · rfl
theorem dots_mono {v : V} (hv : IsKd v) : ∀ (n : Nat) {k : Int}, 1 ≤ k → dotsV v k + n ≤ dotsV v (k + n)
  | 0, k, hk => by simp
  | n + 1, k, hk => by
    have h1 := dots_mono hv n hk
    have h2 := dots_lt hv (k := k + n) (by omega)
    have e : k + ((n + 1 : Nat) : Int) = k + n + 1 := by omega
    rw [e]; omega
theorem dots_le {v : V} (hv : IsKd v) {i j : Int} (h1 : 1 ≤ i) (h2 : i ≤ j) : dotsV v i + (j - i) ≤ dotsV v j := by
  have h := dots_mono hv (j - i).toNat h1
  have e : i + ((j - i).toNat : Int) = j := by omega
  rw [e] at h
  omega
theorem dots_ge {v : V} (hv : IsKd v) {k : Int} (hk : 1 ≤ k) : k ≤ dotsV v k := by
  have h := dots_le hv (i := 1) (j := k) (by omega) hk
  rw [dots_one hv] at h
  omega
/-- the numbers of a kind to a bound: the first n -/
def dotsN (v : V) (n : Nat) : List Int := (List.range n).map fun (j : Nat) => dotsV v ((j : Int) + 1)
theorem dotsN_succ (v : V) (n : Nat) : dotsN v (n + 1) = dotsN v n ++ [dotsV v ((n : Int) + 1)] := by
  unfold dotsN
  rw [List.range_succ, List.map_append]; rfl
theorem dotsN_len (v : V) (n : Nat) : (dotsN v n).length = n := by unfold dotsN; simp
section
variable {G : Gx} {H : Hp} {Q : VK} {E : XK}
def DotsT (H : Hp) (v : V) (most : Int) (l : Addr) (m : Nat) (σ : L2.St) (H' : Hp) : Prop := ∃ (n : Nat) (more : Int), σ = [some v, some (.int most), some (.ref l), some (.int ((n : Int) + 1)), some (.int (dotsV v ((n : Int) + 1))), some (.int more)] ∧
  Same H H' ∧ H' l = some (.lst ((dotsN v n).map V.int)) ∧ m = most.toNat + 1 - n ∧ (∀ j < n, dotsV v ((j : Int) + 1) ≤ most) ∧ (∀ s, v = .int s → more = 1 + (n : Int) * (s - 2))
theorem u_law_dots {v : V} {most : Int} (hv : IsKd v) (h0 : 0 ≤ most) (h1 : most ≤ 100000)
    (h : ∀ l n H', Same H H' → H l = none → H' l = some (.lst ((dotsN v n).map V.int)) → (∀ j < n, dotsV v ((j : Int) + 1) ≤ most) → most < dotsV v ((n : Int) + 1) → Q (.ref l) H') : sp_law_dots G [v, .int most] H Q E := by
  refine ⟨rfl, ?_⟩
  unfold t_law_dots
  wtm_at "w"
  refine ⟨Nat.zero_le _, fun l nl => ?_⟩
  wtm_at "w"
  refine i_while (DotsT H v most l) (most.toNat + 1) ⟨0, 1, ?_, same_new nl, upd_same, by omega, fun j hj => absurd hj (Nat.not_lt_zero _), fun s _ => by omega⟩ ?_
  · show _ = [some v, some (.int most), some (.ref l), some (.int (0 + 1)), some (.int (dotsV v (0 + 1))), some (.int 1)]
    rw [show (0 : Int) + 1 = 1 by rfl, dots_one hv]
    rfl
  · rintro m σ H' ⟨n, more, rfl, s, e, em, hj, hm⟩
    wtm_at "w"
    refine i_ite (fun hle => ?_) (fun hle => ?_)
    · refine i_turn ?_
      have hk := dots_ge hv (k := (n : Int) + 1) (by omega)
      wtm_at "w"
      refine ⟨.inl ⟨rfl, _, sq_of e⟩, ?_⟩
      wtm_at "w"
      refine i_app e (sz_lt (by simp [dotsN_len]; omega)) ?_
      wtm_at "w"
      have fin : ∀ more' : Int, (∀ s, v = .int s → more' = 1 + ((n + 1 : Nat) : Int) * (s - 2)) → ∃ m', m' < m ∧ DotsT H v most l m' [some v, some (.int most), some (.ref l), some (.int ((n : Int) + 1 + 1)), some (.int (dotsV v ((n : Int) + 1 + 1))), some (.int more')] (upd H' l (.lst ((dotsN v n).map V.int ++ [.int (dotsV v ((n : Int) + 1))]))) := fun more' hm' =>
        ⟨most.toNat + 1 - (n + 1), by omega, n + 1, more', by rw [show ((n + 1 : Nat) : Int) = (n : Int) + 1 by omega], same_mut s nl, by rw [upd_same, dotsN_succ, List.map_append]; rfl, rfl, fun j hj' => by
          by_cases z : j < n
          · exact hj j z
          · have z2 : j = n := by omega
            subst z2; exact hle, hm'⟩
      rcases hv with ⟨sd, rfl, h2, h3⟩ | rfl
      · wtm_at "w"
        have em2 := hm sd rfl
        have e1 : dotsV (.int sd) ((n : Int) + 1 + 1) = dotsV (.int sd) ((n : Int) + 1) + (more + sd - 2) := by
          rw [dots_succ_int, em2, Int.add_mul]; omega
        rw [← e1]
        refine fin _ fun s' hs' => ?_
        cases hs'
        rw [em2, show ((n + 1 : Nat) : Int) = (n : Int) + 1 by omega, Int.add_mul]; omega
      · wtm_at "w"
        refine i_pow ⟨by decide, by decide, by omega⟩ ?_
        wtm_at "w"
        have e1 : ((n : Int) + 1 + 1) ^ (3 : Int).toNat = dotsV (.str "cubes") ((n : Int) + 1 + 1) := by
          show ((n : Int) + 1 + 1) ^ 3 = ((n : Int) + 1 + 1) * ((n : Int) + 1 + 1) * ((n : Int) + 1 + 1)
          rw [Int.pow_succ, Int.pow_succ, Int.pow_succ, Int.pow_zero, Int.one_mul]
        rw [e1]
        refine fin _ fun s' hs' => ?_
        cases hs'
    · wtm_at "w"
      exact h l n H' s nl e hj (by omega)
end
/-! ### == of lists of plain things -/
def toD : V → PyData
  | .non => .none
  | .bl b => .bool b
  | .int i => .int i
  | .str s => .str s
  | _ => .none
def sV : V → Bool
  | .non => true
  | .int _ => true
  | .str s => PyData.strOk s
  | _ => false
theorem dp_sV {K : Fg} {H : Hp} : ∀ {v : V}, sV v = true → Dp K H v (toD v)
  | .non, _ => .non
  | .int i, _ => .int i
  | .str s, _ => .str s
  | .bl _, h => by cases h
  | .byt _, h => by cases h
  | .flt _, h => by cases h
  | .ref _, h => by cases h
  | .ty _, h => by cases h
theorem dpAll_sV {K : Fg} {H : Hp} : ∀ {xs : List V}, xs.all sV = true → DpAll K H xs (xs.map toD)
  | [], _ => .nil
  | x :: r, h => by
    rw [List.all_cons, Bool.and_eq_true] at h
    exact .cons (dp_sV h.1) (dpAll_sV h.2)
theorem lay_sV : ∀ {v : V}, sV v = true → (toD v).canLay0 = true ∧ (toD v).depth = 0
  | .non, _ => ⟨by simp [toD, PyData.canLay0], by simp [toD, PyData.depth]⟩
  | .int i, _ => ⟨by simp [toD, PyData.canLay0], by simp [toD, PyData.depth]⟩
  | .str s, h => ⟨by have h' : PyData.strOk s = true := h
                     simpa [toD, PyData.canLay0] using h', by simp [toD, PyData.depth]⟩
  | .bl _, h => by cases h
  | .byt _, h => by cases h
  | .flt _, h => by cases h
  | .ref _, h => by cases h
  | .ty _, h => by cases h
theorem layAll_sV : ∀ {xs : List V}, xs.all sV = true → PyData.canLayAll0 (xs.map toD) = true ∧ PyData.depthAll (xs.map toD) = 0
  | [], _ => ⟨by simp [PyData.canLayAll0], by simp [PyData.depthAll]⟩
  | x :: r, h => by
    rw [List.all_cons, Bool.and_eq_true] at h
    have h1 := lay_sV h.1
    have h2 := layAll_sV h.2
    exact ⟨by simp [PyData.canLayAll0, h1.1, h2.1], by simp [PyData.depthAll, h1.2, h2.2]⟩
theorem shaped_L {xs : List V} (h : xs.all sV = true) : SeqAt.shaped (.list (xs.map toD)) = true := by
  have h2 := layAll_sV h
  unfold SeqAt.shaped
  simp [PyData.canLay0, PyData.depth, h2.1, h2.2]
theorem eqv_sV : ∀ {x y : V}, sV x = true → sV y = true → PyData.eqv (toD x) (toD y) = decide (x = y)
  | .non, .non, _, _ => by simp [toD, PyData.eqv]
  | .non, .int _, _, _ => by simp [toD, PyData.eqv]
  | .non, .str _, _, _ => by simp [toD, PyData.eqv]
  | .int _, .non, _, _ => by simp [toD, PyData.eqv]
  | .int i, .int j, _, _ => by simp only [toD, PyData.eqv]; rw [Bool.eq_iff_iff]; simp
  | .int _, .str _, _, _ => by simp [toD, PyData.eqv]
  | .str _, .non, _, _ => by simp [toD, PyData.eqv]
  | .str _, .int _, _, _ => by simp [toD, PyData.eqv]
  | .str _, .str _, _, _ => by simp only [toD, PyData.eqv]; rw [Bool.eq_iff_iff]; simp
  | .bl _, _, h, _ => by cases h
  | .byt _, _, h, _ => by cases h
  | .flt _, _, h, _ => by cases h
  | .ref _, _, h, _ => by cases h
  | .ty _, _, h, _ => by cases h
  | _, .bl _, _, h => by cases h
  | _, .byt _, _, h => by cases h
  | _, .flt _, _, h => by cases h
  | _, .ref _, _, h => by cases h
  | _, .ty _, _, h => by cases h
theorem eqvAll_sV : ∀ {xs ys : List V}, xs.all sV = true → ys.all sV = true → PyData.eqvAll (xs.map toD) (ys.map toD) = decide (xs = ys)
  | [], [], _, _ => by simp [PyData.eqvAll]
  | [], _ :: _, _, _ => by simp [PyData.eqvAll]
  | _ :: _, [], _, _ => by simp [PyData.eqvAll]
  | x :: r, y :: q, h1, h2 => by
    rw [List.all_cons, Bool.and_eq_true] at h1 h2
    simp only [List.map_cons, PyData.eqvAll, eqv_sV h1.1 h2.1, eqvAll_sV h1.2 h2.2]
    rw [Bool.eq_iff_iff]
    simp
section
variable {K : Fg} {H : Hp} {Q : VK} {a b : Addr} {xs ys : List V}
theorem i_eqL (h1 : SqL K H a xs) (h2 : SqL K H b ys) (s1 : xs.all sV = true) (s2 : ys.all sV = true) (h : Q (.bl (decide (xs = ys))) H) : uEq K (.ref a) (.ref b) H Q :=
  .inr ⟨_, _, .lst h1 (dpAll_sV s1), .lst h2 (dpAll_sV s2), shaped_L s1, shaped_L s2, by
    have e : PyData.eqv (.list (xs.map toD)) (.list (ys.map toD)) = decide (xs = ys) := by simp only [PyData.eqv]; exact eqvAll_sV s1 s2
    rw [e]; exact h⟩
theorem i_neL (h1 : SqL K H a xs) (h2 : SqL K H b ys) (s1 : xs.all sV = true) (s2 : ys.all sV = true) (h : Q (.bl (!decide (xs = ys))) H) : uNe K (.ref a) (.ref b) H Q :=
  .inr ⟨_, _, .lst h1 (dpAll_sV s1), .lst h2 (dpAll_sV s2), shaped_L s1, shaped_L s2, by
    have e : PyData.eqv (.list (xs.map toD)) (.list (ys.map toD)) = decide (xs = ys) := by simp only [PyData.eqv]; exact eqvAll_sV s1 s2
    rw [e]; exact h⟩
end
theorem ints_sV (ns : List Int) : (ns.map V.int).all sV = true := by
  induction ns with
  | nil => rfl
  | cons n r ih => rw [List.map_cons, List.all_cons, ih]; rfl
theorem ints_flat (ns : List Int) : (ns.map V.int).all flatV = true := by
  induction ns with
  | nil => rfl
  | cons n r ih => rw [List.map_cons, List.all_cons, ih]; rfl
theorem inV_int {n : Int} {ns : List Int} : inV (.int n) (ns.map V.int) = decide (n ∈ ns) := by
  rw [Bool.eq_iff_iff]
  simp only [inV, List.any_eq_true, List.mem_map, decide_eq_true_eq]
  constructor
  · rintro ⟨x, ⟨m, hm, rfl⟩, e⟩
    have : m = n := by simpa [eqV] using e
    rw [← this]; exact hm
  · intro h
    exact ⟨.int n, ⟨n, h, rfl⟩, by simp [eqV]⟩
theorem kd_flat {v : V} (h : IsKd v) : flatV v = true := by
  rcases h with ⟨s, rfl, _⟩ | rfl <;> rfl
theorem kds_flat {ks : List V} (h : ∀ v ∈ ks, IsKd v) : ks.all flatV = true := by
  rw [List.all_eq_true]; exact fun v hv => kd_flat (h v hv)
theorem eqV_kd {v w : V} (hv : IsKd v) (hw : IsKd w) : eqV v w = decide (v = w) := by
  rcases hv with ⟨s, rfl, _⟩ | rfl <;> rcases hw with ⟨t, rfl, _⟩ | rfl
  · simp only [eqV]; rw [Bool.eq_iff_iff]; simp
  · simp [eqV]
  · simp [eqV]
  · simp [eqV]
theorem inV_kd {v : V} {ks : List V} (hv : IsKd v) (hk : ∀ w ∈ ks, IsKd w) : inV v ks = decide (v ∈ ks) := by
  rw [Bool.eq_iff_iff]
  simp only [inV, List.any_eq_true, decide_eq_true_eq]
  constructor
  · rintro ⟨x, hx, e⟩
    rw [eqV_kd (hk x hx) hv] at e
    rw [← of_decide_eq_true e]; exact hx
  · intro h
    exact ⟨v, h, by rw [eqV_kd hv hv]; simp⟩
/-! ### slices -/
theorem cut_take {xs : List V} {n : Nat} (h : n ≤ xs.length) : cutV xs none (some (n : Int)) = xs.take n := by
  unfold cutV
  rw [show HT.sIx xs.length 0 none = 0 from HT.sIx_none _ _, HT.sIx_nat]
  simp [Nat.min_eq_left h]
/-! ### kinds -/
structure KdL (ks : List V) : Prop where
  kd : ∀ v ∈ ks, IsKd v
  nd : ks.Nodup
  lo : 1 ≤ ks.length
  hi : ks.length ≤ 5
section
variable {G : Gx} {H : Hp} {Q : VK} {E : XK} {a : Addr} {ks : List V}
theorem given_none (n : Nat) : given (fun _ => none) n = [] := by
  induction n with
  | zero => rfl
  | succ n ih => show given _ n ++ [] = []; rw [ih]; rfl
theorem u_are_kinds (ha : H a = some (.lst ks)) (hk : KdL ks) (h : ∀ H', Same H H' → Q (.bl true) H') : sp_are_kinds G [.ref a] H Q E := by
  refine ⟨rfl, ?_⟩
  unfold t_are_kinds
  wtm_at "wa"
  refine i_isiLL ha ?_
  wtm_at "wa"
  refine i_lenL (sq_of ha) ?_
  wtm_at "wa"
  have h1 := hk.lo
  have h5 := hk.hi
  refine i_T (by simp; omega) ?_
  wtm_at "wa"
  refine i_F (by simp; omega) ?_
  wtm_at "wa"
  refine i_lstA (sq_of ha) ?_
  refine lck_pure walk_list (by omega) (fun _ => none) (fun H' s => sq_of (s _ _ ha)) (fun i x H1 H2 KK NN hi s y hK hN => ?_) (fun p H1 np s1 e1 => ?_)
  · obtain ⟨rfl, hx⟩ := y
    wtm_at "w"
    refine ⟨rfl, ?_⟩
    wtm_at "w"
    refine u_is_kind (hk.kd x (List.mem_of_getElem? hx)) ?_
    wtm_at "w"
    exact hN _ rfl (fun _ _ z => z)
  · rw [given_none] at e1
    wtm_at "w"
    refine ⟨Nat.zero_le _, fun q nq => ?_⟩
    refine i_neL (xs := []) (ys := []) (sq_of (by rw [upd_ne (ne_of_none e1 nq)]; exact e1)) (sq_of upd_same) rfl rfl ?_
    wtm_at "w"
    have s2 : Same H (upd H1 q (.lst [])) := s1.trans (same_new nq)
    generalize upd H1 q (.lst []) = H2 at s2 ⊢
    refine i_enumA (sq_of (s2 _ _ ha)) ?_
    refine lck_pure walk_enum (by omega) (fun _ => none) (fun H' s => sq_of (s _ _ (s2 _ _ ha))) (fun i x H3 H4 KK NN hi s y hK hN => ?_) (fun p H3 np s3 e3 => ?_)
    · obtain ⟨T, x1, x2, rfl, nT, rfl, h1', h2'⟩ := y
      cases h1'
      have e4 : (upd H3 T (.tup [.int (i : Nat), x2])) a = some (.lst ks) := by
        rw [upd_ne (ne_of_none (s _ _ (s2 _ _ ha)) nT)]; exact s _ _ (s2 _ _ ha)
      have s4 : Same H3 (upd H3 T (.tup [.int (i : Nat), x2])) := same_new nT
      refine ⟨T, _, rfl, st_of upd_same, rfl, _, _, rfl, ?_⟩
      generalize upd H3 T (.tup [.int (i : Nat), x2]) = H4 at e4 s4 ⊢
      refine ⟨_, _, rfl, rfl, ?_⟩
      refine ⟨rfl, ?_⟩
      wtm_at "w"
      refine i_slL (sq_of e4) fun q2 nq2 => ?_
      rw [cut_take (by omega)]
      have hx2 : x2 ∈ ks := List.mem_of_getElem? h2'
      refine i_inL (sq_of upd_same) (kd_flat (hk.kd _ hx2)) (kds_flat fun v hv => hk.kd v (List.mem_of_mem_take hv)) ?_
      wtm_at "w"
      rw [inV_kd (hk.kd _ hx2) (fun v hv => hk.kd v (List.mem_of_mem_take hv))]
      refine i_F ?_ ?_
      · rw [decide_eq_false]
        intro hm
        obtain ⟨j, hj, ej⟩ := List.getElem_of_mem hm
        rw [List.length_take] at hj
        rw [List.getElem_take] at ej
        have e5 : ks[j]? = some x2 := by rw [List.getElem?_eq_getElem (by omega), ej]
        have := nd_ix hk.nd e5 h2'
        omega
      · exact hN _ rfl (s4.trans (same_new nq2))
    · rw [given_none] at e3
      wtm_at "w"
      refine ⟨Nat.zero_le _, fun q2 nq2 => ?_⟩
      refine i_eqL (xs := []) (ys := []) (sq_of (by rw [upd_ne (ne_of_none e3 nq2)]; exact e3)) (sq_of upd_same) rfl rfl ?_
      exact h _ ((s2.trans s3).trans (same_new nq2))
theorem u_need_kinds (ha : H a = some (.lst ks)) (hk : KdL ks) (h : ∀ H', Same H H' → Q .non H') : sp_need_kinds G [.ref a] H Q E := by
  refine ⟨rfl, ?_⟩
  unfold t_need_kinds
  wtm_at "w"
  refine u_are_kinds ha hk fun H' s => ?_
  wtm_at "w"
  exact h H' s
theorem u_need_to_most {n : Int} (h0 : 0 ≤ n) (h1 : n ≤ 200) (h : Q .non H) : sp_need_to_most G [.int n] H Q E := by
  refine ⟨rfl, ?_⟩
  unfold t_need_to_most
  wtm_at "wa"
  refine u_is_whole_int ?_
  wtm_at "wa"
  refine i_T (by simp; omega) ?_
  wtm_at "wa"
  refine i_F (by simp; omega) ?_
  wtm_at "wa"
  exact h
end
/-! ### a dict that is used as a set of ints -/
def insI (ks : List Int) (n : Int) : List Int := if n ∈ ks then ks else ks ++ [n]
theorem mem_insI {ks : List Int} {n x : Int} : x ∈ insI ks n ↔ x ∈ ks ∨ x = n := by
  unfold insI
  split
  · constructor
    · exact .inl
    · rintro (h | rfl)
      · exact h
      · assumption
  · simp
theorem nd_insI {ks : List Int} {n : Int} (h : ks.Nodup) : (insI ks n).Nodup := by
  unfold insI
  split
  · exact h
  · rename_i hn
    rw [List.nodup_append]
    refine ⟨h, by simp, fun a ha b hb => ?_⟩
    have : b = n := by simpa using hb
    subst this
    exact fun z => hn (z ▸ ha)
theorem len_insI (ks : List Int) (n : Int) : (insI ks n).length ≤ ks.length + 1 := by
  unfold insI
  split
  · omega
  · simp
theorem keys_put {kvs : List (Key × V)} {ks : List Int} (e : kvs.map (·.1) = ks.map Sum.inl) (n : Int) (v : V) : (putK kvs (Sum.inl n) v).map (·.1) = (insI ks n).map Sum.inl := by
  have hm : (kvs.any fun kv => decide (kv.1 = Sum.inl n)) = true ↔ n ∈ ks := by
    rw [List.any_eq_true]
    constructor
    · rintro ⟨kv, hk, z⟩
      have z' : kv.1 = Sum.inl n := of_decide_eq_true z
      have : kv.1 ∈ kvs.map (·.1) := List.mem_map.mpr ⟨kv, hk, rfl⟩
      rw [e, z'] at this
      simpa using this
    · intro h
      have : (Sum.inl n : Key) ∈ kvs.map (·.1) := by rw [e]; exact List.mem_map.mpr ⟨n, h, rfl⟩
      obtain ⟨kv, hk, z⟩ := List.mem_map.mp this
      exact ⟨kv, hk, by simpa using z⟩
  unfold putK insI
  by_cases h : n ∈ ks
  · rw [if_pos (hm.mpr h), if_pos h, List.map_map, ← e]
    refine List.map_congr_left fun kv _ => ?_
    show (if kv.1 = Sum.inl n then (kv.1, v) else kv).1 = kv.1
    split <;> rfl
  · rw [if_neg (fun z => h (hm.mp z)), if_neg h, List.map_append, List.map_append, e]; rfl
/-- at f a dict whose keys are the ints ks -/
def DI (H : Hp) (f : Addr) (ks : List Int) : Prop := ∃ kvs, H f = some (.dK kvs) ∧ kvs.map (·.1) = ks.map Sum.inl
theorem DI.same {H H' : Hp} {f : Addr} {ks : List Int} (d : DI H f ks) (s : Same H H') : DI H' f ks := by
  obtain ⟨kvs, e, k⟩ := d
  exact ⟨kvs, s _ _ e, k⟩
theorem DI.len {H : Hp} {f : Addr} {ks : List Int} {kvs : List (Key × V)} (k : kvs.map (·.1) = ks.map Sum.inl) : kvs.length = ks.length := by
  have := congrArg List.length k
  simpa using this
theorem i_setD {H : Hp} {f : Addr} {ks : List Int} {n : Int} {v : V} {R : Hp → Prop} (d : DI H f ks) (hl : ks.length < 1000000) (h : ∀ kvs, DI (upd H f (.dK kvs)) f (insI ks n) → R (upd H f (.dK kvs))) : uSet (.ref f) (.int n) v H R := by
  obtain ⟨kvs, e, k⟩ := d
  refine .inr ⟨f, _, rfl, DPut.k (k := Sum.inl n) e (sz_lt (by rw [DI.len (H := H) (f := f) k]; exact hl)), h _ ⟨_, upd_same, keys_put k n v⟩⟩
theorem i_sortedD {K : Fg} {H : Hp} {f : Addr} {ks : List Int} {Q : VK} (d : DI H f ks) (h : ∀ (ys : List Int) (p : Addr), ys.Perm ks → ys.Pairwise (· ≤ ·) → H p = none → Q (.ref p) (upd H p (.lst (ys.map V.int)))) : uSorted K [.ref f] H Q := by
  obtain ⟨kvs, e, k⟩ := d
  exact .inr ⟨f, kvs, ks, rfl, .inl e, k, h⟩
theorem i_sortedL {K : Fg} {H : Hp} {a : Addr} {ks : List Int} {Q : VK} (d : SqL K H a (ks.map V.int)) (h : ∀ (ys : List Int) (p : Addr), ys.Perm ks → ys.Pairwise (· ≤ ·) → H p = none → Q (.ref p) (upd H p (.lst (ys.map V.int)))) : uSorted K [.ref a] H Q := .inl ⟨a, ks, rfl, d, h⟩
/-! ### stocks -/
def IsDot (ks : List V) (x : Int) : Prop := ∃ v ∈ ks, ∃ k : Int, 1 ≤ k ∧ dotsV v k = x
structure StockOf (ks : List V) (b : Int) (L : List Int) : Prop where
  up : L.Pairwise (· < ·)
  mem : ∀ x, x ∈ L ↔ x ≤ b ∧ IsDot ks x
theorem lt_of_le_nd : ∀ {l : List Int}, l.Pairwise (· ≤ ·) → l.Nodup → l.Pairwise (· < ·)
  | [], _, _ => .nil
  | x :: r, h, n => by
    rw [List.pairwise_cons] at h ⊢
    rw [List.nodup_cons] at n
    exact ⟨fun y hy => by
      have h1 := h.1 y hy
      have h2 : x ≠ y := fun z => n.1 (z ▸ hy)
      omega, lt_of_le_nd h.2 n.2⟩
theorem up_ext : ∀ {l m : List Int}, l.Pairwise (· < ·) → m.Pairwise (· < ·) → (∀ x, x ∈ l ↔ x ∈ m) → l = m
  | [], [], _, _, _ => rfl
  | [], y :: q, _, _, h => by have := (h y).mpr (by simp); simp at this
  | x :: r, [], _, _, h => by have := (h x).mp (by simp); simp at this
  | x :: r, y :: q, h1, h2, h => by
    rw [List.pairwise_cons] at h1 h2
    have exy : x = y := by
      have a := (h x).mp (by simp)
      have b := (h y).mpr (by simp)
      rcases List.mem_cons.mp a with z | z
      · exact z
      · rcases List.mem_cons.mp b with w | w
        · exact w.symm
        · have := h2.1 x z
          have := h1.1 y w
          omega
    subst exy
    rw [up_ext h1.2 h2.2 fun z => ?_]
    have hz := h z
    constructor
    · intro m
      rcases List.mem_cons.mp (hz.mp (List.mem_cons_of_mem _ m)) with w | w
      · have := h1.1 z m; omega
      · exact w
    · intro m
      rcases List.mem_cons.mp (hz.mpr (List.mem_cons_of_mem _ m)) with w | w
      · have := h2.1 z m; omega
      · exact w
theorem StockOf.uniq {ks : List V} {b : Int} {L M : List Int} (h : StockOf ks b L) (g : StockOf ks b M) : L = M := up_ext h.up g.up fun x => by rw [h.mem, g.mem]
/-- ahead of kind i, and in kind i ahead of its k-th -/
def InSt (ks : List V) (b : Int) (i : Nat) (v : V) (k : Int) (x : Int) : Prop := x ≤ b ∧ (IsDot (ks.take i) x ∨ ∃ j : Int, 1 ≤ j ∧ j < k ∧ dotsV v j = x)
theorem isDot_take {ks : List V} {i : Nat} {v : V} (hi : ks[i]? = some v) (x : Int) : IsDot (ks.take (i + 1)) x ↔ IsDot (ks.take i) x ∨ ∃ j : Int, 1 ≤ j ∧ dotsV v j = x := by
  unfold IsDot
  rw [List.take_add_one, hi]
  constructor
  · rintro ⟨w, hw, k, h1, h2⟩
    rcases List.mem_append.mp hw with hw | hw
    · exact .inl ⟨w, hw, k, h1, h2⟩
    · have : w = v := by simpa using hw
      subst this
      exact .inr ⟨k, h1, h2⟩
  · rintro (⟨w, hw, k, h1, h2⟩ | ⟨j, h1, h2⟩)
    · exact ⟨w, List.mem_append_left _ hw, k, h1, h2⟩
    · exact ⟨v, List.mem_append_right _ (by simp), j, h1, h2⟩
section
variable {G : Gx} {H : Hp} {Q : VK} {E : XK} {a : Addr} {ks : List V}
def StkO (H : Hp) (a f : Addr) (ks : List V) (b : Int) (i : Nat) (σ : L2.St) (H' : Hp) : Prop := ∃ y3 y4 keys, σ = [some (.ref a), some (.int b), some (.ref f), y3, y4] ∧ Same H H' ∧ DI H' f keys ∧ keys.Nodup ∧ keys.length ≤ 1000 * i ∧ ∀ x, x ∈ keys ↔ x ≤ b ∧ IsDot (ks.take i) x
def StkI (H : Hp) (a f : Addr) (ks : List V) (b : Int) (i : Nat) (v : V) (m : Nat) (σ : L2.St) (H' : Hp) : Prop := ∃ (k : Int) (keys : List Int), σ = [some (.ref a), some (.int b), some (.ref f), some v, some (.int k)] ∧ 1 ≤ k ∧ k ≤ b + 1 ∧ m = (b + 1 - k).toNat ∧ Same H H' ∧ DI H' f keys ∧ keys.Nodup ∧ (keys.length : Int) ≤ 1000 * i + k ∧ ∀ x, x ∈ keys ↔ InSt ks b i v k x
theorem u_stock_of {b : Int} (ha : SqL G.K H a ks) (hk : ∀ v ∈ ks, IsKd v) (hn : ks.length ≤ 100) (h0 : 0 ≤ b) (h1 : b ≤ 900) (h : ∀ p L H', Same H H' → H p = none → H' p = some (.lst (L.map V.int)) → StockOf ks b L → Q (.ref p) H') : sp_stock_of G [.ref a, .int b] H Q E := by
  refine ⟨rfl, ?_⟩
  unfold t_stock_of
  wtm_at "w"
  intro f nf
  wtm_at "w"
  have s1 : Same H (upd H f (.dK [])) := same_new nf
  refine i_lstA (s1.seq ha) ?_
  refine lk_list (StkO H a f ks b) ⟨_, _, [], rfl, s1, ⟨[], upd_same, rfl⟩, List.nodup_nil, by simp, fun x => ?_⟩ (fun i σ H' _ ⟨_, _, _, _, s, _⟩ => s.seq ha) ?_ ?_
  · simp [IsDot]
  · rintro i v σ H2 hi ⟨y3, y4, keys, rfl, s, d, nd, hl, hm⟩
    have hv := hk v (List.mem_of_getElem? hi)
    have hi' : i < ks.length := (List.getElem?_eq_some_iff.mp hi).1
    wtm_at "w"
    refine i_while (StkI H a f ks b i v) b.toNat ⟨1, keys, rfl, by omega, by omega, by omega, s, d, nd, by omega, fun x => ?_⟩ ?_
    · rw [hm]
      unfold InSt
      constructor
      · rintro ⟨z1, z2⟩; exact ⟨z1, .inl z2⟩
      · rintro ⟨z1, z2 | ⟨j, z2, z3, _⟩⟩
        · exact ⟨z1, z2⟩
        · omega
    · rintro m σ H3 ⟨k, keys, rfl, k1, k2, em, s3, d3, nd3, hl3, hm3⟩
      have hge := dots_ge hv k1
      wtm_at "w"
      refine u_dots hv (by omega) (by omega) ?_
      wtm_at "w"
      refine i_ite (fun hle => ?_) (fun hle => ?_)
      · refine i_turn ?_
        wtm_at "w"
        refine u_dots hv (by omega) (by omega) ?_
        refine i_setD d3 (by omega) fun kvs d4 => ?_
        wtm_at "w"
        refine ⟨(b + 1 - (k + 1)).toNat, by omega, k + 1, insI keys (dotsV v k), rfl, by omega, by omega, rfl, same_mut s3 nf, d4, nd_insI nd3, by have := len_insI keys (dotsV v k); omega, fun x => ?_⟩
        rw [mem_insI, hm3]
        unfold InSt
        constructor
        · rintro (⟨z1, z2 | ⟨j, z2, z3, z4⟩⟩ | rfl)
          · exact ⟨z1, .inl z2⟩
          · exact ⟨z1, .inr ⟨j, z2, by omega, z4⟩⟩
          · exact ⟨hle, .inr ⟨k, k1, by omega, rfl⟩⟩
        · rintro ⟨z1, z2 | ⟨j, z2, z3, z4⟩⟩
          · exact .inl ⟨z1, .inl z2⟩
          · by_cases z : j = k
            · subst z; exact .inr z4.symm
            · exact .inl ⟨z1, .inr ⟨j, z2, by omega, z4⟩⟩
      · refine ⟨_, _, keys, rfl, s3, d3, nd3, by omega, fun x => ?_⟩
        rw [hm3, isDot_take hi]
        unfold InSt
        constructor
        · rintro ⟨z1, z2 | ⟨j, z2, z3, z4⟩⟩
          · exact ⟨z1, .inl z2⟩
          · exact ⟨z1, .inr ⟨j, z2, z4⟩⟩
        · rintro ⟨z1, z2 | ⟨j, z2, z4⟩⟩
          · exact ⟨z1, .inl z2⟩
          · refine ⟨z1, .inr ⟨j, z2, ?_, z4⟩⟩
            by_cases z : j < k
            · exact z
            · have := dots_le hv k1 (show k ≤ j by omega)
              omega
  · rintro σ H2 ⟨y3, y4, keys, rfl, s, d, nd, hl, hm⟩
    wtm_at "w"
    refine i_sortedD d fun ys p perm srt np => ?_
    refine h p ys _ (s.trans (same_new np)) (s.free np) upd_same ⟨lt_of_le_nd srt (perm.symm.nodup nd), fun x => ?_⟩
    rw [perm.mem_iff, hm, List.take_length]
end
/-! ### what stands in a heap -/
theorem upd_old {H : Hp} {a p : Addr} {o u : HO} (np : H p = none) (e : H a = some o) : upd H p u a = some o := by rw [upd_ne (ne_of_none e np)]; exact e
theorem same_at {H H' : Hp} {a : Addr} {o : HO} (s : Same H H') (e : H a = some o) : H' a = some o := s a o e
theorem upd_oth {H : Hp} {a p : Addr} {o u : HO} (n : a ≠ p) (e : H a = some o) : upd H p u a = some o := by rw [upd_ne n]; exact e
theorem i_tyL {K : Fg} {H : Hp} {a : Addr} {xs : List V} {P : Prop} (e : H a = some (.lst xs)) (h : P) : tyV K "list" (.ref a) H ∧ P := ⟨.inl ⟨rfl, _, sq_of e⟩, h⟩
theorem i_new {n : Nat} {P : Prop} (hn : n ≤ 1000) (h : P) : n ≤ sizeLine ∧ P := ⟨sz_le (by omega), h⟩
theorem i_popAt {H : Hp} {l : Addr} {xs : List V} {i : Int} {k : Nat} {Q : VK} (e : H l = some (.lst xs)) (ei : i = (k : Int)) (hk : k < xs.length) (hz : xs.length ≤ 1000) (h : Q xs[k] (upd H l (.lst (xs.eraseIdx k)))) : rPopAt (.ref l) [.int i] H Q :=
  ⟨l, xs, i, k, xs[k], rfl, rfl, e, by omega, by omega, by rw [seqIndex_of (by omega) (by omega), ei]; rfl, List.getElem?_eq_getElem hk, h⟩
theorem i_ulist {K : Fg} {H : Hp} {p : Addr} {ys : List V} {Q : VK} (e : SqL K H p ys) (h : ∀ l, H l = none → Q (.ref l) (upd H l (.lst ys))) : uList K [.ref p] H Q := .inl ⟨p, ys, rfl, .inl e, h⟩
local macro_rules | `(tactic| wtm_at "hp") => `(tactic| solve_by_elim (maxDepth := 14) only [*, upd_same, upd_old, same_at, sq_of, st_of])
/-! ### drawing -/
/-- what draws: of a part of the heap of its own -/
def Drw (W : Wd) (sp : Sp) (s : V) : Prop := ∀ (H : Hp) (many : Int) (Q : VK) (E : XK), W.I H → 0 < many → many < 2 ^ 64 → (∀ r H', 0 ≤ r → r < many → Kp W H H' → Q (.int r) H') → sp [s, .int many] H Q E
def kinds11 : List V := [.int 3, .int 4, .int 5, .int 6, .int 7, .int 8, .int 9, .int 10, .int 11, .int 12, .str "cubes"]
theorem kinds11_kd {x : V} (h : x ∈ kinds11) : IsKd x := by
  simp only [kinds11, List.mem_cons, List.not_mem_nil, or_false] at h
  rcases h with rfl | rfl | rfl | rfl | rfl | rfl | rfl | rfl | rfl | rfl | rfl
  all_goals first | exact .inr rfl | exact .inl ⟨_, rfl, by decide, by decide⟩
theorem kinds11_nd : kinds11.Nodup := by decide
theorem erase_perm : ∀ (l : List V) {k : Nat} (h : k < l.length), ([l[k]] ++ l.eraseIdx k).Perm l
  | [], _, h => absurd h (Nat.not_lt_zero _)
  | x :: r, 0, _ => List.Perm.refl _
  | x :: r, k + 1, h => by
    have h' : k < r.length := by simpa using h
    show (r[k] :: x :: r.eraseIdx k).Perm (x :: r)
    exact (List.Perm.swap _ _ _).trans ((erase_perm r h').cons x)
theorem perm_pop {ks rest : List V} {k : Nat} (hk : k < rest.length) : ((ks ++ [rest[k]]) ++ rest.eraseIdx k).Perm (ks ++ rest) := by
  rw [List.append_assoc]
  exact (erase_perm rest hk).append_left ks
theorem kdl_of {ks rest : List V} (p : (ks ++ rest).Perm kinds11) (h1 : 1 ≤ ks.length) (h5 : ks.length ≤ 5) : KdL ks :=
  ⟨fun v hv => kinds11_kd (p.mem_iff.mp (List.mem_append_left _ hv)), (List.nodup_append.mp (p.nodup_iff.mpr kinds11_nd)).1, h1, h5⟩
section
variable {G : Gx} {H H0 : Hp} {Q : VK} {E : XK} {W : Wd}
def PopT (W : Wd) (H0 H : Hp) (l D : Addr) (i : Nat) (H' : Hp) : Prop := H0 D = none ∧ D ≠ l ∧ Kp W H0 H' ∧ ∃ ks rest, H' D = some (.lst ks) ∧ H' l = some (.lst rest) ∧ ks.length = i ∧ rest.length = 11 - i ∧ (ks ++ rest).Perm kinds11
theorem lc_pop {sp : Sp} {s : V} {σ : L2.St} {iv il is m : Nat} {l : Addr} (dr : Drw W sp s) (i0 : W.I H0) (k0 : Kp W H0 H) (n0 : H0 l = none) (e : H l = some (.lst kinds11)) (hm : m ≤ 5)
    (h1 : ∀ x, ((wipe σ [iv]).set iv (some x))[il]? = some (some (.ref l))) (h2 : ∀ x, ((wipe σ [iv]).set iv (some x))[is]? = some (some s)) (h3 : ∀ x, wipe ((wipe σ [iv]).set iv (some x)) [iv] = wipe σ [iv])
    (fin : ∀ p ks rest H', Kp W H0 H' → H0 p = none → At W H' p (.lst ks) → (ks ++ rest).Perm kinds11 → ks.length = m → Q (.ref p) H') :
    LcK (Itr 0 m) (gName iv) tYes (tBM G.K "list" rPopAt (tVar il) (tCons (tCall sp [] E0 (tCons (tVar is) (tCons (tCB (uLen G.K) (tCons (tVar il) tNil)) tNil))) tNil)) [iv] σ H Q := by
  have rl : ¬ W.R l := Wd.notR i0 n0
  refine lck walk_range (fun D i H' => PopT W H0 H l D i H') (fun D hD => ⟨k0.free hD, (ne_of_none e hD).symm, k0.new hD, [], kinds11, upd_same, upd_old hD e, rfl, rfl, List.Perm.refl _⟩) (fun _ _ _ _ _ => trivial) (fun D i x H1 H2 hi p y => ?_) (fun D H' hD p => ?_)
  · obtain ⟨nD, nDl, k1, ks, rest, eD, el, l1, l2, pm⟩ := p
    obtain ⟨rfl, rfl⟩ := y
    have rD : ¬ W.R D := Wd.notR i0 nD
    wtm_at "w"
    refine ⟨h3 _, ?_⟩
    wtm_at "w"
    refine i_var (h1 _) ?_
    refine i_tyL el ?_
    wtm_at "w"
    refine i_var (h2 _) ?_
    wtm_at "w"
    refine i_var (h1 _) ?_
    wtm_at "w"
    refine i_lenL (sq_of el) ?_
    wtm_at "w"
    refine dr _ _ _ _ k1.i (by omega) (by omega) fun r H3 r0 r1 k3 => ?_
    wtm_at "w"
    have k13 := k1.trans k3
    have el3 := (k3.at ⟨el, rl⟩).h
    have eD3 := (k3.at ⟨eD, rD⟩).h
    refine i_popAt (k := r.toNat) el3 (by omega) (by omega) (by omega) ?_
    have hk : r.toNat < rest.length := by omega
    refine ⟨ks, by rw [upd_ne nDl]; exact eD3, sz_lt (by omega), nD, nDl, (k13.mut n0 rl).mut nD rD, ks ++ [rest[r.toNat]], rest.eraseIdx r.toNat, upd_same, by rw [upd_ne nDl.symm, upd_same], by simp [l1], by rw [List.length_eraseIdx_of_lt hk]; omega, (perm_pop hk).trans pm⟩
  · obtain ⟨nD, nDl, k1, ks, rest, eD, el, l1, l2, pm⟩ := p
    exact fin D ks rest H' k1 nD ⟨eD, Wd.notR i0 nD⟩ pm l1
end
section
variable {G : Gx} {H : Hp} {Q : VK} {E : XK} {d pl : Addr} {ps : List Addr}
theorem drw_deck : Drw (deckW d pl ps) (sp_law_draw G) (.ref d) := fun _ _ _ _ i h0 h1 h => u_law_draw i h0 h1 h
/-- one of a new list of three numbers, by a draw -/
theorem u_law_some_kinds (i : DkI d pl ps H) (h : ∀ p ks H', Kp (deckW d pl ps) H H' → H p = none → At (deckW d pl ps) H' p (.lst ks) → KdL ks → Q (.ref p) H') : sp_law_some_kinds G [.ref d] H Q E := by
  refine ⟨rfl, ?_⟩
  unfold t_law_some_kinds
  wtm_at "w"
  refine i_new (by simp) fun l nl => ?_
  wtm_at "w"
  have k1 : Kp (deckW d pl ps) H (upd H l (.lst kinds11)) := (Kp.refl (W := deckW d pl ps) i).new nl
  have e1 : (upd H l (.lst kinds11)) l = some (.lst kinds11) := upd_same
  show sp_law_draw _ _ (upd H l (.lst kinds11)) _ _
  generalize upd H l (.lst kinds11) = H1 at k1 e1 ⊢
  have rl : ¬ (deckW d pl ps).R l := Wd.notR (W := deckW d pl ps) i nl
  refine u_law_draw k1.i (by decide) (by decide) fun r2 H3 c1 c2 k3 => ?_
  wtm_at "w"
  refine i_new (by simp) fun q nq => ?_
  wtm_at "w"
  have k4 := (k1.trans k3).new (o := .lst [.int (1 + r2), .int 1, .int 2]) nq
  have e4 : At (deckW d pl ps) (upd H3 q (.lst [.int (1 + r2), .int 1, .int 2])) q (.lst [.int (1 + r2), .int 1, .int 2]) := At.new k3.i nq
  have el4 : At (deckW d pl ps) (upd H3 q (.lst [.int (1 + r2), .int 1, .int 2])) l (.lst kinds11) := (k3.at ⟨e1, rl⟩).same (same_new nq)
  generalize upd H3 q (.lst [.int (1 + r2), .int 1, .int 2]) = H4 at k4 e4 el4 ⊢
  refine u_law_draw k4.i (by decide) (by decide) fun r1 H5 b1 b2 k5 => ?_
  obtain ⟨m, em, m1, m5⟩ : ∃ m : Nat, atI [V.int (1 + r2), .int 1, .int 2] r1 = some (.int m) ∧ 1 ≤ m ∧ m ≤ 5 := by
    have hr : r1 = 0 ∨ r1 = 1 ∨ r1 = 2 := by omega
    rcases hr with rfl | rfl | rfl
    · exact ⟨(1 + r2).toNat, by rw [show ((1 + r2).toNat : Int) = 1 + r2 by omega]; rfl, by omega, by omega⟩
    · exact ⟨1, rfl, by omega, by omega⟩
    · exact ⟨2, rfl, by omega, by omega⟩
  refine i_ixL (sq_of (k5.at e4).h) em ?_
  wtm_at "w"
  refine i_rngA1 (by omega) ?_
  rw [Int.toNat_natCast]
  refine lc_pop (W := deckW d pl ps) (H0 := H) drw_deck i (k4.trans k5) nl (k5.at el4).h m5 (fun _ => rfl) (fun _ => rfl) (fun _ => rfl) fun p ks rest H' k np a pm hl => ?_
  exact h p ks H' k np a (kdl_of pm (by omega) (by omega))
end
/-! ### the law's own stock -/
theorem mem_dotsN {v : V} {n : Nat} {x : Int} : x ∈ dotsN v n ↔ ∃ j < n, dotsV v ((j : Int) + 1) = x := by
  unfold dotsN
  simp only [List.mem_map, List.mem_range]
/-- of the first n of a kind, where the next is above b -/
theorem dots_to {v : V} (hv : IsKd v) {b : Int} {n : Nat} (h1 : ∀ j < n, dotsV v ((j : Int) + 1) ≤ b) (h2 : b < dotsV v ((n : Int) + 1)) (x : Int) : x ∈ dotsN v n ↔ x ≤ b ∧ ∃ k : Int, 1 ≤ k ∧ dotsV v k = x := by
  rw [mem_dotsN]
  constructor
  · rintro ⟨j, hj, rfl⟩
    exact ⟨h1 j hj, (j : Int) + 1, by omega, rfl⟩
  · rintro ⟨h3, k, hk, rfl⟩
    by_cases z : k ≤ n
    · exact ⟨(k - 1).toNat, by omega, by rw [show (((k - 1).toNat : Nat) : Int) + 1 = k by omega]⟩
    · have := dots_le hv (i := (n : Int) + 1) (j := k) (by omega) (by omega)
      omega
theorem dots_cnt {v : V} (hv : IsKd v) {b : Int} {n : Nat} (h1 : ∀ j < n, dotsV v ((j : Int) + 1) ≤ b) (h0 : 0 ≤ b) : (n : Int) ≤ b := by
  by_cases z : n = 0
  · omega
  · have h := h1 (n - 1) (by omega)
    have h2 := dots_ge hv (k := ((n - 1 : Nat) : Int) + 1) (by omega)
    omega
section
variable {G : Gx} {H : Hp} {Q : VK} {E : XK} {a : Addr} {ks : List V}
def LStI (H : Hp) (a f : Addr) (ks : List V) (b : Int) (i : Nat) (v : V) (l : Addr) (ds : List Int) (j : Nat) (σ : L2.St) (H' : Hp) : Prop := ∃ (y4 : Option V) (keys : List Int), σ = [some (.ref a), some (.int b), some (.ref f), some v, y4] ∧ Same H H' ∧ f ≠ l ∧ H' f = some (.lst (keys.map V.int)) ∧ H' l = some (.lst (ds.map V.int)) ∧ keys.Nodup ∧ keys.length ≤ 1000 * i + j ∧ ∀ x : Int, x ∈ keys ↔ (x ≤ b ∧ IsDot (ks.take i) x) ∨ x ∈ ds.take j
def LStO (H : Hp) (a f : Addr) (ks : List V) (b : Int) (i : Nat) (σ : L2.St) (H' : Hp) : Prop := ∃ (y3 y4 : Option V) (keys : List Int), σ = [some (.ref a), some (.int b), some (.ref f), y3, y4] ∧ Same H H' ∧ H' f = some (.lst (keys.map V.int)) ∧ keys.Nodup ∧ keys.length ≤ 1000 * i ∧ ∀ x : Int, x ∈ keys ↔ x ≤ b ∧ IsDot (ks.take i) x
theorem u_law_stock {b : Int} (ha : H a = some (.lst ks)) (hk : ∀ v ∈ ks, IsKd v) (hn : ks.length ≤ 100) (h0 : 0 ≤ b) (h1 : b ≤ 900) (h : ∀ p L H', Same H H' → H p = none → H' p = some (.lst (L.map V.int)) → StockOf ks b L → Q (.ref p) H') : sp_law_stock G [.ref a, .int b] H Q E := by
  refine ⟨rfl, ?_⟩
  unfold t_law_stock
  wtm_at "w"
  refine i_new (by simp) fun f nf => ?_
  wtm_at "w"
  have s1 : Same H (upd H f (.lst [])) := same_new nf
  refine i_lstA (sq_of (s1 _ _ ha)) ?_
  refine lk_list (LStO H a f ks b) ⟨_, _, [], rfl, s1, upd_same, List.nodup_nil, by simp, fun x => ?_⟩ (fun i σ H' _ ⟨_, _, _, _, s, _⟩ => sq_of (s _ _ ha)) ?_ ?_
  · simp [IsDot]
  · rintro i v σ H2 hi ⟨y3, y4, keys, rfl, s, d, nd, hl, hm⟩
    have hv := hk v (List.mem_of_getElem? hi)
    have hi' : i < ks.length := (List.getElem?_eq_some_iff.mp hi).1
    wtm_at "w"
    refine u_law_dots hv h0 (by omega) fun l n H3 s3 nl el g1 g2 => ?_
    refine i_lstA (sq_of el) ?_
    have hc := dots_cnt hv g1 h0
    refine lk_list (LStI H a f ks b i v l (dotsN v n)) ⟨_, keys, rfl, s.trans s3, ne_of_none d nl, s3 _ _ d, el, nd, by omega, fun x => ?_⟩ (fun i σ H' _ ⟨_, _, _, _, _, _, e, _⟩ => sq_of e) ?_ ?_
    · rw [hm]; simp
    · rintro j x σ H4 hj ⟨y4, keys, rfl, s4, nfl, e4, el4, nd4, hl4, hm4⟩
      rw [List.getElem?_map] at hj
      obtain ⟨x0, hx0, rfl⟩ := Option.map_eq_some_iff.mp hj
      have hj' : j < n := by have := (List.getElem?_eq_some_iff.mp hx0).1; rwa [dotsN_len] at this
      have tk : ∀ x : Int, x ∈ (dotsN v n).take (j + 1) ↔ x ∈ (dotsN v n).take j ∨ x = x0 := fun x => by
        rw [List.take_add_one, hx0]; simp
      wtm_at "w"
      refine i_ninL (sq_of e4) rfl (ints_flat _) ?_
      wtm_at "w"
      rw [inV_int]
      refine i_iteN (fun hin => ?_) (fun hin => ?_)
      · wtm_at "w"
        refine ⟨_, keys, rfl, s4, nfl, e4, el4, nd4, by omega, fun x => ?_⟩
        rw [hm4, tk]
        constructor
        · rintro (z | z)
          · exact .inl z
          · exact .inr (.inl z)
        · rintro (z | z | z)
          · exact .inl z
          · exact .inr z
          · subst z; exact (hm4 _).mp hin
      · wtm_at "w"
        refine i_tyL e4 ?_
        wtm_at "w"
        refine i_app e4 (sz_lt (by rw [List.length_map]; omega)) ?_
        refine ⟨_, keys ++ [x0], rfl, same_mut s4 nf, nfl, by rw [upd_same, List.map_append]; rfl, by rw [upd_ne nfl.symm]; exact el4, ?_, by simp; omega, fun x => ?_⟩
        · have := nd_insI (n := x0) nd4
          rwa [insI, if_neg hin] at this
        · rw [List.mem_append, hm4, tk]
          simp only [List.mem_singleton]
          constructor
          · rintro ((z | z) | z)
            · exact .inl z
            · exact .inr (.inl z)
            · exact .inr (.inr z)
          · rintro (z | z | z)
            · exact .inl (.inl z)
            · exact .inl (.inr z)
            · exact .inr z
    · rintro σ H4 ⟨y4, keys, rfl, s4, nfl, e4, el4, nd4, hl4, hm4⟩
      refine ⟨_, _, keys, rfl, s4, e4, nd4, by rw [List.length_map, dotsN_len] at hl4; omega, fun x => ?_⟩
      rw [hm4, isDot_take hi, List.length_map, List.take_length, dots_to hv g1 g2]
      constructor
      · rintro (⟨z1, z2⟩ | ⟨z1, z2⟩)
        · exact ⟨z1, .inl z2⟩
        · exact ⟨z1, .inr z2⟩
      · rintro ⟨z1, z2 | z2⟩
        · exact .inl ⟨z1, z2⟩
        · exact .inr ⟨z1, z2⟩
  · rintro σ H2 ⟨y3, y4, keys, rfl, s, d, nd, hl, hm⟩
    wtm_at "w"
    refine i_sortedL (sq_of d) fun ys p perm srt np => ?_
    refine h p ys _ (s.trans (same_new np)) (s.free np) upd_same ⟨lt_of_le_nd srt (perm.symm.nodup nd), fun x => ?_⟩
    rw [perm.mem_iff, hm, List.take_length]
end
/-! ### a store by a cell -/
/-! ### tables -/
def tab (n : Nat) (g : Nat → V) : List V := (List.range n).map g
theorem tab_len (n : Nat) (g : Nat → V) : (tab n g).length = n := by unfold tab; simp
theorem tab_get {n i : Nat} {g : Nat → V} (h : i < n) : (tab n g)[i]? = some (g i) := by
  unfold tab; rw [List.getElem?_map, List.getElem?_range h]; rfl
theorem tab_at {n i : Nat} {g : Nat → V} {j : Int} (e : j = (i : Int)) (h : i < n) : atI (tab n g) j = some (g i) := at_nat e (tab_get h)
theorem tab_ext {n : Nat} {f g : Nat → V} (h : ∀ i < n, f i = g i) : tab n f = tab n g := by
  unfold tab
  exact List.map_congr_left fun i hi => h i (List.mem_range.mp hi)
theorem tab_set {n i : Nat} {g : Nat → V} {v : V} : (tab n g).set i v = tab n fun u => if u = i then v else g u := by
  refine List.ext_getElem? fun j => ?_
  rw [List.getElem?_set, tab_len]
  by_cases hj : j < n
  · rw [tab_get hj, tab_get hj]
    by_cases z : i = j
    · subst z; simp [hj]
    · rw [if_neg z, if_neg (fun w => z w.symm)]
  · have e1 : (tab n g)[j]? = none := List.getElem?_eq_none (by rw [tab_len]; omega)
    have e2 : (tab n fun u => if u = i then v else g u)[j]? = none := List.getElem?_eq_none (by rw [tab_len]; omega)
    rw [e1, e2]
    split
    · split <;> first | rfl | omega
    · rfl
theorem ixN_nat {n : Nat} {i : Int} {k : Nat} (e : i = (k : Int)) (h : k < n) : ixN n i = some k := by
  unfold ixN
  rw [if_pos (by omega), if_pos (by omega), e]; rfl
theorem at_last {xs : List V} {v : V} (h : xs[xs.length - 1]? = some v) : atI xs (-1) = some v := by
  have h0 : 0 < xs.length := by
    by_cases z : 0 < xs.length
    · exact z
    · rw [List.getElem?_eq_none (by omega)] at h; cases h
  unfold atI ixN
  rw [if_neg (by decide), if_pos (by omega)]
  show xs[((-1 : Int) + xs.length).toNat]? = some v
  rw [show ((-1 : Int) + xs.length).toNat = xs.length - 1 by omega]
  exact h
/-! ### the fewest unlike ones -/
def lbase : Nat → Option Int := fun t => if t = 0 then some 0 else none
def lbest : Option Int → Option Int → Option Int
  | none, c => c
  | some a, none => some (a + 1)
  | some a, some c => if a + 1 < c then some (a + 1) else some c
def lstep (p : Nat) (f : Nat → Option Int) : Nat → Option Int := fun t => if p ≤ t then lbest (f (t - p)) (f t) else f t
def lrow (S : List Int) : Nat → Option Int := S.foldl (fun f p => lstep p.toNat f) lbase
theorem lrow_snoc {S : List Int} {i : Nat} {p : Int} (h : S[i]? = some p) : lrow (S.take (i + 1)) = lstep p.toNat (lrow (S.take i)) := by
  unfold lrow
  rw [List.take_add_one, h, List.foldl_append]; rfl
theorem StockOf.pos {ks : List V} {b : Int} {L : List Int} (h : StockOf ks b L) (hk : ∀ v ∈ ks, IsKd v) {x : Int} (hx : x ∈ L) : 1 ≤ x := by
  obtain ⟨_, v, hv, k, h1, rfl⟩ := (h.mem x).mp hx
  have := dots_ge (hk v hv) h1
  omega
theorem up_len : ∀ {l : List Int} {lo hi : Int}, l.Pairwise (· < ·) → (∀ x ∈ l, lo ≤ x ∧ x ≤ hi) → lo ≤ hi + 1 → (l.length : Int) ≤ hi + 1 - lo
  | [], lo, hi, _, _, h => by simp; omega
  | x :: r, lo, hi, p, h, hh => by
    rw [List.pairwise_cons] at p
    have h1 := h x (by simp)
    have h2 := up_len (l := r) (lo := x + 1) (hi := hi) p.2 (fun y hy => ⟨by have := p.1 y hy; omega, (h y (List.mem_cons_of_mem _ hy)).2⟩) (by omega)
    rw [List.length_cons]; omega
theorem StockOf.len {ks : List V} {b : Int} {L : List Int} (h : StockOf ks b L) (hk : ∀ v ∈ ks, IsKd v) (hb : 0 ≤ b) : (L.length : Int) ≤ b := by
  have := up_len (lo := 1) (hi := b) h.up (fun x hx => ⟨h.pos hk hx, ((h.mem x).mp hx).1⟩) (by omega)
  omega
/-- at qs the rows of a stock -/
structure LRows (H : Hp) (qs : List Addr) (f : Nat → Nat → V) (i n : Nat) : Prop where
  len : qs.length = i + 1
  row : ∀ j q, qs[j]? = some q → H q = some (.lst (tab (n + 1) (f j)))
theorem LRows.same {H H' : Hp} {qs : List Addr} {f : Nat → Nat → V} {i n : Nat} (r : LRows H qs f i n) (s : Same H H') : LRows H' qs f i n := ⟨r.len, fun j q h => s _ _ (r.row j q h)⟩
theorem LRows.last {H : Hp} {qs : List Addr} {f : Nat → Nat → V} {i n : Nat} (r : LRows H qs f i n) : ∃ q, atI (qs.map V.ref) (-1) = some (.ref q) ∧ H q = some (.lst (tab (n + 1) (f i))) := by
  have h : i < qs.length := by have := r.len; omega
  refine ⟨qs[i], at_last ?_, r.row i _ (List.getElem?_eq_getElem h)⟩
  rw [List.length_map, r.len, List.getElem?_map, Nat.add_sub_cancel, List.getElem?_eq_getElem h]; rfl
theorem LRows.snoc {H H' : Hp} {qs : List Addr} {f : Nat → Nat → V} {i n : Nat} {w r : Addr} {o : HO} (c : LRows H qs f i n) (s : Same H H') (hr : ∀ q ∈ qs, q ≠ r) (hw : w ≠ r) (e : H' w = some (.lst (tab (n + 1) (f (i + 1))))) : LRows (upd H' r o) (qs ++ [w]) f (i + 1) n := by
  refine ⟨by simp [c.len], fun j q hj => ?_⟩
  by_cases z : j < qs.length
  · rw [List.getElem?_append_left z] at hj
    rw [upd_ne (hr q (List.mem_of_getElem? hj))]
    exact s _ _ (c.row j q hj)
  · rw [List.getElem?_append_right (by omega)] at hj
    have z2 : j - qs.length = 0 := by
      by_cases y : j - qs.length = 0
      · exact y
      · rw [List.getElem?_eq_none (by simp; omega)] at hj; cases hj
    rw [z2] at hj
    have : w = q := by simpa using hj
    subst this
    rw [upd_ne hw, e, show j = i + 1 by have := c.len; omega]
/-! ### the law's own rows of unlike ones -/
/-! [f(store) for turn in range(m)] -/
/-! ### more steps -/
theorem given_mem {f : Nat → Option V} : ∀ {n : Nat} {y : V}, y ∈ given f n → ∃ i < n, f i = some y
  | 0, _, h => by cases h
  | n + 1, y, h => by
    rcases List.mem_append.mp h with h | h
    · obtain ⟨i, hi, e⟩ := given_mem h
      exact ⟨i, by omega, e⟩
    · cases e : f n with
      | none => rw [e] at h; cases h
      | some z =>
        rw [e] at h
        have : y = z := by simpa using h
        subst this
        exact ⟨n, by omega, e⟩
theorem given_all {f : Nat → Option V} {n : Nat} {P : V → Bool} (h : ∀ i < n, ∀ y, f i = some y → P y = true) : (given f n).all P = true := by
  rw [List.all_eq_true]
  intro y hy
  obtain ⟨i, hi, e⟩ := given_mem hy
  exact h i hi y e
/-! ### how many unlike sums -/
section
variable {G : Gx} {H : Hp} {Q : VK} {E : XK} {a : Addr} {ks : List V}
theorem StockOf.lim {b : Int} {L : List Int} (h : StockOf ks b L) (hk : ∀ v ∈ ks, IsKd v) (hb : b ≤ 1000) : ∀ x ∈ L, 1 ≤ x ∧ x ≤ 1000 := fun x hx => ⟨h.pos hk hx, by have := ((h.mem x).mp hx).1; omega⟩
end
/-! ### the fewest parts -/
open Classical in
noncomputable def minI (ns : List Int) : Int := if h : ∃ m, m ∈ ns ∧ ∀ y ∈ ns, m ≤ y then h.choose else 0
theorem minI_eq {ns : List Int} {m : Int} (h1 : m ∈ ns) (h2 : ∀ y ∈ ns, m ≤ y) : m = minI ns := by
  have h : ∃ m, m ∈ ns ∧ ∀ y ∈ ns, m ≤ y := ⟨m, h1, h2⟩
  unfold minI
  rw [dif_pos h]
  have a := h.choose_spec
  have := h2 _ a.1
  have := a.2 _ h1
  omega
theorem min_ex : ∀ {ns : List Int}, ns ≠ [] → ∃ m, m ∈ ns ∧ ∀ y ∈ ns, m ≤ y
  | [], h => absurd rfl h
  | [x], _ => ⟨x, by simp, by simp⟩
  | x :: y :: r, _ => by
    obtain ⟨m, h1, h2⟩ := min_ex (ns := y :: r) (by simp)
    by_cases z : x ≤ m
    · exact ⟨x, by simp, fun w hw => by
        rcases List.mem_cons.mp hw with e | e
        · omega
        · have := h2 w e; omega⟩
    · exact ⟨m, List.mem_cons_of_mem _ h1, fun w hw => by
        rcases List.mem_cons.mp hw with e | e
        · omega
        · exact h2 w e⟩
/-- what the fewest of n is the least of, but for the one part more -/
def befores (S : List Int) (f : Nat → Int) (n : Nat) : List Int := S.filterMap fun p => if p ≤ (n : Int) then some (f ((n : Int) - p).toNat) else none
noncomputable def fewT (S : List Int) : Nat → Nat → Int
  | 0 => fun _ => 0
  | n + 1 => fun t => if t = n + 1 then 1 + minI (befores S (fewT S n) (n + 1)) else fewT S n t
noncomputable def fewF (S : List Int) (n : Nat) : Int := fewT S n n
theorem fewT_eq (S : List Int) : ∀ (n t : Nat), t ≤ n → fewT S n t = fewF S t
  | 0, t, h => by
    have : t = 0 := by omega
    subst this; rfl
  | n + 1, t, h => by
    by_cases z : t = n + 1
    · subst z; rfl
    · show (if t = n + 1 then _ else fewT S n t) = _
      rw [if_neg z]
      exact fewT_eq S n t (by omega)
theorem fewF_zero (S : List Int) : fewF S 0 = 0 := rfl
theorem befores_ext {S : List Int} {f g : Nat → Int} {n : Nat} (hp : ∀ p ∈ S, 1 ≤ p) (h : ∀ t < n, f t = g t) : befores S f n = befores S g n := by
  unfold befores
  refine filterMap_ext S fun p hm => ?_
  by_cases z : p ≤ (n : Int)
  · rw [if_pos z, if_pos z, h _ (by have := hp p hm; omega)]
  · rw [if_neg z, if_neg z]
where
  filterMap_ext : ∀ {α β : Type} {f g : α → Option β} (l : List α), (∀ a ∈ l, f a = g a) → l.filterMap f = l.filterMap g
    | _, _, _, _, [], _ => rfl
    | _, _, f, g, a :: l, h => by
      rw [List.filterMap_cons, List.filterMap_cons, h a (by simp), filterMap_ext l fun b hb => h b (List.mem_cons_of_mem _ hb)]
theorem fewF_succ {S : List Int} (hp : ∀ p ∈ S, 1 ≤ p) (n : Nat) : fewF S (n + 1) = 1 + minI (befores S (fewF S) (n + 1)) := by
  show (if n + 1 = n + 1 then 1 + minI (befores S (fewT S n) (n + 1)) else _) = _
  rw [if_pos rfl, befores_ext hp fun t ht => fewT_eq S n t (by omega)]
theorem mem_befores {S : List Int} {f : Nat → Int} {n : Nat} {x : Int} : x ∈ befores S f n ↔ ∃ p ∈ S, p ≤ (n : Int) ∧ x = f ((n : Int) - p).toNat := by
  unfold befores
  rw [List.mem_filterMap]
  constructor
  · rintro ⟨p, hp, e⟩
    by_cases z : p ≤ (n : Int)
    · rw [if_pos z] at e
      exact ⟨p, hp, z, (Option.some.inj e).symm⟩
    · rw [if_neg z] at e; cases e
  · rintro ⟨p, hp, z, rfl⟩
    exact ⟨p, hp, by rw [if_pos z]⟩
theorem befores_ne {S : List Int} {f : Nat → Int} {n : Nat} (h1 : 1 ∈ S) (hn : 1 ≤ n) : befores S f n ≠ [] := fun e => by
  have : f ((n : Int) - 1).toNat ∈ befores S f n := mem_befores.mpr ⟨1, h1, by omega, rfl⟩
  rw [e] at this; cases this
theorem fewF_le {S : List Int} (hp : ∀ p ∈ S, 1 ≤ p) {n : Nat} {p : Nat} (hm : (p : Int) ∈ S) (hn : p ≤ n) : fewF S n ≤ fewF S (n - p) + 1 := by
  have hp1 := hp _ hm
  obtain ⟨m, rfl⟩ : ∃ m, n = m + 1 := ⟨n - 1, by omega⟩
  rw [fewF_succ hp]
  have hx : fewF S (m + 1 - p) ∈ befores S (fewF S) (m + 1) := mem_befores.mpr ⟨p, hm, by omega, by congr 1; omega⟩
  obtain ⟨v, h1, h2⟩ := min_ex (List.ne_nil_of_mem hx)
  rw [← minI_eq h1 h2]
  have := h2 _ hx
  omega
theorem fewF_ex {S : List Int} (hp : ∀ p ∈ S, 1 ≤ p) (h1 : 1 ∈ S) {n : Nat} (hn : 1 ≤ n) : ∃ p : Nat, (p : Int) ∈ S ∧ p ≤ n ∧ 1 ≤ p ∧ fewF S n = fewF S (n - p) + 1 := by
  obtain ⟨m, rfl⟩ : ∃ m, n = m + 1 := ⟨n - 1, by omega⟩
  rw [fewF_succ hp]
  obtain ⟨v, h3, h4⟩ := min_ex (befores_ne (f := fewF S) h1 hn)
  rw [← minI_eq h3 h4]
  obtain ⟨p, hm, hle, rfl⟩ := mem_befores.mp h3
  have := hp p hm
  refine ⟨p.toNat, by rw [show (p.toNat : Int) = p by omega]; exact hm, by omega, by omega, ?_⟩
  rw [show (((m + 1 : Nat) : Int) - p).toNat = m + 1 - p.toNat by omega]
  omega
theorem fewF_nn {S : List Int} (hp : ∀ p ∈ S, 1 ≤ p) (h1 : 1 ∈ S) : ∀ n, 0 ≤ fewF S n := by
  intro n
  induction n using Nat.strongRecOn with
  | _ n ih =>
    by_cases z : n = 0
    · subst z; rw [fewF_zero]; omega
    · obtain ⟨p, _, h2, h3, e⟩ := fewF_ex hp h1 (n := n) (by omega)
      have := ih (n - p) (by omega)
      omega
theorem fewF_pos {S : List Int} (hp : ∀ p ∈ S, 1 ≤ p) (h1 : 1 ∈ S) {n : Nat} (hn : 1 ≤ n) : 1 ≤ fewF S n := by
  obtain ⟨p, _, h2, h3, e⟩ := fewF_ex hp h1 hn
  have := fewF_nn hp h1 (n - p)
  omega
theorem fewF_bd {S : List Int} (hp : ∀ p ∈ S, 1 ≤ p) (h1 : 1 ∈ S) : ∀ n : Nat, fewF S n ≤ n
  | 0 => by rw [fewF_zero]; omega
  | n + 1 => by
    have h := fewF_le hp (n := n + 1) (p := 1) h1 (by omega)
    have := fewF_bd hp h1 n
    rw [Nat.add_sub_cancel] at h
    omega
theorem tab_snoc {n : Nat} {g : Nat → V} {v : V} (h : v = g n) : tab n g ++ [v] = tab (n + 1) g := by
  unfold tab
  rw [List.range_succ, List.map_append, h]; rfl
theorem given_ints {α : Type} {S : List α} {g : α → Option Int} : given (fun j => ((S[j]?).bind g).map V.int) S.length = (S.filterMap g).map V.int := by
  have h : ∀ n ≤ S.length, given (fun j => ((S[j]?).bind g).map V.int) n = ((S.take n).filterMap g).map V.int := by
    intro n
    induction n with
    | zero => intro _; rfl
    | succ n ih =>
      intro hn
      show given _ n ++ (match ((S[n]?).bind g).map V.int with | some y => [y] | none => []) = _
      rw [ih (by omega), List.take_add_one, List.getElem?_eq_getElem (by omega), List.filterMap_append, List.map_append]
      congr 1
      show (match ((some S[n]).bind g).map V.int with | some y => [y] | none => []) = (List.filterMap g [S[n]]).map V.int
      cases e : g S[n] <;> simp [e]
  rw [h _ (Nat.le_refl _), List.take_length]
theorem stock_one {ks : List V} {b : Int} {L : List Int} (h : StockOf ks b L) (hk : KdL ks) (hb : 1 ≤ b) : 1 ∈ L := by
  obtain ⟨v, hv⟩ : ∃ v, v ∈ ks := List.exists_mem_of_length_pos (by have := hk.lo; omega)
  exact (h.mem 1).mpr ⟨hb, v, hv, 1, by omega, dots_one (hk.kd v hv)⟩
section
variable {G : Gx} {H : Hp} {Q : VK} {E : XK} {a : Addr} {ks : List V}
theorem u_fewest_by {S : List Int} {b : Nat} (ha : H a = some (.lst (S.map V.int))) (hp : ∀ p ∈ S, 1 ≤ p) (h1 : 1 ≤ b → 1 ∈ S) (hb : b ≤ 900) (hl : S.length ≤ 1000)
    (h : ∀ p H', Same H H' → H p = none → H' p = some (.lst (tab (b + 1) fun u => .int (fewF S u))) → Q (.ref p) H') : sp_fewest_by G [.ref a, .int b] H Q E := by
  refine ⟨rfl, ?_⟩
  unfold t_fewest_by
  wtm_at "w"
  refine i_new (by simp) fun f nf => ?_
  wtm_at "w"
  refine i_rngA2 (by omega) ?_
  rw [show ((b : Int) + 1 - 1).toNat = b by omega]
  refine lk_range (fun i σ H' => ∃ y3 y4, σ = [some (.ref a), some (.int b), some (.ref f), y3, y4] ∧ Same H H' ∧ H' f = some (.lst (tab (i + 1) fun u => .int (fewF S u)))) ⟨_, _, rfl, same_new nf, by rw [upd_same]; rfl⟩ ?_ ?_
  · rintro i σ H1 hi ⟨y3, y4, rfl, s1, e1⟩
    wtm_at "w"
    refine i_tyL e1 ?_
    wtm_at "w"
    refine i_lstA (sq_of (s1 _ _ ha)) ?_
    refine lck_pure walk_list (by rw [List.length_map]; omega) (fun j => ((S[j]?).bind fun p => if p ≤ ((i + 1 : Nat) : Int) then some (fewF S (((i + 1 : Nat) : Int) - p).toNat) else none).map V.int) (fun H' s => sq_of (s _ _ (s1 _ _ ha))) (fun j x H5 H6 KK NN hj s y hK hN => ?_) (fun p H5 np s5 e5 => ?_)
    · obtain ⟨rfl, hx⟩ := y
      rw [List.getElem?_map] at hx
      obtain ⟨x0, hx0, rfl⟩ := Option.map_eq_some_iff.mp hx
      have hx1 := hp x0 (List.mem_of_getElem? hx0)
      wtm_at "w"
      refine ⟨rfl, ?_⟩
      wtm_at "w"
      refine i_ite (fun hle => ?_) (fun hle => ?_)
      · wtm_at "w"
        refine i_ixL (sq_of (s _ _ e1)) (tab_at (i := (((i + 1 : Nat) : Int) - x0).toNat) (by omega) (by omega)) ?_
        exact hK _ _ (by rw [hx0]; show Option.map V.int (if _ then _ else _) = _; rw [if_pos (by omega)]; rfl) (fun _ _ z => z)
      · exact hN _ (by rw [hx0]; show Option.map V.int (if _ then _ else _) = _; rw [if_neg (by omega)]; rfl) (fun _ _ z => z)
    · rw [List.length_map, given_ints] at e5
      refine i_minL (sq_of e5) (List.length_pos_iff.mpr (befores_ne (S := S) (f := fewF S) (n := i + 1) (h1 (by omega)) (by omega))) fun m hm1 hm2 => ?_
      wtm_at "w"
      refine i_app (s5 _ _ e1) (sz_lt (by rw [tab_len]; omega)) ?_
      refine ⟨_, _, rfl, same_mut (s1.trans s5) nf, ?_⟩
      rw [upd_same, tab_snoc]
      rw [fewF_succ hp]
      exact congrArg V.int (congrArg (1 + ·) (minI_eq hm1 hm2))
  · rintro σ H1 ⟨y3, y4, rfl, s1, e1⟩
    wtm_at "w"
    exact h f H1 s1 nf e1
theorem u_fewest_to {n : Nat} (ha : H a = some (.lst ks)) (hk : KdL ks) (h1 : n ≤ 200) (h : ∀ p L H', Same H H' → H p = none → StockOf ks n L → H' p = some (.lst (tab (n + 1) fun u => .int (fewF L u))) → Q (.ref p) H') : sp_fewest_to G [.ref a, .int n] H Q E := by
  refine ⟨rfl, ?_⟩
  unfold t_fewest_to
  have := hk.hi
  wtm_at "w"
  refine u_need_kinds ha hk fun H1 s1 => ?_
  wtm_at "w"
  refine u_need_to_most (by omega) (by omega) ?_
  wtm_at "w"
  refine u_stock_of (sq_of (s1 _ _ ha)) hk.kd (by omega) (by omega) (by omega) fun p L H2 s2 np e2 st => ?_
  wtm_at "w"
  have hl := st.len hk.kd (by omega)
  refine u_fewest_by e2 (fun p hm => st.pos hk.kd hm) (fun z => stock_one st hk (by omega)) (by omega) (by omega) fun q H3 s3 nq e3 => ?_
  exact h q L H3 ((s1.trans s2).trans s3) ((s1.trans s2).free nq) st e3
theorem u_fewest_parts {n : Nat} (ha : H a = some (.lst ks)) (hk : KdL ks) (h1 : n ≤ 200) (h : ∀ L H', Same H H' → StockOf ks n L → Q (.int (fewF L n)) H') : sp_fewest_parts G [.ref a, .int n] H Q E := by
  refine ⟨rfl, ?_⟩
  unfold t_fewest_parts
  have := hk.hi
  wtm_at "w"
  refine u_need_kinds ha hk fun H1 s1 => ?_
  wtm_at "w"
  refine u_need_to_most (by omega) (by omega) ?_
  wtm_at "w"
  refine u_stock_of (sq_of (s1 _ _ ha)) hk.kd (by omega) (by omega) (by omega) fun p L H2 s2 np e2 st => ?_
  wtm_at "w"
  have hl := st.len hk.kd (by omega)
  refine u_fewest_by e2 (fun p hm => st.pos hk.kd hm) (fun z => stock_one st hk (by omega)) (by omega) (by omega) fun q H3 s3 nq e3 => ?_
  wtm_at "w"
  refine i_ixL (sq_of e3) (tab_at (i := n) rfl (by omega)) ?_
  exact h L H3 ((s1.trans s2).trans s3) st
end
/-! ### the first of unlike ones -/
def firstP (P : Nat → Bool) : Nat → Option Nat
  | 0 => none
  | t + 1 => match firstP P t with
    | some a => some a
    | none => if P t then some t else none
theorem firstP_some {P : Nat → Bool} : ∀ {t a : Nat}, firstP P t = some a → a < t ∧ P a = true ∧ ∀ j < a, P j = false
  | 0, _, h => by cases h
  | t + 1, a, h => by
    unfold firstP at h
    cases e : firstP P t with
    | some b =>
      rw [e] at h
      cases h
      obtain ⟨h1, h2, h3⟩ := firstP_some e
      exact ⟨by omega, h2, h3⟩
    | none =>
      rw [e] at h
      by_cases z : P t = true
      · simp only [z, if_true, Option.some.injEq] at h
        subst h
        refine ⟨by omega, z, fun j hj => ?_⟩
        exact firstP_none e j hj
      · simp only [z] at h
        cases h
where
  firstP_none {P : Nat → Bool} : ∀ {t : Nat}, firstP P t = none → ∀ j < t, P j = false
    | 0, _, j, hj => absurd hj (Nat.not_lt_zero _)
    | t + 1, h, j, hj => by
      unfold firstP at h
      cases e : firstP P t with
      | some b => rw [e] at h; cases h
      | none =>
        rw [e] at h
        by_cases z : P t = true
        · simp [z] at h
        · by_cases y : j = t
          · subst y; simpa using z
          · exact firstP_none e j (by omega)
theorem firstP_is {P : Nat → Bool} {t a : Nat} (h1 : a < t) (h2 : P a = true) (h3 : ∀ j < a, P j = false) : firstP P t = some a := by
  cases e : firstP P t with
  | none =>
    have := firstP_some.firstP_none e a h1
    rw [h2] at this; cases this
  | some b =>
    obtain ⟨g1, g2, g3⟩ := firstP_some e
    by_cases z : a < b
    · have := g3 a z; rw [h2] at this; cases this
    · by_cases y : b < a
      · have := h3 b y; rw [g2] at this; cases this
      · rw [show a = b by omega]
theorem firstP_ex {P : Nat → Bool} {t a : Nat} (h1 : a < t) (h2 : P a = true) : ∃ b, firstP P t = some b := by
  cases e : firstP P t with
  | none =>
    have := firstP_some.firstP_none e a h1
    rw [h2] at this; cases this
  | some b => exact ⟨b, rfl⟩
def uOk (S : List Int) (n : Nat) (m : Int) (j : Nat) : Bool := decide (S.getD j 0 ≤ (n : Int)) && decide (lrow (S.take j) (n - (S.getD j 0).toNat) = some m)
def greedy (S : List Int) : Nat → Nat → Nat → List Int
  | 0, _, _ => []
  | m + 1, top, n => match firstP (uOk S n (m : Int)) top with
    | some j => S.getD j 0 :: greedy S m j (n - (S.getD j 0).toNat)
    | none => []
theorem lrow_zero {m : Int} {n : Nat} (h : lrow [] n = some m) : m = 0 := by
  have h' : (if n = 0 then some (0 : Int) else none) = some m := h
  split at h'
  · cases h'; rfl
  · cases h'
/-- where m is the fewest and above 0, some one is the last part -/
theorem lrow_last {S : List Int} (hp : ∀ x ∈ S, 1 ≤ x) {n : Nat} {m : Nat} : ∀ {top : Nat}, top ≤ S.length → lrow (S.take top) n = some ((m + 1 : Nat) : Int) → ∃ j < top, uOk S n m j = true
  | 0, _, h => by
    have := lrow_zero (m := ((m + 1 : Nat) : Int)) (n := n) h
    omega
  | t + 1, ht, h => by
    have hg : S[t]? = some S[t] := List.getElem?_eq_getElem (by omega)
    have hd : S.getD t 0 = S[t] := by rw [List.getD_eq_getElem?_getD, hg]; rfl
    have hp1 := hp S[t] (List.getElem_mem _)
    rw [lrow_snoc hg] at h
    have old : lrow (S.take t) n = some ((m + 1 : Nat) : Int) → ∃ j < t + 1, uOk S n m j = true := fun e => by
      obtain ⟨j, hj, e⟩ := lrow_last hp (by omega) e
      exact ⟨j, by omega, e⟩
    unfold lstep at h
    by_cases z : S[t].toNat ≤ n
    · rw [if_pos z] at h
      have new : lrow (S.take t) (n - S[t].toNat) = some (m : Int) → ∃ j < t + 1, uOk S n m j = true := fun e => by
        refine ⟨t, by omega, ?_⟩
        unfold uOk
        rw [hd, decide_eq_true (by omega), decide_eq_true e]; rfl
      cases e1 : lrow (S.take t) (n - S[t].toNat) with
      | none => rw [e1] at h; exact old h
      | some a =>
        rw [e1] at h
        cases e2 : lrow (S.take t) n with
        | none =>
          rw [e2] at h
          have h' : a + 1 = ((m + 1 : Nat) : Int) := Option.some.inj h
          exact new (by rw [e1, show a = (m : Int) by omega])
        | some c =>
          rw [e2] at h
          have h' : (if a + 1 < c then some (a + 1) else some c) = some ((m + 1 : Nat) : Int) := h
          by_cases y : a + 1 < c
          · rw [if_pos y] at h'
            have h'' := Option.some.inj h'
            exact new (by rw [e1, show a = (m : Int) by omega])
          · rw [if_neg y] at h'
            exact old (by rw [e2, h'])
    · rw [if_neg z] at h
      exact old h
theorem LRows.at {H : Hp} {qs : List Addr} {f : Nat → Nat → V} {i n j : Nat} {jv : Int} (r : LRows H qs f i n) (e : jv = (j : Int)) (hj : j ≤ i) : ∃ q, atI (qs.map V.ref) jv = some (.ref q) ∧ H q = some (.lst (tab (n + 1) (f j))) := by
  have h : j < qs.length := by have := r.len; omega
  refine ⟨qs[j], at_nat e ?_, r.row j _ (List.getElem?_eq_getElem h)⟩
  rw [List.getElem?_map, List.getElem?_eq_getElem h]; rfl
theorem ints_at {S : List Int} {j : Nat} {jv : Int} (e : jv = (j : Int)) (hj : j < S.length) : atI (S.map V.int) jv = some (.int (S.getD j 0)) := by
  refine at_nat e ?_
  rw [List.getElem?_map, List.getD_eq_getElem?_getD, List.getElem?_eq_getElem hj]; rfl
theorem getD_mem {S : List Int} {j : Nat} (hj : j < S.length) : S.getD j 0 ∈ S := by
  rw [List.getD_eq_getElem?_getD, List.getElem?_eq_getElem hj]
  exact List.getElem_mem _
section
variable {G : Gx} {H : Hp} {Q : VK} {E : XK} {a : Addr} {ks : List V}
theorem greedy_step {S : List Int} {m top n j : Nat} (h : firstP (uOk S n (m : Int)) top = some j) : greedy S (m + 1) top n = S.getD j 0 :: greedy S m j (n - (S.getD j 0).toNat) := by
  show (match firstP (uOk S n (m : Int)) top with | some j => S.getD j 0 :: greedy S m j (n - (S.getD j 0).toNat) | none => []) = _
  rw [h]
theorem uOk_row {S : List Int} {n j : Nat} {m : Int} (h : uOk S n m j = true) : S.getD j 0 ≤ (n : Int) ∧ lrow (S.take j) (n - (S.getD j 0).toNat) = some m := by
  unfold uOk at h
  rw [Bool.and_eq_true] at h
  exact ⟨of_decide_eq_true h.1, of_decide_eq_true h.2⟩
/-- where such a loop stands -/
structure GrI (S : List Int) (G0 : List Int) (fs : List Int) (m top n N : Nat) : Prop where
  g : fs ++ greedy S m top n = G0
  r : lrow (S.take top) n = some (m : Int)
  t : top ≤ S.length
  n : n ≤ N
theorem GrI.next {S : List Int} {G0 fs : List Int} {m top n N j : Nat} (i : GrI S G0 fs (m + 1) top n N) (h : firstP (uOk S n (m : Int)) top = some j) : GrI S G0 (fs ++ [S.getD j 0]) m j (n - (S.getD j 0).toNat) N := by
  obtain ⟨h1, h2, _⟩ := firstP_some h
  have := i.t
  have := i.n
  exact ⟨by rw [← i.g, greedy_step h, List.append_assoc]; rfl, (uOk_row h2).2, by omega, by omega⟩
theorem GrI.ex {S : List Int} (hp : ∀ x ∈ S, 1 ≤ x) {G0 fs : List Int} {m top n N : Nat} (i : GrI S G0 fs (m + 1) top n N) : ∃ j, firstP (uOk S n (m : Int)) top = some j := by
  obtain ⟨j, h1, h2⟩ := lrow_last hp i.t i.r
  exact firstP_ex h1 h2
end
/-! ### a list of draws -/
theorem i_setLe {H : Hp} {a : Addr} {xs ys : List V} {i : Int} {v : V} {R : Hp → Prop} {n : Nat} (hs : H a = some (.lst xs)) (hi : ixN xs.length i = some n) (e : xs.set n v = ys) (h : R (upd H a (.lst ys))) : uSet (.ref a) (.int i) v H R := .inl ⟨a, xs, i, n, rfl, rfl, hs, hi, by rw [e]; exact h⟩
/-! ### levels of the fewest -/
/-! ### which need so many -/
theorem tab_ints {n : Nat} {f : Nat → Int} : (tab n fun u => .int (f u)) = ((List.range n).map f).map V.int := by
  unfold tab; rw [List.map_map]; rfl
/-! ### places -/
theorem dots_zero {v : V} (hv : IsKd v) : dotsV v 0 = 0 := by
  rcases hv with ⟨s, rfl, h1, h2⟩ | rfl
  · show 0 + (s - 2) * (0 * (0 - 1) / 2) = 0
    rw [show (0 * (0 - 1) / 2 : Int) = 0 by decide]; omega
  · rfl
theorem dots_mon {v : V} (hv : IsKd v) {i j : Int} (h1 : 0 ≤ i) (h2 : i ≤ j) : dotsV v i + (j - i) ≤ dotsV v j := by
  by_cases z : i = 0
  · subst z
    rw [dots_zero hv]
    by_cases y : j = 0
    · subst y; rw [dots_zero hv]; omega
    · have := dots_ge hv (k := j) (by omega); omega
  · exact dots_le hv (by omega) h2
structure IsPl (v : V) (n k : Int) : Prop where
  one : 1 ≤ k
  up : n ≤ dotsV v k
  lo : dotsV v (k - 1) < n
theorem IsPl.uniq {v : V} (hv : IsKd v) {n k j : Int} (a : IsPl v n k) (b : IsPl v n j) : k = j := by
  have a1 := a.one
  have b1 := b.one
  have a2 := a.up
  have b2 := b.up
  have a3 := a.lo
  have b3 := b.lo
  by_cases z : k < j
  · have := dots_mon hv (i := k) (j := j - 1) (by omega) (by omega)
    omega
  · by_cases y : j < k
    · have := dots_mon hv (i := j) (j := k - 1) (by omega) (by omega)
      omega
    · omega
theorem IsPl.of {v : V} (hv : IsKd v) {n k : Int} (h1 : 1 ≤ k) (e : dotsV v k = n) : IsPl v n k := by
  refine ⟨h1, by omega, ?_⟩
  have := dots_mon hv (i := k - 1) (j := k) (by omega) (by omega)
  omega
theorem given_firstG {P : Nat → Bool} {g : Nat → V} : ∀ (t : Nat), (given (fun k => if P k then some (g k) else none) t)[0]? = (firstP P t).map g
  | 0 => rfl
  | t + 1 => by
    have ih := given_firstG (P := P) (g := g) t
    show (given _ t ++ (match (if P t then some (g t) else none) with | some y => [y] | none => []))[0]? = _
    unfold firstP
    cases e : firstP P t with
    | some b =>
      rw [e] at ih
      have hl : 0 < (given (fun k => if P k then some (g k) else none) t).length := by
        by_cases z : 0 < (given (fun k => if P k then some (g k) else none) t).length
        · exact z
        · rw [List.getElem?_eq_none (by omega)] at ih; cases ih
      rw [List.getElem?_append_left hl, ih]
    | none =>
      rw [e] at ih
      have hl : given (fun k => if P k then some (g k) else none) t = [] := by
        cases z : given (fun k => if P k then some (g k) else none) t with
        | nil => rfl
        | cons x r => rw [z] at ih; cases ih
      rw [hl]
      by_cases z : P t = true <;> simp [z]
/-! ### bits -/
theorem bits_lt {X n : Nat} (h : ∀ i, n ≤ i → X.testBit i = false) : X < 2 ^ n := Nat.lt_pow_two_of_testBit X h
/-- the numbers to b that need at most c -/
structure BLev (S : List Int) (b : Nat) (c : Int) (X : Nat) : Prop where
  nn : 0 ≤ c
  bit : ∀ u, X.testBit u = true ↔ u ≤ b ∧ fewF S u ≤ c
theorem BLev.lt {S : List Int} {b : Nat} {c : Int} {X : Nat} (l : BLev S b c X) : X < 2 ^ (b + 1) := bits_lt fun i hi => by
  cases e : X.testBit i with
  | false => rfl
  | true => have := ((l.bit i).mp e).1; omega
theorem BLev.all {S : List Int} {b : Nat} {c : Int} {X : Nat} (l : BLev S b c X) : X = 2 ^ (b + 1) - 1 ↔ ∀ u ≤ b, fewF S u ≤ c := by
  constructor
  · intro h u hu
    have e : X.testBit u = true := by rw [h, Nat.testBit_two_pow_sub_one]; simp; omega
    exact ((l.bit u).mp e).2
  · intro h
    refine Nat.eq_of_testBit_eq fun i => ?_
    rw [Nat.testBit_two_pow_sub_one, Bool.eq_iff_iff, l.bit]
    simp only [decide_eq_true_eq]
    constructor
    · rintro ⟨h1, _⟩; omega
    · intro h1; exact ⟨by omega, h i (by omega)⟩
/-! ### of one kind -/
/-! ### the fewest, looked at -/
/-! ### sums as lists -/
def XS (S : List Int) (m : Nat) (t : Int) : Prop := ∃ l : List Int, (∀ x ∈ l, x ∈ S) ∧ l.length = m ∧ l.sum = t
theorem sum_erase {p : Int} : ∀ {l : List Int}, p ∈ l → (l.erase p).sum + p = l.sum
  | [], h => by cases h
  | x :: r, h => by
    rw [List.erase_cons]
    by_cases e : x = p
    · subst e; simp; omega
    · have hr : p ∈ r := by
        rcases List.mem_cons.mp h with z | z
        · exact absurd z.symm e
        · exact z
      have ih := sum_erase hr
      rw [if_neg (by simpa using e), List.sum_cons, List.sum_cons]
      omega
theorem sum_nn : ∀ {l : List Int}, (∀ x ∈ l, 1 ≤ x) → (l.length : Int) ≤ l.sum
  | [], _ => by simp
  | x :: r, h => by
    have := sum_nn (l := r) fun y hy => h y (List.mem_cons_of_mem _ hy)
    have := h x (by simp)
    rw [List.sum_cons, List.length_cons]
    omega
section
variable {S S' : List Int} {m : Nat} {t p : Int}
theorem XS.zero : XS S 0 t ↔ t = 0 := by
  constructor
  · rintro ⟨l, _, h, e⟩
    have : l = [] := List.eq_nil_of_length_eq_zero h
    subst this
    exact e.symm
  · rintro rfl
    exact ⟨[], by simp, rfl, rfl⟩
theorem XS.mono (h : ∀ x ∈ S, x ∈ S') : XS S m t → XS S' m t := by
  rintro ⟨l, h1, h2, h3⟩
  exact ⟨l, fun x hx => h x (h1 x hx), h2, h3⟩
theorem XS.cons (hm : p ∈ S) (h : XS S m (t - p)) : XS S (m + 1) t := by
  obtain ⟨l, h1, h2, h3⟩ := h
  refine ⟨p :: l, fun x hx => ?_, by simp [h2], by rw [List.sum_cons]; omega⟩
  rcases List.mem_cons.mp hx with rfl | z
  · exact hm
  · exact h1 x z
theorem XS.nn (hp : ∀ x ∈ S, 1 ≤ x) (h : XS S m t) : (m : Int) ≤ t := by
  obtain ⟨l, h1, h2, h3⟩ := h
  have := sum_nn (l := l) fun x hx => hp x (h1 x hx)
  omega
theorem XS.ex (h : XS S (m + 1) t) : ∃ p ∈ S, XS S m (t - p) := by
  obtain ⟨l, h1, h2, h3⟩ := h
  cases l with
  | nil => simp at h2
  | cons x r => exact ⟨x, h1 x (by simp), r, fun y hy => h1 y (List.mem_cons_of_mem _ hy), by simpa using h2, by rw [List.sum_cons] at h3; omega⟩
theorem XS.step (hS : ∀ x, x ∈ S' ↔ x ∈ S ∨ x = p) : XS S' (m + 1) t ↔ XS S (m + 1) t ∨ XS S' m (t - p) := by
  constructor
  · rintro ⟨l, h1, h2, h3⟩
    by_cases hp : p ∈ l
    · refine .inr ⟨l.erase p, fun x hx => h1 x (List.mem_of_mem_erase hx), ?_, ?_⟩
      · rw [List.length_erase_of_mem hp]; omega
      · have := sum_erase hp; omega
    · refine .inl ⟨l, fun x hx => ?_, h2, h3⟩
      rcases (hS x).mp (h1 x hx) with z | z
      · exact z
      · subst z; exact absurd hx hp
  · rintro (h | h)
    · exact h.mono fun x hx => (hS x).mpr (.inl hx)
    · exact h.cons ((hS p).mpr (.inr rfl))
theorem few_xs (hp : ∀ x ∈ S, 1 ≤ x) : ∀ n : Nat, (1 ≤ n → 1 ∈ S) → XS S (fewF S n).toNat n := by
  intro n
  induction n using Nat.strongRecOn with
  | ind n ih =>
    intro h1
    by_cases z : n = 0
    · subst z; rw [fewF_zero]; exact XS.zero.mpr rfl
    · have h1' := h1 (by omega)
      obtain ⟨q, a1, a2, a3, a4⟩ := fewF_ex hp h1' (n := n) (by omega)
      have := ih (n - q) (by omega) (fun _ => h1')
      have hn := fewF_nn hp h1' (n - q)
      rw [a4, show (fewF S (n - q) + 1).toNat = (fewF S (n - q)).toNat + 1 by omega]
      refine XS.cons a1 ?_
      rw [show ((n : Nat) : Int) - (q : Nat) = ((n - q : Nat) : Int) by omega]
      exact this
theorem few_min (hp : ∀ x ∈ S, 1 ≤ x) : ∀ (m n : Nat), XS S m n → fewF S n ≤ m
  | 0, n, h => by
    have := XS.zero.mp h
    have : n = 0 := by omega
    subst this
    rw [fewF_zero]; exact Int.le_refl _
  | m + 1, n, h => by
    obtain ⟨p, hm, h2⟩ := h.ex
    have h3 := h2.nn hp
    have p1 := hp p hm
    obtain ⟨q, rfl⟩ : ∃ q : Nat, p = (q : Int) := ⟨p.toNat, by omega⟩
    rw [show ((n : Nat) : Int) - (q : Nat) = ((n - q : Nat) : Int) by omega] at h2
    have := few_min hp m (n - q) h2
    have := fewF_le hp hm (n := n) (by omega)
    omega
theorem few_sub (hp : ∀ x ∈ S', 1 ≤ x) (hs : ∀ x ∈ S, x ∈ S') {n : Nat} (h1 : 1 ≤ n → 1 ∈ S) : fewF S' n ≤ fewF S n := by
  have hpS : ∀ x ∈ S, 1 ≤ x := fun x hx => hp x (hs x hx)
  have := few_min hp _ _ ((few_xs hpS n h1).mono hs)
  by_cases z : n = 0
  · subst z; rw [fewF_zero, fewF_zero]; exact Int.le_refl _
  · have := fewF_nn hpS (h1 (by omega)) n
    omega
theorem few_snocLt (hp : ∀ x ∈ S', 1 ≤ x) (h1 : 1 ∈ S) (hS : ∀ x, x ∈ S' ↔ x ∈ S ∨ x = p) {n : Nat} (hn : (n : Int) < p) : fewF S' n = fewF S n := by
  have hs : ∀ x ∈ S, x ∈ S' := fun x hx => (hS x).mpr (.inl hx)
  have hpS : ∀ x ∈ S, 1 ≤ x := fun x hx => hp x (hs x hx)
  have a := few_sub hp hs (n := n) (fun _ => h1)
  have b := few_xs hp n (fun _ => hs 1 h1)
  have c := fewF_nn hp (hs 1 h1) n
  by_cases z : (fewF S' n).toNat = 0
  · rw [z] at b
    have := XS.zero.mp b
    have : n = 0 := by omega
    subst this; rw [fewF_zero, fewF_zero]
  · obtain ⟨m, e⟩ : ∃ m, (fewF S' n).toNat = m + 1 := ⟨(fewF S' n).toNat - 1, by omega⟩
    rw [e] at b
    rcases (XS.step hS).mp b with h | h
    · have := few_min hpS _ _ h; omega
    · have := h.nn hp; omega
theorem few_snocLe (hp : ∀ x ∈ S', 1 ≤ x) (h1 : 1 ∈ S) (hS : ∀ x, x ∈ S' ↔ x ∈ S ∨ x = p) {n q : Nat} (eq : p = (q : Int)) (hn : q ≤ n) : fewF S' n = if 1 + fewF S' (n - q) < fewF S n then 1 + fewF S' (n - q) else fewF S n := by
  have hs : ∀ x ∈ S, x ∈ S' := fun x hx => (hS x).mpr (.inl hx)
  have hpS : ∀ x ∈ S, 1 ≤ x := fun x hx => hp x (hs x hx)
  have a := few_sub hp hs (n := n) (fun _ => h1)
  have b := few_xs hp n (fun _ => hs 1 h1)
  have c := fewF_nn hp (hs 1 h1) n
  have d := fewF_le hp (p := q) (n := n) (by rw [← eq]; exact (hS p).mpr (.inr rfl)) hn
  have k : fewF S n ≤ fewF S' n ∨ 1 + fewF S' (n - q) ≤ fewF S' n := by
    by_cases z : (fewF S' n).toNat = 0
    · rw [z] at b
      have := XS.zero.mp b
      have : n = 0 := by omega
      subst this; rw [fewF_zero, fewF_zero]; exact .inl (Int.le_refl _)
    · obtain ⟨m, e⟩ : ∃ m, (fewF S' n).toNat = m + 1 := ⟨(fewF S' n).toNat - 1, by omega⟩
      rw [e] at b
      rcases (XS.step hS).mp b with h | h
      · have := few_min hpS _ _ h; exact .inl (by omega)
      · rw [eq, show ((n : Nat) : Int) - (q : Nat) = ((n - q : Nat) : Int) by omega] at h
        have := few_min hp _ _ h; exact .inr (by omega)
  split <;> omega
end
theorem take_mem {S : List Int} {j : Nat} {p : Int} (h : S[j]? = some p) (x : Int) : x ∈ S.take (j + 1) ↔ x ∈ S.take j ∨ x = p := by
  rw [List.take_succ, h]
  simp
theorem few_oneone (n : Nat) : fewF [1] n = n := by
  have hp : ∀ x ∈ ([1] : List Int), 1 ≤ x := by simp
  have a := few_xs hp n (fun _ => by simp)
  obtain ⟨l, h1, h2, h3⟩ := a
  have e : ∀ {l : List Int}, (∀ x ∈ l, x ∈ ([1] : List Int)) → l.sum = l.length := by
    intro l
    induction l with
    | nil => intro _; rfl
    | cons x r ih =>
      intro h
      have hx : x = 1 := by simpa using h x (by simp)
      have := ih fun y hy => h y (List.mem_cons_of_mem _ hy)
      rw [List.sum_cons, List.length_cons]
      omega
  have := e h1
  have := fewF_nn hp (by simp) n
  omega
/-! ### the first of the fewest -/
noncomputable def fOk (S : List Int) (n : Nat) (m : Int) (j : Nat) : Bool := decide (S.getD j 0 ≤ (n : Int)) && decide (fewF (S.take (j + 1)) (n - (S.getD j 0).toNat) = m)
noncomputable def fsum (S : List Int) : Nat → Nat → List Int
  | 0, _ => []
  | m + 1, n => match firstP (fOk S n m) S.length with
    | some j => S.getD j 0 :: fsum S m (n - (S.getD j 0).toNat)
    | none => []
theorem fsum_step {S : List Int} {m n j : Nat} (h : firstP (fOk S n (m : Int)) S.length = some j) : fsum S (m + 1) n = S.getD j 0 :: fsum S m (n - (S.getD j 0).toNat) := by
  show (match firstP (fOk S n m) S.length with
    | some j => S.getD j 0 :: fsum S m (n - (S.getD j 0).toNat)
    | none => []) = _
  rw [h]
theorem fOk_of {S : List Int} {n j : Nat} {m : Int} (h : fOk S n m j = true) : S.getD j 0 ≤ (n : Int) ∧ fewF (S.take (j + 1)) (n - (S.getD j 0).toNat) = m := by
  unfold fOk at h
  rw [Bool.and_eq_true] at h
  exact ⟨of_decide_eq_true h.1, of_decide_eq_true h.2⟩
theorem getD_get {S : List Int} {j : Nat} (h : j < S.length) : S[j]? = some (S.getD j 0) := by
  rw [List.getD_eq_getElem?_getD, List.getElem?_eq_getElem h]; rfl
/-- a stock to look at: its first is 1, all from 1 on -/
structure Stk (S : List Int) : Prop where
  pos : ∀ x ∈ S, 1 ≤ x
  one : S[0]? = some 1
theorem Stk.lt {S : List Int} (k : Stk S) : 0 < S.length := by
  have := k.one
  cases S with
  | nil => simp at this
  | cons x r => simp
theorem Stk.mem1 {S : List Int} (k : Stk S) {j : Nat} : 1 ∈ S.take (j + 1) := by
  have := k.one
  cases S with
  | nil => simp at this
  | cons x r => have e : x = 1 := by simpa using this
                subst e; simp
theorem Stk.tpos {S : List Int} (k : Stk S) {j : Nat} : ∀ x ∈ S.take j, 1 ≤ x := fun x hx => k.pos x (List.mem_of_mem_take hx)
theorem Stk.mem {S : List Int} (k : Stk S) : 1 ∈ S := List.mem_of_mem_take (i := 0 + 1) k.mem1
/-- by which numbers so many come to -/
theorem fOk_xs {S : List Int} (k : Stk S) {n m j : Nat} (hj : j < S.length) (h : fOk S n m j = true) : XS (S.take (j + 1)) (m + 1) n := by
  obtain ⟨h1, h2⟩ := fOk_of h
  have hp := k.pos _ (getD_mem hj)
  have a := few_xs (k.tpos (j := j + 1)) (n - (S.getD j 0).toNat) (fun _ => k.mem1)
  rw [h2, Int.toNat_natCast] at a
  refine XS.cons (p := S.getD j 0) ((take_mem (getD_get hj) _).mpr (.inr rfl)) ?_
  rw [show (n : Int) - S.getD j 0 = ((n - (S.getD j 0).toNat : Nat) : Int) by omega]
  exact a
theorem xs_fOk {S : List Int} (k : Stk S) {n m j : Nat} (hj : j < S.length) (hn : fewF S n = ((m + 1 : Nat) : Int)) (h : XS (S.take (j + 1)) (m + 1) n) (h2 : ¬ XS (S.take j) (m + 1) n) : fOk S n m j = true := by
  have hp := k.pos _ (getD_mem hj)
  rcases (XS.step (take_mem (getD_get hj))).mp h with z | z
  · exact absurd z h2
  · have hn1 := z.nn k.tpos
    rw [show (n : Int) - S.getD j 0 = ((n - (S.getD j 0).toNat : Nat) : Int) by omega] at z
    have a := few_min k.tpos _ _ z
    have b := few_sub k.pos (S := S.take (j + 1)) (fun x hx => List.mem_of_mem_take hx) (n := n - (S.getD j 0).toNat) (fun _ => k.mem1)
    have c := fewF_le k.pos (p := (S.getD j 0).toNat) (n := n) (by rw [show (((S.getD j 0).toNat : Nat) : Int) = S.getD j 0 by omega]; exact getD_mem hj) (by omega)
    unfold fOk
    rw [Bool.and_eq_true]
    exact ⟨decide_eq_true (by omega), decide_eq_true (by omega)⟩
/-- the first place by either look -/
theorem first_xs {S : List Int} (k : Stk S) {n m : Nat} (hn : fewF S n = ((m + 1 : Nat) : Int)) {P : Nat → Bool} (hP : ∀ j, j < S.length → (P j = true ↔ XS (S.take (j + 1)) (m + 1) n)) : ∃ j, j < S.length ∧ firstP P S.length = some j ∧ firstP (fOk S n m) S.length = some j := by
  have hl := k.lt
  have n0 : n ≠ 0 := fun z => by subst z; rw [fewF_zero] at hn; omega
  have a := few_xs k.pos n (fun _ => k.mem)
  rw [hn, Int.toNat_natCast] at a
  have hlast : P (S.length - 1) = true := (hP _ (by omega)).mpr (by rw [show S.length - 1 + 1 = S.length by omega, List.take_length]; exact a)
  obtain ⟨j, hj⟩ := firstP_ex (P := P) (t := S.length) (by omega) hlast
  obtain ⟨b1, b2, b3⟩ := firstP_some hj
  refine ⟨j, b1, hj, firstP_is b1 (xs_fOk k b1 hn ((hP j b1).mp b2) fun z => ?_) fun i hi => ?_⟩
  · cases j with
    | zero =>
      obtain ⟨p, hp, _⟩ := z.ex
      simp at hp
    | succ i => have := (hP i (by omega)).mpr z; rw [b3 i (by omega)] at this; cases this
  · cases e : fOk S n m i with
    | false => rfl
    | true =>
      have := (hP i (by omega)).mpr (fOk_xs k (by omega) e)
      rw [b3 i hi] at this; cases this
theorem first_ok {S : List Int} (k : Stk S) {n m : Nat} (hn : fewF S n = ((m + 1 : Nat) : Int)) : ∃ j, j < S.length ∧ firstP (fOk S n m) S.length = some j := by
  classical
  obtain ⟨j, h1, _, h2⟩ := first_xs k hn (P := fun j => decide (XS (S.take (j + 1)) (m + 1) n)) (fun j _ => by simp)
  exact ⟨j, h1, h2⟩
/-- what is left behind a part of the fewest -/
theorem fOk_left {S : List Int} (k : Stk S) {n m j : Nat} (hj : j < S.length) (hn : fewF S n = ((m + 1 : Nat) : Int)) (h : fOk S n m j = true) : fewF S (n - (S.getD j 0).toNat) = (m : Int) := by
  obtain ⟨h1, h2⟩ := fOk_of h
  have hp := k.pos _ (getD_mem hj)
  have b := few_sub k.pos (S := S.take (j + 1)) (fun x hx => List.mem_of_mem_take hx) (n := n - (S.getD j 0).toNat) (fun _ => k.mem1)
  have c := fewF_le k.pos (p := (S.getD j 0).toNat) (n := n) (by rw [show (((S.getD j 0).toNat : Nat) : Int) = S.getD j 0 by omega]; exact getD_mem hj) (by omega)
  omega
theorem few_pos {S : List Int} (k : Stk S) {n : Nat} (h : 0 < n) : ∃ m : Nat, fewF S n = ((m + 1 : Nat) : Int) := by
  have := fewF_pos k.pos k.mem (n := n) h
  exact ⟨(fewF S n).toNat - 1, by omega⟩
theorem few_none {S : List Int} (k : Stk S) {n : Nat} (h : fewF S n = 0) : n = 0 := by
  by_cases z : n = 0
  · exact z
  · have := fewF_pos k.pos k.mem (n := n) (by omega); omega
theorem Stk.of {ks : List V} {b : Int} {L : List Int} (hL : StockOf ks b L) (hk : KdL ks) (hb : 1 ≤ b) : Stk L := by
  have hp : ∀ x ∈ L, 1 ≤ x := fun x hx => hL.pos hk.kd hx
  refine ⟨hp, ?_⟩
  have h1 := stock_one hL hk hb
  have up := hL.up
  cases L with
  | nil => cases h1
  | cons x r =>
    have hx := hp x (by simp)
    rcases List.mem_cons.mp h1 with e | e
    · rw [← e]; rfl
    · have := (List.pairwise_cons.mp up).1 1 e
      omega
/-! ### rows of rows -/
structure QRows (H : Hp) (qs : List Addr) (f : Nat → Nat → V) (i w : Nat) : Prop where
  len : qs.length = i
  row : ∀ j q, qs[j]? = some q → H q = some (.lst (tab w (f j)))
section
variable {H H' : Hp} {qs : List Addr} {f : Nat → Nat → V} {i w : Nat}
theorem QRows.same (r : QRows H qs f i w) (s : Same H H') : QRows H' qs f i w := ⟨r.len, fun j q h => s _ _ (r.row j q h)⟩
theorem QRows.at {j : Nat} {jv : Int} (r : QRows H qs f i w) (e : jv = (j : Int)) (hj : j < i) : ∃ q, atI (qs.map V.ref) jv = some (.ref q) ∧ H q = some (.lst (tab w (f j))) := by
  have h : j < qs.length := by have := r.len; omega
  exact ⟨qs[j], at_nat e (by rw [List.getElem?_map, List.getElem?_eq_getElem h]; rfl), r.row j _ (List.getElem?_eq_getElem h)⟩
theorem QRows.last (r : QRows H qs f (i + 1) w) : ∃ q, atI (qs.map V.ref) (-1) = some (.ref q) ∧ H q = some (.lst (tab w (f i))) := by
  have h : i < qs.length := by have := r.len; omega
  refine ⟨qs[i], at_last ?_, r.row i _ (List.getElem?_eq_getElem h)⟩
  rw [List.length_map, r.len, List.getElem?_map, Nat.add_sub_cancel, List.getElem?_eq_getElem h]; rfl
theorem QRows.snoc {x : Addr} (c : QRows H qs f i w) (k : ∀ q ∈ qs, ∀ o, H q = some o → H' q = some o) (e : H' x = some (.lst (tab w (f i)))) : QRows H' (qs ++ [x]) f (i + 1) w := by
  refine ⟨by simp [c.len], fun j q hj => ?_⟩
  by_cases z : j < qs.length
  · rw [List.getElem?_append_left z] at hj
    exact k q (List.mem_of_getElem? hj) _ (c.row j q hj)
  · rw [List.getElem?_append_right (by omega)] at hj
    have z2 : j - qs.length = 0 := by
      by_cases y : j - qs.length = 0
      · exact y
      · rw [List.getElem?_eq_none (by simp; omega)] at hj; cases hj
    rw [z2] at hj
    have : x = q := by simpa using hj
    subst this
    rw [e, show j = i by have := c.len; omega]
theorem QRows.keep (c : QRows H qs f i w) (k : ∀ q ∈ qs, ∀ o, H q = some o → H' q = some o) : QRows H' qs f i w := ⟨c.len, fun j q h => k q (List.mem_of_getElem? h) _ (c.row j q h)⟩
theorem QRows.old (c : QRows H qs f i w) : ∀ q ∈ qs, ∃ o, H q = some o := fun q hq => by
  obtain ⟨j, hj, rfl⟩ := List.mem_iff_getElem.mp hq
  exact ⟨_, c.row j _ (List.getElem?_eq_getElem hj)⟩
theorem QRows.ne (c : QRows H qs f i w) {x : Addr} (n : H x = none) : ∀ q ∈ qs, q ≠ x := fun q hq => by
  obtain ⟨o, e⟩ := c.old q hq
  exact ne_of_none e n
theorem QRows.nil : QRows H [] f 0 w := ⟨rfl, fun j q h => by simp at h⟩
end
/-! ### == of lists of lists of ints -/
def dLL (rs : List (List Int)) : PyData := .list (rs.map fun r => .list (r.map PyData.int))
theorem toD_ints (ns : List Int) : (ns.map V.int).map toD = ns.map PyData.int := by
  rw [List.map_map]; rfl
theorem shaped_LL (rs : List (List Int)) : SeqAt.shaped (dLL rs) = true := by
  have h1 : ∀ r : List Int, (PyData.list (r.map PyData.int)).canLay0 = true ∧ (PyData.list (r.map PyData.int)).depth = 1 := fun r => by
    have := layAll_sV (ints_sV r)
    rw [toD_ints] at this
    simp [PyData.canLay0, PyData.depth, this.1, this.2]
  have h2 : ∀ rs : List (List Int), PyData.canLayAll0 (rs.map fun r => .list (r.map PyData.int)) = true ∧ PyData.depthAll (rs.map fun r => .list (r.map PyData.int)) ≤ 1 := by
    intro rs
    induction rs with
    | nil => simp [PyData.canLayAll0, PyData.depthAll]
    | cons r q ih => 
      have a := h1 r
      refine ⟨by simp only [List.map_cons, PyData.canLayAll0, a.1, ih.1, Bool.and_true], ?_⟩
      simp only [List.map_cons, PyData.depthAll, a.2]
      omega
  have a := h2 rs
  unfold SeqAt.shaped dLL
  simp only [PyData.canLay0, PyData.depth, a.1, Bool.true_and]
  simp
  omega
theorem dp_ints {K : Fg} {H : Hp} {p : Addr} {ns : List Int} (h : SqL K H p (ns.map V.int)) : Dp K H (.ref p) (.list (ns.map PyData.int)) := by
  have := dpAll_sV (K := K) (H := H) (ints_sV ns)
  rw [toD_ints] at this
  exact .lst h this
theorem dpAll_LL {K : Fg} {H : Hp} : ∀ {qs : List Addr} {rs : List (List Int)}, qs.length = rs.length → (∀ (j : Nat) (q : Addr) (r : List Int), qs[j]? = some q → rs[j]? = some r → SqL K H q (r.map V.int)) → DpAll K H (qs.map V.ref) (rs.map fun (r : List Int) => PyData.list (r.map PyData.int))
  | [], [], _, _ => .nil
  | [], _ :: _, h, _ => by simp at h
  | _ :: _, [], h, _ => by simp at h
  | q :: qs, r :: rs, hl, h => .cons (dp_ints (h 0 q r rfl rfl)) (dpAll_LL (by simpa using hl) fun j q' r' h1 h2 => h (j + 1) q' r' h1 h2)
theorem i_eqG {K : Fg} {H : Hp} {Q : VK} {x y : V} {d e : PyData} (h1 : Dp K H x d) (h2 : Dp K H y e) (s1 : SeqAt.shaped d = true) (s2 : SeqAt.shaped e = true) (h : Q (.bl (PyData.eqv d e)) H) : uEq K x y H Q := .inr ⟨d, e, h1, h2, s1, s2, h⟩
theorem i_neG {K : Fg} {H : Hp} {Q : VK} {x y : V} {d e : PyData} (h1 : Dp K H x d) (h2 : Dp K H y e) (s1 : SeqAt.shaped d = true) (s2 : SeqAt.shaped e = true) (h : Q (.bl (!PyData.eqv d e)) H) : uNe K x y H Q := .inr ⟨d, e, h1, h2, s1, s2, h⟩
/-- xs == [] where xs are rows of ints -/
theorem i_eqRows0 {K : Fg} {H : Hp} {Q : VK} {p e : Addr} {qs : List Addr} {f : Nat → Nat → Int} {i w : Nat} (h1 : H p = some (.lst (qs.map V.ref))) (r : QRows H qs (fun j u => .int (f j u)) i w) (h2 : H e = some (.lst [])) (h : Q (.bl (decide (i = 0))) H) : uEq K (.ref p) (.ref e) H Q := by
  have hr := r.len
  have d := dpAll_LL (K := K) (H := H) (qs := qs) (rs := (List.range i).map fun j => (List.range w).map (f j)) (by simp [hr]) (fun j q rr a b => by
    rw [List.getElem?_map] at b
    obtain ⟨j', hj, rfl⟩ := Option.map_eq_some_iff.mp b
    have hj' : j' = j := by
      have := List.getElem?_eq_some_iff.mp hj
      obtain ⟨z, zz⟩ := this
      rw [List.getElem_range] at zz; exact zz.symm
    subst hj'
    have := r.row _ q a
    rw [tab_ints] at this
    exact sq_of this)
  refine i_eqG (.lst (sq_of h1) d) (.lst (sq_of h2) .nil) (shaped_LL _) (shaped_LL []) ?_
  have e : PyData.eqv (.list (((List.range i).map fun j => (List.range w).map (f j)).map fun r => PyData.list (r.map PyData.int))) (.list []) = decide (i = 0) := by
    cases i with
    | zero => simp [PyData.eqv, PyData.eqvAll]
    | succ i => simp [PyData.eqv, PyData.eqvAll, List.range_succ_eq_map]
  rw [e]
  exact h
/-! ### tables of the fewest -/
noncomputable def ftab (S : List Int) (j u : Nat) : Int := fewF (S.take (j + 1)) u
noncomputable def tmix (S : List Int) (i p k : Nat) : Nat → V := fun u => .int (if u < p + k then ftab S (i + 1) u else ftab S i u)
section
variable {G : Gx} {H : Hp} {Q : VK} {E : XK} {a : Addr} {ks : List V}
theorem rg_tab (n : Nat) : rgV 0 (n : Int) = tab n fun u => .int (u : Nat) := by
  unfold rgV tab
  rw [show ((n : Int) - 0).toNat = n by omega]
  refine List.map_congr_left fun i _ => ?_
  rw [show (0 : Int) + (i : Nat) = (i : Nat) by omega]
theorem i_lstRg1 {σ : L2.St} {te : TE} (h : te σ H fun x H1 => ∃ n : Int, x = .int n ∧ RgOk 0 n ∧ ∀ p, H1 p = none → Q (.ref p) (upd H1 p (.lst (rgV 0 n)))) : tLstRg (tRg1 te) σ H Q := h
theorem ftab_zero {S : List Int} (k : Stk S) (u : Nat) : ftab S 0 u = u := by
  have := k.one
  unfold ftab
  cases S with
  | nil => simp at this
  | cons x r =>
    have e : x = 1 := by simpa using this
    subst e
    exact few_oneone u
theorem ftab_lt {S : List Int} (k : Stk S) {i P u : Nat} (hp : S[i + 1]? = some (P : Int)) (hu : u < P) : ftab S (i + 1) u = ftab S i u :=
  few_snocLt (S' := S.take (i + 1 + 1)) (S := S.take (i + 1)) k.tpos k.mem1 (take_mem hp) (by omega)
theorem ftab_le {S : List Int} (k : Stk S) {i P u : Nat} (hp : S[i + 1]? = some (P : Int)) : ftab S (i + 1) (P + u) = if 1 + ftab S (i + 1) u < ftab S i (P + u) then 1 + ftab S (i + 1) u else ftab S i (P + u) := by
  have := few_snocLe (S' := S.take (i + 1 + 1)) (S := S.take (i + 1)) k.tpos k.mem1 (take_mem hp) (n := P + u) (q := P) rfl (by omega)
  rw [Nat.add_sub_cancel_left] at this
  exact this
def TbO (H : Hp) (a r : Addr) (S : List Int) (n : Nat) (i : Nat) (σ : L2.St) (H' : Hp) : Prop := ∃ qs y3 y4, σ = [some (.ref a), some (.int n), some (.ref r), y3, y4] ∧ Same H H' ∧ H' r = some (.lst (qs.map V.ref)) ∧ (∀ q ∈ qs, q ≠ r) ∧ QRows H' qs (fun j u => .int (ftab S j u)) i (n + 1)
def TbI (H : Hp) (a r w : Addr) (S : List Int) (qs : List Addr) (n i P : Nat) (k : Nat) (σ : L2.St) (H' : Hp) : Prop := ∃ y4, σ = [some (.ref a), some (.int n), some (.ref r), some (.int P), y4] ∧ Same H H' ∧ H' r = some (.lst ((qs ++ [w]).map V.ref)) ∧ QRows H' qs (fun j u => .int (ftab S j u)) (i + 1) (n + 1) ∧ H' w = some (.lst (tab (n + 1) (tmix S i P k)))
theorem u_tables_of {S : List Int} {n : Nat} (ha : H a = some (.lst (S.map V.int))) (k : S = [] ∨ Stk S) (hS : ∀ x ∈ S, 1 ≤ x ∧ x ≤ 1000) (hn : n ≤ 900) (hl : S.length ≤ 1000)
    (h : ∀ r qs H', Same H H' → H r = none → H' r = some (.lst (qs.map V.ref)) → QRows H' qs (fun j u => .int (ftab S j u)) S.length (n + 1) → Q (.ref r) H') : sp_tables_of G [.ref a, .int n] H Q E := by
  refine ⟨rfl, ?_⟩
  unfold t_tables_of
  wtm_at "w"
  refine i_new (by simp) fun r nr => ?_
  have s0 : Same H (upd H r (.lst [])) := same_new nr
  wtm_at "w"
  refine i_lstA (sq_of (s0 _ _ ha)) ?_
  refine lk_list (TbO H a r S n) ⟨[], _, _, rfl, s0, upd_same, by simp, QRows.nil⟩ (fun i σ H' _ ⟨_, _, _, _, s, _⟩ => sq_of (s _ _ ha)) ?_ ?_
  · rintro i x σ H1 hi ⟨qs, y3, y4, rfl, s1, er, hr, rows⟩
    rw [List.getElem?_map] at hi
    obtain ⟨p, hp, rfl⟩ := Option.map_eq_some_iff.mp hi
    have hp1 := hS p (List.mem_of_getElem? hp)
    have st : Stk S := k.resolve_left fun z => by subst z; simp at hp
    obtain ⟨P, rfl⟩ : ∃ P : Nat, p = (P : Int) := ⟨p.toNat, by omega⟩
    have hil : i < S.length := (List.getElem?_eq_some_iff.mp hp).1
    wtm_at "w"
    refine i_new (by simp) fun e ne => ?_
    refine i_eqRows0 (upd_old ne er) (rows.same (same_new ne)) upd_same ?_
    have s2 : Same H (upd H1 e (.lst [])) := s1.trans (same_new ne)
    have s12 : Same H1 (upd H1 e (.lst [])) := same_new ne
    have er2 := s12 _ _ er
    have rows2 := rows.same s12
    generalize upd H1 e (.lst []) = H2 at s2 s12 er2 rows2 ⊢
    wtm_at "w"
    refine i_ite (fun hz => ?_) (fun hz => ?_)
    · subst hz
      have hq : qs = [] := List.eq_nil_of_length_eq_zero rows.len
      subst hq
      wtm_at "w"
      refine i_tyL er2 ?_
      wtm_at "w"
      refine i_lstRg1 ?_
      · wtm_at "w"
        refine ⟨RgOk.of_le (by omega) (by omega) (by omega) (by omega), fun w nw => ?_⟩
        rw [show (n : Int) + 1 = ((n + 1 : Nat) : Int) by omega, rg_tab]
        wtm_at "w"
        refine i_app (upd_old nw er2) (sz_lt (by simp)) ?_
        have hwr : w ≠ r := (ne_of_none er2 nw).symm
        refine ⟨[w], _, _, rfl, same_mut (s2.trans (same_new nw)) nr, upd_same, fun q hq => by rw [List.mem_singleton.mp hq]; exact hwr, ?_⟩
        refine ⟨rfl, fun j q hj => ?_⟩
        have hj0 : j = 0 := by
          have := (List.getElem?_eq_some_iff.mp hj).1
          simp at this; exact this
        subst hj0
        have : w = q := by simpa using hj
        subst this
        rw [upd_ne hwr, upd_same]
        refine congrArg (fun z => some (HO.lst z)) (tab_ext fun u hu => ?_)
        rw [ftab_zero st]
    · obtain ⟨i, rfl⟩ : ∃ i', i = i' + 1 := ⟨i - 1, by omega⟩
      wtm_at "w"
      refine i_tyL er2 ?_
      wtm_at "w"
      obtain ⟨q0, hq0, eq0⟩ := rows2.last
      refine i_ixL (sq_of er2) hq0 ?_
      wtm_at "w"
      refine i_ulist (sq_of eq0) fun w nw => ?_
      wtm_at "w"
      have hwr : w ≠ r := (ne_of_none er2 nw).symm
      have hql := rows2.len
      refine i_app (upd_old nw er2) (sz_lt (by rw [List.length_map]; omega)) ?_
      have nw0 : H w = none := s2.free nw
      have s3 : Same H (upd (upd H2 w (.lst (tab (n + 1) fun u => .int (ftab S i u)))) r (.lst (qs.map V.ref ++ [.ref w]))) := same_mut (s2.trans (same_new nw)) nr
      have rows3 : QRows (upd (upd H2 w (.lst (tab (n + 1) fun u => .int (ftab S i u)))) r (.lst (qs.map V.ref ++ [.ref w]))) qs (fun j u => .int (ftab S j u)) (i + 1) (n + 1) := rows2.keep fun q hq o e => by
        rw [upd_ne (hr q hq)]; exact upd_old nw e
      have er3 : (upd (upd H2 w (.lst (tab (n + 1) fun u => .int (ftab S i u)))) r (.lst (qs.map V.ref ++ [.ref w]))) r = some (.lst ((qs ++ [w]).map V.ref)) := by rw [upd_same, List.map_append]; rfl
      have ew3 : (upd (upd H2 w (.lst (tab (n + 1) fun u => .int (ftab S i u)))) r (.lst (qs.map V.ref ++ [.ref w]))) w = some (.lst (tab (n + 1) fun u => .int (ftab S i u))) := by rw [upd_ne hwr, upd_same]
      have hqw : ∀ q ∈ qs, q ≠ w := rows2.ne nw
      generalize upd (upd H2 w (.lst (tab (n + 1) fun u => .int (ftab S i u)))) r (.lst (qs.map V.ref ++ [.ref w])) = H3 at s3 rows3 er3 ew3 ⊢
      have hlast : atI ((qs ++ [w]).map V.ref) (-1) = some (.ref w) := at_last (by simp)
      wtm_at "w"
      refine i_rngA2 (by omega) ?_
      rw [show ((n : Int) + 1 - (P : Int)).toNat = n + 1 - P by omega]
      refine lk_range (TbI H a r w S qs n i P) ⟨_, rfl, s3, er3, rows3, ?_⟩ ?_ ?_
      · rw [ew3]
        refine congrArg (fun z => some (HO.lst z)) (tab_ext fun u hu => ?_)
        unfold tmix
        split
        · rw [ftab_lt st hp (by omega)]
        · rfl
      · rintro t σ H4 ht ⟨y4, rfl, s4, er4, rows4, ew4⟩
        have g1 : atI (tab (n + 1) (tmix S i P t)) ((P : Int) + (t : Nat)) = some (.int (ftab S i (P + t))) := by
          rw [tab_at (i := P + t) (by omega) (by omega)]
          unfold tmix; rw [if_neg (by omega)]
        have g2 : atI (tab (n + 1) (tmix S i P t)) ((P : Int) + (t : Nat) - P) = some (.int (ftab S (i + 1) t)) := by
          rw [tab_at (i := t) (by omega) (by omega)]
          unfold tmix; rw [if_pos (by omega)]
        wtm_at "w"
        refine i_ixL (sq_of er4) hlast ?_
        wtm_at "w"
        refine i_ixL (sq_of ew4) g1 ?_
        wtm_at "w"
        refine i_ixL (sq_of er4) hlast ?_
        wtm_at "w"
        refine i_ixL (sq_of ew4) g2 ?_
        wtm_at "w"
        refine i_ixL (sq_of er4) hlast ?_
        wtm_at "w"
        rw [← ftab_le st hp]
        refine i_setLe ew4 (n := P + t) (ys := tab (n + 1) (tmix S i P (t + 1))) (by rw [tab_len]; exact ixN_nat (by omega) (by omega)) ?_ ?_
        · rw [tab_set]
          refine tab_ext fun u hu => ?_
          unfold tmix
          by_cases z : u = P + t
          · rw [if_pos z, if_pos (by omega), z]
          · rw [if_neg z]
            by_cases y : u < P + t
            · rw [if_pos y, if_pos (by omega)]
            · rw [if_neg y, if_neg (by omega)]
        · exact ⟨_, rfl, same_mut s4 nw0, by rw [upd_ne hwr.symm]; exact er4, rows4.keep fun q hq o e => by rw [upd_ne (hqw q hq)]; exact e, upd_same⟩
      · rintro σ H4 ⟨y4, rfl, s4, er4, rows4, ew4⟩
        wtm_at "w"
        refine ⟨qs ++ [w], _, _, rfl, s4, er4, fun q hq => ?_, rows4.snoc (fun _ _ _ e => e) ?_⟩
        · rcases List.mem_append.mp hq with z | z
          · exact hr q z
          · rw [List.mem_singleton.mp z]; exact hwr
        · rw [ew4]
          refine congrArg (fun z => some (HO.lst z)) (tab_ext fun u hu => ?_)
          unfold tmix
          rw [if_pos (by omega)]
  · rintro σ H1 ⟨qs, y3, y4, rfl, s1, er, hr, rows⟩
    wtm_at "w"
    rw [List.length_map] at rows
    exact h r qs H1 s1 nr er rows
end
/-! ### the first sum -/
structure FsI (S G0 fs : List Int) (c left N : Nat) : Prop where
  g : fs ++ fsum S c left = G0
  f : fewF S left = (c : Int)
  n : left ≤ N
  l : fs.length + c ≤ N
theorem FsI.next {S G0 fs : List Int} {c left N j : Nat} (k : Stk S) (i : FsI S G0 fs (c + 1) left N) (hj : firstP (fOk S left (c : Int)) S.length = some j) : FsI S G0 (fs ++ [S.getD j 0]) c (left - (S.getD j 0).toNat) N := by
  obtain ⟨a, b, _⟩ := firstP_some hj
  refine ⟨?_, fOk_left k a i.f b, by have := i.n; omega, by have := i.l; simp; omega⟩
  have := i.g
  rw [fsum_step hj] at this
  rw [List.append_assoc]; exact this
theorem FsI.ex {S G0 fs : List Int} {c left N : Nat} (k : Stk S) (i : FsI S G0 fs (c + 1) left N) : ∃ j, j < S.length ∧ firstP (fOk S left (c : Int)) S.length = some j := first_ok k i.f
theorem FsI.pos {S G0 fs : List Int} {c left N : Nat} (k : Stk S) (i : FsI S G0 fs c left N) (h : 0 < left) : ∃ c', c = c' + 1 := by
  obtain ⟨m, hm⟩ := few_pos k h
  have := i.f
  exact ⟨m, by omega⟩
section
variable {G : Gx} {H : Hp} {Q : VK} {E : XK} {a : Addr} {ks : List V}
theorem u_first_sum {n : Nat} (ha : H a = some (.lst ks)) (hk : KdL ks) (h1 : n ≤ 200)
    (h : ∀ p L H', Same H H' → H p = none → StockOf ks n L → H' p = some (.lst ((fsum L (fewF L n).toNat n).map V.int)) → (fsum L (fewF L n).toNat n).length ≤ 200 → Q (.ref p) H') : sp_first_sum G [.ref a, .int n] H Q E := by
  refine ⟨rfl, ?_⟩
  unfold t_first_sum
  have hk5 := hk.hi
  wtm_at "w"
  refine u_need_kinds ha hk fun H1 s1 => ?_
  wtm_at "w"
  refine u_need_to_most (by omega) (by omega) ?_
  wtm_at "w"
  refine u_stock_of (sq_of (s1 _ _ ha)) hk.kd (by omega) (by omega) (by omega) fun sp L H2 s2 nsp e2 hL => ?_
  have hlen := hL.len hk.kd (by omega)
  have hlim := hL.lim hk.kd (by omega)
  have st : 1 ≤ n → Stk L := fun z => Stk.of hL hk (by omega)
  wtm_at "w"
  refine u_tables_of e2 ?_ hlim (by omega) (by omega) fun r qs H3 s3 nr er rows => ?_
  · by_cases z : 1 ≤ n
    · exact .inr (st z)
    · refine .inl (List.eq_nil_of_length_eq_zero (by omega))
  wtm_at "w"
  refine i_new (by simp) fun l nl => ?_
  wtm_at "w"
  have s03 := (s1.trans s2).trans s3
  have e3 := s3 _ _ e2
  have nl0 := s03.free nl
  have s4 : Same H3 (upd H3 l (.lst [])) := same_new nl
  have fin : ∀ (w : Nat), fewF L n = (w : Int) → tSeq (tWhile (tTest (tOp uGt (tVar 5) (tC (.int 0)))) (tSeq (tAug 6 (tC (.int 1)) (ipI fun i j => i - j))
      (tSeq (tAsg (tC (.int 0)) (gName 7))
      (tSeq (tWhile (tOr (tTest (tOp uGt (tOp (uIx G.K) (tVar 2) (tVar 7)) (tVar 5))) (tTest (tOp (uNe G.K) (tOp (uIx G.K) (tOp (uIx G.K) (tVar 3) (tVar 7)) (tOp uSub (tVar 5) (tOp (uIx G.K) (tVar 2) (tVar 7)))) (tVar 6)))) (tAug 7 (tC (.int 1)) (ipI fun i j => i + j)))
      (tSeq (tDrop (tBM G.K "list" rAppend (tVar 4) (tCons (tOp (uIx G.K) (tVar 2) (tVar 7)) tNil)))
      (tAug 5 (tOp (uIx G.K) (tVar 2) (tVar 7)) (ipI fun i j => i - j)))))))
      (tRet (tVar 4)) { nx := fun _ H' => Q .non H', rt := Q } [some (.ref a), some (.int n), some (.ref sp), some (.ref r), some (.ref l), some (.int n), some (.int w), none] (upd H3 l (.lst [])) := fun w hw => by
    wtm_at "w"
    have hwn : w ≤ n := by
      by_cases z : n = 0
      · subst z; rw [fewF_zero] at hw; omega
      · have := fewF_bd (st (by omega)).pos (st (by omega)).mem n; omega
    refine i_while (fun c σ H' => ∃ (fs : List Int) (left : Nat) (y7 : Option V), σ = [some (.ref a), some (.int n), some (.ref sp), some (.ref r), some (.ref l), some (.int left), some (.int (c : Nat)), y7] ∧ Same H3 H' ∧ H' l = some (.lst (fs.map V.int)) ∧ FsI L (fsum L w n) fs c left n) w ⟨[], n, _, rfl, s4, upd_same, ⟨rfl, hw, Nat.le_refl _, by simp; omega⟩⟩ ?_
    rintro c σ H4 ⟨fs, left, y7, rfl, s4, el, fi⟩
    wtm_at "w"
    refine i_ite (fun hgt => ?_) (fun hgt => ?_)
    · have hn1 : 1 ≤ n := by have := fi.n; omega
      have k := st hn1
      obtain ⟨c, rfl⟩ := fi.pos k (by omega)
      obtain ⟨j0, hj0, ff⟩ := fi.ex k
      obtain ⟨_, fok, fno⟩ := firstP_some ff
      have hfl := fi.l
      have hln := fi.n
      refine i_turn ?_
      wtm_at "w"
      have ec : ((c + 1 : Nat) : Int) - 1 = (c : Int) := by omega
      rw [ec]
      refine i_while (fun m σ H' => ∃ (t : Nat), σ = [some (.ref a), some (.int n), some (.ref sp), some (.ref r), some (.ref l), some (.int left), some (.int (c : Nat)), some (.int t)] ∧ H' = H4 ∧ t ≤ j0 ∧ m = j0 - t) j0 ⟨0, rfl, rfl, Nat.zero_le _, rfl⟩ ?_
      rintro m σ H5 ⟨t, rfl, rfl, htj, rfl⟩
      have htl : t < L.length := by omega
      have gs := ints_at (S := L) (j := t) (jv := (t : Int)) rfl htl
      have hpt := k.pos _ (getD_mem htl)
      wtm_at "w"
      refine i_orP (b1 := decide ((left : Int) < L.getD t 0)) (b2 := !decide (ftab L t (left - (L.getD t 0).toNat) = (c : Int))) (fun QB h => ?_) (fun hb QB h => ?_) ?_
      · wtm_at "w"
        refine i_ixL (sq_of (s4 _ _ e3)) gs ?_
        wtm_at "w"
        exact h
      · have hb' : L.getD t 0 ≤ (left : Int) := by have := of_decide_eq_false hb; omega
        obtain ⟨q, hq, eq⟩ := (rows.same s4).at (j := t) (jv := (t : Int)) rfl htl
        wtm_at "w"
        refine i_ixL (sq_of (s4 _ _ er)) hq ?_
        wtm_at "w"
        refine i_ixL (sq_of (s4 _ _ e3)) gs ?_
        wtm_at "w"
        refine i_ixL (sq_of eq) (tab_at (i := left - (L.getD t 0).toNat) (by omega) (by omega)) ?_
        wtm_at "w"
        exact h
      have eb : (decide ((left : Int) < L.getD t 0) || !decide (ftab L t (left - (L.getD t 0).toNat) = (c : Int))) = !fOk L left (c : Int) t := by
        unfold fOk ftab
        rw [Bool.not_and]
        congr 1
        rw [Bool.eq_iff_iff]; simp
      rw [eb]
      refine i_both (fun hno => ?_) (fun hok => ?_)
      · refine i_turn ?_
        wtm_at "w"
        have hne : t ≠ j0 := fun z => by subst z; rw [fok] at hno; cases hno
        refine ⟨j0 - (t + 1), by omega, t + 1, rfl, rfl, by omega, rfl⟩
      · have hok' : fOk L left (c : Int) t = true := by simpa using hok
        have htj0 : t = j0 := by
          by_cases z : t < j0
          · rw [fno t z] at hok'; cases hok'
          · omega
        subst htj0
        obtain ⟨o1, o2⟩ := fOk_of hok'
        wtm_at "w"
        refine i_tyL el ?_
        wtm_at "w"
        refine i_ixL (sq_of (s4 _ _ e3)) gs ?_
        wtm_at "w"
        refine i_app el (sz_lt (by rw [List.length_map]; omega)) ?_
        have s5 := same_mut (o := .lst (fs.map V.int ++ [.int (L.getD t 0)])) s4 nl
        wtm_at "w"
        refine i_ixL (sq_of (s5 _ _ e3)) gs ?_
        wtm_at "w"
        refine ⟨c, by omega, fs ++ [L.getD t 0], left - (L.getD t 0).toNat, some (.int t), ?_, s5, by rw [upd_same, List.map_append]; rfl, fi.next k ff⟩
        rw [show ((left - (L.getD t 0).toNat : Nat) : Int) = (left : Int) - L.getD t 0 by omega]
        rfl
    · wtm_at "w"
      have hl0 : left = 0 := by omega
      subst hl0
      have c0 : c = 0 := by have := fi.f; rw [fewF_zero] at this; omega
      subst c0
      have gg := fi.g
      have e : fs = fsum L w n := by rw [← gg]; exact (List.append_nil _).symm
      subst e
      have hfl := fi.l
      have ew : (fewF L n).toNat = w := by omega
      exact h l L H4 (s03.trans s4) nl0 hL (by rw [ew]; exact el) (by rw [ew]; omega)
  refine i_ite (fun hgt => ?_) (fun hgt => ?_)
  · have hn1 : 1 ≤ n := by omega
    have k := st hn1
    have kl := k.lt
    obtain ⟨z, ez⟩ : ∃ z, L.length = z + 1 := ⟨L.length - 1, by omega⟩
    rw [ez] at rows
    obtain ⟨q, hq, eq⟩ := rows.last
    wtm_at "w"
    refine i_ixL (sq_of (s4 _ _ er)) hq ?_
    wtm_at "w"
    refine i_ixL (sq_of (s4 _ _ eq)) (tab_at (i := n) rfl (by omega)) ?_
    obtain ⟨m, hm⟩ := few_pos k (n := n) (by omega)
    rw [show ftab L z n = ((m + 1 : Nat) : Int) by rw [← hm]; unfold ftab; rw [← ez, List.take_length]]
    exact fin (m + 1) hm
  · have hn0 : n = 0 := by omega
    subst hn0
    wtm_at "w"
    exact fin 0 (fewF_zero _)
end
/-! ### so many parts, as bits -/
/-! ### the fewest, reckoned -/
/-! ### papers -/
def Pap (S : List Int) (n : Nat) (m : Int) (f : Nat → Int) : Prop := 0 ≤ m ∧ f 0 = 0 ∧ m ≤ f n ∧ ∀ i j : Nat, 1 ≤ i → i ≤ n → (j : Int) ∈ S → j ≤ i → f i ≤ f (i - j) + 1
theorem Pap.few {S : List Int} {n : Nat} {m : Int} (hp : ∀ p ∈ S, 1 ≤ p) (h0 : 0 ≤ m) (hm : m ≤ fewF S n) : Pap S n m (fewF S) :=
  ⟨h0, fewF_zero _, hm, fun i j _ _ hj hji => fewF_le hp hj hji⟩
theorem fsum_len {S : List Int} (k : Stk S) : ∀ (m n : Nat), fewF S n = (m : Int) → (fsum S m n).length = m
  | 0, _, _ => rfl
  | m + 1, n, h => by
    obtain ⟨j, hj, e⟩ := first_ok k h
    rw [fsum_step e, List.length_cons, fsum_len k m _ (fOk_left k hj h (firstP_some e).2.1)]
section
variable {G : Gx} {H : Hp} {Q : VK} {E : XK} {a t : Addr} {ks : List V}
def revA (K : Fg) (x : V) (H : Hp) (Q : VK) : Prop := ∃ a xs, x = .ref a ∧ SqL K H a xs ∧ ∀ p, H p = none → Q (.ref p) (upd H p (.lst xs.reverse))
theorem i_revL {σ : L2.St} {te : TE} (h : te σ H fun x H1 => revA G.K x H1 Q) : tRevL G.K te σ H Q := h
theorem i_revA {K : Fg} {xs : List V} (hs : SqL K H a xs) (h : ∀ p, H p = none → Q (.ref p) (upd H p (.lst xs.reverse))) : revA K (.ref a) H Q := ⟨a, xs, rfl, hs, h⟩
end
/-! ### given lists -/
theorem cut_takeA {xs : List V} {n : Nat} : cutV xs none (some (n : Int)) = xs.take n := by
  unfold cutV
  rw [show HT.sIx xs.length 0 none = 0 from HT.sIx_none _ _, HT.sIx_nat]
  by_cases h : n ≤ xs.length
  · simp [Nat.min_eq_left h]
  · simp [Nat.min_eq_right (show xs.length ≤ n by omega)]
    rw [List.take_of_length_le (by omega)]
theorem cut_dropA {xs : List V} {n : Nat} : cutV xs (some (n : Int)) none = xs.drop n := by
  unfold cutV
  rw [show HT.sIx xs.length xs.length none = xs.length from HT.sIx_none _ _, HT.sIx_nat]
  by_cases h : n ≤ xs.length
  · rw [Nat.min_eq_left h, List.take_of_length_le]
    simp
  · rw [Nat.min_eq_right (show xs.length ≤ n by omega), List.drop_of_length_le (show xs.length ≤ n by omega), List.drop_of_length_le (Nat.le_refl _)]
    simp
theorem fsum_lenI {ks : List V} {n : Nat} {L : List Int} (hL : StockOf ks n L) (hk : KdL ks) : ((fsum L (fewF L n).toNat n).length : Int) = fewF L n := by
  by_cases z : n = 0
  · subst z; rw [fewF_zero]; rfl
  · have k := Stk.of hL hk (by omega)
    have := fewF_nn k.pos k.mem n
    rw [fsum_len k _ n (by omega)]; omega
theorem StockOf.few {ks : List V} {n : Nat} {L : List Int} (h : StockOf ks n L) (hk : KdL ks) : 0 ≤ fewF L n ∧ fewF L n ≤ n := by
  by_cases z : n = 0
  · subst z; rw [fewF_zero]; omega
  · have k := Stk.of h hk (by omega)
    exact ⟨fewF_nn k.pos k.mem n, fewF_bd k.pos k.mem n⟩
/-! ### a Keeper -/
def kfs (ol : Addr) (b : Int) : List (Str × V) := putF "bound" (.int b) (putF "own" (.ref ol) [])
structure Kpr (C : Addr) (H : Hp) (kk ol : Addr) (b : Nat) (ks : List V) : Prop where
  o : ∃ dx, H kk = some (.ins C dx (kfs ol b))
  l : H ol = some (.lst ks)
theorem Kpr.same {C : Addr} {H H' : Hp} {kk ol : Addr} {b : Nat} {ks : List V} (k : Kpr C H kk ol b ks) (s : Same H H') : Kpr C H' kk ol b ks := by
  obtain ⟨dx, e⟩ := k.o
  exact ⟨⟨dx, s _ _ e⟩, s _ _ k.l⟩
theorem Kpr.ne {C : Addr} {H : Hp} {kk ol : Addr} {b : Nat} {ks : List V} (k : Kpr C H kk ol b ks) : kk ≠ ol := fun z => by
  obtain ⟨dx, e⟩ := k.o
  have := k.l
  rw [← z, e] at this
  cases this
theorem Kpr.keep {R : Addr → Prop} {C : Addr} {H H' : Hp} {kk ol : Addr} {b : Nat} {ks : List V} (k : Kpr C H kk ol b ks) (s : Keep R H H') (h1 : ¬ R kk) (h2 : ¬ R ol) : Kpr C H' kk ol b ks := by
  obtain ⟨dx, e⟩ := k.o
  exact ⟨⟨dx, s _ _ h1 e⟩, s _ _ h2 k.l⟩
/-- the most that is needed -/
structure IsMost (L : List Int) (b : Nat) (m : Int) : Prop where
  ex : ∃ u ≤ b, fewF L u = m
  ge : ∀ u ≤ b, fewF L u ≤ m
theorem IsMost.uniq {L : List Int} {b : Nat} {m n : Int} (x : IsMost L b m) (y : IsMost L b n) : m = n := by
  obtain ⟨u, hu, e⟩ := x.ex
  obtain ⟨v, hv, f⟩ := y.ex
  have := x.ge v hv
  have := y.ge u hu
  omega
/-! ### how many need so many -/
noncomputable def cntF (L : List Int) (b : Nat) (c : Int) : Nat := ((List.range (b + 1)).filter fun u => decide (fewF L u = c)).length
section
variable {H : Hp} {Q : VK} {σ : L2.St} {ty td : TE} {f : Addr} {ks : List Int} {n : Int}
theorem DI.ne {H : Hp} {f g : Addr} {ks : List Int} {xs : List V} (d : DI H f ks) (e : H g = some (.lst xs)) : f ≠ g := fun z => by
  obtain ⟨kvs, ek, _⟩ := d
  rw [z, e] at ek; cases ek
theorem DI.some {H : Hp} {f : Addr} {ks : List Int} (d : DI H f ks) : ∃ o, H f = some o := by
  obtain ⟨kvs, e, _⟩ := d
  exact ⟨_, e⟩
end
/-- the numbers of a level, each once -/
structure LevN (L : List Int) (b : Nat) (c : Int) (xs : List Int) : Prop where
  nd : xs.Nodup
  mem : ∀ x, x ∈ xs ↔ ∃ u : Nat, x = u ∧ u ≤ b ∧ fewF L u = c
theorem LevN.len {L : List Int} {b : Nat} {c : Int} {xs : List Int} (l : LevN L b c xs) : xs.length = cntF L b c := by
  have e : xs.Perm (((List.range (b + 1)).filter fun u => decide (fewF L u = c)).map fun (u : Nat) => (u : Int)) := by
    refine (List.perm_ext_iff_of_nodup l.nd ?_).mpr fun x => ?_
    · unfold List.Nodup
      rw [List.pairwise_map]
      exact ((List.nodup_range).filter _).imp fun h z => h (by exact_mod_cast z)
    · rw [l.mem, List.mem_map]
      constructor
      · rintro ⟨u, rfl, hu, e⟩
        exact ⟨u, List.mem_filter.mpr ⟨List.mem_range.mpr (by omega), decide_eq_true e⟩, rfl⟩
      · rintro ⟨u, hu, rfl⟩
        obtain ⟨h1, h2⟩ := List.mem_filter.mp hu
        exact ⟨u, rfl, by have := List.mem_range.mp h1; omega, of_decide_eq_true h2⟩
  rw [e.length_eq, List.length_map]; rfl
/-! ### a Keeper asked -/
/-! ### how many sums, by how many parts -/
def cst (p : Nat) (f : Nat → Nat → Nat) (t k : Nat) : Nat := f t k + if h : 1 ≤ p ∧ p ≤ t ∧ 1 ≤ k then cst p f (t - p) (k - 1) else 0
termination_by t
decreasing_by omega
def ust (p : Nat) (f : Nat → Nat) (t : Nat) : Nat := f t + if h : 1 ≤ p ∧ p ≤ t then ust p f (t - p) else 0
termination_by t
decreasing_by omega
def crow (S : List Int) : Nat → Nat → Nat := S.foldl (fun f p => cst p.toNat f) fun t k => if t = 0 ∧ k = 0 then 1 else 0
def urow (S : List Int) : Nat → Nat := S.foldl (fun f p => ust p.toNat f) fun t => if t = 0 then 1 else 0
theorem urow_snoc {S : List Int} {i : Nat} {p : Int} (h : S[i]? = some p) : urow (S.take (i + 1)) = ust p.toNat (urow (S.take i)) := by
  unfold urow
  rw [List.take_succ, h]; simp
theorem urow_app (S : List Int) (p : Int) : urow (S ++ [p]) = ust p.toNat (urow S) := by
  unfold urow
  rw [List.foldl_append]; rfl
theorem ust_le {p : Nat} {f : Nat → Nat} {t : Nat} (h : 1 ≤ p) (ht : p ≤ t) : ust p f t = f t + ust p f (t - p) := by
  rw [ust, dif_pos ⟨h, ht⟩]
theorem ust_lt {p : Nat} {f : Nat → Nat} {t : Nat} (ht : t < p) : ust p f t = f t := by
  rw [ust, dif_neg (by omega), Nat.add_zero]
theorem cst_lt {p : Nat} {f : Nat → Nat → Nat} {t k : Nat} (ht : t < p) : cst p f t k = f t k := by
  rw [cst, dif_neg (by omega), Nat.add_zero]
theorem cst_zero {p : Nat} {f : Nat → Nat → Nat} {t : Nat} : cst p f t 0 = f t 0 := by
  rw [cst, dif_neg (by omega), Nat.add_zero]
theorem cst_le {p : Nat} {f : Nat → Nat → Nat} {t k : Nat} (h : 1 ≤ p) (ht : p ≤ t) : cst p f t (k + 1) = f t (k + 1) + cst p f (t - p) k := by
  rw [cst, dif_pos ⟨h, ht, by omega⟩, Nat.add_sub_cancel]
theorem cst_none {p : Nat} {f : Nat → Nat → Nat} (hp : 1 ≤ p) (h : ∀ t k, t < k → f t k = 0) : ∀ n t k, t ≤ n → t < k → cst p f t k = 0 := by
  intro n
  induction n with
  | zero =>
    intro t k ht hk
    rw [cst_lt (by omega), h t k hk]
  | succ n ih =>
    intro t k ht hk
    by_cases z : p ≤ t
    · obtain ⟨k, rfl⟩ : ∃ k', k = k' + 1 := ⟨k - 1, by omega⟩
      rw [cst_le hp z, h t _ hk, ih (t - p) k (by omega) (by omega)]
    · rw [cst_lt (by omega), h t k hk]
theorem fold_none : ∀ (S : List Int) (f : Nat → Nat → Nat), (∀ x ∈ S, 1 ≤ x) → (∀ t k, t < k → f t k = 0) → ∀ t k, t < k → (S.foldl (fun f p => cst p.toNat f) f) t k = 0
  | [], f, _, h => h
  | p :: S, f, hp, h => by
    have p1 := hp p (by simp)
    exact fold_none S _ (fun x hx => hp x (List.mem_cons_of_mem _ hx)) fun t k hk => cst_none (by omega) h t t k (Nat.le_refl _) hk
theorem crow_none {S : List Int} (hp : ∀ x ∈ S, 1 ≤ x) {t k : Nat} (h : t < k) : crow S t k = 0 := fold_none S _ hp (fun t k hk => by rw [if_neg (by omega)]) t k h
/-! sums over k -/
def ksum (g : Nat → Nat) : Nat → Nat
  | 0 => 0
  | n + 1 => ksum g n + g n
theorem ksum_ext {g h : Nat → Nat} : ∀ {n : Nat}, (∀ k < n, g k = h k) → ksum g n = ksum h n
  | 0, _ => rfl
  | n + 1, e => by
    show ksum g n + g n = ksum h n + h n
    rw [ksum_ext fun k hk => e k (by omega), e n (by omega)]
theorem ksum_add {g h : Nat → Nat} : ∀ n, ksum (fun k => g k + h k) n = ksum g n + ksum h n
  | 0 => rfl
  | n + 1 => by
    show ksum (fun k => g k + h k) n + (g n + h n) = (ksum g n + g n) + (ksum h n + h n)
    rw [ksum_add n]; omega
theorem ksum_front {g : Nat → Nat} : ∀ n, ksum g (n + 1) = g 0 + ksum (fun k => g (k + 1)) n
  | 0 => by show 0 + g 0 = g 0 + 0; omega
  | n + 1 => by
    show ksum g (n + 1) + g (n + 1) = g 0 + (ksum (fun k => g (k + 1)) n + g (n + 1))
    rw [ksum_front n]; omega
theorem ksum_more {g : Nat → Nat} {n : Nat} : ∀ {m : Nat}, n ≤ m → (∀ k, n ≤ k → k < m → g k = 0) → ksum g m = ksum g n
  | 0, h, _ => by have : n = 0 := by omega
                  subst this; rfl
  | m + 1, h, z => by
    by_cases e : n = m + 1
    · subst e; rfl
    · show ksum g m + g m = _
      rw [ksum_more (m := m) (by omega) fun k h1 h2 => z k h1 (by omega), z m (by omega) (by omega), Nat.add_zero]
theorem ksum_ge {g : Nat → Nat} {k : Nat} : ∀ {n : Nat}, k < n → g k ≤ ksum g n
  | n + 1, h => by
    show g k ≤ ksum g n + g n
    by_cases e : k = n
    · subst e; omega
    · have := ksum_ge (g := g) (k := k) (n := n) (by omega); omega
/-- all of them, however many parts -/
theorem cst_sum {p : Nat} {f : Nat → Nat → Nat} {u : Nat → Nat} (hp : 1 ≤ p) (h : ∀ t k, t < k → f t k = 0) (hu : ∀ t, ksum (f t) (t + 1) = u t) : ∀ n t, t ≤ n → ksum (cst p f t) (t + 1) = ust p u t := by
  intro n
  induction n with
  | zero =>
    intro t ht
    have : t = 0 := by omega
    subst this
    rw [ust_lt (by omega), ← hu]
    exact ksum_ext fun k hk => cst_lt (by omega)
  | succ n ih =>
    intro t ht
    by_cases z : p ≤ t
    · rw [ust_le hp z, ← hu, ← ih (t - p) (by omega), ksum_front, ksum_front, cst_zero]
      rw [ksum_ext (h := fun k => f t (k + 1) + cst p f (t - p) k) fun k _ => cst_le hp z, ksum_add]
      rw [ksum_more (g := cst p f (t - p)) (n := t - p + 1) (m := t) (by omega) fun k h1 h2 => cst_none hp h (t - p) (t - p) k (Nat.le_refl _) (by omega)]
      omega
    · rw [ust_lt (by omega), ← hu]
      exact ksum_ext fun k hk => cst_lt (by omega)
theorem fold_sum : ∀ (S : List Int) (f : Nat → Nat → Nat) (u : Nat → Nat), (∀ x ∈ S, 1 ≤ x) → (∀ t k, t < k → f t k = 0) → (∀ t, ksum (f t) (t + 1) = u t) → ∀ t, ksum ((S.foldl (fun f p => cst p.toNat f) f) t) (t + 1) = (S.foldl (fun f p => ust p.toNat f) u) t
  | [], f, u, _, _, h => h
  | p :: S, f, u, hp, h0, h => by
    have p1 := hp p (by simp)
    exact fold_sum S _ _ (fun x hx => hp x (List.mem_cons_of_mem _ hx)) (fun t k hk => cst_none (by omega) h0 t t k (Nat.le_refl _) hk) fun t => cst_sum (by omega) h0 h t t (Nat.le_refl _)
theorem crow_sum {S : List Int} (hp : ∀ x ∈ S, 1 ≤ x) (t : Nat) : ksum (crow S t) (t + 1) = urow S t :=
  fold_sum S _ _ hp (fun t k hk => by rw [if_neg (by omega)]) (fun t => by
    cases t with
    | zero => rfl
    | succ t =>
      have e : ksum (fun k => if t + 1 = 0 ∧ k = 0 then 1 else 0) (t + 1 + 1) = ksum (fun _ => 0) (t + 1 + 1) := ksum_ext fun k _ => by rw [if_neg (by omega)]
      have z : ∀ n, ksum (fun _ => 0) n = 0 := by
        intro n; induction n with
        | zero => rfl
        | succ n ih => show ksum (fun _ => 0) n + 0 = 0; rw [ih]
      show ksum (fun k => if t + 1 = 0 ∧ k = 0 then 1 else 0) (t + 1 + 1) = if t + 1 = 0 then 1 else 0
      rw [e, z, if_neg (by omega)]) t
theorem crow_le {S : List Int} (hp : ∀ x ∈ S, 1 ≤ x) (t k : Nat) : crow S t k ≤ urow S t := by
  by_cases h : t < k
  · rw [crow_none hp h]; omega
  · rw [← crow_sum hp t]; exact ksum_ge (by omega)
/-! how many at most -/
def kseq : Nat → Nat
  | 0 => 2 ^ 64
  | p + 1 => (kseq p * 10 ^ (p + 1)) / (10 ^ (p + 1) - 9 ^ (p + 1)) + 1
theorem pow_gap (p : Nat) : 9 ^ (p + 1) < 10 ^ (p + 1) := Nat.pow_lt_pow_left (by decide) (by omega)
theorem kseq_ok (p : Nat) : kseq p * 10 ^ (p + 1) + kseq (p + 1) * 9 ^ (p + 1) ≤ kseq (p + 1) * 10 ^ (p + 1) := by
  have g := pow_gap p
  generalize h9 : 9 ^ (p + 1) = a at *
  generalize h10 : 10 ^ (p + 1) = b at *
  have e : kseq (p + 1) = kseq p * b / (b - a) + 1 := by show (kseq p * 10 ^ (p + 1)) / (10 ^ (p + 1) - 9 ^ (p + 1)) + 1 = _; rw [h9, h10]
  have d := Nat.div_add_mod (kseq p * b) (b - a)
  have m := Nat.mod_lt (kseq p * b) (show 0 < b - a by omega)
  have k1 : kseq p * b ≤ kseq (p + 1) * (b - a) := by
    rw [e, Nat.add_mul, Nat.one_mul, Nat.mul_comm (kseq p * b / (b - a))]; omega
  have k2 : kseq (p + 1) * (b - a) + kseq (p + 1) * a = kseq (p + 1) * b := by rw [← Nat.mul_add]; congr 1; omega
  omega
theorem kseq_mono (p : Nat) : kseq p ≤ kseq (p + 1) := by
  have h := kseq_ok p
  have g : 0 < 10 ^ (p + 1) := Nat.pow_pos (by decide)
  exact Nat.le_of_mul_le_mul_right (c := 10 ^ (p + 1)) (by omega) g
def Bnd (f : Nat → Nat) (K : Nat) : Prop := ∀ t, f t * 2 ^ 64 * 9 ^ t ≤ K * 10 ^ t
theorem Bnd.mono {f : Nat → Nat} {K K' : Nat} (h : Bnd f K) (k : K ≤ K') : Bnd f K' := fun t => Nat.le_trans (h t) (Nat.mul_le_mul_right _ k)
theorem Bnd.step {f : Nat → Nat} {p : Nat} (h : Bnd f (kseq p)) : Bnd (ust (p + 1) f) (kseq (p + 1)) := by
  have key : ∀ n t, t ≤ n → ust (p + 1) f t * 2 ^ 64 * 9 ^ t ≤ kseq (p + 1) * 10 ^ t := by
    intro n
    induction n with
    | zero =>
      intro t ht
      rw [ust_lt (by omega)]
      exact (h.mono (kseq_mono p)) t
    | succ n ih =>
      intro t ht
      by_cases z : p + 1 ≤ t
      · obtain ⟨s, rfl⟩ : ∃ s, t = p + 1 + s := ⟨t - (p + 1), by omega⟩
        rw [ust_le (by omega) z, Nat.add_sub_cancel_left]
        have a := h (p + 1 + s)
        have b := ih s (by omega)
        have c := kseq_ok p
        rw [Nat.pow_add] at a ⊢
        rw [Nat.pow_add 10] at a ⊢
        generalize 9 ^ (p + 1) = A at *
        generalize 10 ^ (p + 1) = B at *
        generalize 9 ^ s = A' at *
        generalize 10 ^ s = B' at *
        generalize ust (p + 1) f s = U at *
        generalize f (p + 1 + s) = F at *
        generalize kseq p = K at *
        generalize kseq (p + 1) = K' at *
        generalize (2 : Nat) ^ 64 = D at *
        have e1 : (F + U) * D * (A * A') = F * D * (A * A') + A * (U * D * A') := by
          rw [Nat.add_mul, Nat.add_mul]; congr 1
          rw [Nat.mul_left_comm]
        rw [e1]
        have e2 : A * (U * D * A') ≤ A * (K' * B') := Nat.mul_le_mul_left _ b
        have e3 : K * (B * B') + A * (K' * B') ≤ K' * (B * B') := by
          have : (K * B + K' * A) * B' ≤ K' * B * B' := Nat.mul_le_mul_right _ c
          rw [Nat.add_mul] at this
          rw [← Nat.mul_assoc, ← Nat.mul_assoc, ← Nat.mul_assoc, Nat.mul_comm A K']
          exact this
        omega
      · rw [ust_lt (by omega)]
        exact (h.mono (kseq_mono p)) t
  exact fun t => key t t (Nat.le_refl _)
theorem up_last {S : List Int} {x : Int} (up : S.Pairwise (· < ·)) (hx : x ∈ S) (hle : ∀ y ∈ S, y ≤ x) : ∃ S0, S = S0 ++ [x] ∧ ∀ y ∈ S0, y < x := by
  rcases List.eq_nil_or_concat S with rfl | ⟨S0, y, rfl⟩
  · cases hx
  · rw [List.concat_eq_append] at *
    have h := (List.pairwise_append.mp up).2.2
    have hy : y = x := by
      rcases List.mem_append.mp hx with z | z
      · have := h x z y (by simp); have := hle y (by simp); omega
      · exact (List.mem_singleton.mp z).symm
    subst hy
    exact ⟨S0, rfl, fun z hz => h z hz y (by simp)⟩
theorem urow_bnd : ∀ (N : Nat) (S : List Int), S.Pairwise (· < ·) → (∀ x ∈ S, 1 ≤ x ∧ x ≤ N) → Bnd (urow S) (kseq N)
  | 0, S, _, h => by
    have : S = [] := by
      cases S with
      | nil => rfl
      | cons x r => have := h x (by simp); omega
    subst this
    intro t
    show (if t = 0 then 1 else 0) * 2 ^ 64 * 9 ^ t ≤ 2 ^ 64 * 10 ^ t
    split
    · rw [Nat.one_mul]; exact Nat.mul_le_mul_left _ (Nat.pow_le_pow_left (by decide) _)
    · simp
  | N + 1, S, up, h => by
    by_cases z : ((N + 1 : Nat) : Int) ∈ S
    · obtain ⟨S0, rfl, h0⟩ := up_last up z fun y hy => (h y hy).2
      rw [urow_app, Int.toNat_natCast]
      exact (urow_bnd N S0 (List.pairwise_append.mp up).1 fun x hx => ⟨(h x (List.mem_append_left _ hx)).1, by have := h0 x hx; omega⟩).step
    · refine (urow_bnd N S up fun x hx => ⟨(h x hx).1, ?_⟩).mono (kseq_mono N)
      have := (h x hx).2
      have ne : x ≠ ((N + 1 : Nat) : Int) := fun e => z (e ▸ hx)
      omega
theorem bnd_at {f : Nat → Nat} {K M T : Nat} (h : Bnd f K) (c : K * 10 ^ T < M * 2 ^ 64 * 9 ^ T) {t : Nat} (ht : t ≤ T) : f t < M := by
  obtain ⟨s, rfl⟩ : ∃ s, T = t + s := ⟨T - t, by omega⟩
  have a := h t
  have p9 : 0 < 9 ^ (t + s) := Nat.pow_pos (by decide)
  have le : 9 ^ s ≤ 10 ^ s := Nat.pow_le_pow_left (by decide) _
  rw [Nat.pow_add 10] at c
  refine Nat.lt_of_not_le fun z => ?_
  have b : M * 2 ^ 64 * 9 ^ (t + s) ≤ f t * 2 ^ 64 * 9 ^ (t + s) := Nat.mul_le_mul_right _ (Nat.mul_le_mul_right _ z)
  have d : f t * 2 ^ 64 * 9 ^ (t + s) ≤ K * (10 ^ t * 10 ^ s) := by
    rw [Nat.pow_add 9, ← Nat.mul_assoc, ← Nat.mul_assoc]
    exact Nat.mul_le_mul a le
  omega
theorem urow_lt {S : List Int} (up : S.Pairwise (· < ·)) (h : ∀ x ∈ S, 1 ≤ x ∧ x ≤ 200) {t : Nat} (ht : t ≤ 200) : urow S t < 2 ^ 64 :=
  bnd_at (urow_bnd 200 S up h) (by decide +kernel) ht
/-! packed -/
def psum (g : Nat → Nat) : Nat → Nat
  | 0 => 0
  | n + 1 => psum g n + g n * 2 ^ (64 * n)
theorem psum_lt {g : Nat → Nat} : ∀ {n : Nat}, (∀ k < n, g k < 2 ^ 64) → psum g n < 2 ^ (64 * n)
  | 0, _ => by show 0 < 2 ^ (64 * 0); decide
  | n + 1, h => by
    show psum g n + g n * 2 ^ (64 * n) < _
    have a := psum_lt (g := g) (n := n) fun k hk => h k (by omega)
    have b := h n (by omega)
    rw [show 64 * (n + 1) = 64 + 64 * n by omega, Nat.pow_add]
    have c : (g n + 1) * 2 ^ (64 * n) ≤ 2 ^ 64 * 2 ^ (64 * n) := Nat.mul_le_mul_right _ (by omega)
    rw [Nat.add_mul, Nat.one_mul] at c
    omega
/-- a row's number -/
def prow (S : List Int) (t : Nat) : Nat := psum (crow S t) (t + 1)
/-! ### Counts -/
def cfs (sp rp : Addr) : List (Str × V) := putF "rows" (.ref rp) (putF "values_let" (.ref sp) [])
/-- counts to n of a stock -/
structure Cnt (C : Addr) (H : Hp) (x : Addr) (S : List Int) (n : Nat) : Prop where
  o : ∃ dx sp rp qs, H x = some (.ins C dx (cfs sp rp)) ∧ H sp = some (.lst (S.map V.int)) ∧ H rp = some (.lst (qs.map V.ref)) ∧ QRows H qs (fun j u => .int (prow (S.take j) u : Nat)) (S.length + 1) (n + 1)
theorem Cnt.same {C : Addr} {H H' : Hp} {x : Addr} {S : List Int} {n : Nat} (c : Cnt C H x S n) (s : Same H H') : Cnt C H' x S n := by
  obtain ⟨dx, sp, rp, qs, e1, e2, e3, e4⟩ := c.o
  exact ⟨dx, sp, rp, qs, s _ _ e1, s _ _ e2, s _ _ e3, e4.same s⟩
/-- a stock that is counted -/
structure StkC (S : List Int) (n : Nat) : Prop where
  up : S.Pairwise (· < ·)
  lim : ∀ x ∈ S, 1 ≤ x ∧ x ≤ 200
  n : n ≤ 200
theorem StkC.pos {S : List Int} {n : Nat} (k : StkC S n) : ∀ x ∈ S, 1 ≤ x := fun x hx => (k.lim x hx).1
theorem StkC.take {S : List Int} {n : Nat} (k : StkC S n) (j : Nat) : StkC (S.take j) n := ⟨k.up.sublist (List.take_sublist _ _), fun x hx => k.lim x (List.mem_of_mem_take hx), k.n⟩
theorem StkC.lt {S : List Int} {n : Nat} (k : StkC S n) {t : Nat} (ht : t ≤ n) (j : Nat) : crow S t j < 2 ^ 64 := Nat.lt_of_le_of_lt (crow_le k.pos t j) (urow_lt k.up k.lim (Nat.le_trans ht k.n))
theorem StkC.row {S : List Int} {n : Nat} (k : StkC S n) {t : Nat} (ht : t ≤ n) : prow S t < 2 ^ (64 * (t + 1)) := psum_lt fun j _ => k.lt ht j
theorem StkC.len {S : List Int} {n : Nat} (k : StkC S n) : S.length ≤ 200 := by
  have := up_len (lo := 1) (hi := 200) k.up (fun x hx => k.lim x hx) (by decide)
  omega
theorem StockOf.stkc {ks : List V} {n : Nat} {L : List Int} (h : StockOf ks n L) (hk : KdL ks) (hn : n ≤ 200) : StkC L n := ⟨h.up, fun x hx => ⟨h.pos hk.kd hx, by have := ((h.mem x).mp hx).1; omega⟩, hn⟩
/-! ### all sums, listed -/
theorem up_filter : ∀ {S : List Int}, S.Pairwise (· < ·) → ∀ (x : Int) (i : Nat), i < S.length → (i < (S.filter fun p => decide (p ≤ x)).length ↔ S.getD i 0 ≤ x)
  | [], _, x, i, h => by simp at h
  | a :: r, up, x, i, h => by
    have hr := List.pairwise_cons.mp up
    by_cases z : a ≤ x
    · rw [List.filter_cons_of_pos (by simpa using z), List.length_cons]
      cases i with
      | zero => simpa using z
      | succ i =>
        have := up_filter hr.2 x i (by simpa using h)
        rw [Nat.add_lt_add_iff_right, this]; rfl
    · have e : (a :: r).filter (fun p => decide (p ≤ x)) = [] := by
        rw [List.filter_eq_nil_iff]
        intro b hb
        rcases List.mem_cons.mp hb with w | w
        · subst w; simpa using z
        · have := hr.1 b w; simp; omega
      rw [e]
      have hm := getD_mem (S := a :: r) h
      refine ⟨fun w => by simp at w, fun w => ?_⟩
      rcases List.mem_cons.mp hm with y | y
      · omega
      · have := hr.1 _ y; omega
/-- how many of the stock may come next -/
def al (S parts : List Int) : Nat := match parts.getLast? with
  | none => S.length
  | some x => (S.filter fun p => decide (p ≤ x)).length
theorem al_le (S parts : List Int) : al S parts ≤ S.length := by
  unfold al
  split
  · exact Nat.le_refl _
  · exact List.length_filter_le _ _
theorem al_snoc {S parts : List Int} (up : S.Pairwise (· < ·)) {i : Nat} (h : i < S.length) : al S (parts ++ [S.getD i 0]) = i + 1 := by
  unfold al
  rw [List.getLast?_concat]
  show (S.filter fun p => decide (p ≤ S.getD i 0)).length = i + 1
  have h1 := (up_filter up (S.getD i 0) i h).mpr (Int.le_refl _)
  have h2 := List.length_filter_le (fun p => decide (p ≤ S.getD i 0)) S
  by_cases z : i + 1 < S.length
  · have h3 := (up_filter up (S.getD i 0) (i + 1) z)
    have h4 : S.getD i 0 < S.getD (i + 1) 0 := by
      have := List.pairwise_iff_getElem.mp up i (i + 1) h z (by omega)
      rw [List.getD_eq_getElem?_getD, List.getD_eq_getElem?_getD, List.getElem?_eq_getElem h, List.getElem?_eq_getElem z]
      exact this
    have : ¬ i + 1 < (S.filter fun p => decide (p ≤ S.getD i 0)).length := fun w => by have := h3.mp w; omega
    omega
  · omega
theorem urow_step (S : List Int) (i t : Nat) : urow (S.take i) t ≤ urow (S.take (i + 1)) t := by
  by_cases h : i < S.length
  · rw [urow_snoc (getD_get h)]
    rw [ust]; omega
  · rw [List.take_of_length_le (by omega), List.take_of_length_le (by omega)]; exact Nat.le_refl _
theorem urow_one : ∀ t, urow [1] t = 1
  | 0 => by show ust 1 _ 0 = 1; rw [ust_lt (by omega)]; rfl
  | t + 1 => by
    show ust 1 _ (t + 1) = 1
    rw [ust_le (by omega) (by omega)]
    have := urow_one t
    show (if t + 1 = 0 then 1 else 0) + ust 1 _ t = 1
    rw [if_neg (by omega)]
    have e : ust 1 (fun t => if t = 0 then 1 else 0) t = urow [1] t := rfl
    rw [e, this]
theorem urow_pos {S : List Int} (k : Stk S) : ∀ (j t : Nat), 1 ≤ urow (S.take (j + 1)) t
  | 0, t => by
    have : S.take 1 = [1] := by
      have := k.one
      cases S with
      | nil => simp at this
      | cons x r => have e : x = 1 := by simpa using this
                    subst e; rfl
    rw [this, urow_one]; exact Nat.le_refl _
  | j + 1, t => Nat.le_trans (urow_pos k j t) (urow_step S (j + 1) t)
def uext (S : List Int) (t i : Nat) : Nat := if (S.getD i 0).toNat ≤ t then urow (S.take (i + 1)) (t - (S.getD i 0).toNat) else 0
theorem urow_exp {S : List Int} (hp : ∀ x ∈ S, 1 ≤ x) (t : Nat) : ∀ j, j ≤ S.length → urow (S.take j) t = (if t = 0 then 1 else 0) + ksum (uext S t) j
  | 0, _ => rfl
  | j + 1, h => by
    have hj : j < S.length := by omega
    have p1 := hp _ (getD_mem hj)
    show _ = _ + (ksum (uext S t) j + uext S t j)
    have ih := urow_exp hp t j (by omega)
    have e := urow_snoc (getD_get hj)
    unfold uext
    by_cases z : (S.getD j 0).toNat ≤ t
    · rw [if_pos z, e, ust_le (by omega) z, ih]
      unfold uext; omega
    · rw [if_neg z, e, ust_lt (by omega), ih]
      unfold uext; omega
def comp (S : List Int) (nd : List Int × Nat) : Nat := urow (S.take (al S nd.1)) nd.2
def total (S : List Int) (ns : List (List Int × Nat)) : Nat := (ns.map (comp S)).sum
theorem total_app (S : List Int) (a b : List (List Int × Nat)) : total S (a ++ b) = total S a + total S b := by
  unfold total; rw [List.map_append, List.sum_append]
theorem total_one (S : List Int) (nd : List Int × Nat) : total S [nd] = comp S nd := by
  unfold total; simp
/-- a node -/
structure NdOk (S : List Int) (n c : Nat) (nd : List Int × Nat) : Prop where
  mem : ∀ x ∈ nd.1, x ∈ S
  len : nd.1.length = c
  le : nd.2 + c ≤ n
theorem comp_pos {S : List Int} {n c : Nat} {nd : List Int × Nat} (k : 1 ≤ n → Stk S) (h : NdOk S n c nd) : 1 ≤ comp S nd := by
  unfold comp
  by_cases z : nd.2 = 0
  · rw [z]
    have : ∀ j, 1 ≤ urow (S.take j) 0 := by
      intro j
      induction j with
      | zero => exact Nat.le_refl _
      | succ j ih => exact Nat.le_trans ih (urow_step S j 0)
    exact this _
  · have st := k (by have := h.le; omega)
    have hal : 1 ≤ al S nd.1 := by
      unfold al
      cases e : nd.1.getLast? with
      | none => exact st.lt
      | some x =>
        have hx : x ∈ S := h.mem x (List.mem_of_getLast? e)
        have := st.pos x hx
        show 1 ≤ (S.filter fun p => decide (p ≤ x)).length
        exact List.length_pos_of_mem (a := 1) (List.mem_filter.mpr ⟨st.mem, decide_eq_true this⟩)
    obtain ⟨j, ej⟩ : ∃ j, al S nd.1 = j + 1 := ⟨al S nd.1 - 1, by omega⟩
    rw [ej]; exact urow_pos st j _
/-- nodes in a heap -/
structure NdL (R : Addr → Prop) (H : Hp) (qs : List Addr) (ns : List (List Int × Nat)) : Prop where
  len : qs.length = ns.length
  at_ : ∀ (j : Nat) (q : Addr) (nd : List Int × Nat), qs[j]? = some q → ns[j]? = some nd → ∃ pp, H q = some (.lst [.ref pp, .int (nd.2 : Nat)]) ∧ H pp = some (.lst (nd.1.map V.int)) ∧ ¬ R q ∧ ¬ R pp
theorem NdL.keep {R : Addr → Prop} {H H' : Hp} {qs : List Addr} {ns : List (List Int × Nat)} (x : NdL R H qs ns) (k : Keep R H H') : NdL R H' qs ns := ⟨x.len, fun j q nd h1 h2 => by
  obtain ⟨pp, a, b, c, d⟩ := x.at_ j q nd h1 h2
  exact ⟨pp, k _ _ c a, k _ _ d b, c, d⟩⟩
theorem NdL.snoc {R : Addr → Prop} {H : Hp} {qs : List Addr} {ns : List (List Int × Nat)} {q pp : Addr} {nd : List Int × Nat} (x : NdL R H qs ns) (a : H q = some (.lst [.ref pp, .int (nd.2 : Nat)])) (b : H pp = some (.lst (nd.1.map V.int))) (c : ¬ R q) (d : ¬ R pp) : NdL R H (qs ++ [q]) (ns ++ [nd]) := by
  refine ⟨by simp [x.len], fun j q' nd' h1 h2 => ?_⟩
  by_cases z : j < qs.length
  · rw [List.getElem?_append_left z] at h1
    rw [List.getElem?_append_left (by rw [← x.len]; exact z)] at h2
    exact x.at_ j q' nd' h1 h2
  · rw [List.getElem?_append_right (by omega)] at h1
    rw [List.getElem?_append_right (by rw [← x.len]; omega), ← x.len] at h2
    have z2 : j - qs.length = 0 := by
      by_cases y : j - qs.length = 0
      · exact y
      · rw [List.getElem?_eq_none (by simp; omega)] at h1; cases h1
    rw [z2] at h1 h2
    have e1 : q = q' := by simpa using h1
    have e2 : nd = nd' := by simpa using h2
    subst e1; subst e2
    exact ⟨pp, a, b, c, d⟩
theorem NdL.nil {R : Addr → Prop} {H : Hp} : NdL R H [] [] := ⟨rfl, fun j q nd h => by simp at h⟩
theorem NdL.weak {R R' : Addr → Prop} {H : Hp} {qs : List Addr} {ns : List (List Int × Nat)} (x : NdL R H qs ns) (h : ∀ a, R' a → R a) : NdL R' H qs ns := ⟨x.len, fun j q nd h1 h2 => by
  obtain ⟨pp, a, b, c, d⟩ := x.at_ j q nd h1 h2
  exact ⟨pp, a, b, fun z => c (h _ z), fun z => d (h _ z)⟩⟩
def dNd (nd : List Int × Nat) : PyData := .list [.list (nd.1.map PyData.int), .int (nd.2 : Nat)]
theorem NdL.dp {R : Addr → Prop} {K : Fg} {H : Hp} : ∀ {qs : List Addr} {ns : List (List Int × Nat)}, NdL R H qs ns → DpAll K H (qs.map V.ref) (ns.map dNd)
  | [], [], _ => .nil
  | [], _ :: _, x => by have := x.len; simp at this
  | _ :: _, [], x => by have := x.len; simp at this
  | q :: qs, nd :: ns, x => by
    obtain ⟨pp, a, b, _, _⟩ := x.at_ 0 q nd rfl rfl
    refine .cons (.lst (sq_of a) (.cons (dp_ints (sq_of b)) (.cons (.int _) .nil))) (NdL.dp (R := R) ⟨by have := x.len; simpa using this, fun j q' nd' h1 h2 => x.at_ (j + 1) q' nd' h1 h2⟩)
/-! ### joins -/
theorem j_seq {t u : TS} {D : Ends} {σ : L2.St} {H : Hp} (P : L2.St → Hp → Prop) (h2 : ∀ σ H, P σ H → u D σ H) (h1 : (∀ σ H, P σ H → u D σ H) → t { D with nx := u D } σ H) : tSeq t u D σ H := h1 h2
section
variable {G : Gx} {H : Hp} {Q : VK} {E : XK} {a : Addr} {ks : List V}
/-- what a part brings -/
def ubr (S : List Int) (nd : List Int × Nat) (i : Nat) : Nat := if i < al S nd.1 then uext S nd.2 i else 0
theorem comp_eq {S : List Int} (hp : ∀ x ∈ S, 1 ≤ x) (nd : List Int × Nat) : comp S nd = (if nd.2 = 0 then 1 else 0) + ksum (ubr S nd) S.length := by
  unfold comp
  rw [urow_exp hp nd.2 _ (al_le S nd.1)]
  congr 1
  rw [ksum_more (g := ubr S nd) (n := al S nd.1) (al_le S nd.1) fun k h1 h2 => by unfold ubr; rw [if_neg (by omega)]]
  exact ksum_ext fun k hk => by unfold ubr; rw [if_pos hk]
end
/-! ### what is a sum -/
structure SumOk (L : List Int) (n : Int) (xs : List Int) : Prop where
  mem : ∀ x ∈ xs, x ∈ L
  sum : xs.sum = n
  fall : xs.Pairwise (· ≥ ·)
theorem fall_iff : ∀ {xs : List Int}, xs.Pairwise (· ≥ ·) ↔ ∀ k, 1 ≤ k → k < xs.length → xs.getD k 0 ≤ xs.getD (k - 1) 0
  | [] => by simp
  | [x] => by
    constructor
    · intro _ k h1 h2; simp at h2; omega
    · intro _; simp
  | x :: y :: r => by
    rw [List.pairwise_cons]
    constructor
    · rintro ⟨h1, h2⟩ k hk hl
      have ih := (fall_iff (xs := y :: r)).mp h2
      cases k with
      | zero => omega
      | succ k =>
        cases k with
        | zero => exact h1 y (by simp)
        | succ k =>
          have := ih (k + 1) (by omega) (by simpa using hl)
          exact this
    · intro h
      have ih := (fall_iff (xs := y :: r)).mpr fun k h1 h2 => by
        have := h (k + 1) (by omega) (by simpa using h2)
        obtain ⟨k', rfl⟩ : ∃ k', k = k' + 1 := ⟨k - 1, by omega⟩
        exact this
      have hxy : y ≤ x := h 1 (by omega) (by simp)
      refine ⟨fun z hz => ?_, ih⟩
      rcases List.mem_cons.mp hz with rfl | w
      · exact hxy
      · have := (List.pairwise_cons.mp ih).1 z w
        show z ≤ x
        have : z ≤ y := this
        omega
theorem given_empty {f : Nat → Option V} : ∀ {n : Nat}, (∀ i < n, f i = none) → given f n = []
  | 0, _ => rfl
  | n + 1, h => by
    show given f n ++ _ = []
    rw [given_empty fun i hi => h i (by omega), h n (by omega)]; rfl
theorem given_some {f : Nat → Option V} : ∀ {n i : Nat} {y : V}, i < n → f i = some y → y ∈ given f n
  | n + 1, i, y, hi, e => by
    show y ∈ given f n ++ _
    by_cases z : i = n
    · subst z; rw [e]; simp
    · exact List.mem_append_left _ (given_some (by omega) e)
section
variable {G : Gx} {H : Hp} {Q : VK} {E : XK} {a t : Addr} {ks : List V}
theorem u_is_sum {n : Nat} {xs : List Int} (ha : H a = some (.lst ks)) (hk : KdL ks) (hn : n ≤ 200) (ht : SqL G.K H t (xs.map V.int)) (htl : H t = some (.lst (xs.map V.int))) (hl : xs.length ≤ 1000)
    (h : ∀ L b H', Same H H' → StockOf ks n L → (b = true ↔ SumOk L n xs) → Q (.bl b) H') : sp_is_sum G [.ref a, .int n, .ref t] H Q E := by
  refine ⟨rfl, ?_⟩
  unfold t_is_sum
  have hk5 := hk.hi
  wtm_at "w"
  refine u_need_kinds ha hk fun H1 s1 => ?_
  wtm_at "w"
  refine u_need_to_most (by omega) (by omega) ?_
  wtm_at "wa"
  have t1 := s1 _ _ htl
  refine i_isiLL t1 ?_
  wtm_at "wa"
  refine i_lstA (sq_of t1) ?_
  refine lck_pure walk_list (by rw [List.length_map]; omega) (fun _ => none) (fun H' s => sq_of (s _ _ t1)) (fun i x H5 H6 KK NN hi s y hK hN => ?_) (fun p H2 np s2 e2 => ?_)
  · obtain ⟨rfl, hx⟩ := y
    rw [List.getElem?_map] at hx
    obtain ⟨x0, _, rfl⟩ := Option.map_eq_some_iff.mp hx
    wtm_at "w"
    refine ⟨rfl, ?_⟩
    wtm_at "w"
    refine u_is_whole_int ?_
    wtm_at "w"
    exact hN _ rfl (fun _ _ z => z)
  · rw [given_none] at e2
    wtm_at "w"
    refine i_new (by simp) fun q nq => ?_
    refine i_neL (xs := []) (ys := []) (sq_of (upd_old nq e2)) (sq_of upd_same) rfl rfl ?_
    have s3 : Same H (upd H2 q (.lst [])) := (s1.trans s2).trans (same_new nq)
    generalize upd H2 q (.lst []) = H3 at s3 ⊢
    wtm_at "w"
    refine u_stock_of (sq_of (s3 _ _ ha)) hk.kd (by omega) (by omega) (by omega) fun sp L H4 s4 nsp e4 hL => ?_
    have s04 := s3.trans s4
    have t4 := s04 _ _ htl
    have no : ∀ H', Same H H' → ¬ SumOk L n xs → Q (.bl false) H' := fun H' s z => h L false H' s hL ⟨fun w => (by cases w), fun w => absurd w z⟩
    wtm_at "wa"
    refine i_lstA (sq_of t4) ?_
    refine lck_pure walk_list (by rw [List.length_map]; omega) (fun i => ((xs[i]?).bind fun x => if x ∈ L then none else some x).map V.int) (fun H' s => sq_of (s _ _ t4)) (fun i x H5 H6 KK NN hi s y hK hN => ?_) (fun p5 H5 np5 s5 e5 => ?_)
    · obtain ⟨rfl, hx⟩ := y
      rw [List.getElem?_map] at hx
      obtain ⟨x0, hx0, rfl⟩ := Option.map_eq_some_iff.mp hx
      wtm_at "w"
      refine ⟨rfl, ?_⟩
      wtm_at "w"
      refine i_ninL (sq_of (s _ _ e4)) rfl (ints_flat _) ?_
      rw [inV_int]
      wtm_at "w"
      refine i_iteN (fun hz => ?_) (fun hz => ?_)
      · exact hN _ (by rw [hx0]; show (if x0 ∈ L then none else some x0).map V.int = _; rw [if_pos hz]; rfl) (fun _ _ z => z)
      · wtm_at "w"
        exact hK _ _ (by rw [hx0]; show (if x0 ∈ L then none else some x0).map V.int = _; rw [if_neg hz]; rfl) (fun _ _ z => z)
    · rw [List.length_map, given_ints] at e5
      wtm_at "wa"
      refine i_new (by simp) fun q6 nq6 => ?_
      refine i_neL (ys := []) (sq_of (upd_old nq6 e5)) (sq_of upd_same) (ints_sV _) rfl ?_
      have s46 : Same H4 (upd H5 q6 (.lst [])) := s5.trans (same_new nq6)
      generalize upd H5 q6 (.lst []) = H6 at s46 ⊢
      have s06 := s04.trans s46
      wtm_at "wa"
      refine i_both (fun hz => ?_) (fun hz => ?_)
      · wtm_at "wa"
        refine no _ s06 fun z => ?_
        have hz' : ¬ xs.filterMap (fun x => if x ∈ L then none else some x) = [] := by
          intro w; rw [w] at hz; simp at hz
        refine hz' (List.filterMap_eq_nil_iff.mpr fun x hx => ?_)
        rw [if_pos (z.mem x hx)]
      · have hm : ∀ x ∈ xs, x ∈ L := fun x hx => by
          have hz' : xs.filterMap (fun x => if x ∈ L then none else some x) = [] := by simpa using hz
          have := List.filterMap_eq_nil_iff.mp hz' x hx
          by_cases w : x ∈ L
          · exact w
          · rw [if_neg w] at this; cases this
        wtm_at "wa"
        refine i_sumL (sq_of (s46 _ _ t4)) ?_
        wtm_at "wa"
        refine i_iteN (fun hs => ?_) (fun hs => ?_)
        · wtm_at "w"
          refine i_lenL (sq_of (s46 _ _ t4)) ?_
          rw [List.length_map]
          wtm_at "w"
          refine i_rngA2 (by omega) ?_
          refine lck_pure walk_range (by omega) (fun i => if xs.getD i 0 < xs.getD (i + 1) 0 then some (.int (1 + (i : Nat))) else none) (fun _ _ => trivial) (fun i x H7 H8 KK NN hi s y hK hN => ?_) (fun p7 H7 np7 s7 e7 => ?_)
          · obtain ⟨rfl, rfl⟩ := y
            have t7 := s _ _ (s46 _ _ t4)
            wtm_at "w"
            refine ⟨rfl, ?_⟩
            wtm_at "w"
            refine i_ixL (sq_of t7) (ints_at (S := xs) (j := i) (by omega) (by omega)) ?_
            wtm_at "w"
            refine i_ixL (sq_of t7) (ints_at (S := xs) (j := i + 1) (by omega) (by omega)) ?_
            wtm_at "w"
            refine i_ite (fun hlt => ?_) (fun hlt => ?_)
            · wtm_at "w"
              exact hK _ _ (if_pos hlt) (fun _ _ z => z)
            · exact hN _ (if_neg hlt) (fun _ _ z => z)
          · wtm_at "w"
            refine i_new (by simp) fun q8 nq8 => ?_
            have hall : (given (fun i => if xs.getD i 0 < xs.getD (i + 1) 0 then some (V.int (1 + (i : Nat))) else none) ((xs.length : Int) - 1).toNat).all sV = true := given_all fun i _ y e => by
              by_cases w : xs.getD i 0 < xs.getD (i + 1) 0
              · rw [if_pos w] at e; cases e; rfl
              · rw [if_neg w] at e; cases e
            refine i_eqL (ys := []) (sq_of (upd_old nq8 e7)) (sq_of upd_same) hall rfl ?_
            refine h L _ _ ((s06.trans s7).trans (same_new nq8)) hL ?_
            rw [decide_eq_true_iff]
            constructor
            · intro w
              refine ⟨hm, hs, fall_iff.mpr fun k h1 h2 => ?_⟩
              refine Int.not_lt.mp fun z => ?_
              have := given_some (f := fun i => if xs.getD i 0 < xs.getD (i + 1) 0 then some (V.int (1 + (i : Nat))) else none) (n := ((xs.length : Int) - 1).toNat) (i := k - 1) (by omega) (if_pos (by rw [show k - 1 + 1 = k by omega]; exact z))
              rw [w] at this; cases this
            · intro w
              refine given_empty fun i hi => if_neg ?_
              have := fall_iff.mp w.fall (i + 1) (by omega) (by omega)
              rw [Nat.add_sub_cancel] at this
              omega
        · wtm_at "w"
          exact no _ s06 fun z => hs z.sum
end
/-! ### the first sum is one -/
theorem up_getD {S : List Int} (up : S.Pairwise (· < ·)) {i j : Nat} (h : i ≤ j) (hj : j < S.length) : S.getD i 0 ≤ S.getD j 0 := by
  by_cases z : i = j
  · subst z; exact Int.le_refl _
  · have := List.pairwise_iff_getElem.mp up i j (by omega) hj (by omega)
    rw [List.getD_eq_getElem?_getD, List.getD_eq_getElem?_getD, List.getElem?_eq_getElem hj, List.getElem?_eq_getElem (show i < S.length by omega)]
    exact Int.le_of_lt this
theorem fsum_sum {S : List Int} (k : Stk S) (up : S.Pairwise (· < ·)) : ∀ (m n : Nat), fewF S n = (m : Int) → SumOk S n (fsum S m n) ∧ ∀ j, j < S.length → XS (S.take (j + 1)) m n → ∀ x ∈ fsum S m n, x ≤ S.getD j 0
  | 0, n, h => by
    have : n = 0 := few_none k h
    subst this
    exact ⟨⟨fun x hx => (by cases hx), rfl, List.Pairwise.nil⟩, fun j _ _ x hx => (by cases hx)⟩
  | m + 1, n, h => by
    classical
    obtain ⟨j, hj, f1, f2⟩ := first_xs k h (P := fun j => decide (XS (S.take (j + 1)) (m + 1) n)) (fun j _ => by simp)
    obtain ⟨_, ok, _⟩ := firstP_some f2
    obtain ⟨_, pj, pno⟩ := firstP_some f1
    obtain ⟨o1, o2⟩ := fOk_of ok
    have hp := k.pos _ (getD_mem hj)
    obtain ⟨ih, ihx⟩ := fsum_sum k up m _ (fOk_left k hj h ok)
    rw [fsum_step f2]
    have xs' : XS (S.take (j + 1)) m (n - (S.getD j 0).toNat : Nat) := by
      have := few_xs (k.tpos (j := j + 1)) (n - (S.getD j 0).toNat) (fun _ => k.mem1)
      rw [o2, Int.toNat_natCast] at this
      exact this
    have tail := ihx j hj xs'
    refine ⟨⟨fun x hx => ?_, ?_, List.pairwise_cons.mpr ⟨fun x hx => tail x hx, ih.fall⟩⟩, fun i hi hx x hxm => ?_⟩
    · rcases List.mem_cons.mp hx with rfl | z
      · exact getD_mem hj
      · exact ih.mem x z
    · rw [List.sum_cons, ih.sum]; omega
    · have hji : j ≤ i := Nat.le_of_not_lt fun z => by
        have := pno i z
        rw [decide_eq_true hx] at this; cases this
      have := up_getD up hji hi
      rcases List.mem_cons.mp hxm with rfl | z
      · exact this
      · have := tail x z; omega
/-! ### few are enough -/
/-! ### all sums, one by one -/
/-- nodes as tuples -/
structure NdT (R : Addr → Prop) (H : Hp) (qs : List Addr) (ns : List (List Int × Nat)) : Prop where
  len : qs.length = ns.length
  at_ : ∀ (j : Nat) (q : Addr) (nd : List Int × Nat), qs[j]? = some q → ns[j]? = some nd → ∃ pp, H q = some (.tup [.ref pp, .int (nd.2 : Nat)]) ∧ H pp = some (.lst (nd.1.map V.int)) ∧ ¬ R q ∧ ¬ R pp
theorem NdT.keep {R : Addr → Prop} {H H' : Hp} {qs : List Addr} {ns : List (List Int × Nat)} (x : NdT R H qs ns) (k : Keep R H H') : NdT R H' qs ns := ⟨x.len, fun j q nd h1 h2 => by
  obtain ⟨pp, a, b, c, d⟩ := x.at_ j q nd h1 h2
  exact ⟨pp, k _ _ c a, k _ _ d b, c, d⟩⟩
theorem NdT.nil {R : Addr → Prop} {H : Hp} : NdT R H [] [] := ⟨rfl, fun j q nd h => by simp at h⟩
theorem NdT.app {R : Addr → Prop} {H : Hp} {qs qs' : List Addr} {ns ns' : List (List Int × Nat)} (x : NdT R H qs ns) (y : NdT R H qs' ns') : NdT R H (qs ++ qs') (ns ++ ns') := by
  refine ⟨by simp [x.len, y.len], fun j q nd h1 h2 => ?_⟩
  by_cases z : j < qs.length
  · rw [List.getElem?_append_left z] at h1
    rw [List.getElem?_append_left (by rw [← x.len]; exact z)] at h2
    exact x.at_ j q nd h1 h2
  · rw [List.getElem?_append_right (by omega)] at h1
    rw [List.getElem?_append_right (by rw [← x.len]; omega), ← x.len] at h2
    exact y.at_ _ q nd h1 h2
theorem NdT.one {R : Addr → Prop} {H : Hp} {q pp : Addr} {nd : List Int × Nat} (a : H q = some (.tup [.ref pp, .int (nd.2 : Nat)])) (b : H pp = some (.lst (nd.1.map V.int))) (c : ¬ R q) (d : ¬ R pp) : NdT R H [q] [nd] := by
  refine ⟨rfl, fun j q' nd' h1 h2 => ?_⟩
  have z : j = 0 := by
    have := (List.getElem?_eq_some_iff.mp h1).1
    simpa using this
  subst z
  have e1 : q = q' := by simpa using h1
  have e2 : nd = nd' := by simpa using h2
  subst e1; subst e2
  exact ⟨pp, a, b, c, d⟩
theorem NdT.weak {R R' : Addr → Prop} {H : Hp} {qs : List Addr} {ns : List (List Int × Nat)} (x : NdT R H qs ns) (h : ∀ a, R' a → R a) : NdT R' H qs ns := ⟨x.len, fun j q nd h1 h2 => by
  obtain ⟨pp, a, b, c, d⟩ := x.at_ j q nd h1 h2
  exact ⟨pp, a, b, fun z => c (h _ z), fun z => d (h _ z)⟩⟩
def dNt (nd : List Int × Nat) : PyData := .tuple [.list (nd.1.map PyData.int), .int (nd.2 : Nat)]
theorem nodesT_shaped (ns : List (List Int × Nat)) : SeqAt.shaped (.list (ns.map dNt)) = true := by
  have h1 : ∀ nd : List Int × Nat, (dNt nd).canLay0 = true ∧ (dNt nd).depth = 2 := fun nd => by
    have := layAll_sV (ints_sV nd.1)
    rw [toD_ints] at this
    unfold dNt
    simp [PyData.canLay0, PyData.depth, PyData.canLayAll0, PyData.depthAll, this.1, this.2]
  have h2 : PyData.canLayAll0 (ns.map dNt) = true ∧ PyData.depthAll (ns.map dNt) ≤ 2 := by
    induction ns with
    | nil => simp [PyData.canLayAll0, PyData.depthAll]
    | cons r q ih =>
      have a := h1 r
      refine ⟨by simp only [List.map_cons, PyData.canLayAll0, a.1, ih.1, Bool.and_true], ?_⟩
      simp only [List.map_cons, PyData.depthAll, a.2]
      omega
  unfold SeqAt.shaped
  simp only [PyData.canLay0, PyData.depth, h2.1, Bool.true_and]
  simp
  omega
theorem NdT.dp {R : Addr → Prop} {K : Fg} {H : Hp} : ∀ {qs : List Addr} {ns : List (List Int × Nat)}, NdT R H qs ns → DpAll K H (qs.map V.ref) (ns.map dNt)
  | [], [], _ => .nil
  | [], _ :: _, x => by have := x.len; simp at this
  | _ :: _, [], x => by have := x.len; simp at this
  | q :: qs, nd :: ns, x => by
    obtain ⟨pp, a, b, _, _⟩ := x.at_ 0 q nd rfl rfl
    exact .cons (.tup (st_of a) (.cons (dp_ints (sq_of b)) (.cons (.int _) .nil))) (NdT.dp (R := R) ⟨by have := x.len; simpa using this, fun j q' nd' h1 h2 => x.at_ (j + 1) q' nd' h1 h2⟩)
theorem i_neNodesT {R : Addr → Prop} {K : Fg} {H : Hp} {Q : VK} {p e : Addr} {qs : List Addr} {ns : List (List Int × Nat)} (h1 : H p = some (.lst (qs.map V.ref))) (x : NdT R H qs ns) (h2 : H e = some (.lst [])) (h : Q (.bl (!decide (ns = []))) H) : uNe K (.ref p) (.ref e) H Q := by
  refine i_neG (.lst (sq_of h1) x.dp) (.lst (sq_of h2) .nil) (nodesT_shaped ns) (nodesT_shaped []) ?_
  have e : PyData.eqv (.list (ns.map dNt)) (.list []) = decide (ns = []) := by
    cases ns with
    | nil => simp [PyData.eqv, PyData.eqvAll]
    | cons r q => simp [PyData.eqv, PyData.eqvAll]
  rw [e]; exact h
/-- the nodes behind a node, by the first parts -/
def chn (S : List Int) (nd : List Int × Nat) : Nat → List (List Int × Nat)
  | 0 => []
  | j + 1 => chn S nd j ++ (if (S.getD j 0).toNat ≤ nd.2 ∧ j < al S nd.1 then [(nd.1 ++ [S.getD j 0], nd.2 - (S.getD j 0).toNat)] else [])
theorem chn_total {S : List Int} (up : S.Pairwise (· < ·)) (nd : List Int × Nat) : ∀ j, j ≤ S.length → total S (chn S nd j) = ksum (ubr S nd) j
  | 0, _ => rfl
  | j + 1, h => by
    show total S (chn S nd j ++ _) = ksum (ubr S nd) j + ubr S nd j
    rw [total_app, chn_total up nd j (by omega)]
    congr 1
    unfold ubr uext
    by_cases z : (S.getD j 0).toNat ≤ nd.2 ∧ j < al S nd.1
    · rw [if_pos z, if_pos z.2, if_pos z.1, total_one]
      unfold comp
      show urow (S.take (al S (nd.1 ++ [S.getD j 0]))) _ = _
      rw [al_snoc up (by omega)]
    · rw [if_neg z]
      by_cases w : j < al S nd.1
      · rw [if_pos w, if_neg (fun y => z ⟨y, w⟩)]; rfl
      · rw [if_neg w]; rfl
theorem chn_mem {S : List Int} {nd x : List Int × Nat} : ∀ {j : Nat}, x ∈ chn S nd j → ∃ i < j, (S.getD i 0).toNat ≤ nd.2 ∧ i < al S nd.1 ∧ x = (nd.1 ++ [S.getD i 0], nd.2 - (S.getD i 0).toNat)
  | 0, h => by cases h
  | j + 1, h => by
    rcases List.mem_append.mp h with z | z
    · obtain ⟨i, a, b⟩ := chn_mem z
      exact ⟨i, by omega, b⟩
    · by_cases w : (S.getD j 0).toNat ≤ nd.2 ∧ j < al S nd.1
      · rw [if_pos w] at z
        exact ⟨j, by omega, w.1, w.2, List.mem_singleton.mp z⟩
      · rw [if_neg w] at z; cases z
theorem chn_has {S : List Int} {nd : List Int × Nat} {i : Nat} (h1 : (S.getD i 0).toNat ≤ nd.2) (h2 : i < al S nd.1) : ∀ {j : Nat}, i < j → (nd.1 ++ [S.getD i 0], nd.2 - (S.getD i 0).toNat) ∈ chn S nd j
  | j + 1, h => by
    show _ ∈ chn S nd j ++ _
    by_cases z : i = j
    · subst z
      rw [if_pos ⟨h1, h2⟩]; simp
    · exact List.mem_append_left _ (chn_has h1 h2 (by omega))
theorem chn_len {S : List Int} {nd : List Int × Nat} : ∀ j, (chn S nd j).length ≤ j
  | 0 => Nat.le_refl _
  | j + 1 => by
    have := chn_len (S := S) (nd := nd) j
    show (chn S nd j ++ _).length ≤ _
    rw [List.length_append]
    split <;> simp <;> omega
/-- a beginning of a sum -/
structure Beg (S : List Int) (n : Nat) (nd : List Int × Nat) : Prop where
  mem : ∀ x ∈ nd.1, x ∈ S
  sum : nd.1.sum + (nd.2 : Int) = n
  fall : nd.1.Pairwise (· ≥ ·)
theorem Beg.ok {S : List Int} {n : Nat} {nd : List Int × Nat} (hp : ∀ x ∈ S, 1 ≤ x) (b : Beg S n nd) : NdOk S n nd.1.length nd := ⟨b.mem, rfl, by
  have := sum_nn (l := nd.1) fun x hx => hp x (b.mem x hx)
  have := b.sum
  omega⟩
theorem al_iff {S parts : List Int} (up : S.Pairwise (· < ·)) {i : Nat} (hi : i < S.length) : i < al S parts ↔ ∀ x, parts.getLast? = some x → S.getD i 0 ≤ x := by
  unfold al
  cases e : parts.getLast? with
  | none => exact ⟨fun _ x z => (by cases z), fun _ => hi⟩
  | some y =>
    show i < (S.filter fun p => decide (p ≤ y)).length ↔ _
    rw [up_filter up y i hi]
    exact ⟨fun z x w => by cases w; exact z, fun z => z y rfl⟩
theorem fall_snoc {xs : List Int} {p : Int} (h : xs.Pairwise (· ≥ ·)) (hl : ∀ x, xs.getLast? = some x → p ≤ x) : (xs ++ [p]).Pairwise (· ≥ ·) := by
  rw [List.pairwise_append]
  refine ⟨h, by simp, fun x hx y hy => ?_⟩
  rw [List.mem_singleton.mp hy]
  rcases List.eq_nil_or_concat xs with rfl | ⟨ys, z, rfl⟩
  · cases hx
  · rw [List.concat_eq_append] at *
    have hz := hl z (by rw [List.getLast?_concat])
    rcases List.mem_append.mp hx with w | w
    · have := (List.pairwise_append.mp h).2.2 x w z (by simp)
      show p ≤ x
      have : z ≤ x := this
      omega
    · rw [List.mem_singleton.mp w]; exact hz
theorem Beg.child {S : List Int} {n : Nat} {nd x : List Int × Nat} (up : S.Pairwise (· < ·)) (hp : ∀ x ∈ S, 1 ≤ x) (b : Beg S n nd) (h : x ∈ chn S nd S.length) : Beg S n x ∧ x.2 < nd.2 := by
  obtain ⟨i, hi, h1, h2, rfl⟩ := chn_mem h
  have hm := getD_mem hi
  have hpi := hp _ hm
  refine ⟨⟨fun x hx => ?_, ?_, fall_snoc b.fall ((al_iff up hi).mp h2)⟩, by show nd.2 - _ < nd.2; omega⟩
  · rcases List.mem_append.mp hx with z | z
    · exact b.mem x z
    · rw [List.mem_singleton.mp z]; exact hm
  · have := b.sum
    rw [List.sum_append]
    show nd.1.sum + (S.getD i 0 + 0) + ((nd.2 - (S.getD i 0).toNat : Nat) : Int) = n
    omega
/-- a sum that begins so is the beginning, or goes on -/
theorem Beg.goes {S : List Int} {n : Nat} {nd : List Int × Nat} (up : S.Pairwise (· < ·)) (hp : ∀ x ∈ S, 1 ≤ x) (b : Beg S n nd) {r : List Int} (hr : SumOk S n r) (hpre : nd.1 <+: r) : (r = nd.1 ∧ nd.2 = 0) ∨ ∃ x ∈ chn S nd S.length, x.1 <+: r := by
  obtain ⟨t, rfl⟩ := hpre
  cases t with
  | nil =>
    left
    have h1 := hr.sum
    have h2 := b.sum
    rw [List.append_nil] at h1
    exact ⟨by simp, by omega⟩
  | cons p t =>
    right
    have hpm := hr.mem p (by simp)
    obtain ⟨i, hi, ei⟩ := List.mem_iff_getElem.mp hpm
    have eg : S.getD i 0 = p := by rw [List.getD_eq_getElem?_getD, List.getElem?_eq_getElem hi]; exact ei
    have hs := hr.sum
    rw [List.sum_append, List.sum_cons] at hs
    have hb := b.sum
    have ht := sum_nn (l := t) fun x hx => hp x (hr.mem x (by simp [hx]))
    have hp1 := hp p hpm
    have hal : i < al S nd.1 := (al_iff up hi).mpr fun x hx => by
      have := (List.pairwise_append.mp hr.fall).2.2 x (List.mem_of_getLast? hx) p (by simp)
      rw [eg]; exact this
    refine ⟨(nd.1 ++ [S.getD i 0], nd.2 - (S.getD i 0).toNat), chn_has (by rw [eg]; omega) hal hi, ?_⟩
    show nd.1 ++ [S.getD i 0] <+: nd.1 ++ p :: t
    rw [eg]
    exact ⟨t, by simp⟩
def wgt (S : List Int) (ns : List (List Int × Nat)) : Nat := (ns.map fun nd => (S.length + 1) ^ (nd.2 + 1)).sum
theorem wgt_app (S : List Int) (a b : List (List Int × Nat)) : wgt S (a ++ b) = wgt S a + wgt S b := by unfold wgt; rw [List.map_append, List.sum_append]
theorem wgt_chn {S : List Int} {nd : List Int × Nat} (hp : ∀ x ∈ S, 1 ≤ x) : ∀ j, j ≤ S.length → wgt S (chn S nd j) ≤ j * (S.length + 1) ^ nd.2
  | 0, _ => by show 0 ≤ _; omega
  | j + 1, h => by
    show wgt S (chn S nd j ++ _) ≤ _
    rw [wgt_app, Nat.add_mul, Nat.one_mul]
    have := wgt_chn (nd := nd) hp j (by omega)
    have hpj := hp _ (getD_mem (S := S) (j := j) (by omega))
    refine Nat.add_le_add this ?_
    by_cases z : (S.getD j 0).toNat ≤ nd.2 ∧ j < al S nd.1
    · rw [if_pos z]
      unfold wgt
      simp only [List.map_cons, List.map_nil, List.sum_cons, List.sum_nil, Nat.add_zero]
      exact Nat.pow_le_pow_right (by omega) (by omega)
    · rw [if_neg z]; exact Nat.zero_le _
theorem wgt_less {S : List Int} (hp : ∀ x ∈ S, 1 ≤ x) (ns : List (List Int × Nat)) (nd : List Int × Nat) : wgt S (ns ++ chn S nd S.length) < wgt S (ns ++ [nd]) := by
  rw [wgt_app, wgt_app]
  have a := wgt_chn (nd := nd) hp S.length (Nat.le_refl _)
  have b : wgt S [nd] = (S.length + 1) ^ (nd.2 + 1) := by unfold wgt; simp
  rw [b, Nat.pow_succ, Nat.mul_comm _ (S.length + 1), Nat.add_mul, Nat.one_mul]
  have : 0 < (S.length + 1) ^ nd.2 := Nat.pow_pos (by omega)
  omega
theorem urow_24 {S : List Int} (up : S.Pairwise (· < ·)) (h : ∀ x ∈ S, 1 ≤ x ∧ x ≤ 24) {t : Nat} (ht : t ≤ 24) : urow S t < 16000000 :=
  bnd_at (urow_bnd 24 S up h) (by decide +kernel) ht
theorem Beg.total {S : List Int} {n : Nat} (hp : ∀ x ∈ S, 1 ≤ x) (k : 1 ≤ n → Stk S) : ∀ {ns : List (List Int × Nat)}, (∀ nd ∈ ns, Beg S n nd) → ns.length ≤ total S ns
  | [], _ => Nat.zero_le _
  | nd :: r, h => by
    have a := comp_pos k ((h nd (by simp)).ok hp)
    have b := Beg.total hp k (ns := r) fun x hx => h x (List.mem_cons_of_mem _ hx)
    show r.length + 1 ≤ ((nd :: r).map (comp S)).sum
    rw [List.map_cons, List.sum_cons]
    have : Fs.total S r = (r.map (comp S)).sum := rfl
    omega
theorem i_pop {H : Hp} {Q : VK} {l : Addr} {xs : List V} {y : V} (e : H l = some (.lst (xs ++ [y]))) (h : Q y (upd H l (.lst xs))) : rPop (.ref l) [] H Q := by
  refine ⟨l, xs ++ [y], y, rfl, rfl, e, by simp, ?_⟩
  rw [List.dropLast_concat]; exact h
theorem i_ext {H : Hp} {Q : VK} {l b : Addr} {xs zs : List V} (e : H l = some (.lst xs)) (e2 : H b = some (.lst zs)) (hz : xs.length + zs.length ≤ sizeLine) (h : Q .non (upd H l (.lst (xs ++ zs)))) : rExtend (.ref l) [.ref b] H Q := ⟨l, b, xs, zs, rfl, rfl, e, e2, hz, h⟩
theorem g_twoT {K : Fg} {H : Hp} {σ : L2.St} {R : L2.St → Hp → Prop} {i j : Nat} {q : Addr} {x y : V} (e : H q = some (.tup [x, y])) (h : R ((σ.set i (some x)).set j (some y)) H) : gTup K 2 (gCons (gName i) (gCons (gName j) gNil)) (.ref q) σ H R :=
  ⟨q, [x, y], rfl, st_of e, rfl, x, [y], rfl, y, [], rfl, rfl, h⟩
section
variable {G : Gx} {H : Hp} {Q : VK} {E : XK} {a : Addr} {ks : List V}
/-- what is found, what waits -/
structure AllI (H0 : Hp) (S : List Int) (n : Nat) (H : Hp) (f w : Addr) (fs : List Rw) (qs : List Addr) (ns : List (List Int × Nat)) : Prop where
  ef : H f = some (.lst (fs.map fun b => .ref b.1))
  ew : H w = some (.lst (qs.map V.ref))
  fw : f ≠ w
  nd : NdT (fun z => z = f ∨ z = w ∨ H0 z ≠ none) H qs ns
  fo : ∀ b ∈ fs, H b.1 = some (.lst (b.2.map V.int)) ∧ b.1 ≠ f ∧ b.1 ≠ w ∧ SumOk S n b.2 ∧ H0 b.1 = none
  bg : ∀ x ∈ ns, Beg S n x
  all : ∀ r, SumOk S n r → r ∈ fs.map (·.2) ∨ ∃ x ∈ ns, x.1 <+: r
  cnt : fs.length + total S ns = urow S n
theorem u_law_all_v2 {S : List Int} {n : Nat} (ha : H a = some (.lst (S.map V.int))) (k : StkC S n) (st : 1 ≤ n → Stk S) (hn : n ≤ 24) (h24 : ∀ x ∈ S, x ≤ 24)
    (h : ∀ p (bs : List Rw) H', Same H H' → H p = none → H' p = some (.lst ((bs.mergeSort leR).map fun b => .ref b.1)) → (∀ b ∈ bs, H b.1 = none ∧ H' b.1 = some (.lst (b.2.map V.int))) → (∀ r, SumOk S n r ↔ r ∈ bs.map (·.2)) → bs.length < 16000000 → Q (.ref p) H') : sp_law_all_v2 G [.ref a, .int n] H Q E := by
  refine ⟨rfl, ?_⟩
  unfold t_law_all_v2
  have hp := k.pos
  have up := k.up
  have hW : urow S n < 16000000 := urow_24 up (fun x hx => ⟨hp x hx, h24 x hx⟩) hn
  have hSl : S.length ≤ 200 := k.len
  wtm_at "w"
  refine i_new (by simp) fun f nf => ?_
  wtm_at "w"
  have s1 : Same H (upd H f (.lst [])) := same_new nf
  have ef1 : (upd H f (.lst [])) f = some (.lst []) := upd_same
  generalize upd H f (.lst []) = H1 at s1 ef1 ⊢
  refine i_new (by simp) fun p0 n0 => ?_
  wtm_at "w"
  refine i_new (by simp) fun q0 nq0 => ?_
  wtm_at "w"
  refine i_new (by simp) fun w nw => ?_
  have s2 : Same H1 (upd (upd H1 p0 (.lst [])) q0 (.tup [.ref p0, .int n])) := (same_new n0).trans (same_new nq0)
  have ep : (upd (upd H1 p0 (.lst [])) q0 (.tup [.ref p0, .int n])) p0 = some (.lst (([] : List Int).map V.int)) := upd_old nq0 upd_same
  have eq : (upd (upd H1 p0 (.lst [])) q0 (.tup [.ref p0, .int n])) q0 = some (.tup [.ref p0, .int (n : Nat)]) := upd_same
  have npf : p0 ≠ f := (ne_of_none ef1 n0).symm
  have nqf : q0 ≠ f := (ne_of_none (upd_old (u := .lst []) n0 ef1) nq0).symm
  generalize upd (upd H1 p0 (.lst [])) q0 (.tup [.ref p0, .int n]) = H2 at s2 ep eq nw ⊢
  have npw : p0 ≠ w := ne_of_none ep nw
  have nqw : q0 ≠ w := ne_of_none eq nw
  have s3 : Same H2 (upd H2 w (.lst [.ref q0])) := same_new nw
  have nwf : f ≠ w := ne_of_none (s2 _ _ ef1) nw
  have nwH : H w = none := s1.free (s2.free nw)
  have npH : H p0 = none := s1.free n0
  have nqH : H q0 = none := s1.free ((same_new n0).free nq0)
  have x3 : AllI H S n (upd H2 w (.lst [.ref q0])) f w [] [q0] [([], n)] := by
    refine ⟨s3 _ _ (s2 _ _ ef1), upd_same, nwf, NdT.one (nd := ([], n)) (s3 _ _ eq) (s3 _ _ ep) (fun z => z.elim nqf fun z => z.elim nqw fun z => z nqH) (fun z => z.elim npf fun z => z.elim npw fun z => z npH), fun b hb => (by cases hb), fun x hx => ?_, fun r hr => .inr ⟨([], n), by simp, ⟨r, by simp⟩⟩, ?_⟩
    · rw [List.mem_singleton.mp hx]
      exact ⟨fun x hx => (by cases hx), by simp, List.Pairwise.nil⟩
    · rw [total_one]
      show 0 + urow (S.take S.length) n = urow S n
      rw [List.take_length]; omega
  have s03 := (s1.trans s2).trans s3
  generalize upd H2 w (.lst [.ref q0]) = H3 at s3 x3 s03 ⊢
  wtm_at "w"
  refine i_while (fun m σ H' => ∃ (fs : List Rw) (qs : List Addr) (ns : List (List Int × Nat)) (y4 y5 y6 y7 : Option V), σ = [some (.ref a), some (.int n), some (.ref f), some (.ref w), y4, y5, y6, y7] ∧ m = wgt S ns ∧ Same H H' ∧ AllI H S n H' f w fs qs ns) (wgt S [([], n)]) ⟨[], [q0], [([], n)], _, _, _, _, rfl, rfl, s03, x3⟩ ?_
  rintro m σ H4 ⟨fs, qs, ns, y4, y5, y6, y7, rfl, rfl, s4, x4⟩
  wtm_at "w"
  refine i_new (by simp) fun e0 ne0 => ?_
  have s45 : Same H4 (upd H4 e0 (.lst [])) := same_new ne0
  refine i_neNodesT (s45 _ _ x4.ew) (x4.nd.keep fun a o _ z => s45 a o z) upd_same ?_
  generalize upd H4 e0 (.lst []) = H5 at s45 ⊢
  have s5 := s4.trans s45
  have keepS : ∀ {H1 H2 : Hp} {fs qs ns}, AllI H S n H1 f w fs qs ns → Same H1 H2 → AllI H S n H2 f w fs qs ns := fun x s => ⟨s _ _ x.ef, s _ _ x.ew, x.fw, x.nd.keep fun a o _ z => s a o z, fun b hb => by obtain ⟨p1, p2⟩ := x.fo b hb; exact ⟨s _ _ p1, p2⟩, x.bg, x.all, x.cnt⟩
  have x5 := keepS x4 s45
  wtm_at "w"
  refine i_iteN (fun hem => ?_) (fun hne => ?_)
  · subst hem
    wtm_at "w"
    refine i_sortedLL (sq_of x5.ef) (fun b hb => sq_of (x5.fo b hb).1) fun p np => ?_
    have sN : Same H5 (upd H5 p (.lst ((fs.mergeSort leR).map fun b => .ref b.1))) := same_new np
    refine h p fs _ (s5.trans sN) (s5.free np) upd_same (fun b hb => ⟨(x5.fo b hb).2.2.2.2, sN _ _ (x5.fo b hb).1⟩) (fun r => ⟨fun hr => ?_, fun hr => ?_⟩) ?_
    · rcases x5.all r hr with z | ⟨x, hx, _⟩
      · exact z
      · cases hx
    · obtain ⟨b, hb, rfl⟩ := List.mem_map.mp hr
      exact (x5.fo b hb).2.2.2.1
    · have := x5.cnt; omega
  · obtain ⟨ns0, nd, rfl⟩ : ∃ ns0 nd, ns = ns0 ++ [nd] := by
      rcases List.eq_nil_or_concat ns with z | ⟨a, b, z⟩
      · exact absurd z hne
      · exact ⟨a, b, by rw [z, List.concat_eq_append]⟩
    have hlen := x5.nd.len
    obtain ⟨qs0, q, rfl⟩ : ∃ qs0 q, qs = qs0 ++ [q] := by
      rcases List.eq_nil_or_concat qs with z | ⟨a, b, z⟩
      · subst z; simp at hlen
      · exact ⟨a, b, by rw [z, List.concat_eq_append]⟩
    have hlen0 : qs0.length = ns0.length := by simpa using hlen
    obtain ⟨pp, ea, eb, nr1, nr2⟩ := x5.nd.at_ qs0.length q nd (by simp) (by rw [hlen0]; simp)
    have bnd := x5.bg nd (by simp)
    have nd0 : NdT (fun z => z = f ∨ z = w ∨ H z ≠ none) H5 qs0 ns0 := ⟨hlen0, fun j q' nd' h1 h2 => x5.nd.at_ j q' nd' (by rw [List.getElem?_append_left (List.getElem?_eq_some_iff.mp h1).1]; exact h1) (by rw [List.getElem?_append_left (List.getElem?_eq_some_iff.mp h2).1]; exact h2)⟩
    have htl := Beg.total hp st x5.bg
    have hcn := x5.cnt
    have hln : nd.2 ≤ n := by
      have h1 := sum_nn (l := nd.1) fun x hx => hp x (bnd.mem x hx)
      have h2 := bnd.sum
      omega
    refine i_turn ?_
    wtm_at "w"
    refine i_tyL x5.ew ?_
    refine i_pop (xs := qs0.map V.ref) (y := .ref q) (by rw [x5.ew, List.map_append]; rfl) ?_
    have k6 : Keep (fun z => z = w) H5 (upd H5 w (.lst (qs0.map V.ref))) := keep_in (Keep.refl _ _) rfl
    have ew6 : (upd H5 w (.lst (qs0.map V.ref))) w = some (.lst (qs0.map V.ref)) := upd_same
    have s6 : Same H (upd H5 w (.lst (qs0.map V.ref))) := same_mut s5 nwH
    generalize upd H5 w (.lst (qs0.map V.ref)) = H6 at k6 ew6 s6 ⊢
    refine g_twoT (k6 _ _ (fun z => nr1 (.inr (.inl z))) ea) ?_
    have eb6 := k6 _ _ (fun z => nr2 (.inr (.inl z))) eb
    have ef6 := k6 _ _ x4.fw x5.ef
    have nd6 := nd0.keep (H' := H6) fun a o hno z => k6 a o (fun w => hno (.inr (.inl w))) z
    -- what is found behind this node
    with_reducible refine j_seq (P := fun σ H' => ∃ fs' : List Rw, σ = [some (.ref a), some (.int n), some (.ref f), some (.ref w), some (.ref pp), some (.int (nd.2 : Nat)), y6, y7] ∧ Same H H' ∧ Keep (fun z => z = f) H6 H' ∧ H' f = some (.lst (fs'.map fun b => .ref b.1)) ∧ (∀ b ∈ fs', H' b.1 = some (.lst (b.2.map V.int)) ∧ b.1 ≠ f ∧ b.1 ≠ w ∧ SumOk S n b.2 ∧ H b.1 = none) ∧ (∀ b ∈ fs, b ∈ fs') ∧ (nd.2 = 0 → nd.1 ∈ fs'.map (·.2)) ∧ fs'.length = fs.length + if nd.2 = 0 then 1 else 0) ?_ (fun hj => ?_)
    rotate_left
    · have fo6 : ∀ b ∈ fs, H6 b.1 = some (.lst (b.2.map V.int)) ∧ b.1 ≠ f ∧ b.1 ≠ w ∧ SumOk S n b.2 ∧ H b.1 = none := fun b hb => by
        obtain ⟨p1, p2, p3, p4⟩ := x5.fo b hb
        exact ⟨k6 _ _ p3 p1, p2, p3, p4⟩
      wtm_at "w"
      refine i_both (fun hz => ?_) (fun hz => ?_)
      · have hz' : nd.2 = 0 := by have := of_decide_eq_true hz; omega
        wtm_at "w"
        refine i_tyL ef6 ?_
        wtm_at "w"
        refine i_app ef6 (by rw [List.length_map, sizeLine_eq]; omega) ?_
        have hf : pp ≠ f := fun z => nr2 (.inl z)
        have hw : pp ≠ w := fun z => nr2 (.inr (.inl z))
        have hH : H pp = none := Classical.byContradiction fun z => nr2 (.inr (.inr z))
        refine hj _ _ ⟨fs ++ [(pp, nd.1)], rfl, same_mut s6 nf, keep_in (Keep.refl _ _) rfl, by rw [upd_same, List.map_append]; rfl, fun b hb => ?_, fun b hb => List.mem_append_left _ hb, fun _ => by simp, by rw [if_pos hz']; simp⟩
        rcases List.mem_append.mp hb with z | z
        · obtain ⟨p1, p2, p3, p4⟩ := fo6 b z
          exact ⟨upd_oth p2 p1, p2, p3, p4⟩
        · rw [List.mem_singleton.mp z]
          exact ⟨upd_oth hf eb6, hf, hw, ⟨bnd.mem, by have := bnd.sum; show nd.1.sum = n; omega, bnd.fall⟩, hH⟩
      · have hz' : ¬ nd.2 = 0 := by have := of_decide_eq_false hz; omega
        refine i_next ?_
        exact hj _ _ ⟨fs, rfl, s6, Keep.refl _ _, ef6, fo6, fun b hb => hb, fun z => absurd z hz', by rw [if_neg hz']; rfl⟩
    rintro σ H7 ⟨fs', rfl, s7, k7, ef7, fo7, sub7, z7, l7⟩
    have eb7 := k7 _ _ (fun z => nr2 (.inl z)) eb6
    have ew7 := k7 _ _ (fun z => x4.fw z.symm) ew6
    have nd7 := nd6.keep (H' := H7) fun a o hno z => k7 a o (fun w => hno (.inl w)) z
    have hnl := (bnd.ok hp).le
    wtm_at "w"
    refine i_new (by simp) fun z1 nz1 => ?_
    refine i_addL (xs := nd.1.map V.int) (ys := [.int n]) (upd_old nz1 eb7) upd_same (sz_le (by simp; omega)) fun z2 nz2 => ?_
    have s78 : Same H7 (upd (upd H7 z1 (.lst [.int n])) z2 (.lst (nd.1.map V.int ++ [.int n]))) := (same_new nz1).trans (same_new nz2)
    have e8 : (upd (upd H7 z1 (.lst [.int n])) z2 (.lst (nd.1.map V.int ++ [.int n]))) z2 = some (.lst (nd.1.map V.int ++ [.int n])) := upd_same
    generalize upd (upd H7 z1 (.lst [.int n])) z2 (.lst (nd.1.map V.int ++ [.int n])) = H8 at s78 e8 ⊢
    wtm_at "w"
    refine i_new (by simp) fun z3 nz3 => ?_
    have s89 : Same H8 (upd H8 z3 (.lst [])) := same_new nz3
    refine i_neL (xs := nd.1.map V.int) (ys := []) (sq_of (s89 _ _ (s78 _ _ eb7))) (sq_of upd_same) (ints_sV _) rfl ?_
    generalize upd H8 z3 (.lst []) = H9 at s89 ⊢
    wtm_at "w"
    -- the last part
    obtain ⟨la, ela, hla⟩ : ∃ la : Int, atI (nd.1.map V.int ++ [V.int n]) (-1 - if (!decide (nd.1.map V.int = [])) = true then 1 else 0) = some (.int la) ∧ ∀ p : Int, p ≤ (nd.2 : Int) → (p ≤ la ↔ ∀ x, nd.1.getLast? = some x → p ≤ x) := by
      rcases List.eq_nil_or_concat nd.1 with z | ⟨ys, y, z⟩
      · rw [z]
        refine ⟨n, rfl, fun p hp' => ⟨fun _ x hx => (by cases hx), fun _ => by omega⟩⟩
      · rw [List.concat_eq_append] at z
        rw [z]
        refine ⟨y, ?_, fun p _ => ?_⟩
        · have hne' : (!decide ((ys ++ [y]).map V.int = [])) = true := by simp
          rw [if_pos hne']
          show atI (((ys ++ [y]).map V.int) ++ [V.int n]) (-2) = _
          rw [List.map_append]
          have : ∀ l : List V, atI (l ++ [V.int y] ++ [V.int n]) (-2) = some (.int y) := by
            intro l
            have hl : (l ++ [V.int y] ++ [V.int (n : Int)]).length = l.length + 2 := by simp
            unfold atI ixN
            rw [hl, if_neg (by decide), if_pos (by omega)]
            show (l ++ [V.int y] ++ [V.int (n : Int)])[((-2 : Int) + ((l.length + 2 : Nat) : Int)).toNat]? = _
            rw [show ((-2 : Int) + ((l.length + 2 : Nat) : Int)).toNat = l.length by omega]
            simp
          exact this _
        · rw [List.getLast?_concat]
          exact ⟨fun w x hx => by cases hx; exact w, fun w => w y rfl⟩
    refine i_ixL (sq_of (s89 _ _ e8)) ela ?_
    have s79 := s78.trans s89
    wtm_at "w"
    refine i_tyL (s79 _ _ ew7) ?_
    wtm_at "w"
    have s09 := s7.trans s79
    refine i_lstA (sq_of (s09 _ _ ha)) ?_
    have eb9 := s79 _ _ eb7
    refine lck walk_list (fun D j H' => H9 D = none ∧ Same H9 H' ∧ ∃ cs : List Addr, H' D = some (.lst (cs.map V.ref)) ∧ NdT (fun z => z = f ∨ z = w ∨ z = D ∨ H z ≠ none) H' cs (chn S nd j)) (fun D hD => ⟨hD, same_new hD, [], upd_same, NdT.nil⟩) (fun D j H' _ p => sq_of (p.2.1 _ _ (s09 _ _ ha))) (fun D j x H10 H11 hj p y => ?_) (fun D H10 hD p => ?_)
    · obtain ⟨nD, s10, cs, eD, ndc⟩ := p
      obtain ⟨rfl, hx⟩ := y
      rw [List.getElem?_map] at hx
      obtain ⟨pv, hpj, rfl⟩ := Option.map_eq_some_iff.mp hx
      have hjl : j < S.length := (List.getElem?_eq_some_iff.mp hpj).1
      have hpe : pv = S.getD j 0 := by have := getD_get hjl; rw [hpj] at this; exact Option.some.inj this
      have hp1 := hp pv (List.mem_of_getElem? hpj)
      have hcs := ndc.len
      have hcl := chn_len (S := S) (nd := nd) j
      wtm_at "w"
      refine ⟨rfl, ?_⟩
      wtm_at "w"
      have cond : pv ≤ (if la < (nd.2 : Int) then la else (nd.2 : Int)) ↔ (S.getD j 0).toNat ≤ nd.2 ∧ j < al S nd.1 := by
        rw [al_iff up hjl, ← hpe]
        constructor
        · intro z
          have z1 : pv ≤ (nd.2 : Int) ∧ pv ≤ la := by split at z <;> omega
          exact ⟨by omega, (hla pv z1.1).mp z1.2⟩
        · rintro ⟨z1, z2⟩
          have := (hla pv (by omega)).mpr z2
          split <;> omega
      refine i_both (fun hz => ?_) (fun hz => ?_)
      · have hc := cond.mp (of_decide_eq_true hz)
        wtm_at "w"
        refine i_new (by simp) fun v1 nv1 => ?_
        refine i_addL (xs := nd.1.map V.int) (ys := [.int pv]) (upd_old nv1 (s10 _ _ eb9)) upd_same (sz_le (by simp; omega)) fun v2 nv2 => ?_
        wtm_at "w"
        refine i_new (by simp) fun v3 nv3 => ?_
        have sA : Same H11 (upd (upd (upd H11 v1 (.lst [.int pv])) v2 (.lst (nd.1.map V.int ++ [.int pv]))) v3 (.tup [.ref v2, .int ((nd.2 : Nat) - pv)])) := ((same_new nv1).trans (same_new nv2)).trans (same_new nv3)
        have e3 : (upd (upd (upd H11 v1 (.lst [.int pv])) v2 (.lst (nd.1.map V.int ++ [.int pv]))) v3 (.tup [.ref v2, .int ((nd.2 : Nat) - pv)])) v3 = some (.tup [.ref v2, .int ((nd.2 - (S.getD j 0).toNat : Nat) : Int)]) := by
          rw [upd_same, ← hpe, show ((nd.2 - pv.toNat : Nat) : Int) = (nd.2 : Nat) - pv by omega]
        have e2 : (upd (upd (upd H11 v1 (.lst [.int pv])) v2 (.lst (nd.1.map V.int ++ [.int pv]))) v3 (.tup [.ref v2, .int ((nd.2 : Nat) - pv)])) v2 = some (.lst ((nd.1 ++ [S.getD j 0]).map V.int)) := by
          rw [upd_old nv3 upd_same, List.map_append, ← hpe]; rfl
        have ef11 := s10 _ _ (s79 _ _ ef7)
        have ew11 := s10 _ _ (s79 _ _ ew7)
        have r2 : ¬ (v2 = f ∨ v2 = w ∨ v2 = D ∨ H v2 ≠ none) := fun z => by
          rcases z with rfl | rfl | rfl | z
          · rw [upd_old nv1 ef11] at nv2; cases nv2
          · rw [upd_old nv1 ew11] at nv2; cases nv2
          · rw [upd_old nv1 eD] at nv2; cases nv2
          · exact z ((s09.trans s10).free ((same_new nv1).free nv2))
        have r3 : ¬ (v3 = f ∨ v3 = w ∨ v3 = D ∨ H v3 ≠ none) := fun z => by
          rcases z with rfl | rfl | rfl | z
          · rw [upd_old nv2 (upd_old nv1 ef11)] at nv3; cases nv3
          · rw [upd_old nv2 (upd_old nv1 ew11)] at nv3; cases nv3
          · rw [upd_old nv2 (upd_old nv1 eD)] at nv3; cases nv3
          · exact z ((s09.trans s10).free ((same_new nv1).free ((same_new nv2).free nv3)))
        generalize upd (upd (upd H11 v1 (.lst [.int pv])) v2 (.lst (nd.1.map V.int ++ [.int pv]))) v3 (.tup [.ref v2, .int ((nd.2 : Nat) - pv)]) = HA at sA e3 e2 ⊢
        refine ⟨cs.map V.ref, sA _ _ eD, sz_lt (by rw [List.length_map]; omega), nD, same_mut (s10.trans sA) nD, cs ++ [v3], by rw [upd_same, List.map_append]; rfl, ?_⟩
        show NdT _ _ _ (chn S nd j ++ _)
        rw [if_pos hc]
        exact ((ndc.keep fun a o _ z => sA a o z).app (NdT.one (nd := (nd.1 ++ [S.getD j 0], nd.2 - (S.getD j 0).toNat)) e3 e2 r3 r2)).keep (keep_in (Keep.refl _ _) (.inr (.inr (.inl rfl))))
      · have hc : ¬ ((S.getD j 0).toNat ≤ nd.2 ∧ j < al S nd.1) := fun z => by have := of_decide_eq_false hz; exact this (cond.mpr z)
        refine ⟨nD, s10, cs, eD, ?_⟩
        show NdT _ _ _ (chn S nd j ++ _)
        rw [if_neg hc, List.append_nil]; exact ndc
    · obtain ⟨nD, s10, cs, eD, ndc⟩ := p
      rw [List.length_map] at ndc
      have hcs := ndc.len
      have hct := chn_total up nd S.length (Nat.le_refl _)
      have hce := comp_eq hp nd
      wtm_at "w"
      have ew10 := s10 _ _ (s79 _ _ ew7)
      have hcl := chn_len (S := S) (nd := nd) S.length
      rw [total_app, total_one] at hcn
      have hq0 : qs0.length ≤ 16000000 := by
        rw [List.length_append] at htl
        rw [total_app, total_one] at htl
        omega
      refine i_ext ew10 eD (by rw [List.length_map, List.length_map, sizeLine_eq]; omega) ?_
      refine ⟨wgt S (ns0 ++ chn S nd S.length), wgt_less hp ns0 nd, fs', qs0 ++ cs, ns0 ++ chn S nd S.length, _, _, _, _, rfl, rfl, same_mut (s09.trans s10) nwH, ?_⟩
      have hDw : D ≠ w := fun z => by rw [z, s79 _ _ ew7] at nD; cases nD
      have hDf : D ≠ f := fun z => by rw [z, s79 _ _ ef7] at nD; cases nD
      have kk : Keep (fun z => z = w) H10 (upd H10 w (.lst (qs0.map V.ref ++ cs.map V.ref))) := keep_in (Keep.refl _ _) rfl
      refine ⟨kk _ _ x4.fw (s10 _ _ (s79 _ _ ef7)), by rw [upd_same, List.map_append], x4.fw, ?_, fun b hb => ?_, fun x hx => ?_, fun r hr => ?_, ?_⟩
      · have n1 : NdT (fun z => z = f ∨ z = w ∨ H z ≠ none) H10 qs0 ns0 := nd7.keep fun a o _ z => s10 _ _ (s79 _ _ z)
        have n2 : NdT (fun z => z = f ∨ z = w ∨ H z ≠ none) H10 cs (chn S nd S.length) := ndc.weak fun a z => z.elim .inl fun z => z.elim (fun w => .inr (.inl w)) fun w => .inr (.inr (.inr w))
        exact (n1.app n2).keep fun a o hno z => kk a o (fun w => hno (.inr (.inl w))) z
      · obtain ⟨p1, p2, p3, p4⟩ := fo7 b hb
        exact ⟨kk _ _ p3 (s10 _ _ (s79 _ _ p1)), p2, p3, p4⟩
      · rcases List.mem_append.mp hx with z | z
        · exact x5.bg x (List.mem_append_left _ z)
        · exact (bnd.child up hp z).1
      · rcases x5.all r hr with z | ⟨x, hx, hpre⟩
        · obtain ⟨b, hb, e⟩ := List.mem_map.mp z
          exact .inl (List.mem_map.mpr ⟨b, sub7 b hb, e⟩)
        · rcases List.mem_append.mp hx with z | z
          · exact .inr ⟨x, List.mem_append_left _ z, hpre⟩
          · rw [List.mem_singleton.mp z] at hpre
            rcases bnd.goes up hp hr hpre with ⟨e, z0⟩ | ⟨x', hx', hp'⟩
            · left; rw [e]; exact z7 z0
            · exact .inr ⟨x', List.mem_append_right _ hx', hp'⟩
      · rw [total_app, hct, l7]
        omega
end
/-! ### the first sum is the least -/
theorem up_idx {S : List Int} (up : S.Pairwise (· < ·)) {i : Nat} (hi : i < S.length) {y : Int} (hy : y ∈ S) (h : y ≤ S.getD i 0) : y ∈ S.take (i + 1) := by
  obtain ⟨k, hk, rfl⟩ := List.mem_iff_getElem.mp hy
  have hki : k ≤ i := Nat.le_of_not_lt fun z => by
    have := List.pairwise_iff_getElem.mp up i k hi hk z
    rw [List.getD_eq_getElem?_getD, List.getElem?_eq_getElem hi] at h
    have h' : S[k] ≤ S[i] := h
    omega
  rw [List.mem_take_iff_getElem]
  exact ⟨k, by omega, rfl⟩
theorem fsum_least {S : List Int} (k : Stk S) (up : S.Pairwise (· < ·)) : ∀ (m n : Nat), fewF S n = (m : Int) → ∀ r : List Int, SumOk S n r → r.length = m → fsum S m n ≤ r
  | 0, n, _, r, _, hl => by
    rw [List.eq_nil_of_length_eq_zero hl]
    exact List.le_refl _
  | m + 1, n, h, r, ho, hl => by
    classical
    obtain ⟨j, hj, f1, f2⟩ := first_xs k h (P := fun j => decide (XS (S.take (j + 1)) (m + 1) n)) (fun j _ => by simp)
    obtain ⟨_, ok, _⟩ := firstP_some f2
    obtain ⟨_, pj, pno⟩ := firstP_some f1
    obtain ⟨o1, o2⟩ := fOk_of ok
    have hp := k.pos _ (getD_mem hj)
    cases r with
    | nil => simp at hl
    | cons x q =>
      have hx := ho.mem x (by simp)
      obtain ⟨i, hi, ei⟩ := List.mem_iff_getElem.mp hx
      have ei' : S.getD i 0 = x := by rw [List.getD_eq_getElem?_getD, List.getElem?_eq_getElem hi, ← ei]; rfl
      have hfall := List.pairwise_cons.mp ho.fall
      have hX : XS (S.take (i + 1)) (m + 1) n := ⟨x :: q, fun y hy => by
        refine up_idx up hi (ho.mem y hy) ?_
        rw [ei']
        rcases List.mem_cons.mp hy with rfl | z
        · exact Int.le_refl _
        · exact hfall.1 y z, hl, ho.sum⟩
      have hji : j ≤ i := Nat.le_of_not_lt fun z => by
        have := pno i z
        rw [decide_eq_true hX] at this; cases this
      have hle := up_getD up hji hi
      rw [ei'] at hle
      rw [fsum_step f2, List.cons_le_cons_iff]
      by_cases e : S.getD j 0 = x
      · right
        refine ⟨e, fsum_least k up m _ (fOk_left k hj h ok) q ⟨fun y hy => ho.mem y (List.mem_cons_of_mem _ hy), ?_, hfall.2⟩ (by simpa using hl)⟩
        have := ho.sum
        rw [List.sum_cons] at this
        omega
      · left; omega
theorem sorted_rw (bs : List Rw) : (bs.mergeSort leR).Pairwise fun a b => a.2 ≤ b.2 := by
  have := List.pairwise_mergeSort (le := leR) (fun a b c h1 h2 => by
      unfold leR at *
      exact decide_eq_true (List.le_trans (of_decide_eq_true h1) (of_decide_eq_true h2)))
    (fun a b => by
      unfold leR
      rcases List.le_total a.2 b.2 with h | h
      · rw [decide_eq_true h]; rfl
      · rw [decide_eq_true h, Bool.or_true]) bs
  exact this.imp fun h => of_decide_eq_true h
theorem mem_rw {bs : List Rw} {b : Rw} : b ∈ bs.mergeSort leR ↔ b ∈ bs := (List.mergeSort_perm bs leR).mem_iff
theorem eqv_rowI (a b : List Int) : PyData.eqv (.list (a.map PyData.int)) (.list (b.map PyData.int)) = decide (a = b) := by
  simp only [PyData.eqv]
  induction a generalizing b with
  | nil => cases b <;> simp [PyData.eqvAll]
  | cons x r ih =>
    cases b with
    | nil => simp [PyData.eqvAll]
    | cons y q =>
      simp only [List.map_cons, PyData.eqvAll, ih q, PyData.eqv]
      rw [Bool.eq_iff_iff]
      simp
theorem rows_dp {K : Fg} {H : Hp} : ∀ {bs : List Rw}, (∀ b ∈ bs, H b.1 = some (.lst (b.2.map V.int))) → DpAll K H (bs.map fun b => V.ref b.1) ((bs.map (·.2)).map fun r => PyData.list (r.map PyData.int))
  | [], _ => .nil
  | b :: bs, h => .cons (dp_ints (sq_of (h b (by simp)))) (rows_dp fun b' hb => h b' (List.mem_cons_of_mem _ hb))
theorem rows_any (rs : List (List Int)) (x : List Int) : ((rs.map fun r => PyData.list (r.map PyData.int)).any fun z => PyData.eqv z (.list (x.map PyData.int))) = decide (x ∈ rs) := by
  induction rs with
  | nil => simp
  | cons r q ih =>
    rw [List.map_cons, List.any_cons, ih, eqv_rowI]
    rw [Bool.eq_iff_iff]
    simp
    constructor
    · rintro (h | h)
      · exact .inl h.symm
      · exact .inr h
    · rintro (h | h)
      · exact .inl h.symm
      · exact .inr h
theorem i_inRows {K : Fg} {H : Hp} {Q : VK} {t p : Addr} {x : List Int} {bs : List Rw} (ht : H t = some (.lst (x.map V.int))) (hp : H p = some (.lst (bs.map fun b => .ref b.1))) (hb : ∀ b ∈ bs, H b.1 = some (.lst (b.2.map V.int))) (h : Q (.bl (decide (x ∈ bs.map (·.2)))) H) : uInDp K (.ref t) (.ref p) H Q := by
  refine i_inDp (dp_ints (sq_of ht)) (.lst (sq_of hp) (rows_dp hb)) ?_ (shaped_LL _) ?_
  · have := shaped_L (ints_sV x); rw [toD_ints] at this; exact this
  · rw [rows_any]; exact h
theorem k_neBB {K : Fg} {H : Hp} {Q : VK} {a b : Bool} (h : Q (.bl (!decide (a = b))) H) : uNe K (.bl a) (.bl b) H Q := .inl ⟨rfl, by
  have e : decide (V.bl a = V.bl b) = decide (a = b) := by rw [Bool.eq_iff_iff]; simp
  rw [e]; exact h⟩
section
variable {J : It} {g : TG} {tt : TT} {te : TE} {vs : List Nat} {σ : L2.St} {H : Hp} {Q : VK} {n : Nat}
theorem lck_pureB {G : Hp → Prop} {Y : Nat → Hp → V → Hp → Prop} (w : Walk J n G Y) (hn : n ≤ 16000000) (f : Nat → Option V) (hG : ∀ H', Same H H' → G H')
    (turn : ∀ i x H1 H2 (KK : V → Hp → Prop) (NN : Hp → Prop), i < n → Same H H1 → Y i H1 x H2 → (∀ y H4, f i = some y → Same H1 H4 → KK y H4) → (∀ H3, f i = none → Same H1 H3 → NN H3) →
      g x (wipe σ vs) H2 fun σ2 H2 => wipe σ2 vs = wipe σ vs ∧ tt σ2 H2 fun b H3 => if b = true then te σ2 H3 KK else NN H3)
    (fin : ∀ p H', H p = none → Same H H' → H' p = some (.lst (given f n)) → Q (.ref p) H') : LcK J g tt te vs σ H Q := by
  refine lck w (fun D i H' => H D = none ∧ Same H H' ∧ H' D = some (.lst (given f i))) (fun D hD => ⟨hD, same_new hD, upd_same⟩) (fun D i H' _ p => hG H' p.2.1) (fun D i x H1 H2 hi p y => ?_) (fun D H' hD p => fin D H' hD p.2.1 p.2.2)
  obtain ⟨p0, p1, p2⟩ := p
  refine turn i x H1 H2 _ _ hi p1 y (fun y H4 hf s4 => ?_) (fun H3 hf s3 => ?_)
  · refine ⟨given f i, s4 _ _ p2, by have := given_len f i; rw [sizeLine_eq]; omega, p0, same_mut (p1.trans s4) p0, ?_⟩
    rw [upd_same]
    show some (HO.lst (given f i ++ [y])) = some (HO.lst (given f i ++ (match f i with | some y => [y] | none => [])))
    rw [hf]
  · refine ⟨p0, p1.trans s3, ?_⟩
    rw [s3 _ _ p2]
    show some (HO.lst (given f i)) = some (HO.lst (given f i ++ (match f i with | some y => [y] | none => [])))
    rw [hf, List.append_nil]
end
section
variable {G : Gx} {H : Hp} {Q : VK} {E : XK} {d pl : Addr} {ps : List Addr}
theorem u_law_any {n : Nat} (i : DkI d pl ps H) (hn : n ≤ 24) (h : ∀ p (xs : List Int) H', Kp (deckW d pl ps) H H' → H p = none → At (deckW d pl ps) H' p (.lst (xs.map V.int)) → xs.length ≤ 24 → Q (.ref p) H') : sp_law_any G [.ref d, .int n] H Q E := by
  refine ⟨rfl, ?_⟩
  unfold t_law_any
  wtm_at "w"
  refine i_new (by simp) fun l nl => ?_
  have k1 : Kp (deckW d pl ps) H (upd H l (.lst [])) := (Kp.refl (W := deckW d pl ps) i).new nl
  have e1 : (upd H l (.lst [])) l = some (.lst (([] : List Int).map V.int)) := upd_same
  have nR : ¬ (deckW d pl ps).R l := Wd.notR (W := deckW d pl ps) i nl
  generalize upd H l (.lst []) = H1 at k1 e1 ⊢
  wtm_at "w"
  refine i_while (fun m σ H' => ∃ xs : List Int, σ = [some (.ref d), some (.int n), some (.ref l)] ∧ m = n - xs.sum.toNat ∧ Kp (deckW d pl ps) H H' ∧ At (deckW d pl ps) H' l (.lst (xs.map V.int)) ∧ (∀ x ∈ xs, 1 ≤ x) ∧ xs.sum ≤ n) n ⟨[], rfl, by simp, k1, ⟨e1, nR⟩, by simp, by simp⟩ ?_
  rintro m σ H2 ⟨xs, rfl, rfl, k2, a2, hx, hs⟩
  have hnn := sum_nn hx
  wtm_at "w"
  refine i_sumL (sq_of a2.h) ?_
  wtm_at "w"
  refine i_both (fun hz => ?_) (fun hz => ?_)
  · have hz' : xs.sum < n := of_decide_eq_true hz
    refine i_turn ?_
    wtm_at "w"
    refine i_tyL a2.h ?_
    wtm_at "w"
    refine i_sumL (sq_of a2.h) ?_
    wtm_at "w"
    refine u_law_draw k2.i (by omega) (by omega) fun r H3 r0 r1 k3 => ?_
    wtm_at "w"
    have a3 := k3.at a2
    refine i_app a3.h (by rw [List.length_map, sizeLine_eq]; omega) ?_
    refine ⟨n - (xs ++ [1 + r]).sum.toNat, ?_, xs ++ [1 + r], rfl, rfl, (k2.trans k3).mut nl nR, ⟨by rw [upd_same, List.map_append]; rfl, nR⟩, fun x hx' => ?_, ?_⟩
    · rw [List.sum_append]; simp; omega
    · rcases List.mem_append.mp hx' with z | z
      · exact hx x z
      · rw [List.mem_singleton.mp z]; omega
    · rw [List.sum_append]; simp; omega
  · refine i_next ?_
    wtm_at "w"
    refine i_revL ?_
    wtm_at "w"
    refine i_sortedL (sq_of a2.h) fun ys p hp _ np => ?_
    refine i_revA (sq_of upd_same) fun q nq => ?_
    have s3 : Same H2 (upd (upd H2 p (.lst (ys.map V.int))) q (.lst (ys.map V.int).reverse)) := (same_new np).trans (same_new nq)
    refine h q ys.reverse _ (k2.same s3) (k2.free ((same_new np).free nq)) ⟨by rw [upd_same, List.map_reverse], Wd.notR (W := deckW d pl ps) i (k2.free ((same_new np).free nq))⟩ ?_
    rw [List.length_reverse, hp.length_eq]; omega
end
section
variable {G : Gx} {H : Hp} {Q : VK} {E : XK} {d pl : Addr} {ps : List Addr}
theorem u_law_right_v6 {kp : Addr} {ks : List V} {n : Nat} (i : DkI d pl ps H) (ek : At (deckW d pl ps) H kp (.lst ks)) (hk : KdL ks) (hn : n ≤ 24)
    (h : ∀ H', Kp (deckW d pl ps) H H' → Q (.bl true) H') : sp_law_right_v6 G [.ref d, .ref kp, .int n] H Q E := by
  refine ⟨rfl, ?_⟩
  unfold t_law_right_v6
  have hk5 := hk.hi
  wtm_at "w"
  refine u_law_stock ek.h hk.kd (by omega) (by omega) (by omega) fun sp L H1 s1 nsp e1 hL => ?_
  wtm_at "w"
  have st : 1 ≤ n → Stk L := fun z => Stk.of hL hk (by omega)
  have hp : ∀ x ∈ L, 1 ≤ x := fun x hx => hL.pos hk.kd hx
  refine u_law_all_v2 e1 (hL.stkc hk (by omega)) st hn (fun x hx => by have := ((hL.mem x).mp hx).1; omega) fun p bs0 H2 s2 np ep eb0 hall0 hlen0 => ?_
  have s02 := s1.trans s2
  have srt := sorted_rw bs0
  have hall : ∀ r, SumOk L n r ↔ r ∈ (bs0.mergeSort leR).map (·.2) := fun r => by
    rw [hall0, List.mem_map, List.mem_map]
    exact ⟨fun ⟨b, z1, z2⟩ => ⟨b, mem_rw.mpr z1, z2⟩, fun ⟨b, z1, z2⟩ => ⟨b, mem_rw.mp z1, z2⟩⟩
  have eb : ∀ b ∈ bs0.mergeSort leR, H1 b.1 = none ∧ H2 b.1 = some (.lst (b.2.map V.int)) := fun b hb => eb0 b (mem_rw.mp hb)
  have hlen : (bs0.mergeSort leR).length < 16000000 := by rw [List.length_mergeSort]; exact hlen0
  generalize bs0.mergeSort leR = bs at ep srt hall eb hlen ⊢
  clear eb0 hall0 hlen0
  have hfew := hL.few hk
  obtain ⟨m, em⟩ : ∃ m : Nat, fewF L n = (m : Int) := ⟨(fewF L n).toNat, by omega⟩
  have emN : (fewF L n).toNat = m := by omega
  have hsum : SumOk L n (fsum L m n) := by
    by_cases z : n = 0
    · subst z; rw [fewF_zero] at em; have : m = 0 := by omega
      subst this; exact ⟨fun x hx => (by cases hx), rfl, List.Pairwise.nil⟩
    · exact (fsum_sum (st (by omega)) hL.up _ n em).1
  have hflen : (fsum L m n).length = m := by have := fsum_lenI hL hk; rw [emN] at this; omega
  have hleast : ∀ r, SumOk L n r → r.length = m → fsum L m n ≤ r := fun r hr hl => by
    by_cases z : n = 0
    · subst z; rw [fewF_zero] at em; have : m = 0 := by omega
      subst this; rw [List.eq_nil_of_length_eq_zero hl]; exact List.le_refl _
    · exact fsum_least (st (by omega)) hL.up m n em r hr hl
  have hmin : ∀ r, SumOk L n r → m ≤ r.length := fun r hr => by
    have := few_min hp r.length n ⟨r, hr.mem, rfl, hr.sum⟩
    omega
  have hrl : ∀ r, SumOk L n r → r.length ≤ n := fun r hr => by
    have := sum_nn fun x hx => hp x (hr.mem x hx)
    have := hr.sum
    omega
  obtain ⟨bf, hbf, ebf⟩ := List.mem_map.mp ((hall _).mp hsum)
  have hbl : 0 < bs.length := List.length_pos_iff.mpr fun z => by rw [z] at hbf; cases hbf
  -- the lengths
  wtm_at "w"
  refine i_lstA (sq_of ep) ?_
  refine lck_pureB walk_list (by rw [List.length_map]; omega) (fun j => ((bs[j]?).bind fun b => some (b.2.length : Int)).map V.int) (fun H' s => sq_of (s _ _ ep)) (fun j x H5 H6 KK NN hj s y hK hN => ?_) (fun q3 H3 nq3 s3 e3 => ?_)
  · obtain ⟨rfl, hx⟩ := y
    rw [List.getElem?_map] at hx
    obtain ⟨b, hb, rfl⟩ := Option.map_eq_some_iff.mp hx
    wtm_at "w"
    refine ⟨rfl, ?_⟩
    wtm_at "w"
    refine i_lenL (sq_of (s _ _ (eb b (List.mem_of_getElem? hb)).2)) ?_
    rw [List.length_map]
    exact hK _ _ (by rw [hb]; rfl) (fun _ _ z => z)
  rw [List.length_map, given_ints] at e3
  have e3' : bs.filterMap (fun b => some (b.2.length : Int)) = bs.map fun b => (b.2.length : Int) := by rw [← List.filterMap_eq_map]; rfl
  rw [e3'] at e3
  wtm_at "w"
  refine i_minL (sq_of e3) (by rw [List.length_map]; exact hbl) fun mm hm1 hm2 => ?_
  have emm : mm = (m : Int) := by
    obtain ⟨b, hb, rfl⟩ := List.mem_map.mp hm1
    have h1 := hmin b.2 ((hall _).mpr (List.mem_map.mpr ⟨b, hb, rfl⟩))
    have h2 := hm2 _ (List.mem_map.mpr ⟨bf, hbf, rfl⟩)
    rw [ebf, hflen] at h2
    omega
  subst emm
  have s03 := s02.trans s3
  -- the fewest
  wtm_at "wa"
  refine u_fewest_parts (s03 _ _ ek.h) hk (by omega) fun L4 H4 s4 hL4 => ?_
  have eL := hL.uniq hL4
  subst eL
  rw [em]
  wtm_at "wa"
  refine i_F (by simp) ?_
  wtm_at "wa"
  have s04 := s03.trans s4
  refine u_fewest_to (s04 _ _ ek.h) hk (by omega) fun q5 L5 H5 s5 nq5 hL5 e5 => ?_
  have eL := hL.uniq hL5
  subst eL
  wtm_at "wa"
  refine i_ixL (sq_of e5) (tab_at (i := n) rfl (by omega)) ?_
  rw [em]
  wtm_at "wa"
  refine i_F (by simp) ?_
  wtm_at "wa"
  have s05 := s04.trans s5
  refine u_first_sum (s05 _ _ ek.h) hk (by omega) fun f6 L6 H6 s6 nf6 hL6 e6 hfl => ?_
  have eL := hL.uniq hL6
  subst eL
  rw [emN] at e6
  have s26 := ((s3.trans s4).trans s5).trans s6
  have s06 := s02.trans s26
  wtm_at "w"
  refine i_lstA (sq_of (s26 _ _ ep)) ?_
  refine lck_pureB walk_list (by rw [List.length_map]; omega) (fun j => if (fun j => decide ((bs.getD j (0, [])).2.length = m)) j then some ((fun j => V.ref (bs.getD j (0, [])).1) j) else none) (fun H' s => sq_of (s _ _ (s26 _ _ ep))) (fun j x H5 H6 KK NN hj s y hK hN => ?_) (fun q7 H7 nq7 s7 e7 => ?_)
  · obtain ⟨rfl, hx⟩ := y
    rw [List.getElem?_map] at hx
    obtain ⟨b, hb, rfl⟩ := Option.map_eq_some_iff.mp hx
    have eg : bs.getD j (0, []) = b := by rw [List.getD_eq_getElem?_getD, hb]; rfl
    wtm_at "w"
    refine ⟨rfl, ?_⟩
    wtm_at "w"
    refine i_lenL (sq_of (s _ _ (s26 _ _ (eb b (List.mem_of_getElem? hb)).2))) ?_
    rw [List.length_map]
    wtm_at "w"
    refine i_both (fun hz => ?_) (fun hz => ?_)
    · have hz' := of_decide_eq_true hz
      wtm_at "w"
      exact hK _ _ (by simp only [eg]; rw [if_pos (decide_eq_true (by omega))]) (fun _ _ z => z)
    · have hz' := of_decide_eq_false hz
      exact hN _ (by simp only [eg]; rw [if_neg (by rw [decide_eq_true_iff]; omega)]) (fun _ _ z => z)
  rw [List.length_map] at e7
  obtain ⟨jf, hjf, ejf⟩ := List.mem_iff_getElem.mp hbf
  have gjf : bs.getD jf (0, []) = bf := by rw [List.getD_eq_getElem?_getD, List.getElem?_eq_getElem hjf, ejf]; rfl
  obtain ⟨j0, ej0⟩ : ∃ j0, firstP (fun j => decide ((bs.getD j (0, [])).2.length = m)) bs.length = some j0 := firstP_ex hjf (decide_eq_true (by rw [gjf, ebf, hflen]))
  obtain ⟨hj0, pj0, nj0⟩ := firstP_some ej0
  have g0 := given_firstG (P := fun j => decide ((bs.getD j (0, [])).2.length = m)) (g := fun j => V.ref (bs.getD j (0, [])).1) bs.length
  rw [ej0] at g0
  have hb0 : bs.getD j0 (0, []) ∈ bs := by
    rw [List.getD_eq_getElem?_getD, List.getElem?_eq_getElem hj0]; exact List.getElem_mem _
  have h00 : (bs.getD j0 (0, [])).2 = fsum L m n := by
    have hlen' : (bs.getD j0 (0, [])).2.length = m := of_decide_eq_true pj0
    have hle : j0 ≤ jf := Nat.le_of_not_lt fun z => by
      have := nj0 jf z
      rw [decide_eq_true (by rw [gjf, ebf, hflen])] at this; cases this
    have h1 : fsum L m n ≤ (bs.getD j0 (0, [])).2 := hleast _ ((hall _).mpr (List.mem_map.mpr ⟨_, hb0, rfl⟩)) hlen'
    by_cases z : j0 = jf
    · rw [z, gjf, ebf]
    · have h2 := List.pairwise_iff_getElem.mp srt j0 jf hj0 hjf (by omega)
      have e0 : bs.getD j0 (0, []) = bs[j0] := by rw [List.getD_eq_getElem?_getD, List.getElem?_eq_getElem hj0]; rfl
      rw [ejf, ebf, ← e0] at h2
      exact List.le_antisymm h2 h1
  wtm_at "w"
  refine i_ixL (v := V.ref (bs.getD j0 (0, [])).1) (sq_of e7) ?_ ?_
  · unfold atI ixN
    have : 0 < (given (fun j => if (fun j => decide ((bs.getD j (0, [])).2.length = m)) j then some ((fun j => V.ref (bs.getD j (0, [])).1) j) else none) bs.length).length := by
      refine Nat.pos_of_ne_zero fun z => ?_
      rw [List.eq_nil_of_length_eq_zero z] at g0; cases g0
    rw [if_pos (Int.le_refl _), if_pos (by omega)]
    exact g0
  have s27 := s26.trans s7
  have eb0 := (eb _ hb0).2
  rw [h00] at eb0
  refine i_neL (sq_of (s7 _ _ e6)) (sq_of (s27 _ _ eb0)) (ints_sV _) (ints_sV _) ?_
  wtm_at "w"
  refine i_F (by simp) ?_
  wtm_at "w"
  have s07 := s02.trans s27
  have k7 := (Kp.refl (W := deckW d pl ps) i).same s07
  have ek7 := ek.same s07
  have ap : At (deckW d pl ps) H7 p (.lst (bs.map fun b => .ref b.1)) := ⟨s27 _ _ ep, Wd.notR (W := deckW d pl ps) i (s1.free np)⟩
  have ab : ∀ b ∈ bs, At (deckW d pl ps) H7 b.1 (.lst (b.2.map V.int)) := fun b hb => ⟨s27 _ _ (eb b hb).2, Wd.notR (W := deckW d pl ps) i (s1.free (eb b hb).1)⟩
  refine i_lenL (sq_of ap.h) ?_
  rw [List.length_map]
  wtm_at "w"
  refine i_lenL (sq_of ap.h) ?_
  rw [List.length_map]
  wtm_at "w"
  obtain ⟨mm, hrg, hin⟩ := rg_up (n := (bs.length : Int)) (c := 1 + (bs.length : Int) / 30) (by omega) (by omega) (by omega) (by omega)
  refine ⟨_, _, _, mm, rfl, hrg, ?_⟩
  refine lk walk_rangeC (fun j σ H' => ∃ y5 y6 y7 y8 y9, σ = [some (.ref d), some (.ref kp), some (.int n), some (.ref p), some (.int m), y5, y6, y7, y8, y9] ∧ Kp (deckW d pl ps) H7 H') ⟨_, _, _, _, _, rfl, Kp.refl (W := deckW d pl ps) k7.i⟩ (fun _ _ _ _ _ => trivial) ?_ ?_
  · rintro j x σ H8x H8 hj ⟨y5, y6, y7, y8, y9, rfl, k8⟩ y
    obtain ⟨rfl, rfl⟩ := y
    have hj' := hin j hj
    have hjn : 0 ≤ (j : Int) * (1 + (bs.length : Int) / 30) := Int.mul_nonneg (by omega) (by omega)
    obtain ⟨J, eJ⟩ : ∃ J : Nat, (0 : Int) + (j : Nat) * (1 + (bs.length : Int) / 30) = (J : Int) := ⟨((0 : Int) + (j : Nat) * (1 + (bs.length : Int) / 30)).toNat, by omega⟩
    have hJ : J < bs.length := by omega
    have eJ' : (fun i : Nat => V.int (0 + (i : Nat) * (1 + (bs.length : Int) / 30))) j = V.int (J : Nat) := by
      show V.int (0 + (j : Nat) * (1 + (bs.length : Int) / 30)) = _
      rw [eJ]
    rw [eJ']
    have ap8 := k8.at ap
    have ab8 : ∀ b ∈ bs, At (deckW d pl ps) H8 b.1 (.lst (b.2.map V.int)) := fun b hb => k8.at (ab b hb)
    have ek8 := k8.at ek7
    wtm_at "w"
    refine i_ixL (v := .ref (bs[J]).1) (sq_of ap8.h) ?_ ?_
    · unfold atI
      rw [ixN_nat rfl (by rw [List.length_map]; exact hJ)]
      show (bs.map fun b => V.ref b.1)[J]? = _
      rw [List.getElem?_map, List.getElem?_eq_getElem hJ]; rfl
    have hbJ : bs[J] ∈ bs := List.getElem_mem _
    have hsJ : SumOk L n (bs[J]).2 := (hall _).mpr (List.mem_map.mpr ⟨_, hbJ, rfl⟩)
    have hlJ := hrl _ hsJ
    refine i_ulist (sq_of (ab8 _ hbJ).h) fun r1 nr1 => ?_
    generalize (bs[J]).2 = row at hsJ hlJ ⊢
    have k9 : Kp (deckW d pl ps) H8 (upd H8 r1 (.lst (row.map V.int))) := (Kp.refl (W := deckW d pl ps) k8.i).new nr1
    have a9 : At (deckW d pl ps) (upd H8 r1 (.lst (row.map V.int))) r1 (.lst (row.map V.int)) := At.new k8.i nr1
    generalize upd H8 r1 (.lst (row.map V.int)) = H9 at k9 a9 ⊢
    wtm_at "w"
    refine u_is_sum (k9.at ek8).h hk (by omega) (sq_of a9.h) a9.h (by omega) fun L10 b H10 s10 hL10 hb10 => ?_
    have eL := hL.uniq hL10
    subst eL
    have hbt := hb10.mpr hsJ
    subst hbt
    refine i_notB ?_
    wtm_at "w"
    have k10 := k9.same s10
    have a10 := a9.same s10
    refine i_lenL (sq_of a10.h) ?_
    rw [List.length_map]
    wtm_at "w"
    refine u_law_draw k10.i (by omega) (by omega) fun tt H11 t0 t1 k11 => ?_
    obtain ⟨T, rfl⟩ : ∃ T : Nat, tt = (T : Int) := ⟨tt.toNat, by omega⟩
    have k011 := k10.trans k11
    have a11 := k11.at a10
    wtm_at "w"
    refine i_slL (sq_of a11.h) fun q1 nq1 => ?_
    rw [cut_takeA]
    have k12 : Kp (deckW d pl ps) H11 (upd H11 q1 (.lst ((row.map V.int).take T))) := (Kp.refl (W := deckW d pl ps) k011.i).new nq1
    have b12 : At (deckW d pl ps) (upd H11 q1 (.lst ((row.map V.int).take T))) q1 (.lst ((row.map V.int).take T)) := At.new k011.i nq1
    generalize upd H11 q1 (.lst ((row.map V.int).take T)) = H12 at k12 b12 ⊢
    have k012 := k011.trans k12
    have a12 := k12.at a11
    wtm_at "w"
    refine u_law_draw k012.i (by decide) (by decide) fun rr H13 rr0 rr1 k13 => ?_
    have k013 := k012.trans k13
    have a13 := k13.at a12
    have b13 := k13.at b12
    wtm_at "w"
    refine i_new (by simp) fun q2 nq2 => ?_
    refine i_addL (upd_old nq2 b13.h) upd_same (sz_le (by simp; omega)) fun q3 nq3 => ?_
    wtm_at "w"
    refine i_slL (sq_of (upd_old nq3 (upd_old nq2 a13.h))) fun q4 nq4 => ?_
    rw [show (T : Int) + 1 = ((T + 1 : Nat) : Int) by omega, cut_dropA]
    refine i_addL (upd_old nq4 upd_same) upd_same (sz_le (by simp; omega)) fun q5 nq5 => ?_
    have s14 : Same H13 (upd (upd (upd (upd H13 q2 (.lst [.int (1 + rr)])) q3 (.lst ((row.map V.int).take T ++ [.int (1 + rr)]))) q4 (.lst ((row.map V.int).drop (T + 1)))) q5 (.lst ((row.map V.int).take T ++ [.int (1 + rr)] ++ (row.map V.int).drop (T + 1)))) := (((same_new nq2).trans (same_new nq3)).trans (same_new nq4)).trans (same_new nq5)
    have c14 : At (deckW d pl ps) (upd (upd (upd (upd H13 q2 (.lst [.int (1 + rr)])) q3 (.lst ((row.map V.int).take T ++ [.int (1 + rr)]))) q4 (.lst ((row.map V.int).drop (T + 1)))) q5 (.lst ((row.map V.int).take T ++ [.int (1 + rr)] ++ (row.map V.int).drop (T + 1)))) q5 (.lst ((row.take T ++ [1 + rr] ++ row.drop (T + 1)).map V.int)) := ⟨by rw [upd_same]; simp [List.map_take, List.map_drop], Wd.notR (W := deckW d pl ps) k013.i ((((same_new nq2).trans (same_new nq3)).trans (same_new nq4)).free nq5)⟩
    generalize upd (upd (upd (upd H13 q2 (.lst [.int (1 + rr)])) q3 (.lst ((row.map V.int).take T ++ [.int (1 + rr)]))) q4 (.lst ((row.map V.int).drop (T + 1)))) q5 (.lst ((row.map V.int).take T ++ [.int (1 + rr)] ++ (row.map V.int).drop (T + 1))) = H14 at s14 c14 ⊢
    have k014 := k013.same s14
    have a14 := a13.same s14
    wtm_at "w"
    refine i_slL (sq_of a14.h) fun q6 nq6 => ?_
    rw [cut_takeA]
    wtm_at "w"
    refine i_slL (sq_of (upd_old nq6 a14.h)) fun q7 nq7 => ?_
    rw [show (T : Int) + 1 = ((T + 1 : Nat) : Int) by omega, cut_dropA]
    refine i_addL (upd_old nq7 upd_same) upd_same (sz_le (by simp; omega)) fun q8 nq8 => ?_
    have s15 : Same H14 (upd (upd (upd H14 q6 (.lst ((row.map V.int).take T))) q7 (.lst ((row.map V.int).drop (T + 1)))) q8 (.lst ((row.map V.int).take T ++ (row.map V.int).drop (T + 1)))) := ((same_new nq6).trans (same_new nq7)).trans (same_new nq8)
    have d15 : At (deckW d pl ps) (upd (upd (upd H14 q6 (.lst ((row.map V.int).take T))) q7 (.lst ((row.map V.int).drop (T + 1)))) q8 (.lst ((row.map V.int).take T ++ (row.map V.int).drop (T + 1)))) q8 (.lst ((row.take T ++ row.drop (T + 1)).map V.int)) := ⟨by rw [upd_same]; simp [List.map_take, List.map_drop], Wd.notR (W := deckW d pl ps) k014.i (((same_new nq6).trans (same_new nq7)).free nq8)⟩
    generalize upd (upd (upd H14 q6 (.lst ((row.map V.int).take T))) q7 (.lst ((row.map V.int).drop (T + 1)))) q8 (.lst ((row.map V.int).take T ++ (row.map V.int).drop (T + 1))) = H15 at s15 d15 ⊢
    have k015 := k014.same s15
    have a15 := a14.same s15
    have c15 := c14.same s15
    wtm_at "w"
    refine i_new (by simp) fun q9 nq9 => ?_
    refine i_addL (upd_old nq9 a15.h) upd_same (sz_le (by simp; omega)) fun q10 nq10 => ?_
    have s16 : Same H15 (upd (upd H15 q9 (.lst [.int 1])) q10 (.lst (row.map V.int ++ [.int 1]))) := (same_new nq9).trans (same_new nq10)
    have e16 : At (deckW d pl ps) (upd (upd H15 q9 (.lst [.int 1])) q10 (.lst (row.map V.int ++ [.int 1]))) q10 (.lst ((row ++ [1]).map V.int)) := ⟨by rw [upd_same]; simp, Wd.notR (W := deckW d pl ps) k015.i ((same_new nq9).free nq10)⟩
    generalize upd (upd H15 q9 (.lst [.int 1])) q10 (.lst (row.map V.int ++ [.int 1])) = H16 at s16 e16 ⊢
    have k016 := k015.same s16
    have c16 := c15.same s16
    have d16 := d15.same s16
    wtm_at "w"
    refine i_new (by simp) fun q11 nq11 => ?_
    have s17 : Same H16 (upd H16 q11 (.lst [.ref q5, .ref q8, .ref q10])) := same_new nq11
    have f17 : At (deckW d pl ps) (upd H16 q11 (.lst [.ref q5, .ref q8, .ref q10])) q11 (.lst [.ref q5, .ref q8, .ref q10]) := At.new k016.i nq11
    generalize upd H16 q11 (.lst [.ref q5, .ref q8, .ref q10]) = H17 at s17 f17 ⊢
    have k017 := k016.same s17
    wtm_at "w"
    refine u_law_any k017.i hn fun q12 ys H18 k18 nq12 a18 hys => ?_
    have k018 := k017.trans k18
    have c18 := k18.at (c16.same s17)
    have d18 := k18.at (d16.same s17)
    have e18 := k18.at (e16.same s17)
    have f18 := k18.at f17
    wtm_at "w"
    refine i_new (by simp) fun q13 nq13 => ?_
    refine i_addL (upd_old nq13 f18.h) upd_same (sz_le (by simp)) fun q14 nq14 => ?_
    have s19 : Same H18 (upd (upd H18 q13 (.lst [.ref q12])) q14 (.lst ([.ref q5, .ref q8, .ref q10] ++ [.ref q12]))) := (same_new nq13).trans (same_new nq14)
    have g19 : (upd (upd H18 q13 (.lst [.ref q12])) q14 (.lst ([.ref q5, .ref q8, .ref q10] ++ [.ref q12]))) q14 = some (.lst [.ref q5, .ref q8, .ref q10, .ref q12]) := upd_same
    generalize upd (upd H18 q13 (.lst [.ref q12])) q14 (.lst ([.ref q5, .ref q8, .ref q10] ++ [.ref q12])) = H19 at s19 g19 ⊢
    have k019 := k018.same s19
    have near : ∀ v ∈ [V.ref q5, .ref q8, .ref q10, .ref q12], ∃ t xs, v = .ref t ∧ H19 t = some (.lst (xs.map V.int)) ∧ (xs : List Int).length ≤ 100 := by
      intro v hv
      simp only [List.mem_cons, List.not_mem_nil, or_false] at hv
      rcases hv with rfl | rfl | rfl | rfl
      · exact ⟨_, _, rfl, s19 _ _ c18.h, by simp; omega⟩
      · exact ⟨_, _, rfl, s19 _ _ d18.h, by simp; omega⟩
      · exact ⟨_, _, rfl, s19 _ _ e18.h, by simp; omega⟩
      · exact ⟨_, _, rfl, s19 _ _ a18.h, by omega⟩
    have ek19 := k019.at ek8
    have ap19 := k019.at ap8
    have ab19 : ∀ b ∈ bs, At (deckW d pl ps) H19 b.1 (.lst (b.2.map V.int)) := fun b hb => k019.at (ab8 b hb)
    wtm_at "w"
    refine i_lstA (sq_of g19) ?_
    refine lk_list (xs := [.ref q5, .ref q8, .ref q10, .ref q12]) (fun t σ H' => ∃ y9, σ = [some (.ref d), some (.ref kp), some (.int n), some (.ref p), some (.int m), some (.int J), some (.ref r1), some (.int T), some (.ref q11), y9] ∧ Same H19 H') ⟨_, rfl, fun _ _ z => z⟩ (fun t σ H' _ z => by obtain ⟨_, _, s⟩ := z; exact sq_of (s _ _ g19)) ?_ ?_
    · rintro t x σ H20 hx ⟨y9, rfl, s20⟩
      obtain ⟨tt, xs, rfl, etx, hxl⟩ := near x (List.mem_of_getElem? hx)
      wtm_at "w"
      refine u_is_sum (s20 _ _ ek19.h) hk (by omega) (sq_of (s20 _ _ etx)) (s20 _ _ etx) (by omega) fun L21 b H21 s21 hL21 hb21 => ?_
      have eL := hL.uniq hL21
      subst eL
      have s2 := s20.trans s21
      wtm_at "w"
      refine i_inRows (s2 _ _ etx) (s2 _ _ ap19.h) (fun b hb => s2 _ _ (ab19 b hb).h) ?_
      have eqb : b = decide (xs ∈ bs.map (·.2)) := by
        rw [Bool.eq_iff_iff, decide_eq_true_iff, hb21, hall]
      subst eqb
      refine k_neBB ?_
      wtm_at "w"
      refine i_F (by simp) ?_
      wtm_at "w"
      exact ⟨_, rfl, s2⟩
    · rintro σ H20 ⟨y9, rfl, s20⟩
      exact ⟨_, _, _, _, _, rfl, k8.trans (k019.same s20)⟩
  · rintro σ H8 ⟨y5, y6, y7, y8, y9, rfl, k8⟩
    wtm_at "w"
    exact h _ (k7.trans k8)
theorem law_k11_ok {a : Addr} {ns : List Int} (hs : SqL G.K H a (ns.map V.int)) (hl : ns.length ≤ 63) (hq : ∀ H', Q (.bl true) H') : sp_law_k11 G [.ref a] H Q E := by
  refine ⟨rfl, ?_⟩
  unfold t_law_k11
  wtm_at "w"
  refine u_law_deck hs hl fun d pl ps H1 s1 i1 => ?_
  wtm_at "w"
  refine i_rngA1 (by decide) ?_
  refine lk_range (fun i σ H' => ∃ y2 y3 y4, σ = [some (.ref a), some (.ref d), y2, y3, y4] ∧ DkI d pl ps H') ⟨_, _, _, rfl, i1⟩ ?_ ?_
  · rintro i σ H2 hi ⟨y2, y3, y4, rfl, i2⟩
    wtm_at "w"
    refine u_law_some_kinds i2 fun kp ks H3 k3 nk e3 kd => ?_
    wtm_at "w"
    refine u_law_draw k3.i (by decide) (by decide) fun r1 H4 a1 a2 k4 => ?_
    wtm_at "w"
    refine u_law_draw k4.i (by decide) (by decide) fun r2 H5 b1 b2 k5 => ?_
    wtm_at "w"
    refine i_new (by simp) fun q nq => ?_
    have k45 := k4.trans k5
    have k6 := k45.new (o := .lst [.int r1, .int r2, .int 24, .int 0]) nq
    have e6 : At (deckW d pl ps) (upd H5 q (.lst [.int r1, .int r2, .int 24, .int 0])) q (.lst [.int r1, .int r2, .int 24, .int 0]) := At.new k45.i nq
    generalize upd H5 q (.lst [.int r1, .int r2, .int 24, .int 0]) = H6 at k6 e6 ⊢
    have near : ∀ v ∈ [V.int r1, .int r2, .int 24, .int 0], ∃ N : Nat, v = .int (N : Int) ∧ N ≤ 24 := by
      intro v hv
      simp only [List.mem_cons, List.not_mem_nil, or_false] at hv
      rcases hv with rfl | rfl | rfl | rfl
      · exact ⟨r1.toNat, by rw [show (r1.toNat : Int) = r1 by omega], by omega⟩
      · exact ⟨r2.toNat, by rw [show (r2.toNat : Int) = r2 by omega], by omega⟩
      · exact ⟨24, rfl, by omega⟩
      · exact ⟨0, rfl, by omega⟩
    have ek6 := k6.at e3
    wtm_at "w"
    refine i_lstA (sq_of e6.h) ?_
    refine lk_list (xs := [.int r1, .int r2, .int 24, .int 0]) (fun t σ H' => ∃ y4, σ = [some (.ref a), some (.ref d), some (.int (0 + (i : Nat))), some (.ref kp), y4] ∧ Kp (deckW d pl ps) H6 H') ⟨_, rfl, Kp.refl (W := deckW d pl ps) k6.i⟩ (fun t σ H' _ z => by obtain ⟨_, _, k⟩ := z; exact sq_of (k.at e6).h) ?_ ?_
    · rintro t x σ H7 hx ⟨y4, rfl, k7⟩
      obtain ⟨N, rfl, hN⟩ := near x (List.mem_of_getElem? hx)
      wtm_at "w"
      refine u_law_right_v6 k7.i (k7.at ek6) kd hN fun H8 k8 => ?_
      wtm_at "w"
      exact ⟨_, rfl, k7.trans k8⟩
    · rintro σ H7 ⟨y4, rfl, k7⟩
      exact ⟨_, _, _, rfl, k7.i⟩
  · rintro σ H2 ⟨y2, y3, y4, rfl, i2⟩
    wtm_at "w"
    exact hq _
end
/-! ### the text of the row -/
def topS (i : Nat) : Stmt := PySem.Challenge.pw_fewshapes_k11_whole_by_all_sums.main.body.getD i (.Pass ⟨0, 0, 0, 0⟩)
abbrev s_is_whole : Stmt := topS 10
theorem sc_is_whole : FnScope ["thing"] ["thing"] (defScope s_is_whole) := ⟨rfl, rfl, rfl, by decide +kernel, rfl, by decide +kernel, by decide +kernel⟩
abbrev s_is_kind : Stmt := topS 11
theorem sc_is_kind : FnScope ["thing"] ["thing"] (defScope s_is_kind) := ⟨rfl, rfl, rfl, by decide +kernel, rfl, by decide +kernel, by decide +kernel⟩
abbrev s_are_kinds : Stmt := topS 12
theorem sc_are_kinds : FnScope ["thing", "kind", "k"] ["thing"] (defScope s_are_kinds) := ⟨rfl, rfl, rfl, by decide +kernel, rfl, by decide +kernel, by decide +kernel⟩
abbrev s_need_kinds : Stmt := topS 13
theorem sc_need_kinds : FnScope ["thing"] ["thing"] (defScope s_need_kinds) := ⟨rfl, rfl, rfl, by decide +kernel, rfl, by decide +kernel, by decide +kernel⟩
abbrev s_need_to_most : Stmt := topS 14
theorem sc_need_to_most : FnScope ["thing"] ["thing"] (defScope s_need_to_most) := ⟨rfl, rfl, rfl, by decide +kernel, rfl, by decide +kernel, by decide +kernel⟩
abbrev s_dots : Stmt := topS 15
theorem sc_dots : FnScope ["kind", "k"] ["kind", "k"] (defScope s_dots) := ⟨rfl, rfl, rfl, by decide +kernel, rfl, by decide +kernel, by decide +kernel⟩
abbrev s_stock_of : Stmt := topS 16
theorem sc_stock_of : FnScope ["kinds", "b", "found", "kind", "k"] ["kinds", "b"] (defScope s_stock_of) := ⟨rfl, rfl, rfl, by decide +kernel, rfl, by decide +kernel, by decide +kernel⟩
abbrev s_is_sum : Stmt := topS 18
theorem sc_is_sum : FnScope ["kinds", "n", "thing", "stock", "part", "k"] ["kinds", "n", "thing"] (defScope s_is_sum) := ⟨rfl, rfl, rfl, by decide +kernel, rfl, by decide +kernel, by decide +kernel⟩
abbrev s_fewest_by : Stmt := topS 19
theorem sc_fewest_by : FnScope ["stock", "b", "found", "n", "part"] ["stock", "b"] (defScope s_fewest_by) := ⟨rfl, rfl, rfl, by decide +kernel, rfl, by decide +kernel, by decide +kernel⟩
abbrev s_fewest_parts : Stmt := topS 20
theorem sc_fewest_parts : FnScope ["kinds", "n"] ["kinds", "n"] (defScope s_fewest_parts) := ⟨rfl, rfl, rfl, by decide +kernel, rfl, by decide +kernel, by decide +kernel⟩
abbrev s_fewest_to : Stmt := topS 21
theorem sc_fewest_to : FnScope ["kinds", "b"] ["kinds", "b"] (defScope s_fewest_to) := ⟨rfl, rfl, rfl, by decide +kernel, rfl, by decide +kernel, by decide +kernel⟩
abbrev s_tables_of : Stmt := topS 22
theorem sc_tables_of : FnScope ["stock", "n", "found", "part", "number"] ["stock", "n"] (defScope s_tables_of) := ⟨rfl, rfl, rfl, by decide +kernel, rfl, by decide +kernel, by decide +kernel⟩
abbrev s_first_sum : Stmt := topS 23
theorem sc_first_sum : FnScope ["kinds", "n", "stock", "tables", "found", "left", "wanted", "at"] ["kinds", "n"] (defScope s_first_sum) := ⟨rfl, rfl, rfl, by decide +kernel, rfl, by decide +kernel, by decide +kernel⟩
abbrev s_law_deck : Stmt := topS 25
theorem sc_law_deck : FnScope ["script", "pools", "k", "cell"] ["script"] (defScope s_law_deck) := ⟨rfl, rfl, rfl, by decide +kernel, rfl, by decide +kernel, by decide +kernel⟩
abbrev s_law_draw : Stmt := topS 26
theorem sc_law_draw : FnScope ["deck", "many", "pool", "found", "number"] ["deck", "many"] (defScope s_law_draw) := ⟨rfl, rfl, rfl, by decide +kernel, rfl, by decide +kernel, by decide +kernel⟩
abbrev s_law_some_kinds : Stmt := topS 27
theorem sc_law_some_kinds : FnScope ["deck", "left", "k"] ["deck"] (defScope s_law_some_kinds) := ⟨rfl, rfl, rfl, by decide +kernel, rfl, by decide +kernel, by decide +kernel⟩
abbrev s_law_dots : Stmt := topS 28
theorem sc_law_dots : FnScope ["kind", "most", "found", "k", "number", "more"] ["kind", "most"] (defScope s_law_dots) := ⟨rfl, rfl, rfl, by decide +kernel, rfl, by decide +kernel, by decide +kernel⟩
abbrev s_law_stock : Stmt := topS 29
theorem sc_law_stock : FnScope ["kinds", "most", "found", "kind", "number"] ["kinds", "most"] (defScope s_law_stock) := ⟨rfl, rfl, rfl, by decide +kernel, rfl, by decide +kernel, by decide +kernel⟩
abbrev s_law_all_v2 : Stmt := topS 30
theorem sc_law_all_v2 : FnScope ["stock", "n", "found", "waiting", "some", "left", "last", "part"] ["stock", "n"] (defScope s_law_all_v2) := ⟨rfl, rfl, rfl, by decide +kernel, rfl, by decide +kernel, by decide +kernel⟩
abbrev s_law_any : Stmt := topS 31
theorem sc_law_any : FnScope ["deck", "n", "found"] ["deck", "n"] (defScope s_law_any) := ⟨rfl, rfl, rfl, by decide +kernel, rfl, by decide +kernel, by decide +kernel⟩
abbrev s_law_right_v6 : Stmt := topS 32
theorem sc_law_right_v6 : FnScope ["deck", "kinds", "n", "rows", "fewest", "k", "row", "at", "some", "near"] ["deck", "kinds", "n"] (defScope s_law_right_v6) := ⟨rfl, rfl, rfl, by decide +kernel, rfl, by decide +kernel, by decide +kernel⟩
abbrev s_law_k11 : Stmt := topS 33
theorem sc_law_k11 : FnScope ["script", "deck", "k", "kinds", "n"] ["script"] (defScope s_law_k11) := ⟨rfl, rfl, rfl, by decide +kernel, rfl, by decide +kernel, by decide +kernel⟩
/-- what the top has left -/
structure Txt (G : Gx) (mg : Str → Option Value) where
  a_is_whole : Addr
  d_is_whole : FuncData
  F_is_whole : Fun G.K "is_whole" "is_whole" s_is_whole a_is_whole d_is_whole
  b_is_whole : Binds G.K d_is_whole ["thing"] []
  g_is_whole : mg "is_whole" = some (.ref a_is_whole)
  a_is_kind : Addr
  d_is_kind : FuncData
  F_is_kind : Fun G.K "is_kind" "is_kind" s_is_kind a_is_kind d_is_kind
  b_is_kind : Binds G.K d_is_kind ["thing"] []
  g_is_kind : mg "is_kind" = some (.ref a_is_kind)
  a_are_kinds : Addr
  d_are_kinds : FuncData
  F_are_kinds : Fun G.K "are_kinds" "are_kinds" s_are_kinds a_are_kinds d_are_kinds
  b_are_kinds : Binds G.K d_are_kinds ["thing"] []
  g_are_kinds : mg "are_kinds" = some (.ref a_are_kinds)
  a_need_kinds : Addr
  d_need_kinds : FuncData
  F_need_kinds : Fun G.K "need_kinds" "need_kinds" s_need_kinds a_need_kinds d_need_kinds
  b_need_kinds : Binds G.K d_need_kinds ["thing"] []
  g_need_kinds : mg "need_kinds" = some (.ref a_need_kinds)
  a_need_to_most : Addr
  d_need_to_most : FuncData
  F_need_to_most : Fun G.K "need_to_most" "need_to_most" s_need_to_most a_need_to_most d_need_to_most
  b_need_to_most : Binds G.K d_need_to_most ["thing"] []
  g_need_to_most : mg "need_to_most" = some (.ref a_need_to_most)
  a_dots : Addr
  d_dots : FuncData
  F_dots : Fun G.K "dots" "dots" s_dots a_dots d_dots
  b_dots : Binds G.K d_dots ["kind", "k"] []
  g_dots : mg "dots" = some (.ref a_dots)
  a_stock_of : Addr
  d_stock_of : FuncData
  F_stock_of : Fun G.K "stock_of" "stock_of" s_stock_of a_stock_of d_stock_of
  b_stock_of : Binds G.K d_stock_of ["kinds", "b"] []
  g_stock_of : mg "stock_of" = some (.ref a_stock_of)
  a_is_sum : Addr
  d_is_sum : FuncData
  F_is_sum : Fun G.K "is_sum" "is_sum" s_is_sum a_is_sum d_is_sum
  b_is_sum : Binds G.K d_is_sum ["kinds", "n", "thing"] []
  g_is_sum : mg "is_sum" = some (.ref a_is_sum)
  a_fewest_by : Addr
  d_fewest_by : FuncData
  F_fewest_by : Fun G.K "fewest_by" "fewest_by" s_fewest_by a_fewest_by d_fewest_by
  b_fewest_by : Binds G.K d_fewest_by ["stock", "b"] []
  g_fewest_by : mg "fewest_by" = some (.ref a_fewest_by)
  a_fewest_parts : Addr
  d_fewest_parts : FuncData
  F_fewest_parts : Fun G.K "fewest_parts" "fewest_parts" s_fewest_parts a_fewest_parts d_fewest_parts
  b_fewest_parts : Binds G.K d_fewest_parts ["kinds", "n"] []
  g_fewest_parts : mg "fewest_parts" = some (.ref a_fewest_parts)
  a_fewest_to : Addr
  d_fewest_to : FuncData
  F_fewest_to : Fun G.K "fewest_to" "fewest_to" s_fewest_to a_fewest_to d_fewest_to
  b_fewest_to : Binds G.K d_fewest_to ["kinds", "b"] []
  g_fewest_to : mg "fewest_to" = some (.ref a_fewest_to)
  a_tables_of : Addr
  d_tables_of : FuncData
  F_tables_of : Fun G.K "tables_of" "tables_of" s_tables_of a_tables_of d_tables_of
  b_tables_of : Binds G.K d_tables_of ["stock", "n"] []
  g_tables_of : mg "tables_of" = some (.ref a_tables_of)
  a_first_sum : Addr
  d_first_sum : FuncData
  F_first_sum : Fun G.K "first_sum" "first_sum" s_first_sum a_first_sum d_first_sum
  b_first_sum : Binds G.K d_first_sum ["kinds", "n"] []
  g_first_sum : mg "first_sum" = some (.ref a_first_sum)
  a_law_deck : Addr
  d_law_deck : FuncData
  F_law_deck : Fun G.K "_law_deck" "_law_deck" s_law_deck a_law_deck d_law_deck
  b_law_deck : Binds G.K d_law_deck ["script"] []
  g_law_deck : mg "_law_deck" = some (.ref a_law_deck)
  a_law_draw : Addr
  d_law_draw : FuncData
  F_law_draw : Fun G.K "_law_draw" "_law_draw" s_law_draw a_law_draw d_law_draw
  b_law_draw : Binds G.K d_law_draw ["deck", "many"] []
  g_law_draw : mg "_law_draw" = some (.ref a_law_draw)
  a_law_some_kinds : Addr
  d_law_some_kinds : FuncData
  F_law_some_kinds : Fun G.K "_law_some_kinds" "_law_some_kinds" s_law_some_kinds a_law_some_kinds d_law_some_kinds
  b_law_some_kinds : Binds G.K d_law_some_kinds ["deck"] []
  g_law_some_kinds : mg "_law_some_kinds" = some (.ref a_law_some_kinds)
  a_law_dots : Addr
  d_law_dots : FuncData
  F_law_dots : Fun G.K "_law_dots" "_law_dots" s_law_dots a_law_dots d_law_dots
  b_law_dots : Binds G.K d_law_dots ["kind", "most"] []
  g_law_dots : mg "_law_dots" = some (.ref a_law_dots)
  a_law_stock : Addr
  d_law_stock : FuncData
  F_law_stock : Fun G.K "_law_stock" "_law_stock" s_law_stock a_law_stock d_law_stock
  b_law_stock : Binds G.K d_law_stock ["kinds", "most"] []
  g_law_stock : mg "_law_stock" = some (.ref a_law_stock)
  a_law_all_v2 : Addr
  d_law_all_v2 : FuncData
  F_law_all_v2 : Fun G.K "_law_all" "_law_all" s_law_all_v2 a_law_all_v2 d_law_all_v2
  b_law_all_v2 : Binds G.K d_law_all_v2 ["stock", "n"] []
  g_law_all : mg "_law_all" = some (.ref a_law_all_v2)
  a_law_any : Addr
  d_law_any : FuncData
  F_law_any : Fun G.K "_law_any" "_law_any" s_law_any a_law_any d_law_any
  b_law_any : Binds G.K d_law_any ["deck", "n"] []
  g_law_any : mg "_law_any" = some (.ref a_law_any)
  a_law_right_v6 : Addr
  d_law_right_v6 : FuncData
  F_law_right_v6 : Fun G.K "_law_right" "_law_right" s_law_right_v6 a_law_right_v6 d_law_right_v6
  b_law_right_v6 : Binds G.K d_law_right_v6 ["deck", "kinds", "n"] []
  g_law_right : mg "_law_right" = some (.ref a_law_right_v6)
  a_law_k11 : Addr
  d_law_k11 : FuncData
  F_law_k11 : Fun G.K "law" "law" s_law_k11 a_law_k11 d_law_k11
  b_law_k11 : Binds G.K d_law_k11 ["script"] []
  g_law : mg "law" = some (.ref a_law_k11)
  n_bool : mg "bool" = none
  n_enumerate : mg "enumerate" = none
  n_int : mg "int" = none
  n_isinstance : mg "isinstance" = none
  n_len : mg "len" = none
  n_list : mg "list" = none
  n_max : mg "max" = none
  n_min : mg "min" = none
  n_range : mg "range" = none
  n_sorted : mg "sorted" = none
  n_str : mg "str" = none
  n_sum : mg "sum" = none
  k_CUBES : Tok
  c_CUBES : mg "CUBES" = some (.str "cubes" k_CUBES)
  k_FEWEST_CORNERS : Tok
  c_FEWEST_CORNERS : mg "FEWEST_CORNERS" = some (.int 3 k_FEWEST_CORNERS)
  k_MOST : Tok
  c_MOST : mg "MOST" = some (.int 200 k_MOST)
  k_MOST_CORNERS : Tok
  c_MOST_CORNERS : mg "MOST_CORNERS" = some (.int 12 k_MOST_CORNERS)
  k_MOST_KINDS : Tok
  c_MOST_KINDS : mg "MOST_KINDS" = some (.int 5 k_MOST_KINDS)
section
variable {P : Program} {w : World} {G : Gx} {mg : Str → Option Value} {base : Heap}
theorem ok_is_whole (T : Txt G mg) : FnOk P w G.K mg base CX0 1 T.a_is_whole T.d_is_whole ["thing"] (sp0 (sp_is_whole G)) := by
  refine T.F_is_whole.ok sc_is_whole (fun vs H Q E h => h.1) (fun cdv A outer s H vs Q E hr h => ⟨t_is_whole G E0, ?_, h.2⟩)
  exact (pss_one (ps_ret (pe_and (pe_callB k_isi (by rfl) T.n_isinstance (by decide +kernel) (pa_cons (pv 0) (pa_cons (pe_bltn (by rfl) T.n_int (by decide +kernel) rfl) pa_nil))) (pe_one (pe_not (pe_callB k_isi (by rfl) T.n_isinstance (by decide +kernel) (pa_cons (pv 0) (pa_cons (pe_bltn (by rfl) T.n_bool (by decide +kernel) rfl) pa_nil))))))))
theorem ok_is_kind (T : Txt G mg) : FnOk P w G.K mg base CX0 2 T.a_is_kind T.d_is_kind ["thing"] (sp0 (sp_is_kind G)) := by
  refine T.F_is_kind.ok sc_is_kind (fun vs H Q E h => h.1) (fun cdv A outer s H vs Q E hr h => ⟨t_is_kind G E0, ?_, h.2⟩)
  exact (pss_cons (ps_if (pt_val (pe_callB k_isi (by rfl) T.n_isinstance (by decide +kernel) (pa_cons (pv 0) (pa_cons (pe_bltn (by rfl) T.n_str (by decide +kernel) rfl) pa_nil)))) (pss_one (ps_ret (pe_cmpR (o_eq hr.units) (pv 0) (pe_glob (by rfl) T.c_CUBES ⟨_, rfl⟩) (nomark _)))) pss_nil)
      (pss_one (ps_ret (pe_and (pcall (ok_is_whole T) (hr.mono (by decide)) (by rfl) T.g_is_whole T.F_is_whole.kp T.b_is_whole (pa_cons (pv 0) pa_nil)) (pe_one (pe_chain o_le o_le (pe_glob (by rfl) T.c_FEWEST_CORNERS ⟨_, rfl⟩) (pv 0) (pe_glob (by rfl) T.c_MOST_CORNERS ⟨_, rfl⟩)))))))
theorem ok_are_kinds (T : Txt G mg) : FnOk P w G.K mg base CX0 3 T.a_are_kinds T.d_are_kinds ["thing"] (sp0 (sp_are_kinds G)) := by
  refine T.F_are_kinds.ok sc_are_kinds (fun vs H Q E h => h.1) (fun cdv A outer s H vs Q E hr h => ⟨t_are_kinds G E0, ?_, h.2⟩)
  exact (pss_cons (ps_if (PW.pt (pw_or (pt_not (pt_val (pe_callB k_isi (by rfl) T.n_isinstance (by decide +kernel) (pa_cons (pv 0) (pa_cons (pe_bltn (by rfl) T.n_list (by decide +kernel) rfl) pa_nil))))) (pw_or1 (pt_not (pt_chain o_le o_le pe_int (pe_callB k_len (by rfl) T.n_len (by decide +kernel) (pa_cons (pv 0) pa_nil)) (pe_glob (by rfl) T.c_MOST_KINDS ⟨_, rfl⟩)))))) (pss_one (ps_ret pe_bl)) pss_nil)
      (pss_cons (ps_if (pt_cmpR (o_ne hr.units) (pe_lc (own := [("kind", 1)]) (g := (gName 1)) (tt := (tNot (tB (tCall (sp_is_kind G) [] E0 (tCons (tVar 1) tNil))))) (by rfl) sc_are_kinds.nd  (pi_list (pv 0)) (blkOk_by (own := [("kind", 1)]) (N := ["thing", "kind", "k"]) (sc := defScope s_are_kinds) (by decide +kernel)) (fun _ _ _ _ _ => (pgn 1 sc_are_kinds.nd)) (fun _ _ _ _ _ => (pts_one (pt_not (pt_val (pcall (ok_is_kind T) (hr.mono (by decide)) (by rfl) T.g_is_kind T.F_is_kind.kp T.b_is_kind (pa_cons (pv 1) pa_nil)))))) (fun _ _ _ _ _ => (pv 1))) (pe_lst pa_nil) (nomark _)) (pss_one (ps_ret pe_bl)) pss_nil)
      (pss_one (ps_ret (pe_cmpR (o_eq hr.units) (pe_lc (own := [("k", 2), ("kind", 1)]) (g := (gTup G.K 2 (gCons (gName 2) (gCons (gName 1) gNil)))) (tt := (tTest (tOp (uIn G.K) (tVar 1) (tSl (uSl G.K) (tVar 0) tNoPart (tPart (tVar 2)))))) (by rfl) sc_are_kinds.nd  (pi_enum (by rfl) T.n_enumerate (pa_cons (pv 0) pa_nil)) (blkOk_by (own := [("k", 2), ("kind", 1)]) (N := ["thing", "kind", "k"]) (sc := defScope s_are_kinds) (by decide +kernel)) (fun _ _ _ _ _ => (pg_tup (by rfl) (pgs_cons (pgn 2 sc_are_kinds.nd) (pgs_cons (pgn 1 sc_are_kinds.nd) pgs_nil)))) (fun _ _ _ _ _ => (pts_one (pt_cmpR o_in (pv 1) (pe_slice o_sl (pv 0) po_none (po_some (pv 2))) (by rfl)))) (fun _ _ _ _ _ => (pv 2))) (pe_lst pa_nil) (nomark _))))))
theorem ok_need_kinds (T : Txt G mg) : FnOk P w G.K mg base CX0 4 T.a_need_kinds T.d_need_kinds ["thing"] (sp0 (sp_need_kinds G)) := by
  refine T.F_need_kinds.ok sc_need_kinds (fun vs H Q E h => h.1) (fun cdv A outer s H vs Q E hr h => ⟨t_need_kinds G E0, ?_, h.2⟩)
  exact (pss_one (ps_if (pt_not (pt_val (pcall (ok_are_kinds T) (hr.mono (by decide)) (by rfl) T.g_are_kinds T.F_are_kinds.kp T.b_are_kinds (pa_cons (pv 0) pa_nil)))) (pss_one prz0) pss_nil))
theorem ok_need_to_most (T : Txt G mg) : FnOk P w G.K mg base CX0 2 T.a_need_to_most T.d_need_to_most ["thing"] (sp0 (sp_need_to_most G)) := by
  refine T.F_need_to_most.ok sc_need_to_most (fun vs H Q E h => h.1) (fun cdv A outer s H vs Q E hr h => ⟨t_need_to_most G E0, ?_, h.2⟩)
  exact (pss_one (ps_if (PW.pt (pw_or (pt_not (pt_val (pcall (ok_is_whole T) (hr.mono (by decide)) (by rfl) T.g_is_whole T.F_is_whole.kp T.b_is_whole (pa_cons (pv 0) pa_nil)))) (pw_or1 (pt_not (pt_chain o_le o_le pe_int (pv 0) (pe_glob (by rfl) T.c_MOST ⟨_, rfl⟩)))))) (pss_one prz0) pss_nil))
theorem ok_dots (T : Txt G mg) : FnOk P w G.K mg base CX0 1 T.a_dots T.d_dots ["kind", "k"] (sp0 (sp_dots G)) := by
  refine T.F_dots.ok sc_dots (fun vs H Q E h => h.1) (fun cdv A outer s H vs Q E hr h => ⟨t_dots G E0, ?_, h.2⟩)
  exact (pss_cons (ps_if (pt_cmpR (o_eq hr.units) (pv 0) (pe_glob (by rfl) T.c_CUBES ⟨_, rfl⟩) (nomark _)) (pss_one (ps_ret (pe_op o_mul (pe_op o_mul (pv 1) (pv 1)) (pv 1)))) pss_nil)
      (pss_one (ps_ret (pe_op o_add (pv 1) (pe_op o_mul (pe_op o_sub (pv 0) pe_int) (pe_op o_div (pe_op o_mul (pv 1) (pe_op o_sub (pv 1) pe_int)) pe_int))))))
theorem ok_stock_of (T : Txt G mg) : FnOk P w G.K mg base CX0 2 T.a_stock_of T.d_stock_of ["kinds", "b"] (sp0 (sp_stock_of G)) := by
  refine T.F_stock_of.ok sc_stock_of (fun vs H Q E h => h.1) (fun cdv A outer s H vs Q E hr h => ⟨t_stock_of G E0, ?_, h.2⟩)
  exact (pss_cons (pst 2 sc_stock_of.nd pe_dnewK)
      (pss_cons (ps_for PassesOwn.never (by rfl) (pi_list (pv 0)) (pgn 3 sc_stock_of.nd) (pss_cons (pst 4 sc_stock_of.nd pe_int)
      (pss_one (ps_while PassesOwn.never (pt_cmpR o_le (pcall (ok_dots T) (hr.mono (by decide)) (by rfl) T.g_dots T.F_dots.kp T.b_dots (pa_cons (pv 3) (pa_cons (pv 4) pa_nil))) (pv 1) (nomark _)) (pss_cons (ps_asg pe_bl (pg_sub (pv 2) (pcall (ok_dots T) (hr.mono (by decide)) (by rfl) T.g_dots T.F_dots.kp T.b_dots (pa_cons (pv 3) (pa_cons (pv 4) pa_nil))) (s_any (hu_of hr))))
      (pss_one (pau 4 sc_stock_of.nd pe_int ip_add)))))))
      (pss_one (ps_ret (pe_callB (k_sorted (by rfl)) (by rfl) T.n_sorted (by decide +kernel) (pa_cons (pv 2) pa_nil))))))
theorem ok_is_sum (T : Txt G mg) : FnOk P w G.K mg base CX0 5 T.a_is_sum T.d_is_sum ["kinds", "n", "thing"] (sp0 (sp_is_sum G)) := by
  refine T.F_is_sum.ok sc_is_sum (fun vs H Q E h => h.1) (fun cdv A outer s H vs Q E hr h => ⟨t_is_sum G E0, ?_, h.2⟩)
  exact (pss_cons (ps_expr (pcall (ok_need_kinds T) (hr.mono (by decide)) (by rfl) T.g_need_kinds T.F_need_kinds.kp T.b_need_kinds (pa_cons (pv 0) pa_nil)))
      (pss_cons (ps_expr (pcall (ok_need_to_most T) (hr.mono (by decide)) (by rfl) T.g_need_to_most T.F_need_to_most.kp T.b_need_to_most (pa_cons (pv 1) pa_nil)))
      (pss_cons (ps_if (PW.pt (pw_or (pt_not (pt_val (pe_callB k_isi (by rfl) T.n_isinstance (by decide +kernel) (pa_cons (pv 2) (pa_cons (pe_bltn (by rfl) T.n_list (by decide +kernel) rfl) pa_nil))))) (pw_or1 (pt_cmpR (o_ne hr.units) (pe_lc (own := [("part", 4)]) (g := (gName 4)) (tt := (tNot (tB (tCall (sp_is_whole G) [] E0 (tCons (tVar 4) tNil))))) (by rfl) sc_is_sum.nd  (pi_list (pv 2)) (blkOk_by (own := [("part", 4)]) (N := ["kinds", "n", "thing", "stock", "part", "k"]) (sc := defScope s_is_sum) (by decide +kernel)) (fun _ _ _ _ _ => (pgn 4 sc_is_sum.nd)) (fun _ _ _ _ _ => (pts_one (pt_not (pt_val (pcall (ok_is_whole T) (hr.mono (by decide)) (by rfl) T.g_is_whole T.F_is_whole.kp T.b_is_whole (pa_cons (pv 4) pa_nil)))))) (fun _ _ _ _ _ => (pv 4))) (pe_lst pa_nil) (nomark _))))) (pss_one (ps_ret pe_bl)) pss_nil)
      (pss_cons (pst 3 sc_is_sum.nd (pcall (ok_stock_of T) (hr.mono (by decide)) (by rfl) T.g_stock_of T.F_stock_of.kp T.b_stock_of (pa_cons (pv 0) (pa_cons (pv 1) pa_nil))))
      (pss_cons (ps_if (PW.pt (pw_or (pt_cmpR (o_ne hr.units) (pe_lc (own := [("part", 4)]) (g := (gName 4)) (tt := (tTest (tOp (uNotIn G.K) (tVar 4) (tVar 3)))) (by rfl) sc_is_sum.nd  (pi_list (pv 2)) (blkOk_by (own := [("part", 4)]) (N := ["kinds", "n", "thing", "stock", "part", "k"]) (sc := defScope s_is_sum) (by decide +kernel)) (fun _ _ _ _ _ => (pgn 4 sc_is_sum.nd)) (fun _ _ _ _ _ => (pts_one (pt_cmpR o_notIn (pv 4) (pv 3) (by rfl)))) (fun _ _ _ _ _ => (pv 4))) (pe_lst pa_nil) (nomark _)) (pw_or1 (pt_cmpR (o_ne hr.units) (pe_callB (k_sum (by rfl)) (by rfl) T.n_sum (by decide +kernel) (pa_cons (pv 2) pa_nil)) (pv 1) (nomark _))))) (pss_one (ps_ret pe_bl)) pss_nil)
      (pss_one (ps_ret (pe_cmpR (o_eq hr.units) (pe_lc (own := [("k", 5)]) (g := (gName 5)) (tt := (tTest (tOp uLt (tOp (uIx G.K) (tVar 2) (tOp uSub (tVar 5) (tC (.int 1)))) (tOp (uIx G.K) (tVar 2) (tVar 5))))) (by rfl) sc_is_sum.nd  (pi_range2 (by rfl) T.n_range (pa_cons pe_int (pa_cons (pe_callB k_len (by rfl) T.n_len (by decide +kernel) (pa_cons (pv 2) pa_nil)) pa_nil))) (blkOk_by (own := [("k", 5)]) (N := ["kinds", "n", "thing", "stock", "part", "k"]) (sc := defScope s_is_sum) (by decide +kernel)) (fun _ _ _ _ _ => (pgn 5 sc_is_sum.nd)) (fun _ _ _ _ _ => (pts_one (pt_cmpR o_lt (pe_ix o_ix (pv 2) (pe_op o_sub (pv 5) pe_int) (fun _ _ => rfl)) (pe_ix o_ix (pv 2) (pv 5) (fun _ _ => rfl)) (nomark _)))) (fun _ _ _ _ _ => (pv 5))) (pe_lst pa_nil) (nomark _)))))))))
theorem ok_fewest_by (T : Txt G mg) : FnOk P w G.K mg base CX0 1 T.a_fewest_by T.d_fewest_by ["stock", "b"] (sp0 (sp_fewest_by G)) := by
  refine T.F_fewest_by.ok sc_fewest_by (fun vs H Q E h => h.1) (fun cdv A outer s H vs Q E hr h => ⟨t_fewest_by G E0, ?_, h.2⟩)
  exact (pss_cons (pst 2 sc_fewest_by.nd (pe_lst (pa_cons pe_int pa_nil)))
      (pss_cons (ps_for PassesOwn.never (by rfl) (pi_range2 (by rfl) T.n_range (pa_cons pe_int (pa_cons (pe_op o_add (pv 1) pe_int) pa_nil))) (pgn 3 sc_fewest_by.nd) (pss_one (ps_expr (pe_bm PySem.F.plainAttrs_list PySem.F.slot_list_append PySem.F.type_list_append mt_append (pv 2) (pa_cons (pe_op o_add pe_int (pe_callB (k_min (by rfl)) (by rfl) T.n_min (by decide +kernel) (pa_cons (pe_lc (own := [("part", 4)]) (g := (gName 4)) (tt := (tTest (tOp uLe (tVar 4) (tVar 3)))) (by rfl) sc_fewest_by.nd  (pi_list (pv 0)) (blkOk_by (own := [("part", 4)]) (N := ["stock", "b", "found", "n", "part"]) (sc := defScope s_fewest_by) (by decide +kernel)) (fun _ _ _ _ _ => (pgn 4 sc_fewest_by.nd)) (fun _ _ _ _ _ => (pts_one (pt_cmpR o_le (pv 4) (pv 3) (nomark _)))) (fun _ _ _ _ _ => (pe_ix o_ix (pv 2) (pe_op o_sub (pv 3) (pv 4)) (fun _ _ => rfl)))) pa_nil))) pa_nil)))))
      (pss_one (ps_ret (pv 2)))))
theorem ok_fewest_parts (T : Txt G mg) : FnOk P w G.K mg base CX0 5 T.a_fewest_parts T.d_fewest_parts ["kinds", "n"] (sp0 (sp_fewest_parts G)) := by
  refine T.F_fewest_parts.ok sc_fewest_parts (fun vs H Q E h => h.1) (fun cdv A outer s H vs Q E hr h => ⟨t_fewest_parts G E0, ?_, h.2⟩)
  exact (pss_cons (ps_expr (pcall (ok_need_kinds T) (hr.mono (by decide)) (by rfl) T.g_need_kinds T.F_need_kinds.kp T.b_need_kinds (pa_cons (pv 0) pa_nil)))
      (pss_cons (ps_expr (pcall (ok_need_to_most T) (hr.mono (by decide)) (by rfl) T.g_need_to_most T.F_need_to_most.kp T.b_need_to_most (pa_cons (pv 1) pa_nil)))
      (pss_one (ps_ret (pe_ix o_ix (pcall (ok_fewest_by T) (hr.mono (by decide)) (by rfl) T.g_fewest_by T.F_fewest_by.kp T.b_fewest_by (pa_cons (pcall (ok_stock_of T) (hr.mono (by decide)) (by rfl) T.g_stock_of T.F_stock_of.kp T.b_stock_of (pa_cons (pv 0) (pa_cons (pv 1) pa_nil))) (pa_cons (pv 1) pa_nil))) (pv 1) (fun _ _ => rfl))))))
theorem ok_fewest_to (T : Txt G mg) : FnOk P w G.K mg base CX0 5 T.a_fewest_to T.d_fewest_to ["kinds", "b"] (sp0 (sp_fewest_to G)) := by
  refine T.F_fewest_to.ok sc_fewest_to (fun vs H Q E h => h.1) (fun cdv A outer s H vs Q E hr h => ⟨t_fewest_to G E0, ?_, h.2⟩)
  exact (pss_cons (ps_expr (pcall (ok_need_kinds T) (hr.mono (by decide)) (by rfl) T.g_need_kinds T.F_need_kinds.kp T.b_need_kinds (pa_cons (pv 0) pa_nil)))
      (pss_cons (ps_expr (pcall (ok_need_to_most T) (hr.mono (by decide)) (by rfl) T.g_need_to_most T.F_need_to_most.kp T.b_need_to_most (pa_cons (pv 1) pa_nil)))
      (pss_one (ps_ret (pcall (ok_fewest_by T) (hr.mono (by decide)) (by rfl) T.g_fewest_by T.F_fewest_by.kp T.b_fewest_by (pa_cons (pcall (ok_stock_of T) (hr.mono (by decide)) (by rfl) T.g_stock_of T.F_stock_of.kp T.b_stock_of (pa_cons (pv 0) (pa_cons (pv 1) pa_nil))) (pa_cons (pv 1) pa_nil)))))))
theorem ok_tables_of (T : Txt G mg) : FnOk P w G.K mg base CX0 1 T.a_tables_of T.d_tables_of ["stock", "n"] (sp0 (sp_tables_of G)) := by
  refine T.F_tables_of.ok sc_tables_of (fun vs H Q E h => h.1) (fun cdv A outer s H vs Q E hr h => ⟨t_tables_of G E0, ?_, h.2⟩)
  exact (pss_cons (pst 2 sc_tables_of.nd (pe_lst pa_nil))
      (pss_cons (ps_for PassesOwn.never (by rfl) (pi_list (pv 0)) (pgn 3 sc_tables_of.nd) (pss_one (ps_if (pt_cmpR (o_eq hr.units) (pv 2) (pe_lst pa_nil) (nomark _)) (pss_one (ps_expr (pe_bm PySem.F.plainAttrs_list PySem.F.slot_list_append PySem.F.type_list_append mt_append (pv 2) (pa_cons (pe_listRg (by rfl) (by rfl) T.n_list (prg_1 (by rfl) T.n_range (pe_op o_add (pv 1) pe_int))) pa_nil)))) (pss_cons (ps_expr (pe_bm PySem.F.plainAttrs_list PySem.F.slot_list_append PySem.F.type_list_append mt_append (pv 2) (pa_cons (pe_callTy (k_list (by rfl)) (by rfl) T.n_list (by decide +kernel) (pa_cons (pe_ix o_ix (pv 2) (pe_un o_neg pe_int) (fun _ _ => rfl)) pa_nil)) pa_nil)))
      (pss_one (ps_for PassesOwn.never (by rfl) (pi_range2 (by rfl) T.n_range (pa_cons (pv 3) (pa_cons (pe_op o_add (pv 1) pe_int) pa_nil))) (pgn 4 sc_tables_of.nd) (pss_one (ps_asg (pe_callB (k_min (by rfl)) (by rfl) T.n_min (by decide +kernel) (pa_cons (pe_ix o_ix (pe_ix o_ix (pv 2) (pe_un o_neg pe_int) (fun _ _ => rfl)) (pv 4) (fun _ _ => rfl)) (pa_cons (pe_op o_add pe_int (pe_ix o_ix (pe_ix o_ix (pv 2) (pe_un o_neg pe_int) (fun _ _ => rfl)) (pe_op o_sub (pv 4) (pv 3)) (fun _ _ => rfl))) pa_nil))) (pg_sub (pe_ix o_ix (pv 2) (pe_un o_neg pe_int) (fun _ _ => rfl)) (pv 4) (s_any (hu_of hr)))))))))))
      (pss_one (ps_ret (pv 2)))))
theorem ok_first_sum (T : Txt G mg) : FnOk P w G.K mg base CX0 5 T.a_first_sum T.d_first_sum ["kinds", "n"] (sp0 (sp_first_sum G)) := by
  refine T.F_first_sum.ok sc_first_sum (fun vs H Q E h => h.1) (fun cdv A outer s H vs Q E hr h => ⟨t_first_sum G E0, ?_, h.2⟩)
  exact (pss_cons (ps_expr (pcall (ok_need_kinds T) (hr.mono (by decide)) (by rfl) T.g_need_kinds T.F_need_kinds.kp T.b_need_kinds (pa_cons (pv 0) pa_nil)))
      (pss_cons (ps_expr (pcall (ok_need_to_most T) (hr.mono (by decide)) (by rfl) T.g_need_to_most T.F_need_to_most.kp T.b_need_to_most (pa_cons (pv 1) pa_nil)))
      (pss_cons (pst 2 sc_first_sum.nd (pcall (ok_stock_of T) (hr.mono (by decide)) (by rfl) T.g_stock_of T.F_stock_of.kp T.b_stock_of (pa_cons (pv 0) (pa_cons (pv 1) pa_nil))))
      (pss_cons (pst 3 sc_first_sum.nd (pcall (ok_tables_of T) (hr.mono (by decide)) (by rfl) T.g_tables_of T.F_tables_of.kp T.b_tables_of (pa_cons (pv 2) (pa_cons (pv 1) pa_nil))))
      (pss_cons (pst 4 sc_first_sum.nd (pe_lst pa_nil))
      (pss_cons (pst 5 sc_first_sum.nd (pv 1))
      (pss_cons (pst 6 sc_first_sum.nd (pe_ifExp (pt_cmpR o_gt (pv 1) pe_int (nomark _)) (pe_ix o_ix (pe_ix o_ix (pv 3) (pe_un o_neg pe_int) (fun _ _ => rfl)) (pv 1) (fun _ _ => rfl)) pe_int))
      (pss_cons (ps_while PassesOwn.never (pt_cmpR o_gt (pv 5) pe_int (nomark _)) (pss_cons (pau 6 sc_first_sum.nd pe_int ip_sub)
      (pss_cons (pst 7 sc_first_sum.nd pe_int)
      (pss_cons (ps_while PassesOwn.never (PW.pt (pw_or (pt_cmpR o_gt (pe_ix o_ix (pv 2) (pv 7) (fun _ _ => rfl)) (pv 5) (nomark _)) (pw_or1 (pt_cmpR (o_ne hr.units) (pe_ix o_ix (pe_ix o_ix (pv 3) (pv 7) (fun _ _ => rfl)) (pe_op o_sub (pv 5) (pe_ix o_ix (pv 2) (pv 7) (fun _ _ => rfl))) (fun _ _ => rfl)) (pv 6) (nomark _))))) (pss_one (pau 7 sc_first_sum.nd pe_int ip_add)))
      (pss_cons (ps_expr (pe_bm PySem.F.plainAttrs_list PySem.F.slot_list_append PySem.F.type_list_append mt_append (pv 4) (pa_cons (pe_ix o_ix (pv 2) (pv 7) (fun _ _ => rfl)) pa_nil)))
      (pss_one (pau 5 sc_first_sum.nd (pe_ix o_ix (pv 2) (pv 7) (fun _ _ => rfl)) ip_sub)))))))
      (pss_one (ps_ret (pv 4)))))))))))
theorem ok_law_deck (T : Txt G mg) : FnOk P w G.K mg base CX0 1 T.a_law_deck T.d_law_deck ["script"] (sp0 (sp_law_deck G)) := by
  refine T.F_law_deck.ok sc_law_deck (fun vs H Q E h => h.1) (fun cdv A outer s H vs Q E hr h => ⟨t_law_deck G E0, ?_, h.2⟩)
  exact (pss_cons (pst 1 sc_law_deck.nd (pe_lst pa_nil))
      (pss_cons (ps_for PassesOwn.never (by rfl) (pi_range1 (by rfl) T.n_range (pa_cons (pe_callB (k_max (by rfl)) (by rfl) T.n_max (by decide +kernel) (pa_cons pe_int (pa_cons (pe_callB (k_min (by rfl)) (by rfl) T.n_min (by decide +kernel) (pa_cons pe_int (pa_cons (pe_callB k_len (by rfl) T.n_len (by decide +kernel) (pa_cons (pv 0) pa_nil)) pa_nil))) pa_nil))) pa_nil)) (pgn 2 sc_law_deck.nd) (pss_cons (pst 3 sc_law_deck.nd pe_int)
      (pss_cons (ps_if (pt_cmpR o_lt (pv 2) (pe_callB k_len (by rfl) T.n_len (by decide +kernel) (pa_cons (pv 0) pa_nil)) (nomark _)) (pss_one (pst 3 sc_law_deck.nd (pe_ix o_ix (pv 0) (pv 2) (fun _ _ => rfl)))) pss_nil)
      (pss_one (ps_expr (pe_bm PySem.F.plainAttrs_list PySem.F.slot_list_append PySem.F.type_list_append mt_append (pv 1) (pa_cons (pe_lst (pa_cons (pv 3) (pa_cons (pe_callTy k_int (by rfl) T.n_int (by decide +kernel) (pa_cons (pe_cmpR o_ge (pv 3) (pe_op o_pow pe_int pe_int) (nomark _)) pa_nil)) (pa_cons (pe_op o_mul pe_int (pv 2)) pa_nil)))) pa_nil)))))))
      (pss_one (ps_ret (pe_lst (pa_cons (pv 1) (pa_cons pe_int pa_nil)))))))
theorem ok_law_draw (T : Txt G mg) : FnOk P w G.K mg base CX0 1 T.a_law_draw T.d_law_draw ["deck", "many"] (sp0 (sp_law_draw G)) := by
  refine T.F_law_draw.ok sc_law_draw (fun vs H Q E h => h.1) (fun cdv A outer s H vs Q E hr h => ⟨t_law_draw G E0, ?_, h.2⟩)
  exact (pss_cons (pst 2 sc_law_draw.nd (pe_ix o_ix (pe_ix o_ix (pv 0) pe_int (fun _ _ => rfl)) (pe_op o_mod (pe_ix o_ix (pv 0) pe_int (fun _ _ => rfl)) (pe_callB k_len (by rfl) T.n_len (by decide +kernel) (pa_cons (pe_ix o_ix (pv 0) pe_int (fun _ _ => rfl)) pa_nil))) (fun _ _ => rfl)))
      (pss_cons (ps_asg (pe_op o_add (pe_ix o_ix (pv 0) pe_int (fun _ _ => rfl)) pe_int) (pg_sub (pv 0) pe_int (s_any (hu_of hr))))
      (pss_cons (ps_if (PW.pt (pw_and (pt_cmpR (o_eq hr.units) (pe_ix o_ix (pv 2) pe_int (fun _ _ => rfl)) pe_int (nomark _)) (pw_and1 (pt_cmpR o_gt (pe_ix o_ix (pv 2) pe_int (fun _ _ => rfl)) pe_int (nomark _))))) (pss_cons (pst 3 sc_law_draw.nd (pe_op o_mod (pe_ix o_ix (pv 2) pe_int (fun _ _ => rfl)) (pv 1)))
      (pss_cons (ps_asg (pe_op o_div (pe_ix o_ix (pv 2) pe_int (fun _ _ => rfl)) (pv 1)) (pg_sub (pv 2) pe_int (s_any (hu_of hr))))
      (pss_one (ps_ret (pv 3))))) pss_nil)
      (pss_cons (ps_asg (pe_op o_add (pe_ix o_ix (pv 2) pe_int (fun _ _ => rfl)) pe_int) (pg_sub (pv 2) pe_int (s_any (hu_of hr))))
      (pss_cons (pst 4 sc_law_draw.nd (pe_op o_mod (pe_op o_add (pe_op o_mod (pe_ix o_ix (pv 2) pe_int (fun _ _ => rfl)) pe_int) (pe_op o_mul pe_int (pe_ix o_ix (pv 2) pe_int (fun _ _ => rfl)))) pe_int))
      (pss_cons (pst 4 sc_law_draw.nd (pe_op o_mod (pe_op o_mul (pv 4) (pv 4)) pe_int))
      (pss_cons (pst 4 sc_law_draw.nd (pe_op o_mod (pe_op o_mul (pv 4) (pe_op o_add (pv 4) pe_int)) pe_int))
      (pss_one (ps_ret (pe_op o_mod (pe_op o_div (pv 4) pe_int) (pv 1)))))))))))
theorem ok_law_some_kinds (T : Txt G mg) : FnOk P w G.K mg base CX0 2 T.a_law_some_kinds T.d_law_some_kinds ["deck"] (sp0 (sp_law_some_kinds G)) := by
  refine T.F_law_some_kinds.ok sc_law_some_kinds (fun vs H Q E h => h.1) (fun cdv A outer s H vs Q E hr h => ⟨t_law_some_kinds G E0, ?_, h.2⟩)
  exact (pss_cons (pst 1 sc_law_some_kinds.nd (pe_lst (pa_cons pe_int (pa_cons pe_int (pa_cons pe_int (pa_cons pe_int (pa_cons pe_int (pa_cons pe_int (pa_cons pe_int (pa_cons pe_int (pa_cons pe_int (pa_cons pe_int (pa_cons pe_str pa_nil)))))))))))))
      (pss_one (ps_ret (pe_lc (own := [("k", 2)]) (g := (gName 2)) (tt := tYes) (by rfl) sc_law_some_kinds.nd  (pi_range1 (by rfl) T.n_range (pa_cons (pe_ix o_ix (pe_lst (pa_cons (pe_op o_add pe_int (pcall (ok_law_draw T) (hr.mono (by decide)) (by rfl) T.g_law_draw T.F_law_draw.kp T.b_law_draw (pa_cons (pv 0) (pa_cons pe_int pa_nil)))) (pa_cons pe_int (pa_cons pe_int pa_nil)))) (pcall (ok_law_draw T) (hr.mono (by decide)) (by rfl) T.g_law_draw T.F_law_draw.kp T.b_law_draw (pa_cons (pv 0) (pa_cons pe_int pa_nil))) (fun _ _ => rfl)) pa_nil)) (blkOk_by (own := [("k", 2)]) (N := ["deck", "left", "k"]) (sc := defScope s_law_some_kinds) (by decide +kernel)) (fun _ _ _ _ _ => (pgn 2 sc_law_some_kinds.nd)) (fun _ _ _ _ _ => pts_nil) (fun _ _ _ _ _ => (pe_bm PySem.F.plainAttrs_list PySem.F.slot_list_pop PySem.F.type_list_pop mt_popAt (pv 1) (pa_cons (pcall (ok_law_draw T) (hr.mono (by decide)) (by rfl) T.g_law_draw T.F_law_draw.kp T.b_law_draw (pa_cons (pv 0) (pa_cons (pe_callB k_len (by rfl) T.n_len (by decide +kernel) (pa_cons (pv 1) pa_nil)) pa_nil))) pa_nil)))))))
theorem ok_law_dots (T : Txt G mg) : FnOk P w G.K mg base CX0 1 T.a_law_dots T.d_law_dots ["kind", "most"] (sp0 (sp_law_dots G)) := by
  refine T.F_law_dots.ok sc_law_dots (fun vs H Q E h => h.1) (fun cdv A outer s H vs Q E hr h => ⟨t_law_dots G E0, ?_, h.2⟩)
  exact (pss_cons (pst 2 sc_law_dots.nd (pe_lst pa_nil))
      (pss_cons (pst 3 sc_law_dots.nd pe_int)
      (pss_cons (pst 4 sc_law_dots.nd pe_int)
      (pss_cons (pst 5 sc_law_dots.nd pe_int)
      (pss_cons (ps_while PassesOwn.never (pt_cmpR o_le (pv 4) (pv 1) (nomark _)) (pss_cons (ps_expr (pe_bm PySem.F.plainAttrs_list PySem.F.slot_list_append PySem.F.type_list_append mt_append (pv 2) (pa_cons (pv 4) pa_nil)))
      (pss_cons (pst 3 sc_law_dots.nd (pe_op o_add (pv 3) pe_int))
      (pss_one (ps_if (pt_cmpR (o_eq hr.units) (pv 0) pe_str (nomark _)) (pss_one (pst 4 sc_law_dots.nd (pe_op o_pow (pv 3) pe_int))) (pss_cons (pst 5 sc_law_dots.nd (pe_op o_sub (pe_op o_add (pv 5) (pv 0)) pe_int))
      (pss_one (pst 4 sc_law_dots.nd (pe_op o_add (pv 4) (pv 5))))))))))
      (pss_one (ps_ret (pv 2))))))))
theorem ok_law_stock (T : Txt G mg) : FnOk P w G.K mg base CX0 2 T.a_law_stock T.d_law_stock ["kinds", "most"] (sp0 (sp_law_stock G)) := by
  refine T.F_law_stock.ok sc_law_stock (fun vs H Q E h => h.1) (fun cdv A outer s H vs Q E hr h => ⟨t_law_stock G E0, ?_, h.2⟩)
  exact (pss_cons (pst 2 sc_law_stock.nd (pe_lst pa_nil))
      (pss_cons (ps_for PassesOwn.never (by rfl) (pi_list (pv 0)) (pgn 3 sc_law_stock.nd) (pss_one (ps_for PassesOwn.never (by rfl) (pi_list (pcall (ok_law_dots T) (hr.mono (by decide)) (by rfl) T.g_law_dots T.F_law_dots.kp T.b_law_dots (pa_cons (pv 3) (pa_cons (pv 1) pa_nil)))) (pgn 4 sc_law_stock.nd) (pss_one (ps_if (pt_cmpR o_notIn (pv 4) (pv 2) (by rfl)) (pss_one (ps_expr (pe_bm PySem.F.plainAttrs_list PySem.F.slot_list_append PySem.F.type_list_append mt_append (pv 2) (pa_cons (pv 4) pa_nil)))) pss_nil)))))
      (pss_one (ps_ret (pe_callB (k_sorted (by rfl)) (by rfl) T.n_sorted (by decide +kernel) (pa_cons (pv 2) pa_nil))))))
theorem ok_law_all_v2 (T : Txt G mg) : FnOk P w G.K mg base CX0 1 T.a_law_all_v2 T.d_law_all_v2 ["stock", "n"] (sp0 (sp_law_all_v2 G)) := by
  refine T.F_law_all_v2.ok sc_law_all_v2 (fun vs H Q E h => h.1) (fun cdv A outer s H vs Q E hr h => ⟨t_law_all_v2 G E0, ?_, h.2⟩)
  exact (pss_cons (pst 2 sc_law_all_v2.nd (pe_lst pa_nil))
      (pss_cons (pst 3 sc_law_all_v2.nd (pe_lst (pa_cons (pe_tup (pa_cons (pe_lst pa_nil) (pa_cons (pv 1) pa_nil))) pa_nil)))
      (pss_cons (ps_while PassesOwn.never (pt_cmpR (o_ne hr.units) (pv 3) (pe_lst pa_nil) (nomark _)) (pss_cons (ps_asg (pe_bm0 PySem.F.plainAttrs_list PySem.F.slot_list_pop PySem.F.type_list_pop mt_pop (pv 3)) (pg_tup (by rfl) (pgs_cons (pgn 4 sc_law_all_v2.nd) (pgs_cons (pgn 5 sc_law_all_v2.nd) pgs_nil))))
      (pss_cons (ps_if (pt_cmpR (o_eq hr.units) (pv 5) pe_int (nomark _)) (pss_one (ps_expr (pe_bm PySem.F.plainAttrs_list PySem.F.slot_list_append PySem.F.type_list_append mt_append (pv 2) (pa_cons (pv 4) pa_nil)))) pss_nil)
      (pss_cons (pst 6 sc_law_all_v2.nd (pe_ix o_ix (pe_op o_add (pv 4) (pe_lst (pa_cons (pv 1) pa_nil))) (pe_op o_sub (pe_un o_neg pe_int) (pe_callTy k_int (by rfl) T.n_int (by decide +kernel) (pa_cons (pe_cmpR (o_ne hr.units) (pv 4) (pe_lst pa_nil) (nomark _)) pa_nil))) (fun _ _ => rfl)))
      (pss_one (ps_expr (pe_bm PySem.F.plainAttrs_list PySem.F.slot_list_extend PySem.F.type_list_extend mt_extend (pv 3) (pa_cons (pe_lc (own := [("part", 7)]) (g := (gName 7)) (tt := (tTest (tOp uLe (tVar 7) (tCB (uMin G.K) (tCons (tVar 5) (tCons (tVar 6) tNil)))))) (by rfl) sc_law_all_v2.nd  (pi_list (pv 0)) (blkOk_by (own := [("part", 7)]) (N := ["stock", "n", "found", "waiting", "some", "left", "last", "part"]) (sc := defScope s_law_all_v2) (by decide +kernel)) (fun _ _ _ _ _ => (pgn 7 sc_law_all_v2.nd)) (fun _ _ _ _ _ => (pts_one (pt_cmpR o_le (pv 7) (pe_callB (k_min (by rfl)) (by rfl) T.n_min (by decide +kernel) (pa_cons (pv 5) (pa_cons (pv 6) pa_nil))) (nomark _)))) (fun _ _ _ _ _ => (pe_tup (pa_cons (pe_op o_add (pv 4) (pe_lst (pa_cons (pv 7) pa_nil))) (pa_cons (pe_op o_sub (pv 5) (pv 7)) pa_nil))))) pa_nil))))))))
      (pss_one (ps_ret (pe_callB (k_sortedLL hr.units) (by rfl) T.n_sorted (by decide +kernel) (pa_cons (pv 2) pa_nil)))))))
theorem ok_law_any (T : Txt G mg) : FnOk P w G.K mg base CX0 2 T.a_law_any T.d_law_any ["deck", "n"] (sp0 (sp_law_any G)) := by
  refine T.F_law_any.ok sc_law_any (fun vs H Q E h => h.1) (fun cdv A outer s H vs Q E hr h => ⟨t_law_any G E0, ?_, h.2⟩)
  exact (pss_cons (pst 2 sc_law_any.nd (pe_lst pa_nil))
      (pss_cons (ps_while PassesOwn.never (pt_cmpR o_lt (pe_callB (k_sum (by rfl)) (by rfl) T.n_sum (by decide +kernel) (pa_cons (pv 2) pa_nil)) (pv 1) (nomark _)) (pss_one (ps_expr (pe_bm PySem.F.plainAttrs_list PySem.F.slot_list_append PySem.F.type_list_append mt_append (pv 2) (pa_cons (pe_op o_add pe_int (pcall (ok_law_draw T) (hr.mono (by decide)) (by rfl) T.g_law_draw T.F_law_draw.kp T.b_law_draw (pa_cons (pv 0) (pa_cons (pe_op o_sub (pv 1) (pe_callB (k_sum (by rfl)) (by rfl) T.n_sum (by decide +kernel) (pa_cons (pv 2) pa_nil))) pa_nil)))) pa_nil)))))
      (pss_one (ps_ret (pe_revL (pe_callB (k_sorted (by rfl)) (by rfl) T.n_sorted (by decide +kernel) (pa_cons (pv 2) pa_nil)))))))
theorem ok_law_right_v6 (T : Txt G mg) : FnOk P w G.K mg base CX0 6 T.a_law_right_v6 T.d_law_right_v6 ["deck", "kinds", "n"] (sp0 (sp_law_right_v6 G)) := by
  refine T.F_law_right_v6.ok sc_law_right_v6 (fun vs H Q E h => h.1) (fun cdv A outer s H vs Q E hr h => ⟨t_law_right_v6 G E0, ?_, h.2⟩)
  exact (pss_cons (pst 3 sc_law_right_v6.nd (pcall (ok_law_all_v2 T) (hr.mono (by decide)) (by rfl) T.g_law_all T.F_law_all_v2.kp T.b_law_all_v2 (pa_cons (pcall (ok_law_stock T) (hr.mono (by decide)) (by rfl) T.g_law_stock T.F_law_stock.kp T.b_law_stock (pa_cons (pv 1) (pa_cons (pv 2) pa_nil))) (pa_cons (pv 2) pa_nil))))
      (pss_cons (pst 4 sc_law_right_v6.nd (pe_callB (k_min (by rfl)) (by rfl) T.n_min (by decide +kernel) (pa_cons (pe_lc (own := [("row", 6)]) (g := (gName 6)) (tt := tYes) (by rfl) sc_law_right_v6.nd  (pi_list (pv 3)) (blkOk_by (own := [("row", 6)]) (N := ["deck", "kinds", "n", "rows", "fewest", "k", "row", "at", "some", "near"]) (sc := defScope s_law_right_v6) (by decide +kernel)) (fun _ _ _ _ _ => (pgn 6 sc_law_right_v6.nd)) (fun _ _ _ _ _ => pts_nil) (fun _ _ _ _ _ => (pe_callB k_len (by rfl) T.n_len (by decide +kernel) (pa_cons (pv 6) pa_nil)))) pa_nil)))
      (pss_cons (ps_if (PW.pt (pw_or (pt_cmpR (o_ne hr.units) (pcall (ok_fewest_parts T) (hr.mono (by decide)) (by rfl) T.g_fewest_parts T.F_fewest_parts.kp T.b_fewest_parts (pa_cons (pv 1) (pa_cons (pv 2) pa_nil))) (pv 4) (nomark _)) (pw_or1 (pt_cmpR (o_ne hr.units) (pe_ix o_ix (pcall (ok_fewest_to T) (hr.mono (by decide)) (by rfl) T.g_fewest_to T.F_fewest_to.kp T.b_fewest_to (pa_cons (pv 1) (pa_cons (pv 2) pa_nil))) (pv 2) (fun _ _ => rfl)) (pv 4) (nomark _))))) (pss_one (ps_ret pe_bl)) pss_nil)
      (pss_cons (ps_if (pt_cmpR (o_ne hr.units) (pcall (ok_first_sum T) (hr.mono (by decide)) (by rfl) T.g_first_sum T.F_first_sum.kp T.b_first_sum (pa_cons (pv 1) (pa_cons (pv 2) pa_nil))) (pe_ix o_ix (pe_lc (own := [("row", 6)]) (g := (gName 6)) (tt := (tTest (tOp (uEq G.K) (tCB (uLen G.K) (tCons (tVar 6) tNil)) (tVar 4)))) (by rfl) sc_law_right_v6.nd  (pi_list (pv 3)) (blkOk_by (own := [("row", 6)]) (N := ["deck", "kinds", "n", "rows", "fewest", "k", "row", "at", "some", "near"]) (sc := defScope s_law_right_v6) (by decide +kernel)) (fun _ _ _ _ _ => (pgn 6 sc_law_right_v6.nd)) (fun _ _ _ _ _ => (pts_one (pt_cmpR (o_eq hr.units) (pe_callB k_len (by rfl) T.n_len (by decide +kernel) (pa_cons (pv 6) pa_nil)) (pv 4) (nomark _)))) (fun _ _ _ _ _ => (pv 6))) pe_int (fun _ _ => rfl)) (nomark _)) (pss_one (ps_ret pe_bl)) pss_nil)
      (pss_cons (ps_for PassesOwn.never (by rfl) (pi_range3 (by rfl) T.n_range (pa_cons pe_int (pa_cons (pe_callB k_len (by rfl) T.n_len (by decide +kernel) (pa_cons (pv 3) pa_nil)) (pa_cons (pe_op o_add pe_int (pe_op o_div (pe_callB k_len (by rfl) T.n_len (by decide +kernel) (pa_cons (pv 3) pa_nil)) pe_int)) pa_nil)))) (pgn 5 sc_law_right_v6.nd) (pss_cons (pst 6 sc_law_right_v6.nd (pe_callTy (k_list (by rfl)) (by rfl) T.n_list (by decide +kernel) (pa_cons (pe_ix o_ix (pv 3) (pv 5) (fun _ _ => rfl)) pa_nil)))
      (pss_cons (ps_if (pt_cmpR o_isNot (pcall (ok_is_sum T) (hr.mono (by decide)) (by rfl) T.g_is_sum T.F_is_sum.kp T.b_is_sum (pa_cons (pv 1) (pa_cons (pv 2) (pa_cons (pv 6) pa_nil)))) pe_bl (nomark _)) (pss_one (ps_ret pe_bl)) pss_nil)
      (pss_cons (pst 7 sc_law_right_v6.nd (pcall (ok_law_draw T) (hr.mono (by decide)) (by rfl) T.g_law_draw T.F_law_draw.kp T.b_law_draw (pa_cons (pv 0) (pa_cons (pe_op o_add (pe_callB k_len (by rfl) T.n_len (by decide +kernel) (pa_cons (pv 6) pa_nil)) pe_int) pa_nil))))
      (pss_cons (pst 8 sc_law_right_v6.nd (pe_lst (pa_cons (pe_op o_add (pe_op o_add (pe_slice o_sl (pv 6) po_none (po_some (pv 7))) (pe_lst (pa_cons (pe_op o_add pe_int (pcall (ok_law_draw T) (hr.mono (by decide)) (by rfl) T.g_law_draw T.F_law_draw.kp T.b_law_draw (pa_cons (pv 0) (pa_cons pe_int pa_nil)))) pa_nil))) (pe_slice o_sl (pv 6) (po_some (pe_op o_add (pv 7) pe_int)) po_none)) (pa_cons (pe_op o_add (pe_slice o_sl (pv 6) po_none (po_some (pv 7))) (pe_slice o_sl (pv 6) (po_some (pe_op o_add (pv 7) pe_int)) po_none)) (pa_cons (pe_op o_add (pv 6) (pe_lst (pa_cons pe_int pa_nil))) pa_nil)))))
      (pss_one (ps_for PassesOwn.never (by rfl) (pi_list (pe_op o_add (pv 8) (pe_lst (pa_cons (pcall (ok_law_any T) (hr.mono (by decide)) (by rfl) T.g_law_any T.F_law_any.kp T.b_law_any (pa_cons (pv 0) (pa_cons (pv 2) pa_nil))) pa_nil)))) (pgn 9 sc_law_right_v6.nd) (pss_one (ps_if (pt_cmpR (o_ne hr.units) (pcall (ok_is_sum T) (hr.mono (by decide)) (by rfl) T.g_is_sum T.F_is_sum.kp T.b_is_sum (pa_cons (pv 1) (pa_cons (pv 2) (pa_cons (pv 9) pa_nil)))) (pe_cmpR (o_inDp hr) (pv 9) (pv 3) (by rfl)) (nomark _)) (pss_one (ps_ret pe_bl)) pss_nil)))))))))
      (pss_one (ps_ret pe_bl)))))))
theorem ok_law_k11 (T : Txt G mg) : FnOk P w G.K mg base CX0 7 T.a_law_k11 T.d_law_k11 ["script"] (sp0 (sp_law_k11 G)) := by
  refine T.F_law_k11.ok sc_law_k11 (fun vs H Q E h => h.1) (fun cdv A outer s H vs Q E hr h => ⟨t_law_k11 G E0, ?_, h.2⟩)
  exact (pss_cons (pst 1 sc_law_k11.nd (pcall (ok_law_deck T) (hr.mono (by decide)) (by rfl) T.g_law_deck T.F_law_deck.kp T.b_law_deck (pa_cons (pv 0) pa_nil)))
      (pss_cons (ps_for PassesOwn.never (by rfl) (pi_range1 (by rfl) T.n_range (pa_cons pe_int pa_nil)) (pgn 2 sc_law_k11.nd) (pss_cons (pst 3 sc_law_k11.nd (pcall (ok_law_some_kinds T) (hr.mono (by decide)) (by rfl) T.g_law_some_kinds T.F_law_some_kinds.kp T.b_law_some_kinds (pa_cons (pv 1) pa_nil)))
      (pss_one (ps_for PassesOwn.never (by rfl) (pi_list (pe_lst (pa_cons (pcall (ok_law_draw T) (hr.mono (by decide)) (by rfl) T.g_law_draw T.F_law_draw.kp T.b_law_draw (pa_cons (pv 1) (pa_cons pe_int pa_nil))) (pa_cons (pcall (ok_law_draw T) (hr.mono (by decide)) (by rfl) T.g_law_draw T.F_law_draw.kp T.b_law_draw (pa_cons (pv 1) (pa_cons pe_int pa_nil))) (pa_cons pe_int (pa_cons pe_int pa_nil)))))) (pgn 4 sc_law_k11.nd) (pss_one (ps_if (pt_not (pt_val (pcall (ok_law_right_v6 T) (hr.mono (by decide)) (by rfl) T.g_law_right T.F_law_right_v6.kp T.b_law_right_v6 (pa_cons (pv 1) (pa_cons (pv 3) (pa_cons (pv 4) pa_nil)))))) (pss_one (ps_ret pe_bl)) pss_nil))))))
      (pss_one (ps_ret pe_bl))))
end
theorem txt_mk {K : PySem.W.Frag} {h : Heap} {mg : Str → Option Value} (X : K.In h) (Gs : h.Ns mainGlobals mg)
    {f1 : Addr} {od1 an1 : Option Addr} {sl1 : Array (Option Value)} {oc1 kV1 dc1 pm1 cd1 ct1 : Value}
    {f2 : Addr} {od2 an2 : Option Addr} {sl2 : Array (Option Value)} {oc2 kV2 dc2 pm2 cd2 ct2 : Value}
    {f3 : Addr} {od3 an3 : Option Addr} {sl3 : Array (Option Value)} {oc3 kV3 dc3 pm3 cd3 ct3 : Value}
    {f4 : Addr} {od4 an4 : Option Addr} {sl4 : Array (Option Value)} {oc4 kV4 dc4 pm4 cd4 ct4 : Value}
    {f5 : Addr} {od5 an5 : Option Addr} {sl5 : Array (Option Value)} {oc5 kV5 dc5 pm5 cd5 ct5 : Value}
    {f6 : Addr} {od6 an6 : Option Addr} {sl6 : Array (Option Value)} {oc6 kV6 dc6 pm6 cd6 ct6 : Value}
    {f7 : Addr} {od7 an7 : Option Addr} {sl7 : Array (Option Value)} {oc7 kV7 dc7 pm7 cd7 ct7 : Value}
    {f8 : Addr} {od8 an8 : Option Addr} {sl8 : Array (Option Value)} {oc8 kV8 dc8 pm8 cd8 ct8 : Value}
    {f9 : Addr} {od9 an9 : Option Addr} {sl9 : Array (Option Value)} {oc9 kV9 dc9 pm9 cd9 ct9 : Value}
    {f10 : Addr} {od10 an10 : Option Addr} {sl10 : Array (Option Value)} {oc10 kV10 dc10 pm10 cd10 ct10 : Value}
    {f11 : Addr} {od11 an11 : Option Addr} {sl11 : Array (Option Value)} {oc11 kV11 dc11 pm11 cd11 ct11 : Value}
    {f12 : Addr} {od12 an12 : Option Addr} {sl12 : Array (Option Value)} {oc12 kV12 dc12 pm12 cd12 ct12 : Value}
    {f13 : Addr} {od13 an13 : Option Addr} {sl13 : Array (Option Value)} {oc13 kV13 dc13 pm13 cd13 ct13 : Value}
    {f14 : Addr} {od14 an14 : Option Addr} {sl14 : Array (Option Value)} {oc14 kV14 dc14 pm14 cd14 ct14 : Value}
    {f15 : Addr} {od15 an15 : Option Addr} {sl15 : Array (Option Value)} {oc15 kV15 dc15 pm15 cd15 ct15 : Value}
    {f16 : Addr} {od16 an16 : Option Addr} {sl16 : Array (Option Value)} {oc16 kV16 dc16 pm16 cd16 ct16 : Value}
    {f17 : Addr} {od17 an17 : Option Addr} {sl17 : Array (Option Value)} {oc17 kV17 dc17 pm17 cd17 ct17 : Value}
    {f18 : Addr} {od18 an18 : Option Addr} {sl18 : Array (Option Value)} {oc18 kV18 dc18 pm18 cd18 ct18 : Value}
    {f19 : Addr} {od19 an19 : Option Addr} {sl19 : Array (Option Value)} {oc19 kV19 dc19 pm19 cd19 ct19 : Value}
    {f20 : Addr} {od20 an20 : Option Addr} {sl20 : Array (Option Value)} {oc20 kV20 dc20 pm20 cd20 ct20 : Value}
    {f21 : Addr} {od21 an21 : Option Addr} {sl21 : Array (Option Value)} {oc21 kV21 dc21 pm21 cd21 ct21 : Value}
    {f22 : Addr} {od22 an22 : Option Addr} {sl22 : Array (Option Value)} {oc22 kV22 dc22 pm22 cd22 ct22 : Value}
    {tk0 : Tok}
    {tk1 : Tok}
    {tk2 : Tok}
    {tk3 : Tok}
    {tk4 : Tok}
    (a1 : PySem.W.nsIn K mainGlobals "is_whole" = some (some (.ref f1)))
    (l1 : K.lookup f1 = some ⟨oc1, od1, .func (PySem.W.fnOf "is_whole" "is_whole" (defArgs s_is_whole) (defBody s_is_whole) (defScope s_is_whole) .none kV1 dc1 pm1 an1 cd1 ct1), sl1⟩)
    (c1 : PySem.W.codeIn K cd1 "is_whole" = true)
    (k1 : PySem.W.keepIn K (.ref f1) = true)
    (a2 : PySem.W.nsIn K mainGlobals "is_kind" = some (some (.ref f2)))
    (l2 : K.lookup f2 = some ⟨oc2, od2, .func (PySem.W.fnOf "is_kind" "is_kind" (defArgs s_is_kind) (defBody s_is_kind) (defScope s_is_kind) .none kV2 dc2 pm2 an2 cd2 ct2), sl2⟩)
    (c2 : PySem.W.codeIn K cd2 "is_kind" = true)
    (k2 : PySem.W.keepIn K (.ref f2) = true)
    (a3 : PySem.W.nsIn K mainGlobals "are_kinds" = some (some (.ref f3)))
    (l3 : K.lookup f3 = some ⟨oc3, od3, .func (PySem.W.fnOf "are_kinds" "are_kinds" (defArgs s_are_kinds) (defBody s_are_kinds) (defScope s_are_kinds) .none kV3 dc3 pm3 an3 cd3 ct3), sl3⟩)
    (c3 : PySem.W.codeIn K cd3 "are_kinds" = true)
    (k3 : PySem.W.keepIn K (.ref f3) = true)
    (a4 : PySem.W.nsIn K mainGlobals "need_kinds" = some (some (.ref f4)))
    (l4 : K.lookup f4 = some ⟨oc4, od4, .func (PySem.W.fnOf "need_kinds" "need_kinds" (defArgs s_need_kinds) (defBody s_need_kinds) (defScope s_need_kinds) .none kV4 dc4 pm4 an4 cd4 ct4), sl4⟩)
    (c4 : PySem.W.codeIn K cd4 "need_kinds" = true)
    (k4 : PySem.W.keepIn K (.ref f4) = true)
    (a5 : PySem.W.nsIn K mainGlobals "need_to_most" = some (some (.ref f5)))
    (l5 : K.lookup f5 = some ⟨oc5, od5, .func (PySem.W.fnOf "need_to_most" "need_to_most" (defArgs s_need_to_most) (defBody s_need_to_most) (defScope s_need_to_most) .none kV5 dc5 pm5 an5 cd5 ct5), sl5⟩)
    (c5 : PySem.W.codeIn K cd5 "need_to_most" = true)
    (k5 : PySem.W.keepIn K (.ref f5) = true)
    (a6 : PySem.W.nsIn K mainGlobals "dots" = some (some (.ref f6)))
    (l6 : K.lookup f6 = some ⟨oc6, od6, .func (PySem.W.fnOf "dots" "dots" (defArgs s_dots) (defBody s_dots) (defScope s_dots) .none kV6 dc6 pm6 an6 cd6 ct6), sl6⟩)
    (c6 : PySem.W.codeIn K cd6 "dots" = true)
    (k6 : PySem.W.keepIn K (.ref f6) = true)
    (a7 : PySem.W.nsIn K mainGlobals "stock_of" = some (some (.ref f7)))
    (l7 : K.lookup f7 = some ⟨oc7, od7, .func (PySem.W.fnOf "stock_of" "stock_of" (defArgs s_stock_of) (defBody s_stock_of) (defScope s_stock_of) .none kV7 dc7 pm7 an7 cd7 ct7), sl7⟩)
    (c7 : PySem.W.codeIn K cd7 "stock_of" = true)
    (k7 : PySem.W.keepIn K (.ref f7) = true)
    (a8 : PySem.W.nsIn K mainGlobals "is_sum" = some (some (.ref f8)))
    (l8 : K.lookup f8 = some ⟨oc8, od8, .func (PySem.W.fnOf "is_sum" "is_sum" (defArgs s_is_sum) (defBody s_is_sum) (defScope s_is_sum) .none kV8 dc8 pm8 an8 cd8 ct8), sl8⟩)
    (c8 : PySem.W.codeIn K cd8 "is_sum" = true)
    (k8 : PySem.W.keepIn K (.ref f8) = true)
    (a9 : PySem.W.nsIn K mainGlobals "fewest_by" = some (some (.ref f9)))
    (l9 : K.lookup f9 = some ⟨oc9, od9, .func (PySem.W.fnOf "fewest_by" "fewest_by" (defArgs s_fewest_by) (defBody s_fewest_by) (defScope s_fewest_by) .none kV9 dc9 pm9 an9 cd9 ct9), sl9⟩)
    (c9 : PySem.W.codeIn K cd9 "fewest_by" = true)
    (k9 : PySem.W.keepIn K (.ref f9) = true)
    (a10 : PySem.W.nsIn K mainGlobals "fewest_parts" = some (some (.ref f10)))
    (l10 : K.lookup f10 = some ⟨oc10, od10, .func (PySem.W.fnOf "fewest_parts" "fewest_parts" (defArgs s_fewest_parts) (defBody s_fewest_parts) (defScope s_fewest_parts) .none kV10 dc10 pm10 an10 cd10 ct10), sl10⟩)
    (c10 : PySem.W.codeIn K cd10 "fewest_parts" = true)
    (k10 : PySem.W.keepIn K (.ref f10) = true)
    (a11 : PySem.W.nsIn K mainGlobals "fewest_to" = some (some (.ref f11)))
    (l11 : K.lookup f11 = some ⟨oc11, od11, .func (PySem.W.fnOf "fewest_to" "fewest_to" (defArgs s_fewest_to) (defBody s_fewest_to) (defScope s_fewest_to) .none kV11 dc11 pm11 an11 cd11 ct11), sl11⟩)
    (c11 : PySem.W.codeIn K cd11 "fewest_to" = true)
    (k11 : PySem.W.keepIn K (.ref f11) = true)
    (a12 : PySem.W.nsIn K mainGlobals "tables_of" = some (some (.ref f12)))
    (l12 : K.lookup f12 = some ⟨oc12, od12, .func (PySem.W.fnOf "tables_of" "tables_of" (defArgs s_tables_of) (defBody s_tables_of) (defScope s_tables_of) .none kV12 dc12 pm12 an12 cd12 ct12), sl12⟩)
    (c12 : PySem.W.codeIn K cd12 "tables_of" = true)
    (k12 : PySem.W.keepIn K (.ref f12) = true)
    (a13 : PySem.W.nsIn K mainGlobals "first_sum" = some (some (.ref f13)))
    (l13 : K.lookup f13 = some ⟨oc13, od13, .func (PySem.W.fnOf "first_sum" "first_sum" (defArgs s_first_sum) (defBody s_first_sum) (defScope s_first_sum) .none kV13 dc13 pm13 an13 cd13 ct13), sl13⟩)
    (c13 : PySem.W.codeIn K cd13 "first_sum" = true)
    (k13 : PySem.W.keepIn K (.ref f13) = true)
    (a14 : PySem.W.nsIn K mainGlobals "_law_deck" = some (some (.ref f14)))
    (l14 : K.lookup f14 = some ⟨oc14, od14, .func (PySem.W.fnOf "_law_deck" "_law_deck" (defArgs s_law_deck) (defBody s_law_deck) (defScope s_law_deck) .none kV14 dc14 pm14 an14 cd14 ct14), sl14⟩)
    (c14 : PySem.W.codeIn K cd14 "_law_deck" = true)
    (k14 : PySem.W.keepIn K (.ref f14) = true)
    (a15 : PySem.W.nsIn K mainGlobals "_law_draw" = some (some (.ref f15)))
    (l15 : K.lookup f15 = some ⟨oc15, od15, .func (PySem.W.fnOf "_law_draw" "_law_draw" (defArgs s_law_draw) (defBody s_law_draw) (defScope s_law_draw) .none kV15 dc15 pm15 an15 cd15 ct15), sl15⟩)
    (c15 : PySem.W.codeIn K cd15 "_law_draw" = true)
    (k15 : PySem.W.keepIn K (.ref f15) = true)
    (a16 : PySem.W.nsIn K mainGlobals "_law_some_kinds" = some (some (.ref f16)))
    (l16 : K.lookup f16 = some ⟨oc16, od16, .func (PySem.W.fnOf "_law_some_kinds" "_law_some_kinds" (defArgs s_law_some_kinds) (defBody s_law_some_kinds) (defScope s_law_some_kinds) .none kV16 dc16 pm16 an16 cd16 ct16), sl16⟩)
    (c16 : PySem.W.codeIn K cd16 "_law_some_kinds" = true)
    (k16 : PySem.W.keepIn K (.ref f16) = true)
    (a17 : PySem.W.nsIn K mainGlobals "_law_dots" = some (some (.ref f17)))
    (l17 : K.lookup f17 = some ⟨oc17, od17, .func (PySem.W.fnOf "_law_dots" "_law_dots" (defArgs s_law_dots) (defBody s_law_dots) (defScope s_law_dots) .none kV17 dc17 pm17 an17 cd17 ct17), sl17⟩)
    (c17 : PySem.W.codeIn K cd17 "_law_dots" = true)
    (k17 : PySem.W.keepIn K (.ref f17) = true)
    (a18 : PySem.W.nsIn K mainGlobals "_law_stock" = some (some (.ref f18)))
    (l18 : K.lookup f18 = some ⟨oc18, od18, .func (PySem.W.fnOf "_law_stock" "_law_stock" (defArgs s_law_stock) (defBody s_law_stock) (defScope s_law_stock) .none kV18 dc18 pm18 an18 cd18 ct18), sl18⟩)
    (c18 : PySem.W.codeIn K cd18 "_law_stock" = true)
    (k18 : PySem.W.keepIn K (.ref f18) = true)
    (a19 : PySem.W.nsIn K mainGlobals "_law_all" = some (some (.ref f19)))
    (l19 : K.lookup f19 = some ⟨oc19, od19, .func (PySem.W.fnOf "_law_all" "_law_all" (defArgs s_law_all_v2) (defBody s_law_all_v2) (defScope s_law_all_v2) .none kV19 dc19 pm19 an19 cd19 ct19), sl19⟩)
    (c19 : PySem.W.codeIn K cd19 "_law_all" = true)
    (k19 : PySem.W.keepIn K (.ref f19) = true)
    (a20 : PySem.W.nsIn K mainGlobals "_law_any" = some (some (.ref f20)))
    (l20 : K.lookup f20 = some ⟨oc20, od20, .func (PySem.W.fnOf "_law_any" "_law_any" (defArgs s_law_any) (defBody s_law_any) (defScope s_law_any) .none kV20 dc20 pm20 an20 cd20 ct20), sl20⟩)
    (c20 : PySem.W.codeIn K cd20 "_law_any" = true)
    (k20 : PySem.W.keepIn K (.ref f20) = true)
    (a21 : PySem.W.nsIn K mainGlobals "_law_right" = some (some (.ref f21)))
    (l21 : K.lookup f21 = some ⟨oc21, od21, .func (PySem.W.fnOf "_law_right" "_law_right" (defArgs s_law_right_v6) (defBody s_law_right_v6) (defScope s_law_right_v6) .none kV21 dc21 pm21 an21 cd21 ct21), sl21⟩)
    (c21 : PySem.W.codeIn K cd21 "_law_right" = true)
    (k21 : PySem.W.keepIn K (.ref f21) = true)
    (a22 : PySem.W.nsIn K mainGlobals "law" = some (some (.ref f22)))
    (l22 : K.lookup f22 = some ⟨oc22, od22, .func (PySem.W.fnOf "law" "law" (defArgs s_law_k11) (defBody s_law_k11) (defScope s_law_k11) .none kV22 dc22 pm22 an22 cd22 ct22), sl22⟩)
    (c22 : PySem.W.codeIn K cd22 "law" = true)
    (k22 : PySem.W.keepIn K (.ref f22) = true)
    (z0 : PySem.W.nsIn K mainGlobals "bool" = some none)
    (z1 : PySem.W.nsIn K mainGlobals "enumerate" = some none)
    (z2 : PySem.W.nsIn K mainGlobals "int" = some none)
    (z3 : PySem.W.nsIn K mainGlobals "isinstance" = some none)
    (z4 : PySem.W.nsIn K mainGlobals "len" = some none)
    (z5 : PySem.W.nsIn K mainGlobals "list" = some none)
    (z6 : PySem.W.nsIn K mainGlobals "max" = some none)
    (z7 : PySem.W.nsIn K mainGlobals "min" = some none)
    (z8 : PySem.W.nsIn K mainGlobals "range" = some none)
    (z9 : PySem.W.nsIn K mainGlobals "sorted" = some none)
    (z10 : PySem.W.nsIn K mainGlobals "str" = some none)
    (z11 : PySem.W.nsIn K mainGlobals "sum" = some none)
    (y0 : PySem.W.nsIn K mainGlobals "CUBES" = some (some (.str "cubes" tk0)))
    (y1 : PySem.W.nsIn K mainGlobals "FEWEST_CORNERS" = some (some (.int 3 tk1)))
    (y2 : PySem.W.nsIn K mainGlobals "MOST" = some (some (.int 200 tk2)))
    (y3 : PySem.W.nsIn K mainGlobals "MOST_CORNERS" = some (some (.int 12 tk3)))
    (y4 : PySem.W.nsIn K mainGlobals "MOST_KINDS" = some (some (.int 5 tk4))) :
    ∃ T : Txt ⟨K, cAt []⟩ mg, mg "law" = some (.ref T.a_law_k11) ∧ T.d_law_k11 = PySem.W.fnOf "law" "law" (defArgs s_law_k11) (defBody s_law_k11) (defScope s_law_k11) .none kV22 dc22 pm22 an22 cd22 ct22 := by
  refine ⟨{
    a_is_whole := f1
    d_is_whole := _
    F_is_whole := fun_mk l1 c1 k1
    b_is_whole := (fun_mk (st := s_is_whole) l1 c1 k1).binds (ps := ["thing"]) (fun _ _ _ _ _ _ us hl => match us, hl with | [_], _ => rfl)
    g_is_whole := PySem.W.mg_of X Gs a1
    a_is_kind := f2
    d_is_kind := _
    F_is_kind := fun_mk l2 c2 k2
    b_is_kind := (fun_mk (st := s_is_kind) l2 c2 k2).binds (ps := ["thing"]) (fun _ _ _ _ _ _ us hl => match us, hl with | [_], _ => rfl)
    g_is_kind := PySem.W.mg_of X Gs a2
    a_are_kinds := f3
    d_are_kinds := _
    F_are_kinds := fun_mk l3 c3 k3
    b_are_kinds := (fun_mk (st := s_are_kinds) l3 c3 k3).binds (ps := ["thing"]) (fun _ _ _ _ _ _ us hl => match us, hl with | [_], _ => rfl)
    g_are_kinds := PySem.W.mg_of X Gs a3
    a_need_kinds := f4
    d_need_kinds := _
    F_need_kinds := fun_mk l4 c4 k4
    b_need_kinds := (fun_mk (st := s_need_kinds) l4 c4 k4).binds (ps := ["thing"]) (fun _ _ _ _ _ _ us hl => match us, hl with | [_], _ => rfl)
    g_need_kinds := PySem.W.mg_of X Gs a4
    a_need_to_most := f5
    d_need_to_most := _
    F_need_to_most := fun_mk l5 c5 k5
    b_need_to_most := (fun_mk (st := s_need_to_most) l5 c5 k5).binds (ps := ["thing"]) (fun _ _ _ _ _ _ us hl => match us, hl with | [_], _ => rfl)
    g_need_to_most := PySem.W.mg_of X Gs a5
    a_dots := f6
    d_dots := _
    F_dots := fun_mk l6 c6 k6
    b_dots := (fun_mk (st := s_dots) l6 c6 k6).binds (ps := ["kind", "k"]) (fun _ _ _ _ _ _ us hl => match us, hl with | [_, _], _ => rfl)
    g_dots := PySem.W.mg_of X Gs a6
    a_stock_of := f7
    d_stock_of := _
    F_stock_of := fun_mk l7 c7 k7
    b_stock_of := (fun_mk (st := s_stock_of) l7 c7 k7).binds (ps := ["kinds", "b"]) (fun _ _ _ _ _ _ us hl => match us, hl with | [_, _], _ => rfl)
    g_stock_of := PySem.W.mg_of X Gs a7
    a_is_sum := f8
    d_is_sum := _
    F_is_sum := fun_mk l8 c8 k8
    b_is_sum := (fun_mk (st := s_is_sum) l8 c8 k8).binds (ps := ["kinds", "n", "thing"]) (fun _ _ _ _ _ _ us hl => match us, hl with | [_, _, _], _ => rfl)
    g_is_sum := PySem.W.mg_of X Gs a8
    a_fewest_by := f9
    d_fewest_by := _
    F_fewest_by := fun_mk l9 c9 k9
    b_fewest_by := (fun_mk (st := s_fewest_by) l9 c9 k9).binds (ps := ["stock", "b"]) (fun _ _ _ _ _ _ us hl => match us, hl with | [_, _], _ => rfl)
    g_fewest_by := PySem.W.mg_of X Gs a9
    a_fewest_parts := f10
    d_fewest_parts := _
    F_fewest_parts := fun_mk l10 c10 k10
    b_fewest_parts := (fun_mk (st := s_fewest_parts) l10 c10 k10).binds (ps := ["kinds", "n"]) (fun _ _ _ _ _ _ us hl => match us, hl with | [_, _], _ => rfl)
    g_fewest_parts := PySem.W.mg_of X Gs a10
    a_fewest_to := f11
    d_fewest_to := _
    F_fewest_to := fun_mk l11 c11 k11
    b_fewest_to := (fun_mk (st := s_fewest_to) l11 c11 k11).binds (ps := ["kinds", "b"]) (fun _ _ _ _ _ _ us hl => match us, hl with | [_, _], _ => rfl)
    g_fewest_to := PySem.W.mg_of X Gs a11
    a_tables_of := f12
    d_tables_of := _
    F_tables_of := fun_mk l12 c12 k12
    b_tables_of := (fun_mk (st := s_tables_of) l12 c12 k12).binds (ps := ["stock", "n"]) (fun _ _ _ _ _ _ us hl => match us, hl with | [_, _], _ => rfl)
    g_tables_of := PySem.W.mg_of X Gs a12
    a_first_sum := f13
    d_first_sum := _
    F_first_sum := fun_mk l13 c13 k13
    b_first_sum := (fun_mk (st := s_first_sum) l13 c13 k13).binds (ps := ["kinds", "n"]) (fun _ _ _ _ _ _ us hl => match us, hl with | [_, _], _ => rfl)
    g_first_sum := PySem.W.mg_of X Gs a13
    a_law_deck := f14
    d_law_deck := _
    F_law_deck := fun_mk l14 c14 k14
    b_law_deck := (fun_mk (st := s_law_deck) l14 c14 k14).binds (ps := ["script"]) (fun _ _ _ _ _ _ us hl => match us, hl with | [_], _ => rfl)
    g_law_deck := PySem.W.mg_of X Gs a14
    a_law_draw := f15
    d_law_draw := _
    F_law_draw := fun_mk l15 c15 k15
    b_law_draw := (fun_mk (st := s_law_draw) l15 c15 k15).binds (ps := ["deck", "many"]) (fun _ _ _ _ _ _ us hl => match us, hl with | [_, _], _ => rfl)
    g_law_draw := PySem.W.mg_of X Gs a15
    a_law_some_kinds := f16
    d_law_some_kinds := _
    F_law_some_kinds := fun_mk l16 c16 k16
    b_law_some_kinds := (fun_mk (st := s_law_some_kinds) l16 c16 k16).binds (ps := ["deck"]) (fun _ _ _ _ _ _ us hl => match us, hl with | [_], _ => rfl)
    g_law_some_kinds := PySem.W.mg_of X Gs a16
    a_law_dots := f17
    d_law_dots := _
    F_law_dots := fun_mk l17 c17 k17
    b_law_dots := (fun_mk (st := s_law_dots) l17 c17 k17).binds (ps := ["kind", "most"]) (fun _ _ _ _ _ _ us hl => match us, hl with | [_, _], _ => rfl)
    g_law_dots := PySem.W.mg_of X Gs a17
    a_law_stock := f18
    d_law_stock := _
    F_law_stock := fun_mk l18 c18 k18
    b_law_stock := (fun_mk (st := s_law_stock) l18 c18 k18).binds (ps := ["kinds", "most"]) (fun _ _ _ _ _ _ us hl => match us, hl with | [_, _], _ => rfl)
    g_law_stock := PySem.W.mg_of X Gs a18
    a_law_all_v2 := f19
    d_law_all_v2 := _
    F_law_all_v2 := fun_mk l19 c19 k19
    b_law_all_v2 := (fun_mk (st := s_law_all_v2) l19 c19 k19).binds (ps := ["stock", "n"]) (fun _ _ _ _ _ _ us hl => match us, hl with | [_, _], _ => rfl)
    g_law_all := PySem.W.mg_of X Gs a19
    a_law_any := f20
    d_law_any := _
    F_law_any := fun_mk l20 c20 k20
    b_law_any := (fun_mk (st := s_law_any) l20 c20 k20).binds (ps := ["deck", "n"]) (fun _ _ _ _ _ _ us hl => match us, hl with | [_, _], _ => rfl)
    g_law_any := PySem.W.mg_of X Gs a20
    a_law_right_v6 := f21
    d_law_right_v6 := _
    F_law_right_v6 := fun_mk l21 c21 k21
    b_law_right_v6 := (fun_mk (st := s_law_right_v6) l21 c21 k21).binds (ps := ["deck", "kinds", "n"]) (fun _ _ _ _ _ _ us hl => match us, hl with | [_, _, _], _ => rfl)
    g_law_right := PySem.W.mg_of X Gs a21
    a_law_k11 := f22
    d_law_k11 := _
    F_law_k11 := fun_mk l22 c22 k22
    b_law_k11 := (fun_mk (st := s_law_k11) l22 c22 k22).binds (ps := ["script"]) (fun _ _ _ _ _ _ us hl => match us, hl with | [_], _ => rfl)
    g_law := PySem.W.mg_of X Gs a22
    n_bool := PySem.W.mg_none_of X Gs z0
    n_enumerate := PySem.W.mg_none_of X Gs z1
    n_int := PySem.W.mg_none_of X Gs z2
    n_isinstance := PySem.W.mg_none_of X Gs z3
    n_len := PySem.W.mg_none_of X Gs z4
    n_list := PySem.W.mg_none_of X Gs z5
    n_max := PySem.W.mg_none_of X Gs z6
    n_min := PySem.W.mg_none_of X Gs z7
    n_range := PySem.W.mg_none_of X Gs z8
    n_sorted := PySem.W.mg_none_of X Gs z9
    n_str := PySem.W.mg_none_of X Gs z10
    n_sum := PySem.W.mg_none_of X Gs z11
    k_CUBES := tk0
    c_CUBES := PySem.W.mg_of X Gs y0
    k_FEWEST_CORNERS := tk1
    c_FEWEST_CORNERS := PySem.W.mg_of X Gs y1
    k_MOST := tk2
    c_MOST := PySem.W.mg_of X Gs y2
    k_MOST_CORNERS := tk3
    c_MOST_CORNERS := PySem.W.mg_of X Gs y3
    k_MOST_KINDS := tk4
    c_MOST_KINDS := PySem.W.mg_of X Gs y4 }, PySem.W.mg_of X Gs a22, rfl⟩
/-- the law, as its caller asks it -/
def spLaw (K : PySem.W.Frag) : Sp := fun vs H Q _ => ∃ (a : Addr) (ns : List Int), vs = [.ref a] ∧ SqL K H a (ns.map V.int) ∧ ns.length ≤ 63 ∧ ∀ H', Q (.bl true) H'
/-- the law of the readings -/
def LawHolds : Prop := ∀ (G : Gx) (H : Hp) (a : Addr) (ns : List Int) (Q : VK), SqL G.K H a (ns.map V.int) → ns.length ≤ 63 → (∀ H', Q (.bl true) H') → sp_law_k11 G [.ref a] H Q E0
theorem law_holds : LawHolds := fun G H a ns Q hs hl hq => law_k11_ok hs hl hq
theorem all_mk (HL : LawHolds) {l : PySem.W.OpenLaw} {w : World} {K : PySem.W.Frag} {h : Heap} {mg : Str → Option Value} {fa : Addr} (X : K.In h) (Gs : h.Ns mainGlobals mg) (hfa : mg "law" = some (.ref fa))
    {f1 : Addr} {od1 an1 : Option Addr} {sl1 : Array (Option Value)} {oc1 kV1 dc1 pm1 cd1 ct1 : Value}
    {f2 : Addr} {od2 an2 : Option Addr} {sl2 : Array (Option Value)} {oc2 kV2 dc2 pm2 cd2 ct2 : Value}
    {f3 : Addr} {od3 an3 : Option Addr} {sl3 : Array (Option Value)} {oc3 kV3 dc3 pm3 cd3 ct3 : Value}
    {f4 : Addr} {od4 an4 : Option Addr} {sl4 : Array (Option Value)} {oc4 kV4 dc4 pm4 cd4 ct4 : Value}
    {f5 : Addr} {od5 an5 : Option Addr} {sl5 : Array (Option Value)} {oc5 kV5 dc5 pm5 cd5 ct5 : Value}
    {f6 : Addr} {od6 an6 : Option Addr} {sl6 : Array (Option Value)} {oc6 kV6 dc6 pm6 cd6 ct6 : Value}
    {f7 : Addr} {od7 an7 : Option Addr} {sl7 : Array (Option Value)} {oc7 kV7 dc7 pm7 cd7 ct7 : Value}
    {f8 : Addr} {od8 an8 : Option Addr} {sl8 : Array (Option Value)} {oc8 kV8 dc8 pm8 cd8 ct8 : Value}
    {f9 : Addr} {od9 an9 : Option Addr} {sl9 : Array (Option Value)} {oc9 kV9 dc9 pm9 cd9 ct9 : Value}
    {f10 : Addr} {od10 an10 : Option Addr} {sl10 : Array (Option Value)} {oc10 kV10 dc10 pm10 cd10 ct10 : Value}
    {f11 : Addr} {od11 an11 : Option Addr} {sl11 : Array (Option Value)} {oc11 kV11 dc11 pm11 cd11 ct11 : Value}
    {f12 : Addr} {od12 an12 : Option Addr} {sl12 : Array (Option Value)} {oc12 kV12 dc12 pm12 cd12 ct12 : Value}
    {f13 : Addr} {od13 an13 : Option Addr} {sl13 : Array (Option Value)} {oc13 kV13 dc13 pm13 cd13 ct13 : Value}
    {f14 : Addr} {od14 an14 : Option Addr} {sl14 : Array (Option Value)} {oc14 kV14 dc14 pm14 cd14 ct14 : Value}
    {f15 : Addr} {od15 an15 : Option Addr} {sl15 : Array (Option Value)} {oc15 kV15 dc15 pm15 cd15 ct15 : Value}
    {f16 : Addr} {od16 an16 : Option Addr} {sl16 : Array (Option Value)} {oc16 kV16 dc16 pm16 cd16 ct16 : Value}
    {f17 : Addr} {od17 an17 : Option Addr} {sl17 : Array (Option Value)} {oc17 kV17 dc17 pm17 cd17 ct17 : Value}
    {f18 : Addr} {od18 an18 : Option Addr} {sl18 : Array (Option Value)} {oc18 kV18 dc18 pm18 cd18 ct18 : Value}
    {f19 : Addr} {od19 an19 : Option Addr} {sl19 : Array (Option Value)} {oc19 kV19 dc19 pm19 cd19 ct19 : Value}
    {f20 : Addr} {od20 an20 : Option Addr} {sl20 : Array (Option Value)} {oc20 kV20 dc20 pm20 cd20 ct20 : Value}
    {f21 : Addr} {od21 an21 : Option Addr} {sl21 : Array (Option Value)} {oc21 kV21 dc21 pm21 cd21 ct21 : Value}
    {f22 : Addr} {od22 an22 : Option Addr} {sl22 : Array (Option Value)} {oc22 kV22 dc22 pm22 cd22 ct22 : Value}
    {tk0 : Tok}
    {tk1 : Tok}
    {tk2 : Tok}
    {tk3 : Tok}
    {tk4 : Tok}
    (a1 : PySem.W.nsIn K mainGlobals "is_whole" = some (some (.ref f1)))
    (l1 : K.lookup f1 = some ⟨oc1, od1, .func (PySem.W.fnOf "is_whole" "is_whole" (defArgs s_is_whole) (defBody s_is_whole) (defScope s_is_whole) .none kV1 dc1 pm1 an1 cd1 ct1), sl1⟩)
    (c1 : PySem.W.codeIn K cd1 "is_whole" = true)
    (k1 : PySem.W.keepIn K (.ref f1) = true)
    (a2 : PySem.W.nsIn K mainGlobals "is_kind" = some (some (.ref f2)))
    (l2 : K.lookup f2 = some ⟨oc2, od2, .func (PySem.W.fnOf "is_kind" "is_kind" (defArgs s_is_kind) (defBody s_is_kind) (defScope s_is_kind) .none kV2 dc2 pm2 an2 cd2 ct2), sl2⟩)
    (c2 : PySem.W.codeIn K cd2 "is_kind" = true)
    (k2 : PySem.W.keepIn K (.ref f2) = true)
    (a3 : PySem.W.nsIn K mainGlobals "are_kinds" = some (some (.ref f3)))
    (l3 : K.lookup f3 = some ⟨oc3, od3, .func (PySem.W.fnOf "are_kinds" "are_kinds" (defArgs s_are_kinds) (defBody s_are_kinds) (defScope s_are_kinds) .none kV3 dc3 pm3 an3 cd3 ct3), sl3⟩)
    (c3 : PySem.W.codeIn K cd3 "are_kinds" = true)
    (k3 : PySem.W.keepIn K (.ref f3) = true)
    (a4 : PySem.W.nsIn K mainGlobals "need_kinds" = some (some (.ref f4)))
    (l4 : K.lookup f4 = some ⟨oc4, od4, .func (PySem.W.fnOf "need_kinds" "need_kinds" (defArgs s_need_kinds) (defBody s_need_kinds) (defScope s_need_kinds) .none kV4 dc4 pm4 an4 cd4 ct4), sl4⟩)
    (c4 : PySem.W.codeIn K cd4 "need_kinds" = true)
    (k4 : PySem.W.keepIn K (.ref f4) = true)
    (a5 : PySem.W.nsIn K mainGlobals "need_to_most" = some (some (.ref f5)))
    (l5 : K.lookup f5 = some ⟨oc5, od5, .func (PySem.W.fnOf "need_to_most" "need_to_most" (defArgs s_need_to_most) (defBody s_need_to_most) (defScope s_need_to_most) .none kV5 dc5 pm5 an5 cd5 ct5), sl5⟩)
    (c5 : PySem.W.codeIn K cd5 "need_to_most" = true)
    (k5 : PySem.W.keepIn K (.ref f5) = true)
    (a6 : PySem.W.nsIn K mainGlobals "dots" = some (some (.ref f6)))
    (l6 : K.lookup f6 = some ⟨oc6, od6, .func (PySem.W.fnOf "dots" "dots" (defArgs s_dots) (defBody s_dots) (defScope s_dots) .none kV6 dc6 pm6 an6 cd6 ct6), sl6⟩)
    (c6 : PySem.W.codeIn K cd6 "dots" = true)
    (k6 : PySem.W.keepIn K (.ref f6) = true)
    (a7 : PySem.W.nsIn K mainGlobals "stock_of" = some (some (.ref f7)))
    (l7 : K.lookup f7 = some ⟨oc7, od7, .func (PySem.W.fnOf "stock_of" "stock_of" (defArgs s_stock_of) (defBody s_stock_of) (defScope s_stock_of) .none kV7 dc7 pm7 an7 cd7 ct7), sl7⟩)
    (c7 : PySem.W.codeIn K cd7 "stock_of" = true)
    (k7 : PySem.W.keepIn K (.ref f7) = true)
    (a8 : PySem.W.nsIn K mainGlobals "is_sum" = some (some (.ref f8)))
    (l8 : K.lookup f8 = some ⟨oc8, od8, .func (PySem.W.fnOf "is_sum" "is_sum" (defArgs s_is_sum) (defBody s_is_sum) (defScope s_is_sum) .none kV8 dc8 pm8 an8 cd8 ct8), sl8⟩)
    (c8 : PySem.W.codeIn K cd8 "is_sum" = true)
    (k8 : PySem.W.keepIn K (.ref f8) = true)
    (a9 : PySem.W.nsIn K mainGlobals "fewest_by" = some (some (.ref f9)))
    (l9 : K.lookup f9 = some ⟨oc9, od9, .func (PySem.W.fnOf "fewest_by" "fewest_by" (defArgs s_fewest_by) (defBody s_fewest_by) (defScope s_fewest_by) .none kV9 dc9 pm9 an9 cd9 ct9), sl9⟩)
    (c9 : PySem.W.codeIn K cd9 "fewest_by" = true)
    (k9 : PySem.W.keepIn K (.ref f9) = true)
    (a10 : PySem.W.nsIn K mainGlobals "fewest_parts" = some (some (.ref f10)))
    (l10 : K.lookup f10 = some ⟨oc10, od10, .func (PySem.W.fnOf "fewest_parts" "fewest_parts" (defArgs s_fewest_parts) (defBody s_fewest_parts) (defScope s_fewest_parts) .none kV10 dc10 pm10 an10 cd10 ct10), sl10⟩)
    (c10 : PySem.W.codeIn K cd10 "fewest_parts" = true)
    (k10 : PySem.W.keepIn K (.ref f10) = true)
    (a11 : PySem.W.nsIn K mainGlobals "fewest_to" = some (some (.ref f11)))
    (l11 : K.lookup f11 = some ⟨oc11, od11, .func (PySem.W.fnOf "fewest_to" "fewest_to" (defArgs s_fewest_to) (defBody s_fewest_to) (defScope s_fewest_to) .none kV11 dc11 pm11 an11 cd11 ct11), sl11⟩)
    (c11 : PySem.W.codeIn K cd11 "fewest_to" = true)
    (k11 : PySem.W.keepIn K (.ref f11) = true)
    (a12 : PySem.W.nsIn K mainGlobals "tables_of" = some (some (.ref f12)))
    (l12 : K.lookup f12 = some ⟨oc12, od12, .func (PySem.W.fnOf "tables_of" "tables_of" (defArgs s_tables_of) (defBody s_tables_of) (defScope s_tables_of) .none kV12 dc12 pm12 an12 cd12 ct12), sl12⟩)
    (c12 : PySem.W.codeIn K cd12 "tables_of" = true)
    (k12 : PySem.W.keepIn K (.ref f12) = true)
    (a13 : PySem.W.nsIn K mainGlobals "first_sum" = some (some (.ref f13)))
    (l13 : K.lookup f13 = some ⟨oc13, od13, .func (PySem.W.fnOf "first_sum" "first_sum" (defArgs s_first_sum) (defBody s_first_sum) (defScope s_first_sum) .none kV13 dc13 pm13 an13 cd13 ct13), sl13⟩)
    (c13 : PySem.W.codeIn K cd13 "first_sum" = true)
    (k13 : PySem.W.keepIn K (.ref f13) = true)
    (a14 : PySem.W.nsIn K mainGlobals "_law_deck" = some (some (.ref f14)))
    (l14 : K.lookup f14 = some ⟨oc14, od14, .func (PySem.W.fnOf "_law_deck" "_law_deck" (defArgs s_law_deck) (defBody s_law_deck) (defScope s_law_deck) .none kV14 dc14 pm14 an14 cd14 ct14), sl14⟩)
    (c14 : PySem.W.codeIn K cd14 "_law_deck" = true)
    (k14 : PySem.W.keepIn K (.ref f14) = true)
    (a15 : PySem.W.nsIn K mainGlobals "_law_draw" = some (some (.ref f15)))
    (l15 : K.lookup f15 = some ⟨oc15, od15, .func (PySem.W.fnOf "_law_draw" "_law_draw" (defArgs s_law_draw) (defBody s_law_draw) (defScope s_law_draw) .none kV15 dc15 pm15 an15 cd15 ct15), sl15⟩)
    (c15 : PySem.W.codeIn K cd15 "_law_draw" = true)
    (k15 : PySem.W.keepIn K (.ref f15) = true)
    (a16 : PySem.W.nsIn K mainGlobals "_law_some_kinds" = some (some (.ref f16)))
    (l16 : K.lookup f16 = some ⟨oc16, od16, .func (PySem.W.fnOf "_law_some_kinds" "_law_some_kinds" (defArgs s_law_some_kinds) (defBody s_law_some_kinds) (defScope s_law_some_kinds) .none kV16 dc16 pm16 an16 cd16 ct16), sl16⟩)
    (c16 : PySem.W.codeIn K cd16 "_law_some_kinds" = true)
    (k16 : PySem.W.keepIn K (.ref f16) = true)
    (a17 : PySem.W.nsIn K mainGlobals "_law_dots" = some (some (.ref f17)))
    (l17 : K.lookup f17 = some ⟨oc17, od17, .func (PySem.W.fnOf "_law_dots" "_law_dots" (defArgs s_law_dots) (defBody s_law_dots) (defScope s_law_dots) .none kV17 dc17 pm17 an17 cd17 ct17), sl17⟩)
    (c17 : PySem.W.codeIn K cd17 "_law_dots" = true)
    (k17 : PySem.W.keepIn K (.ref f17) = true)
    (a18 : PySem.W.nsIn K mainGlobals "_law_stock" = some (some (.ref f18)))
    (l18 : K.lookup f18 = some ⟨oc18, od18, .func (PySem.W.fnOf "_law_stock" "_law_stock" (defArgs s_law_stock) (defBody s_law_stock) (defScope s_law_stock) .none kV18 dc18 pm18 an18 cd18 ct18), sl18⟩)
    (c18 : PySem.W.codeIn K cd18 "_law_stock" = true)
    (k18 : PySem.W.keepIn K (.ref f18) = true)
    (a19 : PySem.W.nsIn K mainGlobals "_law_all" = some (some (.ref f19)))
    (l19 : K.lookup f19 = some ⟨oc19, od19, .func (PySem.W.fnOf "_law_all" "_law_all" (defArgs s_law_all_v2) (defBody s_law_all_v2) (defScope s_law_all_v2) .none kV19 dc19 pm19 an19 cd19 ct19), sl19⟩)
    (c19 : PySem.W.codeIn K cd19 "_law_all" = true)
    (k19 : PySem.W.keepIn K (.ref f19) = true)
    (a20 : PySem.W.nsIn K mainGlobals "_law_any" = some (some (.ref f20)))
    (l20 : K.lookup f20 = some ⟨oc20, od20, .func (PySem.W.fnOf "_law_any" "_law_any" (defArgs s_law_any) (defBody s_law_any) (defScope s_law_any) .none kV20 dc20 pm20 an20 cd20 ct20), sl20⟩)
    (c20 : PySem.W.codeIn K cd20 "_law_any" = true)
    (k20 : PySem.W.keepIn K (.ref f20) = true)
    (a21 : PySem.W.nsIn K mainGlobals "_law_right" = some (some (.ref f21)))
    (l21 : K.lookup f21 = some ⟨oc21, od21, .func (PySem.W.fnOf "_law_right" "_law_right" (defArgs s_law_right_v6) (defBody s_law_right_v6) (defScope s_law_right_v6) .none kV21 dc21 pm21 an21 cd21 ct21), sl21⟩)
    (c21 : PySem.W.codeIn K cd21 "_law_right" = true)
    (k21 : PySem.W.keepIn K (.ref f21) = true)
    (a22 : PySem.W.nsIn K mainGlobals "law" = some (some (.ref f22)))
    (l22 : K.lookup f22 = some ⟨oc22, od22, .func (PySem.W.fnOf "law" "law" (defArgs s_law_k11) (defBody s_law_k11) (defScope s_law_k11) .none kV22 dc22 pm22 an22 cd22 ct22), sl22⟩)
    (c22 : PySem.W.codeIn K cd22 "law" = true)
    (k22 : PySem.W.keepIn K (.ref f22) = true)
    (z0 : PySem.W.nsIn K mainGlobals "bool" = some none)
    (z1 : PySem.W.nsIn K mainGlobals "enumerate" = some none)
    (z2 : PySem.W.nsIn K mainGlobals "int" = some none)
    (z3 : PySem.W.nsIn K mainGlobals "isinstance" = some none)
    (z4 : PySem.W.nsIn K mainGlobals "len" = some none)
    (z5 : PySem.W.nsIn K mainGlobals "list" = some none)
    (z6 : PySem.W.nsIn K mainGlobals "max" = some none)
    (z7 : PySem.W.nsIn K mainGlobals "min" = some none)
    (z8 : PySem.W.nsIn K mainGlobals "range" = some none)
    (z9 : PySem.W.nsIn K mainGlobals "sorted" = some none)
    (z10 : PySem.W.nsIn K mainGlobals "str" = some none)
    (z11 : PySem.W.nsIn K mainGlobals "sum" = some none)
    (y0 : PySem.W.nsIn K mainGlobals "CUBES" = some (some (.str "cubes" tk0)))
    (y1 : PySem.W.nsIn K mainGlobals "FEWEST_CORNERS" = some (some (.int 3 tk1)))
    (y2 : PySem.W.nsIn K mainGlobals "MOST" = some (some (.int 200 tk2)))
    (y3 : PySem.W.nsIn K mainGlobals "MOST_CORNERS" = some (some (.int 12 tk3)))
    (y4 : PySem.W.nsIn K mainGlobals "MOST_KINDS" = some (some (.int 5 tk4))) :
    ∃ fd : FuncData, (∀ (s : Shared) (v : Value), BindsTo s fd ⟨[v], []⟩ [("script", v)]) ∧ ∀ base : Heap, K.In base → base.Ns mainGlobals mg → FnOk l.prog w K mg base CX0 7 fa fd ["script"] (spLaw K) := by
  obtain ⟨T, e1, e2⟩ := txt_mk X Gs a1 l1 c1 k1 a2 l2 c2 k2 a3 l3 c3 k3 a4 l4 c4 k4 a5 l5 c5 k5 a6 l6 c6 k6 a7 l7 c7 k7 a8 l8 c8 k8 a9 l9 c9 k9 a10 l10 c10 k10 a11 l11 c11 k11 a12 l12 c12 k12 a13 l13 c13 k13 a14 l14 c14 k14 a15 l15 c15 k15 a16 l16 c16 k16 a17 l17 c17 k17 a18 l18 c18 k18 a19 l19 c19 k19 a20 l20 c20 k20 a21 l21 c21 k21 a22 l22 c22 k22 z0 z1 z2 z3 z4 z5 z6 z7 z8 z9 z10 z11 y0 y1 y2 y3 y4
  have e := hfa.symm.trans e1
  cases e
  refine ⟨T.d_law_k11, fun s v => ?_, fun base _ _ => ?_⟩
  · rw [e2]
    exact .of_eq rfl
  · refine (ok_law_k11 (P := l.prog) (w := w) (base := base) T).imp fun vs H Q E h => ?_
    obtain ⟨a, ns, rfl, hS, hl, q⟩ := h
    exact HL ⟨K, cAt []⟩ H a ns Q hS hl q
end Fs
open PySem PySem.W PyProof.Rows
set_option maxHeartbeats 0 in
theorem PySem.Challenge.cw_fewshapes_k11_whole_by_all_sums_holds : PySem.Challenge.rw_fewshapes_k11_whole_by_all_sums.Holds := by
  w_on; o_law; k_head; (case hw => w_witness2)
  k_fill
  refine L2.walk_of (l := PySem.Challenge.rw_fewshapes_k11_whole_by_all_sums) (n := 63) (k := 7) (x := "script") (CX := fun _ => L2.CX0) (sp := fun w => Fs.spLaw _) rfl (by decide) rfl ⟨rfl, by decide, by decide⟩ (fun w h Y => PySem.W.kIn_of Y) ?F (fun _ _ a ns hl _ hS => ⟨a, ns, rfl, hS, hl, fun _ => rfl⟩) (fun _ _ _ _ _ h => h)
  case F =>
    intro w mg fa h KX G hmg
    refine' Fs.all_mk Fs.law_holds KX G hmg ?a1 ?l1 ?c1 ?k1 ?a2 ?l2 ?c2 ?k2 ?a3 ?l3 ?c3 ?k3 ?a4 ?l4 ?c4 ?k4 ?a5 ?l5 ?c5 ?k5 ?a6 ?l6 ?c6 ?k6 ?a7 ?l7 ?c7 ?k7 ?a8 ?l8 ?c8 ?k8 ?a9 ?l9 ?c9 ?k9 ?a10 ?l10 ?c10 ?k10 ?a11 ?l11 ?c11 ?k11 ?a12 ?l12 ?c12 ?k12 ?a13 ?l13 ?c13 ?k13 ?a14 ?l14 ?c14 ?k14 ?a15 ?l15 ?c15 ?k15 ?a16 ?l16 ?c16 ?k16 ?a17 ?l17 ?c17 ?k17 ?a18 ?l18 ?c18 ?k18 ?a19 ?l19 ?c19 ?k19 ?a20 ?l20 ?c20 ?k20 ?a21 ?l21 ?c21 ?k21 ?a22 ?l22 ?c22 ?k22 ?z0 ?z1 ?z2 ?z3 ?z4 ?z5 ?z6 ?z7 ?z8 ?z9 ?z10 ?z11 ?y0 ?y1 ?y2 ?y3 ?y4
    (case a1 => k_is)
    (case l1 => k_is)
    (case c1 => k_is)
    (case k1 => k_is)
    (case a2 => k_is)
    (case l2 => k_is)
    (case c2 => k_is)
    (case k2 => k_is)
    (case a3 => k_is)
    (case l3 => k_is)
    (case c3 => k_is)
    (case k3 => k_is)
    (case a4 => k_is)
    (case l4 => k_is)
    (case c4 => k_is)
    (case k4 => k_is)
    (case a5 => k_is)
    (case l5 => k_is)
    (case c5 => k_is)
    (case k5 => k_is)
    (case a6 => k_is)
    (case l6 => k_is)
    (case c6 => k_is)
    (case k6 => k_is)
    (case a7 => k_is)
    (case l7 => k_is)
    (case c7 => k_is)
    (case k7 => k_is)
    (case a8 => k_is)
    (case l8 => k_is)
    (case c8 => k_is)
    (case k8 => k_is)
    (case a9 => k_is)
    (case l9 => k_is)
    (case c9 => k_is)
    (case k9 => k_is)
    (case a10 => k_is)
    (case l10 => k_is)
    (case c10 => k_is)
    (case k10 => k_is)
    (case a11 => k_is)
    (case l11 => k_is)
    (case c11 => k_is)
    (case k11 => k_is)
    (case a12 => k_is)
    (case l12 => k_is)
    (case c12 => k_is)
    (case k12 => k_is)
    (case a13 => k_is)
    (case l13 => k_is)
    (case c13 => k_is)
    (case k13 => k_is)
    (case a14 => k_is)
    (case l14 => k_is)
    (case c14 => k_is)
    (case k14 => k_is)
    (case a15 => k_is)
    (case l15 => k_is)
    (case c15 => k_is)
    (case k15 => k_is)
    (case a16 => k_is)
    (case l16 => k_is)
    (case c16 => k_is)
    (case k16 => k_is)
    (case a17 => k_is)
    (case l17 => k_is)
    (case c17 => k_is)
    (case k17 => k_is)
    (case a18 => k_is)
    (case l18 => k_is)
    (case c18 => k_is)
    (case k18 => k_is)
    (case a19 => k_is)
    (case l19 => k_is)
    (case c19 => k_is)
    (case k19 => k_is)
    (case a20 => k_is)
    (case l20 => k_is)
    (case c20 => k_is)
    (case k20 => k_is)
    (case a21 => k_is)
    (case l21 => k_is)
    (case c21 => k_is)
    (case k21 => k_is)
    (case a22 => k_is)
    (case l22 => k_is)
    (case c22 => k_is)
    (case k22 => k_is)
    (case z0 => k_is)
    (case z1 => k_is)
    (case z2 => k_is)
    (case z3 => k_is)
    (case z4 => k_is)
    (case z5 => k_is)
    (case z6 => k_is)
    (case z7 => k_is)
    (case z8 => k_is)
    (case z9 => k_is)
    (case z10 => k_is)
    (case z11 => k_is)
    (case y0 => k_is)
    (case y1 => k_is)
    (case y2 => k_is)
    (case y3 => k_is)
    (case y4 => k_is)
