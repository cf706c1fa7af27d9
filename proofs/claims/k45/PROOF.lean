import PyProof.Rows.All
import Wide.All
import OpenK.AllK
import Wide.FinOn
import HandS.ForMost
import HandS.Exc
import HandS.TryOnly
import HandS.ExcOwn
import HandS.WordsExc
import HandS.IsInst
import HandS.Wide
import HandS.WideBits
import HandS.SortInts
import HandS.Style
import HandS.More
import HandS.Conv
import HandS.Small
import HandS.RaiseMore
import HandS.Walk
import HandS.SetFor
import KE.DataFind
import KE.DataCmp
import KE.SortData
import HandS.Deep
import HandS.Strs
import PySem.Challenge.RW_fewshapes_k45_whole_all_sums_listed
set_option Elab.async false
set_option linter.all false
set_option maxRecDepth 100000
set_option maxHeartbeats 4000000
namespace Fs
open PySem PySem.Spec PyProof.Rows L2
abbrev Fg := PySem.W.Frag
/-! ### readings: one name an operation, whatever the kinds -/
def rAddS : R2 := fun x y H Q => ∃ i j, x = .str i ∧ y = .str j ∧ i.length + j.length ≤ sizeLine ∧ Q (.str (i ++ j)) H
def uAdd : R2 := fun x y H Q => rI0 (fun i j => .int (i + j)) x y H Q ∨ (rAddS x y H Q ∨ rCat x y H Q)
def uSub : R2 := rI0 fun i j => .int (i - j)
def uMul : R2 := fun x y H Q => rI CMulX (fun i j => .int (i * j)) x y H Q ∨ (rI CMul (fun i j => .int (i * j)) x y H Q ∨ rRep x y H Q)
def uDiv : R2 := rI CDivW fun i j => .int (i / j)
def uMod : R2 := rI (fun _ j => 0 < j) fun i j => .int (i % j)
def uPow : R2 := rI CPow fun i j => .int (i ^ j.toNat)
def uShl : R2 := rI CShl fun i j => .int (i * 2 ^ j.toNat)
def uShr : R2 := rI (fun _ j => 0 ≤ j) fun i j => .int (i / 2 ^ j.toNat)
def uAnd : R2 := rI0 fun i j => .int (Builtin.bitAnd i j)
def uOr : R2 := rI0 fun i j => .int (Builtin.bitOr i j)
def uLt : R2 := rI0 fun i j => .bl (decide (i < j))
def uLe : R2 := rI0 fun i j => .bl (decide (i ≤ j))
def uGt : R2 := rI0 fun i j => .bl (decide (j < i))
def uGe : R2 := rI0 fun i j => .bl (decide (j ≤ i))
def uEq (K : Fg) : R2 := fun x y H Q => rEq x y H Q ∨ rEqD K x y H Q
def uNe (K : Fg) : R2 := fun x y H Q => rNe x y H Q ∨ rNeD K x y H Q
def uIn (K : Fg) : R2 := rIn K false
def uNotIn (K : Fg) : R2 := rIn K true
def rIsN : R2 := fun x y H Q => y = .non ∧ Q (.bl (decide (x = .non))) H
def rNotN : R2 := fun x y H Q => y = .non ∧ Q (.bl (!decide (x = .non))) H
def uIs : R2 := fun x y H Q => rIsN x y H Q ∨ rIsB x y H Q
def uIsNot : R2 := fun x y H Q => rNotN x y H Q ∨ rNotB x y H Q
def uIx (K : Fg) : R2 := rIx K
def uSl (K : Fg) : V → Option Int → Option Int → Hp → VK → Prop := fun x lo hi H Q => rSlL K x lo hi H Q ∨ rSlS x lo hi H Q
def uNeg : V → Hp → VK → Prop := rU fun i => .int (-i)
abbrev RC := List V → Hp → VK → Prop
def uLen (K : Fg) : RC := fun xs H Q => ∃ x n, xs = [x] ∧ LenV K x H n ∧ Q (.int n) H
def rMax2 : RC := fun xs H Q => ∃ i j, xs = [.int i, .int j] ∧ Q (.int (if j > i then j else i)) H
def rMin2 : RC := fun xs H Q => ∃ i j, xs = [.int i, .int j] ∧ Q (.int (if j < i then j else i)) H
def uMax (K : Fg) : RC := fun xs H Q => rMax2 xs H Q ∨ rMax K xs H Q
def uMin (K : Fg) : RC := fun xs H Q => rMin2 xs H Q ∨ rMin K xs H Q
def rInt1 : RC := fun xs H Q => (∃ i, xs = [.int i] ∧ Q (.int i) H) ∨ ∃ k, xs = [.bl k] ∧ Q (.int (if k then 1 else 0)) H
def rIntS : RC := fun xs H Q => ∃ a n, xs = [.str a] ∧ PySem.intText? a = some n ∧ a.length ≤ 640 ∧ Q (.int n) H
def uInt : RC := fun xs H Q => rInt1 xs H Q ∨ rIntS xs H Q
def uAbs : RC := fun xs H Q => ∃ i, xs = [.int i] ∧ Q (.int (if i < 0 then -i else i)) H
def uIsi (K : Fg) : RC := rIsi K
def uSum (K : Fg) : RC := rSum K
def rListOf (K : Fg) : RC := fun xs H Q => ∃ p ys, xs = [.ref p] ∧ (SqL K H p ys ∨ SqT K H p ys) ∧ ∀ l, H l = none → Q (.ref l) (upd H l (.lst ys))
def uSet : TSet := fun o i v H Q => rSetL o i v H Q ∨ rSetD o i v H Q
/-- sorted(d), the keys ints, any number of them -/
def rSortedDA : RC := fun xs H Q => ∃ (a : Addr) (kvs : List (Key × V)) (ks : List Int), xs = [.ref a] ∧ Rd H a (.dK kvs) ∧ kvs.map (·.1) = ks.map Sum.inl ∧
    ∀ (ys : List Int) (p : Addr), ys.Perm ks → ys.Pairwise (· ≤ ·) → H p = none → Q (.ref p) (upd H p (.lst (ys.map V.int)))
def uSorted (K : Fg) : RC := fun xs H Q => rSortedI K xs H Q ∨ rSortedDA xs H Q
def uList (K : Fg) : RC := fun xs H Q => rListOf K xs H Q ∨ rListD xs H Q
/-- raise C(..): the wish of an error of the class at C -/
def tRz (E : XK) (C : Addr) : TS := fun _ _ H => E (.ref C) none H
/-- a promise at calls that let nothing out -/
def sp0 (sp : Sp) : Sp := fun vs H Q _ => sp vs H Q E0
/-- what the readings lean on: the written part, where the classes stand -/
structure Gx where
  K : Fg
  C : String → Addr
section
variable {X : Cx}
theorem o_add : OpR X (binaryOp .Add) uAdd := op_add.or (op_add_str.or op_cat)
theorem o_sub : OpR X (binaryOp .Sub) uSub := op_sub
theorem o_mul : OpR X (binaryOp .Mult) uMul := op_mulX.or (op_mul.or op_rep)
theorem o_div : OpR X (binaryOp .FloorDiv) uDiv := op_fdivW
theorem o_mod : OpR X (binaryOp .Mod) uMod := op_mod
theorem o_shl : OpR X (binaryOp .LShift) uShl := op_shlW
theorem o_shr : OpR X (binaryOp .RShift) uShr := op_shr
theorem o_and : OpR X (binaryOp .BitAnd) uAnd := op_and
theorem o_lt : OpR X (compareOp .Lt) uLt := op_lt
theorem o_le : OpR X (compareOp .LtE) uLe := op_le
theorem o_gt : OpR X (compareOp .Gt) uGt := op_gt
theorem o_ge : OpR X (compareOp .GtE) uGe := op_ge
theorem o_eq (hu : X.A.units + 64 < cLine) : OpR X (compareOp .Eq) (uEq X.K) := op_eq.or (op_eqD hu)
theorem o_ne (hu : X.A.units + 64 < cLine) : OpR X (compareOp .NotEq) (uNe X.K) := op_ne.or (op_neD hu)
theorem o_in : OpR X (compareOp .In) (uIn X.K) := op_in_seq
theorem o_notIn : OpR X (compareOp .NotIn) (uNotIn X.K) := op_notIn_seq
theorem o_is : OpR X (compareOp .Is) uIs := op_isN.or op_isBl
theorem o_isNot : OpR X (compareOp .IsNot) uIsNot := op_notN.or op_notBl
theorem o_ix : IxR X (uIx X.K) := ix_seq
theorem o_sl : SlR X (uSl X.K) := sl_list.or sl_str
theorem o_neg : UnR X (unaryOp .USub) uNeg := un_neg
theorem k_len : CallR X (.builtin "len") (uLen X.K) := call_len
theorem k_max (hc : X.calm = true) : CallR X (.builtin "max") (uMax X.K) := (call_max2 hc).or (cr_max hc)
theorem k_min (hc : X.calm = true) : CallR X (.builtin "min") (uMin X.K) := (call_min2 hc).or (cr_min hc)
theorem k_abs : CallR X (.builtin "abs") uAbs := call_abs
theorem k_isi : CallR X (.builtin "isinstance") (uIsi X.K) := call_isi
theorem k_sum (hc : X.calm = true) : CallR X (.builtin "sum") (uSum X.K) := cr_sum hc
theorem s_any (hu : X.A.units + 1 < cLine) : PSet X uSet := by
  intro pins s σ H o i v ov iv u Q I ro ri rv h
  rcases h with h | h
  · exact set_list pins s σ H o i v ov iv u Q I ro ri rv h
  · exact set_dict hu pins s σ H o i v ov iv u Q I ro ri rv h
theorem k_sortedDA (hcalm : X.calm = true) : CallR X (.builtin "sorted") rSortedDA := by
  intro pins s σ H xs us Q I r q
  obtain ⟨a, kvs, ks, ex, hd, hks, q⟩ := q
  subst ex
  obtain ⟨u, eu, rx⟩ := vals1 r
  subst eu
  cases rx
  obtain ⟨z, lo, vs, rel, dd⟩ := dk_rd I.hok hd
  obtain ⟨ep, hat⟩ := dd.dictAt
  have hkeys : vs.map (·.1) = ks.map Sum.inl := rel.keys.symm.trans hks
  have hl : vs.length = ks.length := by
    have e := congrArg List.length hkeys
    rw [List.length_map, List.length_map] at e
    exact e
  have h16 : vs.length ≤ sizeLine := by rw [← rel.length]; exact z
  refine Calls.call_function_entry PyProof.Rows.kind_sorted PyProof.Rows.plain_sorted PyProof.Rows.entry_sorted (PyProof.Rows.args_sorted1 _) ?_
  unfold Builtin.«sorted»
  refine wpAny_bind (m := checkCount "sorted" 1 1 _) (wpAny_pure ?_)
  refine wpAny_bind (PySem.W.kdu_collect (A := X.A.in1) (PySem.W.kdl_dict (knd := mixKind X.prog X.w) (kvs := vs) (ep := ep) lo) (I.ok.hd hcalm) hat h16 fun h' tk acc hk hacc => ?_)
  have hal : acc.toList.length = ks.length := by rw [Array.length_toList, hacc.1, hl]
  have hS : IntsAre acc.toList ks := ints_each hal fun j v e => by
    obtain ⟨k, x, e1, e2⟩ := hacc.2 j v (by rw [← Array.getElem?_toList]; exact e)
    have e3 : (vs.map (·.1))[j]? = some k := by rw [List.getElem?_map, e1]; rfl
    rw [hkeys, List.getElem?_map] at e3
    cases e4 : ks[j]? with
    | none => rw [e4] at e3; cases e3
    | some y =>
      rw [e4] at e3
      have e5 : Sum.inl y = k := Option.some.inj e3
      subst e5
      rcases keyIs_shape (show keyIs (Sum.inl y) v = true from e2) with ⟨i, t, ek, ev⟩ | ⟨z, t, ek, ev⟩
      · cases ek
        exact ⟨y, t, rfl, ev⟩
      · cases ek
  have I1 : Inv X pins σ H { s with heap := h', toks := tk } := I.kept hk
  have hz2 : acc.toList.length ≤ sizeLine := by rw [hal, ← hl]; exact h16
  refine wpAny_bind (wpAny_newList ?_ hz2)
  have hoL : (h'.push (seqObj "list" acc.toList.toArray 0)).get? h'.objs.size = some (seqObj "list" acc.toList.toArray 0) := Heap.get?_push_size _ rfl
  show wpAny _ _ _ _ _ { s with heap := h'.push (seqObj "list" acc.toList.toArray 0), toks := tk }
  refine wpAny_bind (wpAny_holding (wpAny_call_entry PyProof.Rows.slot_list_sort ⟨_, hoL, rfl⟩ PyProof.Rows.entry_list_sort
    (SrtO.list_sort_ord (s := { s with heap := h'.push (seqObj "list" acc.toList.toArray 0), toks := tk }) SrtO.swo_int hoL hz2 (fun h2 => SrtO.ints_sortable hS h2) fun out g1 g2 => ⟨_, rfl, ?_⟩) (PyProof.Rows.args_list_sort _)))
  obtain ⟨k1, k2, k3⟩ := SrtO.ints_out hS g1 g2
  obtain ⟨e', he'⟩ := PyProof.Rows.sortedHeap_at (vs := acc.toList) (out := out.toArray) hoL
  have hlen : ((out.map SrtO.iv).map V.int).length ≤ sizeLine := by
    rw [List.length_map, k2.length_eq, ← hl]
    exact h16
  refine wpAny_pure ⟨_, rfl, .ref h'.objs.size, upd H h'.objs.size (.lst ((out.map SrtO.iv).map V.int)), I1.laid (t' := tk) (fun b u e => ?_) (Nat.le_refl _)
    (show ObjOk X.prog X.w _ _ _ (.lst ((out.map SrtO.iv).map V.int)) from ⟨hlen, out, e', vals_of_ints k1, he'⟩), rfl, q _ _ k2 k3 (I1.hok.fresh (Nat.le_refl _))⟩
  have hb : b < h'.objs.size := Heap.lt_size e
  rw [PyProof.Rows.sortedHeap_old (Nat.ne_of_lt hb) (by rw [size_push']; exact Nat.lt_succ_of_lt hb)]
  exact Heap.get?_push_of_some _ e
theorem k_sorted (hc : X.calm = true) : CallR X (.builtin "sorted") (uSorted X.K) := cr_sortedI.or (k_sortedDA hc)
theorem k_list (hc : X.calm = true) : CallR X (.type "list") (uList X.K) := call_list_of.or (call_list_dK hc)
theorem g_list : PGet X (rIxL X.K) := by
  intro pins s σ H x y v u Q I rx ry h
  obtain ⟨p, xs, i, z, rfl, rfl, hq, he, q⟩ := h
  cases rx
  obtain ⟨t, rfl⟩ := ry
  obtain ⟨its, r, pl, hz⟩ := I.list hq
  obtain ⟨j, h1, h2, h3, h4, h5⟩ := atI_get he
  obtain ⟨w, ew, rw'⟩ := r.get h2
  have hl := r.length
  have hn := line63
  have fin : EP X pins σ Q w s := ⟨z, H, I, rw', q⟩
  by_cases h0 : 0 ≤ i
  · have hj : i.toNat = j := by
      rw [seqIndex_of h0 h5] at h1
      exact Option.some.inj h1
    exact wpAny_getItem_list pl.isList h0 (by omega) (by rw [hj]; simpa using ew) fin
  · have hj : (i + (its.toArray.size : Int)).toNat = j := by
      rw [seqIndex_neg (by omega) h4] at h1
      rw [List.size_toArray, ← hl]
      exact Option.some.inj h1
    exact wpAny_getItem_list_neg pl.isList (by omega) (by rw [List.size_toArray] <;> omega) (by omega) (by rw [hj]; simpa using ew) fin
/-- slots of names -/
theorem pgn (i : Nat) {x : Str} {pos : Pos} (hN : X.N.Nodup) (hi : X.N[i]? = some x := by rfl) (hx : Loc X.env.scope x := by first | exact Or.inl rfl | exact Or.inr rfl) (hf : X.fn x = true ∨ X.env.scope.names.lookup x = some .local := by first | exact .inl rfl | exact .inr rfl) : PG X (.Name x pos) (gName i) := pg_name hN hi hx hf
theorem pst (i : Nat) {x : Str} {e : Expr} {te : TE} {pos pos' : Pos} (hN : X.N.Nodup) (he : PE X e te) (hi : X.N[i]? = some x := by rfl) (hx : Loc X.env.scope x := by first | exact Or.inl rfl | exact Or.inr rfl) (hs : swapsWith e (some (.Name x pos')) pos.line X.env = pure false := by rfl) (hf : X.fn x = true ∨ X.env.scope.names.lookup x = some .local := by first | exact .inl rfl | exact .inr rfl) :
    PS X (.Assign [.Name x pos'] e pos) (tAsg te (gName i)) := ps_set hN hi hx he hs hf
theorem pau (i : Nat) {x : Str} {e : Expr} {te : TE} {op : Operator} {ti : TIp} {pos pos' : Pos} (hN : X.N.Nodup) (he : PE X e te) (ho : PIp X op ti) (hi : X.N[i]? = some x := by rfl) (hx : Loc X.env.scope x := by first | exact Or.inl rfl | exact Or.inr rfl) (hf : X.fn x = true ∨ X.env.scope.names.lookup x = some .local := by first | exact .inl rfl | exact .inr rfl) :
    PS X (.AugAssign (.Name x pos') op e pos) (tAug i te ti) := ps_aug hN hi hx he ho hf
end
/-! ### calls that let nothing out -/
section
variable {X : Cx} {k : Nat} {f : Addr} {fd : FuncData} {ps : List Str} {sp : Sp} {x : Str} {p pos : Pos} {e : Expr} {es : List Expr} {t : TA}
theorem pcall (F : FnOk X.prog X.w X.K X.mg X.base CX0 k f fd ps (sp0 sp)) (hr : Room k X.A) (hg : Gl X x) (hm : X.mg x = some (.ref f)) (hk : PySem.W.keepIn X.K (.ref f) = true) (hb : Binds X.K fd ps []) (ha : PA X (e :: es) t)
    (hdb : (x == ("__debug__" : Str)) = false := by decide) (he : starEach (e :: es) X.env = (false, eval e X.env) :: starEach es X.env := by rfl) (hpl : (backTo pos (starEach es X.env)).any (·.1) = false := by rfl) :
    PE X (.Call (.Name x p) (e :: es) [] pos) (tCall sp [] E0 t) := pe_call (sp := sp0 sp) F hr hg hm hk hb .nil pass0 ha hdb he hpl
theorem prz0 {st : Stmt} {C : Addr} : PS X st (tRz E0 C) := ⟨fun _ _ _ _ _ _ h => h.elim⟩
end
/-! ### steps of a reading -/
section
variable {K : Fg} {D : Ends} {σ : L2.St} {H : Hp} {t u : TS} {te ta tb tc : TE} {c c2 : TT} {g : TG} {Q : VK} {QB : Bool → Hp → Prop} {QA : List V → Hp → Prop} {x y v : V} {i j : Int} {b : Bool} {a p l : Addr} {xs ys : List V} {z s : Str}
theorem i_seq (h : t { D with nx := u D } σ H) : tSeq t u D σ H := h
theorem i_next (h : D.nx σ H) : tNext D σ H := h
theorem i_asg (h : te σ H fun x H1 => g x σ H1 D.nx) : tAsg te g D σ H := h
theorem i_gname {n : Nat} {R : L2.St → Hp → Prop} (h : R (σ.set n (some v)) H) : gName n v σ H R := h
theorem i_ifS (h : c σ H fun b H1 => if b = true then t D σ H1 else u D σ H1) : tIfS c t u D σ H := h
theorem i_ret (h : te σ H D.rt) : tRet te D σ H := h
theorem i_retN (h : D.rt .non H) : tRetN D σ H := h
theorem i_drop (h : te σ H fun _ H1 => D.nx σ H1) : tDrop te D σ H := h
theorem i_brk (h : D.bk σ H) : tBreak D σ H := h
theorem i_aug {n : Nat} {ti : TIp} (hx : σ[n]? = some (some x)) (h : te σ H fun y H1 => ti x y H1 fun z H2 => D.nx (σ.set n (some z)) H2) : tAug n te ti D σ H := ⟨x, hx, h⟩
theorem i_ipI {f : Int → Int → Int} (h : Q (.int (f i j)) H) : ipI f (.int i) (.int j) H Q := ⟨i, j, rfl, rfl, h⟩
theorem i_var {n : Nat} (hx : σ[n]? = some (some v)) (h : Q v H) : tVar n σ H Q := ⟨v, hx, h⟩
theorem i_c (h : Q v H) : tC v σ H Q := h
theorem i_op {r : R2} (h : ta σ H fun x H1 => tb σ H1 fun y H2 => r x y H2 Q) : tOp r ta tb σ H Q := h
theorem i_un {r : V → Hp → VK → Prop} (h : ta σ H fun x H1 => r x H1 Q) : tUn r ta σ H Q := h
theorem i_call {sp : Sp} {E : XK} {t : TA} (h : t σ H fun vs H1 => sp vs H1 Q E) : tCall sp [] E t σ H Q := by
  have e : (fun vs H1 => sp (vs ++ []) H1 Q E) = fun vs H1 => sp vs H1 Q E := by
    funext vs H1
    rw [List.append_nil]
  show t σ H fun vs H1 => sp (vs ++ []) H1 Q E
  rw [e]
  exact h
theorem i_cb {r : RC} {t : TA} (h : t σ H fun vs H1 => r vs H1 Q) : tCB r t σ H Q := h
theorem i_nil (h : QA [] H) : tNil σ H QA := h
theorem i_cons {tr : TA} (h : ta σ H fun x H1 => tr σ H1 fun xs H2 => QA (x :: xs) H2) : tCons ta tr σ H QA := h
theorem i_bm {T : String} {r : V → List V → Hp → VK → Prop} {t : TA} (h : ta σ H fun x H1 => tyV K T x H1 ∧ t σ H1 fun xs H2 => r x xs H2 Q) : tBM K T r ta t σ H Q := h
theorem i_bm0 {T : String} {r : V → List V → Hp → VK → Prop} (h : ta σ H fun x H1 => tyV K T x H1 ∧ r x [] H1 Q) : tBM0 K T r ta σ H Q := h
theorem i_lst {t : TA} (h : t σ H fun xs H1 => xs.length ≤ sizeLine ∧ ∀ p, H1 p = none → Q (.ref p) (upd H1 p (.lst xs))) : tLst t σ H Q := h
theorem i_tup {t : TA} (h : t σ H fun xs H1 => xs.length ≤ sizeLine ∧ ∀ p, H1 p = none → Q (.ref p) (upd H1 p (.tup xs))) : tTup t σ H Q := h
theorem i_sl {r : V → Option Int → Option Int → Hp → VK → Prop} {tl th : TO} (h : te σ H fun x H1 => tl σ H1 fun l H2 => th σ H2 fun u H3 => r x l u H3 Q) : tSl r te tl th σ H Q := h
theorem i_nopart {R : Option Int → Hp → Prop} (h : R none H) : tNoPart σ H R := h
theorem i_part {R : Option Int → Hp → Prop} (h : te σ H fun x H1 => ∃ i, x = .int i ∧ R (some i) H1) : tPart te σ H R := h
theorem i_exint {R : Int → Prop} (h : R i) : ∃ j, V.int i = .int j ∧ R j := ⟨i, rfl, h⟩
theorem i_exbl {R : Bool → Prop} (h : R b) : ∃ j, V.bl b = .bl j ∧ R j := ⟨b, rfl, h⟩
theorem i_if (h : c σ H fun b H1 => if b = true then ta σ H1 Q else tb σ H1 Q) : tIf c ta tb σ H Q := h
theorem i_andV (h : ta σ H fun x H1 => ∃ c, x = .bl c ∧ if c = true then tb σ H1 Q else Q (.bl false) H1) : tAndV ta tb σ H Q := h
theorem i_orV (h : ta σ H fun x H1 => ∃ c, x = .bl c ∧ if c = true then Q (.bl true) H1 else tb σ H1 Q) : tOrV ta tb σ H Q := h
theorem i_notV (h : ta σ H fun x H1 => ∃ c, x = .bl c ∧ Q (.bl (!c)) H1) : tNotV ta σ H Q := h
theorem i_test (h : te σ H fun x H1 => ∃ k, x = .bl k ∧ QB k H1) : tTest te σ H QB := h
theorem i_B (h : te σ H fun x H1 => ∃ k, x = .bl k ∧ QB k H1) : tB te σ H QB := h
theorem i_and (h : c σ H fun b H1 => if b = true then c2 σ H1 QB else QB false H1) : tAnd c c2 σ H QB := h
theorem i_or (h : c σ H fun b H1 => if b = true then QB true H1 else c2 σ H1 QB) : tOr c c2 σ H QB := h
theorem i_not (h : c σ H fun b H1 => QB (!b) H1) : tNot c σ H QB := h
theorem i_yes (h : QB true H) : tYes σ H QB := h
theorem i_chain {r r' : R2} (h : ta σ H fun x H1 => tb σ H1 fun y H2 => r x y H2 fun z H3 => ∃ k, z = .bl k ∧ (if k = true then tc σ H3 fun w' H4 => r' y w' H4 Q else Q (.bl false) H3)) : tChain r r' ta tb tc σ H Q := h
/-! numbers -/
theorem i_add (h : Q (.int (i + j)) H) : uAdd (.int i) (.int j) H Q := .inl ⟨i, j, rfl, rfl, h⟩
theorem i_addL (h1 : H a = some (.lst xs)) (h2 : H p = some (.lst ys)) (hz : xs.length + ys.length ≤ sizeLine) (h : ∀ q, H q = none → Q (.ref q) (upd H q (.lst (xs ++ ys)))) : uAdd (.ref a) (.ref p) H Q := .inr (.inr ⟨a, p, xs, ys, rfl, rfl, h1, h2, hz, h⟩)
theorem i_sub (h : Q (.int (i - j)) H) : uSub (.int i) (.int j) H Q := ⟨i, j, rfl, rfl, h⟩
theorem i_mulL (h1 : -(2 ^ 64) < i ∧ i < 2 ^ 64) (h : Q (.int (i * j)) H) : uMul (.int i) (.int j) H Q := .inr (.inl ⟨i, j, rfl, rfl, .inl h1, h⟩)
theorem i_mulR (h1 : -(2 ^ 64) < j ∧ j < 2 ^ 64) (h : Q (.int (i * j)) H) : uMul (.int i) (.int j) H Q := .inr (.inl ⟨i, j, rfl, rfl, .inr h1, h⟩)
theorem i_mulX (h1 : CMulX i j) (h : Q (.int (i * j)) H) : uMul (.int i) (.int j) H Q := .inl ⟨i, j, rfl, rfl, h1, h⟩
theorem i_rep {k : Int} (h1 : H a = some (.lst xs)) (h0 : -(2 ^ 63) ≤ k) (h2 : k < 2 ^ 63) (hz : xs.length * k.toNat ≤ sizeLine) (h : ∀ q, H q = none → Q (.ref q) (upd H q (.lst (List.replicate k.toNat xs).flatten))) : uMul (.ref a) (.int k) H Q := .inr (.inr ⟨a, k, xs, rfl, rfl, h1, h0, h2, hz, h⟩)
theorem i_div (h1 : CDivW i j) (h : Q (.int (i / j)) H) : uDiv (.int i) (.int j) H Q := ⟨i, j, rfl, rfl, h1, h⟩
theorem div_ok (h0 : 0 < j) (h1 : j < 2 ^ 64) : CDivW i j := wide_div (b := 64) h0 (by omega) (by decide) (by decide)
theorem i_mod (h1 : 0 < j) (h : Q (.int (i % j)) H) : uMod (.int i) (.int j) H Q := ⟨i, j, rfl, rfl, h1, h⟩
theorem i_pow (h1 : CPow i j) (h : Q (.int (i ^ j.toNat)) H) : uPow (.int i) (.int j) H Q := ⟨i, j, rfl, rfl, h1, h⟩
theorem i_shl (h1 : CShl i j) (h : Q (.int (i * 2 ^ j.toNat)) H) : uShl (.int i) (.int j) H Q := ⟨i, j, rfl, rfl, h1, h⟩
theorem i_shr (h1 : 0 ≤ j) (h : Q (.int (i / 2 ^ j.toNat)) H) : uShr (.int i) (.int j) H Q := ⟨i, j, rfl, rfl, h1, h⟩
theorem i_band (h : Q (.int (Builtin.bitAnd i j)) H) : uAnd (.int i) (.int j) H Q := ⟨i, j, rfl, rfl, h⟩
theorem i_bor (h : Q (.int (Builtin.bitOr i j)) H) : uOr (.int i) (.int j) H Q := ⟨i, j, rfl, rfl, h⟩
theorem i_neg (h : Q (.int (-i)) H) : uNeg (.int i) H Q := ⟨i, rfl, h⟩
theorem i_lt (h : Q (.bl (decide (i < j))) H) : uLt (.int i) (.int j) H Q := ⟨i, j, rfl, rfl, h⟩
theorem i_le (h : Q (.bl (decide (i ≤ j))) H) : uLe (.int i) (.int j) H Q := ⟨i, j, rfl, rfl, h⟩
theorem i_gt (h : Q (.bl (decide (j < i))) H) : uGt (.int i) (.int j) H Q := ⟨i, j, rfl, rfl, h⟩
theorem i_ge (h : Q (.bl (decide (j ≤ i))) H) : uGe (.int i) (.int j) H Q := ⟨i, j, rfl, rfl, h⟩
theorem dec_VI : decide (V.int i = V.int j) = decide (i = j) := by rw [Bool.eq_iff_iff]; simp
theorem dec_VS : decide (V.str z = V.str s) = decide (z = s) := by rw [Bool.eq_iff_iff]; simp
theorem i_eqI (h : Q (.bl (decide (i = j))) H) : uEq K (.int i) (.int j) H Q := .inl ⟨rfl, by rw [dec_VI]; exact h⟩
theorem i_neI (h : Q (.bl (!decide (i = j))) H) : uNe K (.int i) (.int j) H Q := .inl ⟨rfl, by rw [dec_VI]; exact h⟩
theorem i_eqS (h : Q (.bl (decide (z = s))) H) : uEq K (.str z) (.str s) H Q := .inl ⟨rfl, by rw [dec_VS]; exact h⟩
theorem i_neS (h : Q (.bl (!decide (z = s))) H) : uNe K (.str z) (.str s) H Q := .inl ⟨rfl, by rw [dec_VS]; exact h⟩
theorem i_eqIS (h : Q (.bl false) H) : uEq K (.int i) (.str s) H Q := .inl ⟨rfl, by rw [decide_eq_false (fun z => nomatch z)]; exact h⟩
theorem i_neIS (h : Q (.bl true) H) : uNe K (.int i) (.str s) H Q := .inl ⟨rfl, by rw [decide_eq_false (fun z => nomatch z)]; exact h⟩
theorem i_eqIN (h : Q (.bl false) H) : uEq K (.int i) .non H Q := .inl ⟨rfl, by rw [decide_eq_false (fun z => nomatch z)]; exact h⟩
theorem i_neIN (h : Q (.bl true) H) : uNe K (.int i) .non H Q := .inl ⟨rfl, by rw [decide_eq_false (fun z => nomatch z)]; exact h⟩
theorem i_eqNI (h : Q (.bl false) H) : uEq K .non (.int i) H Q := .inl ⟨rfl, by rw [decide_eq_false (fun z => nomatch z)]; exact h⟩
theorem i_neNI (h : Q (.bl true) H) : uNe K .non (.int i) H Q := .inl ⟨rfl, by rw [decide_eq_false (fun z => nomatch z)]; exact h⟩
theorem i_neNN (h : Q (.bl false) H) : uNe K .non .non H Q := .inl ⟨rfl, by rw [decide_eq_true rfl]; exact h⟩
theorem i_isN (h : Q (.bl (decide (x = .non))) H) : uIs x .non H Q := .inl ⟨rfl, h⟩
theorem i_notN (h : Q (.bl (!decide (x = .non))) H) : uIsNot x .non H Q := .inl ⟨rfl, h⟩
theorem i_isB {b2 : Bool} (h : Q (.bl (decide (b = b2))) H) : uIs (.bl b) (.bl b2) H Q := .inr ⟨b, b2, rfl, rfl, h⟩
theorem i_notB {b2 : Bool} (h : Q (.bl (!decide (b = b2))) H) : uIsNot (.bl b) (.bl b2) H Q := .inr ⟨b, b2, rfl, rfl, h⟩
theorem i_max2 (h : Q (.int (if j > i then j else i)) H) : uMax K [.int i, .int j] H Q := .inl ⟨i, j, rfl, h⟩
theorem i_min2 (h : Q (.int (if j < i then j else i)) H) : uMin K [.int i, .int j] H Q := .inl ⟨i, j, rfl, h⟩
theorem i_maxL {ns : List Int} (hs : SqL K H a (ns.map V.int)) (h0 : 0 < ns.length) (h : ∀ m, m ∈ ns → (∀ y, y ∈ ns → y ≤ m) → Q (.int m) H) : uMax K [.ref a] H Q := .inr ⟨a, ns, rfl, hs, h0, h⟩
theorem i_minL {ns : List Int} (hs : SqL K H a (ns.map V.int)) (h0 : 0 < ns.length) (h : ∀ m, m ∈ ns → (∀ y, y ∈ ns → m ≤ y) → Q (.int m) H) : uMin K [.ref a] H Q := .inr ⟨a, ns, rfl, hs, h0, h⟩
theorem i_sumL {ns : List Int} (hs : SqL K H a (ns.map V.int)) (h : Q (.int ns.sum) H) : uSum K [.ref a] H Q := ⟨a, ns, rfl, hs, h⟩
theorem i_intI (h : Q (.int i) H) : uInt [.int i] H Q := .inl (.inl ⟨i, rfl, h⟩)
theorem i_intB (h : Q (.int (if b then 1 else 0)) H) : uInt [.bl b] H Q := .inl (.inr ⟨b, rfl, h⟩)
theorem i_abs (h : Q (.int (if i < 0 then -i else i)) H) : uAbs [.int i] H Q := ⟨i, rfl, h⟩
theorem i_lenL (hs : SqL K H a xs) (h : Q (.int xs.length) H) : uLen K [.ref a] H Q := ⟨_, xs.length, rfl, .inl ⟨xs, hs, rfl⟩, h⟩
theorem i_ixL (hs : SqL K H a xs) (ha : atI xs i = some v) (h : Q v H) : uIx K (.ref a) (.int i) H Q := .inl ⟨a, xs, i, v, rfl, rfl, hs, ha, h⟩
theorem i_ixT (hs : SqT K H a xs) (ha : atI xs i = some v) (h : Q v H) : uIx K (.ref a) (.int i) H Q := .inr (.inl ⟨a, xs, i, v, rfl, rfl, hs, ha, h⟩)
theorem i_slL {lo hi : Option Int} (hs : SqL K H a xs) (h : ∀ p, H p = none → Q (.ref p) (upd H p (.lst (cutV xs lo hi)))) : uSl K (.ref a) lo hi H Q := .inl ⟨a, xs, rfl, hs, h⟩
theorem i_setL {R : Hp → Prop} {n : Nat} (hs : H a = some (.lst xs)) (hi : ixN xs.length i = some n) (h : R (upd H a (.lst (xs.set n v)))) : uSet (.ref a) (.int i) v H R := .inl ⟨a, xs, i, n, rfl, rfl, hs, hi, h⟩
theorem i_inL (hs : SqL K H a xs) (hx : flatV x = true) (hf : xs.all flatV = true) (h : Q (.bl (inV x xs)) H) : uIn K x (.ref a) H Q := ⟨a, xs, rfl, .inl hs, hx, hf, h⟩
theorem i_ninL (hs : SqL K H a xs) (hx : flatV x = true) (hf : xs.all flatV = true) (h : Q (.bl (!inV x xs)) H) : uNotIn K x (.ref a) H Q := ⟨a, xs, rfl, .inl hs, hx, hf, h⟩
theorem i_gsub {to ti : TE} {ts : TSet} {R : L2.St → Hp → Prop} (h : to σ H fun o H1 => ti σ H1 fun i H2 => ts o i v H2 fun H3 => R σ H3) : gSub to ti ts v σ H R := h
theorem i_app (hs : H a = some (.lst xs)) (hz : xs.length < sizeLine) (h : Q .non (upd H a (.lst (xs ++ [v])))) : rAppend (.ref a) [v] H Q := ⟨a, xs, v, rfl, rfl, hs, hz, h⟩
/-! isinstance of what is no object -/
theorem i_isiII (h : Q (.bl true) H) : uIsi K [.int i, .ty "int"] H Q := ⟨_, _, _, _, true, rfl, .ty _, .base (.int i), kit_ty (by decide +kernel), h⟩
theorem i_isiIB (h : Q (.bl false) H) : uIsi K [.int i, .ty "bool"] H Q := ⟨_, _, _, _, false, rfl, .ty _, .base (.int i), kit_ty (by decide +kernel), h⟩
theorem i_isiIS (h : Q (.bl false) H) : uIsi K [.int i, .ty "str"] H Q := ⟨_, _, _, _, false, rfl, .ty _, .base (.int i), kit_ty (by decide +kernel), h⟩
theorem i_isiIL (h : Q (.bl false) H) : uIsi K [.int i, .ty "list"] H Q := ⟨_, _, _, _, false, rfl, .ty _, .base (.int i), kit_ty (by decide +kernel), h⟩
theorem i_isiSI (h : Q (.bl false) H) : uIsi K [.str s, .ty "int"] H Q := ⟨_, _, _, _, false, rfl, .ty _, .base (.str s), kit_ty (by decide +kernel), h⟩
theorem i_isiSB (h : Q (.bl false) H) : uIsi K [.str s, .ty "bool"] H Q := ⟨_, _, _, _, false, rfl, .ty _, .base (.str s), kit_ty (by decide +kernel), h⟩
theorem i_isiSS (h : Q (.bl true) H) : uIsi K [.str s, .ty "str"] H Q := ⟨_, _, _, _, true, rfl, .ty _, .base (.str s), kit_ty (by decide +kernel), h⟩
theorem i_isiSL (h : Q (.bl false) H) : uIsi K [.str s, .ty "list"] H Q := ⟨_, _, _, _, false, rfl, .ty _, .base (.str s), kit_ty (by decide +kernel), h⟩
theorem i_isiBI (h : Q (.bl true) H) : uIsi K [.bl b, .ty "int"] H Q := ⟨_, _, _, _, true, rfl, .ty _, .base (.bl b), kit_ty (by decide +kernel), h⟩
theorem i_isiBB (h : Q (.bl true) H) : uIsi K [.bl b, .ty "bool"] H Q := ⟨_, _, _, _, true, rfl, .ty _, .base (.bl b), kit_ty (by decide +kernel), h⟩
theorem i_isiBS (h : Q (.bl false) H) : uIsi K [.bl b, .ty "str"] H Q := ⟨_, _, _, _, false, rfl, .ty _, .base (.bl b), kit_ty (by decide +kernel), h⟩
theorem i_isiNI (h : Q (.bl false) H) : uIsi K [.non, .ty "int"] H Q := ⟨_, _, _, _, false, rfl, .ty _, .base .non, kit_ty (by decide +kernel), h⟩
theorem i_isiNB (h : Q (.bl false) H) : uIsi K [.non, .ty "bool"] H Q := ⟨_, _, _, _, false, rfl, .ty _, .base .non, kit_ty (by decide +kernel), h⟩
theorem i_isiLL (e : H a = some (.lst xs)) (h : Q (.bl true) H) : uIsi K [.ref a, .ty "list"] H Q := ⟨_, _, _, _, true, rfl, .ty _, .base (.lst e), kit_ty (by decide +kernel), h⟩
/-! a test that changes nothing, its answer known -/
def PureT (c : TT) (σ : L2.St) (H : Hp) (b : Bool) : Prop := ∀ QB : Bool → Hp → Prop, QB b H → c σ H QB
theorem i_orP {b1 b2 : Bool} (h1 : PureT c σ H b1) (h2 : b1 = false → PureT c2 σ H b2) (h : QB (b1 || b2) H) : tOr c c2 σ H QB := h1 _ (by
  cases b1 with
  | true => exact h
  | false => exact h2 rfl _ h)
/-! ways -/
theorem i_ite {d A B : Prop} [Decidable d] (h1 : d → A) (h2 : ¬ d → B) : if decide d = true then A else B := by
  by_cases h : d
  · rw [if_pos (decide_eq_true h)]; exact h1 h
  · rw [if_neg (by simp [h])]; exact h2 h
theorem i_iteN {d A B : Prop} [Decidable d] (h1 : d → B) (h2 : ¬ d → A) : if (!decide d) = true then A else B := by
  by_cases h : d
  · rw [if_neg (by simp [h])]; exact h1 h
  · rw [if_pos (by simp [h])]; exact h2 h
theorem i_T {d : Bool} {A B : Prop} (hd : d = true) (h : A) : if d = true then A else B := by rw [if_pos hd]; exact h
theorem i_F {d : Bool} {A B : Prop} (hd : d = false) (h : B) : if d = true then A else B := by rw [if_neg (by simp [hd])]; exact h
theorem i_both {d : Bool} {A B : Prop} (h1 : d = true → A) (h2 : d = false → B) : if d = true then A else B := by
  cases d
  · exact i_F rfl (h2 rfl)
  · exact i_T rfl (h1 rfl)
end
/-! ### heaps -/
theorem same_new {H : Hp} {p : Addr} {o : HO} (h : H p = none) : Same H (upd H p o) := fun b x e => by
  rw [upd_ne (ne_of_none e h)]
  exact e
/-- what was known at H0 stays, though an object that H0 did not know is turned -/
theorem same_mut {H0 H : Hp} {p : Addr} {o : HO} (s : Same H0 H) (h : H0 p = none) : Same H0 (upd H p o) := fun b x e => by
  rw [upd_ne (ne_of_none e h)]
  exact s b x e
theorem sq_of {K : Fg} {H : Hp} {a : Addr} {xs : List V} (h : H a = some (.lst xs)) : SqL K H a xs := .inl (.inl h)
theorem st_of {K : Fg} {H : Hp} {a : Addr} {xs : List V} (h : H a = some (.tup xs)) : SqT K H a xs := .inl (.inl h)
theorem at_nat {xs : List V} {n : Nat} {v : V} {i : Int} (e : i = (n : Int)) (h : xs[n]? = some v) : atI xs i = some v := by
  rw [e]; exact atI_nat h
theorem sz_le {n : Nat} (h : n ≤ 1000000) : n ≤ sizeLine := Nat.le_trans h (by decide)
theorem sz_lt {n : Nat} (h : n < 1000000) : n < sizeLine := Nat.lt_of_lt_of_le h (by decide)
/-- what stands outside a region is kept -/
def Keep (R : Addr → Prop) (H H' : Hp) : Prop := ∀ a o, ¬ R a → H a = some o → H' a = some o
theorem Keep.refl (R : Addr → Prop) (H : Hp) : Keep R H H := fun _ _ _ h => h
theorem Keep.trans {R : Addr → Prop} {H H1 H2 : Hp} (a : Keep R H H1) (b : Keep R H1 H2) : Keep R H H2 := fun x o n h => b x o n (a x o n h)
theorem Same.keep {R : Addr → Prop} {H H' : Hp} (s : Same H H') : Keep R H H' := fun a o _ h => s a o h
theorem keep_mut {R : Addr → Prop} {H0 H : Hp} {p : Addr} {o : HO} (s : Keep R H0 H) (h : H0 p = none) : Keep R H0 (upd H p o) := fun b x n e => by
  rw [upd_ne (ne_of_none e h)]
  exact s b x n e
theorem keep_in {R : Addr → Prop} {H0 H : Hp} {p : Addr} {o : HO} (s : Keep R H0 H) (h : R p) : Keep R H0 (upd H p o) := fun b x n e => by
  rw [upd_ne (fun z => n (by rw [z]; exact h))]
  exact s b x n e
/-! ### loops -/
def LoopK (J : It) (g : TG) (tb : TS) (D : Ends) (σ : L2.St) (H : Hp) : Prop := ∃ W : Nat → Nat → L2.St → Hp → Prop, (∃ m, W 0 m σ H) ∧ ∀ i m σ H, W i m σ H →
  (J.stop i H ∧ D.nx σ H) ∨ (J.go i H ∧ ∃ N : L2.St → Hp → Prop, (∀ σ' H', N σ' H' → ∃ m', m' < m ∧ W (i + 1) m' σ' H') ∧ ∀ x H', J.yld i H x H' → g x σ H' fun σ2 H2 => tb { D with nx := N, ct := N, bk := D.nx } σ2 H2)
def LcK (J : It) (g : TG) (tt : TT) (te : TE) (vs : List Nat) (σ : L2.St) (H1 : Hp) (Q : VK) : Prop := ∀ D, H1 D = none → ∃ W : Nat → Nat → Hp → Prop, (∃ m, W 0 m (upd H1 D (.lst []))) ∧ ∀ i m H, W i m H →
  (J.stop i H ∧ Q (.ref D) H) ∨ (J.go i H ∧ ∃ Nx : Hp → Prop, (∀ H', Nx H' → ∃ m', m' < m ∧ W (i + 1) m' H') ∧ ∀ x H', J.yld i H x H' → g x (wipe σ vs) H' fun σ2 H2 => wipe σ2 vs = wipe σ vs ∧ tt σ2 H2 fun b H3 =>
    if b = true then te σ2 H3 fun y H4 => ∃ acc, H4 D = some (.lst acc) ∧ acc.length < sizeLine ∧ Nx (upd H4 D (.lst (acc ++ [y]))) else Nx H3)
def RngA1 (vs : List V) (H : Hp) (R : It → Hp → Prop) : Prop := ∃ j : Int, vs = [.int j] ∧ -(2 ^ 62) ≤ j ∧ j < 2 ^ 62 ∧ R (Itr 0 j.toNat) H
def RngA2 (vs : List V) (H : Hp) (R : It → Hp → Prop) : Prop := ∃ i j : Int, vs = [.int i, .int j] ∧ (-(2 ^ 62) ≤ i ∧ i < 2 ^ 62 ∧ -(2 ^ 62) ≤ j ∧ j < 2 ^ 62) ∧ R (Itr i (j - i).toNat) H
def RngA3 (vs : List V) (H : Hp) (R : It → Hp → Prop) : Prop := ∃ (i j c : Int) (n : Nat), vs = [.int i, .int j, .int c] ∧ RgC i j c n ∧ R (Itc i c n) H
def LstA (K : Fg) (x : V) (H : Hp) (R : It → Hp → Prop) : Prop := ∃ a, x = .ref a ∧ (∃ xs, SqL K H a xs) ∧ R (Itl K a) H
def TupA (K : Fg) (x : V) (H : Hp) (R : It → Hp → Prop) : Prop := ∃ a, x = .ref a ∧ (∃ xs, SqT K H a xs) ∧ R (Itt K a) H
def EnumA (K : Fg) (vs : List V) (H : Hp) (R : It → Hp → Prop) : Prop := ∃ a xs, vs = [.ref a] ∧ SqL K H a xs ∧ R (Ite K a) H
def ZipA (K : Fg) (vs : List V) (H : Hp) (R : It → Hp → Prop) : Prop := ∃ a b xs ys, vs = [.ref a, .ref b] ∧ SqL K H a xs ∧ SqL K H b ys ∧ R (Itz K a b) H
def StrA (v : V) (H : Hp) (R : It → Hp → Prop) : Prop := ∃ x, v = .str x ∧ R (Its x) H
section
variable {K : Fg} {D : Ends} {σ : L2.St} {H : Hp} {tb : TS} {te : TE} {ta : TA} {c tt : TT} {g : TG} {Q : VK} {wi : TI} {R : It → Hp → Prop} {J : It} {vs : List Nat} {i j lo : Int} {n : Nat} {a b : Addr} {xs ys : List V} {z : Str}
theorem i_for (h : wi σ H fun J H1 => LoopK J g tb D σ H1) : tFor wi g tb D σ H := h
theorem i_lc (h : wi σ H fun J H1 => LcK J g tt te vs σ H1 Q) : tLc wi g tt te vs σ H Q := h
theorem i_rng1 (h : ta σ H fun vs H1 => RngA1 vs H1 R) : iRng1 ta σ H R := h
theorem i_rng2 (h : ta σ H fun vs H1 => RngA2 vs H1 R) : iRng2 ta σ H R := h
theorem i_rng3 (h : ta σ H fun vs H1 => RngA3 vs H1 R) : iRng3 ta σ H R := h
theorem i_list (h : te σ H fun x H1 => LstA K x H1 R) : iList K te σ H R := h
theorem i_tupl (h : te σ H fun x H1 => TupA K x H1 R) : iTup K te σ H R := h
theorem i_enum (h : ta σ H fun vs H1 => EnumA K vs H1 R) : iEnum K ta σ H R := h
theorem i_zip (h : ta σ H fun vs H1 => ZipA K vs H1 R) : iZip K ta σ H R := h
theorem i_str (h : te σ H fun x H1 => StrA x H1 R) : iStr te σ H R := h
theorem i_rngA1 (h : -(2 ^ 62) ≤ j ∧ j < 2 ^ 62) (k : R (Itr 0 j.toNat) H) : RngA1 [.int j] H R := ⟨j, rfl, h.1, h.2, k⟩
theorem i_rngA2 (h : -(2 ^ 62) ≤ i ∧ i < 2 ^ 62 ∧ -(2 ^ 62) ≤ j ∧ j < 2 ^ 62) (k : R (Itr i (j - i).toNat) H) : RngA2 [.int i, .int j] H R := ⟨i, j, rfl, h, k⟩
theorem i_rngA3 (h : -(2 ^ 62) ≤ i ∧ i < 2 ^ 62 ∧ -(2 ^ 62) ≤ j ∧ j < 2 ^ 62) (k : R (Itc i (-1) (i - j).toNat) H) : RngA3 [.int i, .int j, .int (-1)] H R := ⟨i, j, -1, _, rfl, RgC.neg h.1 h.2.1 h.2.2.1 h.2.2.2, k⟩
theorem i_lstA (h : SqL K H a xs) (k : R (Itl K a) H) : LstA K (.ref a) H R := ⟨a, rfl, ⟨xs, h⟩, k⟩
theorem i_enumA (h : SqL K H a xs) (k : R (Ite K a) H) : EnumA K [.ref a] H R := ⟨a, xs, rfl, h, k⟩
theorem i_strA (k : R (Its z) H) : StrA (.str z) H R := ⟨z, rfl, k⟩
/-- a for, by what holds ahead of each turn -/
theorem lk {G : Hp → Prop} {Y : Nat → Hp → V → Hp → Prop} (w : Walk J n G Y) (Pv : Nat → L2.St → Hp → Prop) (h0 : Pv 0 σ H) (hG : ∀ i σ H, i ≤ n → Pv i σ H → G H)
    (hs : ∀ i x σ H H', i < n → Pv i σ H → Y i H x H' → g x σ H' fun σ2 H2 => tb { D with nx := Pv (i + 1), ct := Pv (i + 1), bk := D.nx } σ2 H2) (hd : ∀ σ H, Pv n σ H → D.nx σ H) : LoopK J g tb D σ H := for_it w Pv h0 hG hs hd
theorem lk_range (Pv : Nat → L2.St → Hp → Prop) (h0 : Pv 0 σ H)
    (hs : ∀ i σ H, i < n → Pv i σ H → g (.int (lo + i)) σ H fun σ2 H2 => tb { D with nx := Pv (i + 1), ct := Pv (i + 1), bk := D.nx } σ2 H2) (hd : ∀ σ H, Pv n σ H → D.nx σ H) : LoopK (Itr lo n) g tb D σ H := for_range Pv h0 hs hd
theorem lk_list (Pv : Nat → L2.St → Hp → Prop) (h0 : Pv 0 σ H) (hl : ∀ i σ H, i ≤ xs.length → Pv i σ H → SqL K H a xs)
    (hs : ∀ i x σ H, xs[i]? = some x → Pv i σ H → g x σ H fun σ2 H2 => tb { D with nx := Pv (i + 1), ct := Pv (i + 1), bk := D.nx } σ2 H2) (hd : ∀ σ H, Pv xs.length σ H → D.nx σ H) : LoopK (Itl K a) g tb D σ H := for_list Pv h0 hl hs hd
def TurnK (W : Nat → L2.St → Hp → Prop) (m : Nat) (tb : TS) (D : Ends) (σ : L2.St) (H : Hp) : Prop := ∃ N : L2.St → Hp → Prop, (∀ σ' H', N σ' H' → ∃ m', m' < m ∧ W m' σ' H') ∧ tb { D with nx := N, ct := N, bk := D.nx } σ H
theorem i_turn {W : Nat → L2.St → Hp → Prop} {m : Nat} (h : tb { D with nx := fun σ2 H2 => ∃ m', m' < m ∧ W m' σ2 H2, ct := fun σ2 H2 => ∃ m', m' < m ∧ W m' σ2 H2, bk := D.nx } σ H) : TurnK W m tb D σ H := ⟨_, fun _ _ z => z, h⟩
theorem i_while (W : Nat → L2.St → Hp → Prop) (m0 : Nat) (h0 : W m0 σ H)
    (hs : ∀ m σ' H', W m σ' H' → c σ' H' fun b H1 => if b = true then TurnK W m tb D σ' H1 else D.nx σ' H1) : tWhile c tb D σ H := ⟨W, ⟨m0, h0⟩, hs⟩
/-- a comprehension -/
theorem lck {G : Hp → Prop} {Y : Nat → Hp → V → Hp → Prop} (w : Walk J n G Y) (Pv : Addr → Nat → Hp → Prop) (h0 : ∀ D, H D = none → Pv D 0 (upd H D (.lst []))) (hG : ∀ D i H, i ≤ n → Pv D i H → G H)
    (hs : ∀ D i x H H', i < n → Pv D i H → Y i H x H' → g x (wipe σ vs) H' fun σ2 H2 => wipe σ2 vs = wipe σ vs ∧ tt σ2 H2 fun b H3 =>
      if b = true then te σ2 H3 fun y H4 => ∃ acc, H4 D = some (.lst acc) ∧ acc.length < sizeLine ∧ Pv D (i + 1) (upd H4 D (.lst (acc ++ [y]))) else Pv D (i + 1) H3) (hd : ∀ D H', H D = none → Pv D n H' → Q (.ref D) H') : LcK J g tt te vs σ H Q :=
  fun D hD => lc_it w (Pv D) (h0 D hD) (hG D) (hs D) (fun H' p => hd D H' hD p)
/-- one that changes nothing: which turns give, and what -/
def given (f : Nat → Option V) : Nat → List V
  | 0 => []
  | n + 1 => given f n ++ (match f n with | some y => [y] | none => [])
theorem given_len (f : Nat → Option V) : ∀ n, (given f n).length ≤ n
  | 0 => Nat.le_refl _
  | n + 1 => by
    have h := given_len f n
    unfold given
    rw [List.length_append]
    cases f n <;> simp <;> omega
theorem lck_pure {G : Hp → Prop} {Y : Nat → Hp → V → Hp → Prop} (w : Walk J n G Y) (hn : n ≤ 100000) (f : Nat → Option V) (hG : ∀ H', Same H H' → G H')
    (turn : ∀ i x H1 H2 (KK : V → Hp → Prop) (NN : Hp → Prop), i < n → Same H H1 → Y i H1 x H2 → (∀ y H4, f i = some y → Same H1 H4 → KK y H4) → (∀ H3, f i = none → Same H1 H3 → NN H3) →
      g x (wipe σ vs) H2 fun σ2 H2 => wipe σ2 vs = wipe σ vs ∧ tt σ2 H2 fun b H3 => if b = true then te σ2 H3 KK else NN H3)
    (fin : ∀ p H', H p = none → Same H H' → H' p = some (.lst (given f n)) → Q (.ref p) H') : LcK J g tt te vs σ H Q := by
  refine lck w (fun D i H' => H D = none ∧ Same H H' ∧ H' D = some (.lst (given f i))) (fun D hD => ⟨hD, same_new hD, upd_same⟩) (fun D i H' _ p => hG H' p.2.1) (fun D i x H1 H2 hi p y => ?_) (fun D H' hD p => fin D H' hD p.2.1 p.2.2)
  obtain ⟨p0, p1, p2⟩ := p
  refine turn i x H1 H2 _ _ hi p1 y (fun y H4 hf s4 => ?_) (fun H3 hf s3 => ?_)
  · refine ⟨given f i, s4 _ _ p2, sz_lt (by have := given_len f i; omega), p0, same_mut (p1.trans s4) p0, ?_⟩
    rw [upd_same]
    show some (HO.lst (given f i ++ [y])) = some (HO.lst (given f i ++ (match f i with | some y => [y] | none => [])))
    rw [hf]
  · refine ⟨p0, p1.trans s3, ?_⟩
    rw [s3 _ _ p2]
    show some (HO.lst (given f i)) = some (HO.lst (given f i ++ (match f i with | some y => [y] | none => [])))
    rw [hf, List.append_nil]
end
/-- where classes stand -/
def cAt (l : List (String × Addr)) (n : String) : Addr := (l.lookup n).getD 0
/-! ### attributes of one's own objects -/
def tFl (C : Addr) (ta : TE) (f : Str) : TE := fun σ H Q => ta σ H fun x H1 => ∃ p dx fs v, x = .ref p ∧ H1 p = some (.ins C dx fs) ∧ fs.lookup f = some v ∧ Q v H1
def tFls (C : Addr) (ta tv : TE) (f : Str) : TS := fun D σ H => tv σ H fun y H1 => ta σ H1 fun x H2 => ∃ p dx fs, x = .ref p ∧ H2 p = some (.ins C dx fs) ∧ fs.length < 1000 ∧ D.nx σ (upd H2 p (.ins C dx (putF f y fs)))
def rRmV : V → List V → Hp → VK → Prop := fun x xs H Q => ∃ (l : Addr) (ys : List V) (y : V) (j : Nat) (z : V), x = .ref l ∧ xs = [y] ∧ H l = some (.lst ys) ∧ flatV y = true ∧ ys.all flatV = true ∧ ys[j]? = some z ∧ eqV z y = true ∧
  (∀ (m : Nat) (z' : V), m < j → ys[m]? = some z' → eqV z' y = false) ∧ Q .non (upd H l (.lst (ys.eraseIdx j)))
def rCntV (K : Fg) : V → List V → Hp → VK → Prop := fun x xs H Q => ∃ (p : Addr) (ys : List V) (y : V), x = .ref p ∧ xs = [y] ∧ SqL K H p ys ∧ flatV y = true ∧ ys.all flatV = true ∧ Q (.int (ys.countP fun z => eqV z y : Nat)) H
section
variable {X : Cx} {o e value : Expr} {f : Str} {pos pos' : Pos} {ta tv : TE} {C : Addr}
theorem pfl (hc : Cls X.K C) (hn : NoAttr X.K C f) (he : PE X e ta) (hb : attributeBase e f X.env (eval e X.env) = eval e X.env) : PE X (.Attribute e f pos) (tFl C ta f) := by
  constructor
  intro pins s σ H Q I h
  refine attr_of hb (thn (he.run pins s σ H _ I h) ?_)
  rintro u s1 ⟨x, H1, I1, rx, p, dx, fs, v, rfl, ep, lf, q⟩
  cases rx
  exact getattr_ok I1 ep hc hn lf fun w s2 I2 rw' => ⟨v, H1, I2, rw', q⟩
theorem pfls (hc : Cls X.K C) (hn : NoAttr X.K C f) (ha : PE X o ta) (hv : PE X value tv) (hs : swapsWith value (some (.Attribute o f pos')) pos.line X.env = pure false) : PS X (.Assign [.Attribute o f pos'] value pos) (tFls C ta tv f) := by
  constructor
  intro pins s σ H D I h
  refine plainObj_wpAny_Assign_Attribute (thn (hv.run pins s σ H _ I h) ?_) hs
  rintro u s1 ⟨y, H1, I1, ry, q⟩
  refine thn (ha.run pins s1 σ H1 _ I1 q) ?_
  rintro ov s2 ⟨x, H2, I2, rx, p, dx, fs, rfl, ep, hl, q2⟩
  cases rx
  exact setattr_ok I2 ep hc hn hl ry fun s3 I3 => ⟨σ, _, I3, q2⟩
theorem mt_rmV : MtM X "list.remove" rRmV := by
  intro pins s σ H x xs v us Q I rx rxs h
  obtain ⟨l, ys, y, j, z, rfl, rfl, hH, fy, fys, hz, hzj, hno, q⟩ := h
  cases rx
  obtain ⟨uy, rfl, ry⟩ := rxs.one
  obtain ⟨zl, its, n, rv, hl, eo⟩ := I.lstM hH
  obtain ⟨u, hu, ru⟩ := rv.get hz
  obtain ⟨hjl, hje⟩ := List.getElem?_eq_some_iff.mp hu
  have hvl := rv.length
  have hj : j < its.toArray.size := by simpa using hjl
  refine call_meets PySem.F.slot_list_remove ⟨_, eo, rfl⟩ PySem.F.entry_list_remove (PySem.F.args_list_remove_2 _ _)
    (SeqAt.list_removeAt l its.toArray n none #[] uy (eqU y) j hj ?_ ?_ (by rw [List.size_toArray]; omega)) ⟨eo, fun u' hu' => mem_eqAt ry fy rv fys u' (by simpa using hu'), ?_⟩
  · have e1 : its.toArray[j] = u := by simpa using hje
    rw [e1, eqU_of ru (flat_at fys hz)]
    exact hzj
  · intro m hm hmj
    have hmy : m < ys.length := by have : m < its.length := by simpa using hm
                                   omega
    have hy' : ys[m]? = some ys[m] := List.getElem?_eq_getElem hmy
    obtain ⟨u2, hu2, ru2⟩ := rv.get hy'
    obtain ⟨_, hme⟩ := List.getElem?_eq_some_iff.mp hu2
    have e1 : its.toArray[m] = u2 := by simpa using hme
    rw [e1, eqU_of ru2 (flat_at fys hy')]
    exact hno m _ hmj hy'
  · refine ⟨.non, _, I.lset (its' := its.eraseIdx j) (t' := s.toks) hH eo ?_ (rv.eraseIdx j) ?_, rfl, q⟩
    · show its.toArray.eraseIdxIfInBounds j = (its.eraseIdx j).toArray
      rw [List.eraseIdxIfInBounds_toArray]
    · have := List.length_eraseIdx_le ys j
      omega
theorem mt_cntV : MtR X "list.count" (rCntV X.K) := by
  intro pins s σ H x xs v us Q I rx rxs h
  obtain ⟨p, ys, y, rfl, rfl, hs, fy, fys, q⟩ := h
  cases rx
  obtain ⟨uy, rfl, ry⟩ := rxs.one
  obtain ⟨its, rv, ⟨⟨cls, dd, data, sl⟩, n, ho, hc, hdn, hd⟩, hlen⟩ := I.list hs
  simp only at hc hd
  subst hc hd
  have cnt : ∀ {ys : List V} {us : List Value}, Vals ys us → ys.all flatV = true → us.countP (eqU y) = ys.countP fun z => eqV z y := by
    intro ys us r
    induction r with
    | nil => intro _; rfl
    | cons r t ih =>
      intro ff
      rw [List.all_cons, Bool.and_eq_true] at ff
      rw [List.countP_cons, List.countP_cons, ih ff.2, eqU_of r ff.1]
  refine call_meets PySem.F.slot_list_count ⟨_, ho, rfl⟩ PySem.F.entry_list_count (PySem.F.args_list_count_2 _ _)
    (SeqAt.list_countAt p its.toArray n dd sl uy (eqU y)) ⟨ho, fun u' hu' => mem_eqAt ry fy rv fys u' (by simpa using hu'), ?_⟩
  refine ⟨.int (ys.countP fun z => eqV z y : Nat), H, I.tok _, ⟨s.toks, ?_⟩, q⟩
  show Value.int ((its.toArray.toList.countP (eqU y) : Nat) : Int) s.toks = _
  rw [← cnt rv fys]
end
/-! ### making, and methods, that let nothing out -/
section
variable {X : Cx} {k : Nat} {C f : Addr} {fd : FuncData} {ps : List Str} {sp : Sp} {x m : Str} {p pos apos : Pos} {o e : Expr} {es : List Expr} {t : TA} {ta : TE}
theorem pmk (M : Mk X.K C f) (F : FnOk X.prog X.w X.K X.mg X.base CX0 k f fd ps (sp0 sp)) (hr : Room (k + 1) X.A) (hg : Gl X x) (hm : X.mg x = some (.ref C)) (hb : Binds X.K fd ps []) (ha : PA X (e :: es) t)
    (hdb : (x == ("__debug__" : Str)) = false := by decide) (he : starEach (e :: es) X.env = (false, eval e X.env) :: starEach es X.env := by rfl) (hpl : (backTo pos (starEach es X.env)).any (·.1) = false := by rfl) : PE X (.Call (.Name x p) (e :: es) [] pos) (tMake C sp [] E0 t) := pe_make (sp := sp0 sp) M F hr hg hm hb .nil pass0 ha hdb he hpl
theorem pmt {pl : Sem Bool} (ho : PE X o ta) (c : Cls X.K C) (hm : Meth X.K C m f) (F : FnOk X.prog X.w X.K X.mg X.base CX0 k f fd ps (sp0 sp)) (hr : Room k X.A) (hb : Binds X.K fd ps []) (ha : PA X (e :: es) t) (hst : starEach (e :: es) X.env = (false, eval e X.env) :: starEach es X.env := by rfl) (hpl : (backTo pos (starEach es X.env)).any (·.1) = false := by rfl)
    (ht : eval (.Call (.Attribute o m apos) (e :: es) [] pos) X.env = (eval o X.env >>= fun ov => standAt apos.atName >>= fun _ => holding [ov] (getMethod ov m pl) >>= fun g => callWith pos g.1 g.2 (backTo pos (starEach (e :: es) X.env)) (backToKw pos (keywordEach [] X.env))) := by rfl) : PE X (.Call (.Attribute o m apos) (e :: es) [] pos) (tMeth C m sp [] E0 ta t) := pe_meth (sp := sp0 sp) (pl := pl) ho c hm F hr hb .nil pass0 ha hst hpl ht
theorem pmt0 {pl : Sem Bool} (ho : PE X o ta) (c : Cls X.K C) (hm : Meth X.K C m f) (F : FnOk X.prog X.w X.K X.mg X.base CX0 k f fd ps (sp0 sp)) (hr : Room k X.A) (hb : Binds X.K fd ps [])
    (ht : eval (.Call (.Attribute o m apos) [] [] pos) X.env = (eval o X.env >>= fun ov => standAt apos.atName >>= fun _ => holding [ov] (getMethod ov m pl) >>= fun g => callWith pos g.1 g.2 (backTo pos (starEach [] X.env)) (backToKw pos (keywordEach [] X.env))) := by rfl) : PE X (.Call (.Attribute o m apos) [] [] pos) (tMeth C m sp [] E0 ta tNil) := pe_meth0 (sp := sp0 sp) (pl := pl) ho c hm F hr hb .nil pass0 ht
end
section
variable {K : Fg} {D : Ends} {σ : L2.St} {H : Hp} {ta tv : TE} {Q : VK} {C p dx : Addr} {f : Str} {fs : List (Str × V)} {v y : V} {ys : List V}
def FlA (C : Addr) (f : Str) (x : V) (H : Hp) (Q : VK) : Prop := ∃ p dx fs v, x = .ref p ∧ H p = some (.ins C dx fs) ∧ fs.lookup f = some v ∧ Q v H
theorem i_fl (h : ta σ H fun x H1 => FlA C f x H1 Q) : tFl C ta f σ H Q := h
theorem i_flA (e : H p = some (.ins C dx fs)) (l : fs.lookup f = some v) (h : Q v H) : FlA C f (.ref p) H Q := ⟨p, dx, fs, v, rfl, e, l, h⟩
def FlsA (C : Addr) (f : Str) (y x : V) (H : Hp) (R : Hp → Prop) : Prop := ∃ p dx fs, x = .ref p ∧ H p = some (.ins C dx fs) ∧ fs.length < 1000 ∧ R (upd H p (.ins C dx (putF f y fs)))
theorem i_fls (h : tv σ H fun y H1 => ta σ H1 fun x H2 => FlsA C f y x H2 fun H3 => D.nx σ H3) : tFls C ta tv f D σ H := h
theorem i_flsA {R : Hp → Prop} (e : H p = some (.ins C dx fs)) (l : fs.length < 1000) (h : R (upd H p (.ins C dx (putF f y fs)))) : FlsA C f y (.ref p) H R := ⟨p, dx, fs, rfl, e, l, h⟩
def MkA (C : Addr) (sp : Sp) (E : XK) (vs : List V) (H : Hp) (Q : VK) : Prop := ∀ x dx, H x = none → H dx = none → dx ≠ x → sp (.ref x :: vs) (upd (upd H dx (.own x)) x (.ins C dx [])) (fun v H2 => v = .non ∧ Q (.ref x) H2) E
theorem i_make {sp : Sp} {E : XK} {t : TA} (h : t σ H fun vs H1 => MkA C sp E vs H1 Q) : tMake C sp [] E t σ H Q := by
  have e : (fun vs H1 => MkA C sp E (vs ++ []) H1 Q) = fun vs H1 => MkA C sp E vs H1 Q := by
    funext vs H1
    rw [List.append_nil]
  show t σ H fun vs H1 => MkA C sp E (vs ++ []) H1 Q
  rw [e]
  exact h
def MtA (C : Addr) (m : Str) (x : V) (H : Hp) (R : Hp → Prop) : Prop := ∃ p dx fs, x = .ref p ∧ H p = some (.ins C dx fs) ∧ fs.lookup m = none ∧ R H
theorem i_meth {sp : Sp} {E : XK} {t : TA} {m : Str} (h : ta σ H fun x H1 => MtA C m x H1 fun H1 => t σ H1 fun vs H2 => sp (x :: vs) H2 Q E) : tMeth C m sp [] E ta t σ H Q := by
  have e : (fun x H1 => MtA C m x H1 fun H1 => t σ H1 fun vs H2 => sp (x :: (vs ++ [])) H2 Q E) = fun x H1 => MtA C m x H1 fun H1 => t σ H1 fun vs H2 => sp (x :: vs) H2 Q E := by
    funext x H1
    simp only [List.append_nil]
  show ta σ H fun x H1 => MtA C m x H1 fun H1 => t σ H1 fun vs H2 => sp (x :: (vs ++ [])) H2 Q E
  rw [e]
  exact h
theorem i_mtA {m : Str} {R : Hp → Prop} (e : H p = some (.ins C dx fs)) (l : fs.lookup m = none) (h : R H) : MtA C m (.ref p) H R := ⟨p, dx, fs, rfl, e, l, h⟩
theorem i_rmV {j : Nat} (e : H p = some (.lst ys)) (fy : flatV y = true) (fys : ys.all flatV = true) (hj : ys[j]? = some y) (hy : eqV y y = true) (hno : ∀ (m : Nat) (z' : V), m < j → ys[m]? = some z' → eqV z' y = false) (h : Q .non (upd H p (.lst (ys.eraseIdx j)))) : rRmV (.ref p) [y] H Q := ⟨p, ys, y, j, y, rfl, rfl, e, fy, fys, hj, hy, hno, h⟩
theorem i_cntV (e : SqL K H p ys) (fy : flatV y = true) (fys : ys.all flatV = true) (h : Q (.int (ys.countP fun z => eqV z y : Nat)) H) : rCntV K (.ref p) [y] H Q := ⟨p, ys, y, rfl, rfl, e, fy, fys, h⟩
end
/-! ### lists of ints in order -/
theorem dp_intsA {K : Fg} {H : Hp} : ∀ (ns : List Int), DpAll K H (ns.map V.int) (ns.map PyData.int)
  | [] => .nil
  | n :: r => .cons (.int n) (dp_intsA r)
/-! ### sorted(..) of lists of ints -/
abbrev Rw := Addr × List Int
def encR (b : Rw) : PyData := .list (b.2.map PyData.int)
def leR (p q : Rw) : Bool := decide (p.2 ≤ q.2)
def uSortedLL (K : Fg) : RC := fun xs H Q => ∃ (a : Addr) (bs : List Rw), xs = [.ref a] ∧ SqL K H a (bs.map fun b => .ref b.1) ∧ (∀ b ∈ bs, SqL K H b.1 (b.2.map V.int)) ∧
    ∀ p, H p = none → Q (.ref p) (upd H p (.lst ((bs.mergeSort leR).map fun b => .ref b.1)))
theorem k_sortedLL {X : Cx} (hu : X.A.units + 64 < cLine) : CallR X (.builtin "sorted") (uSortedLL X.K) := by
  intro pins s σ H xs us Q I r q
  obtain ⟨a, bs, rfl, hs, hb, q⟩ := q
  obtain ⟨its, rv, hl, hz⟩ := I.list hs
  rw [Vals.ref1 r]
  have hlen0 := rv.length
  rw [List.length_map] at hlen0
  have each : ∀ {bs : List Rw} {us : List Value}, Vals (bs.map fun b => V.ref b.1) us → PySem.W.EachIs (fun v (b : Rw) => v = .ref b.1) us bs := by
    intro bs
    induction bs with
    | nil => intro us h; cases h; exact .nil
    | cons b t ih =>
      intro us h
      cases h with
      | cons h1 h2 => exact .cons h1 (ih h2)
  have eachR : ∀ {bs : List Rw} {us : List Value}, (∀ b ∈ bs, SqL X.K H b.1 (b.2.map V.int)) → Vals (bs.map fun b => V.ref b.1) us → PySem.W.EachIs (fun v (b : Rw) => ∃ as, Reads s.heap v (encR b) as) us bs := by
    intro bs
    induction bs with
    | nil => intro us _ h; cases h; exact .nil
    | cons b t ih =>
      intro us hb h
      cases h with
      | cons h1 h2 => exact .cons (Dp.reads I _ _ _ (.lst (hb b (by simp)) (dp_intsA b.2)) h1) (ih (fun x hx => hb x (List.mem_cons_of_mem _ hx)) h2)
  have back : ∀ {bs : List Rw} {us : List Value}, PySem.W.EachIs (fun v (b : Rw) => v = .ref b.1) us bs → Vals (bs.map fun b => V.ref b.1) us := by
    intro bs us h
    induction h with
    | nil => exact .nil
    | cons h1 h2 ih => exact .cons h1 ih
  have hzb : bs.length ≤ sizeLine := by rw [List.length_map] at hz; exact hz
  refine PySem.W.sorted_data (enc := encR) hl.isList (each rv) (eachR hb rv) (PySem.W.AllAlike.of fun b b' => ?_) (PySem.W.Sortable.others fun b => ⟨(fun z => nomatch z), (fun _ z => nomatch z)⟩) hzb (fun b _ => ?_) fun out ho hE => ?_
  · show PySem.W.alikeAll _ _ = true
    exact PySem.W.alike_ints b.2 b'.2
  · have d : (encR b).depth = 1 := by unfold encR; simp [PyData.depth, PySem.W.depth_ints]
    rw [d]; omega
  · have ele : PySem.W.dataLe false encR = leR := by
      have := PySem.W.dataLe_rows (β := Rw) (fun b => b.2)
      exact this
    rw [ele] at hE
    obtain ⟨ep, he'⟩ := PyProof.Rows.sortedAll_at s.heap its (List.toArray out)
    have hlen : ((bs.mergeSort leR).map fun b => V.ref b.1).length ≤ sizeLine := by rw [List.length_map, List.length_mergeSort]; exact hzb
    exact ⟨.ref _, upd H (s.heap.objs.size + 1) (.lst ((bs.mergeSort leR).map fun b => V.ref b.1)), I.laid (t' := s.toks) (fun _ _ => PyProof.Rows.sortedAll_old) (Nat.le_succ _) ⟨hlen, out, ep, back hE, he'⟩, rfl, q _ (I.hok.fresh (Nat.le_succ _))⟩
theorem i_sortedLL {K : Fg} {H : Hp} {Q : VK} {a : Addr} {bs : List Rw} (hs : SqL K H a (bs.map fun b => .ref b.1)) (hb : ∀ b ∈ bs, SqL K H b.1 (b.2.map V.int)) (h : ∀ p, H p = none → Q (.ref p) (upd H p (.lst ((bs.mergeSort leR).map fun b => .ref b.1)))) : uSortedLL K [.ref a] H Q := ⟨a, bs, rfl, hs, hb, h⟩
/-! ### in, of lists in lists -/
def uInDp (K : Fg) : R2 := rInD K
theorem o_inDp {X : Cx} {k : Nat} (hr : Room k X.A) : OpR X (compareOp .In) (uInDp X.K) := op_inD (by have := hr.un; omega)
theorem i_inDp {K : Fg} {H : Hp} {Q : VK} {x y : V} {d : PyData} {ds : List PyData} (h1 : Dp K H x d) (h2 : Dp K H y (.list ds)) (s1 : SeqAt.shaped d = true) (s2 : SeqAt.shaped (.list ds) = true) (h : Q (.bl (ds.any fun z => PyData.eqv z d)) H) : uInDp K x y H Q := ⟨d, ds, h1, h2, s1, s2, h⟩
/-- range(0, n, c), c from 1 on -/
theorem rg_up {n c : Int} (h0 : 0 ≤ n) (h1 : n < 2 ^ 40) (c1 : 1 ≤ c) (c2 : c < 1073741824) : ∃ m : Nat, RgC 0 n c m ∧ ∀ i < m, (i : Int) * c < n := by
  have hq0 : 0 ≤ (n + c - 1) / c := Int.ediv_nonneg (by omega) (by omega)
  refine ⟨((n + c - 1) / c).toNat, ⟨by omega, by omega, ?_, ?_⟩, fun i hi => ?_⟩
  · unfold Builtin.Range.small
    rw [PyProof.Rows.rangeSize_pos c1 h0]
    have hle : (n + c - 1) / c * c ≤ n + c - 1 := Int.ediv_mul_le _ (by omega)
    have hle2 : (n + c - 1) / c ≤ n + c - 1 := Int.ediv_le_self _ (by omega)
    generalize (n + c - 1) / c = q at *
    simp only [Builtin.Range.rangeFitsLong, Bool.and_eq_true, Bool.or_eq_true, decide_eq_true_eq, beq_iff_eq]
    refine ⟨by omega, .inr ?_⟩
    rw [if_pos (by omega), Bool.and_eq_true, decide_eq_true_iff, decide_eq_true_iff]
    omega
  · rw [PyProof.Rows.rangeSize_pos c1 h0]; omega
  · have h2 : ((i : Int) + 1) * c ≤ n + c - 1 := by
      have h3 : (i : Int) + 1 ≤ (n + c - 1) / c := by omega
      have h4 := Int.ediv_mul_le (n + c - 1) (show c ≠ 0 by omega)
      have h5 := Int.mul_le_mul_of_nonneg_right h3 (show 0 ≤ c by omega)
      omega
    rw [Int.add_mul, Int.one_mul] at h2
    omega
/-! ### sorted(set(..)) of a list of ints -/
section
variable {P : Program} {w : World} {A : Around} {E : Value → Shared → Prop} {s : Shared}
/-- the set that is made first -/
abbrev sob (w : World) : Obj := { cls := .type "set", dict := none, data := .set #[] 0 (.fresh 0 0 (!w.params.followText "set-order")) }
theorem set_listI {l : Addr} {xs : Array Value} (ns : List Int) {Q : Value → Shared → Prop} (hh : A.handled = none) (hl : s.heap.IsList l xs) (hi : IntsAre xs.toList ns) (hb : ns.length + 1 < scanBound)
    (h : ∀ (h' : Heap) (tk c : Nat), SetR w h' s.heap.objs.size (fun j => decide (j ∈ ns)) c → c ≤ ns.length → (∀ b o, s.heap.get? b = some o → h'.get? b = some o) → Q (.ref s.heap.objs.size) { s with heap := h', toks := tk }) :
    wpAny (model P w) A (call (.type "set") [.ref l]) Q E s := by
  have hsz : xs.size = ns.length := by have z := IntsAre.length hi; rwa [Array.length_toList] at z
  have hmade := F.called_set.made; have hsub := F.called_set.sub; have h1 := F.called_set.notType; have h2 := F.called_set.canCreate; have hct := F.typeCall_set_1 (.ref l)
  obtain ⟨c, tl, hmro⟩ := F.called_set.mro
  refine wpAny_call (codeAny_of_tree (show wpAny _ _ (callAny (.type "set") _) _ _ _ from wpAny_pure ⟨Code.quiet_builtin _ (by decide +kernel), codeAny_builtin F.entry_type_call ?_⟩))
  rw [Around.under_plain (weight_type_call_type "set" [.ref l] []) rfl]
  repeat (any_goals (first | assumption | wp_step))
  refine codeAny_mono (code_set_led1 (.ref l) (E := E) (Q₁ := fun obj s₁ => obj = .ref s.heap.objs.size ∧ s₁ = { s with heap := s.heap.push (sob w) }) ⟨rfl, rfl⟩) fun r s₁ hr => ?_
  rcases r with e | fl
  case error => exact hr
  rcases fl with obj | _
  case ok.ret =>
    obtain ⟨rfl, rfl⟩ := hr
    have hS : (s.heap.push (sob w)).get? s.heap.objs.size = some (sob w) := Heap.get?_push_size _ rfl
    have hT : Shared.TypeIs { s with heap := s.heap.push (sob w) } (.ref s.heap.objs.size) "set" := ⟨_, hS, rfl⟩
    have hli := F.called_set.init.lookup; have hbi := F.called_set.init.bind (.ref s.heap.objs.size)
    repeat (any_goals (first | assumption | wp_step))
    refine codeAny_mono (codeAny_call_builtin (R := wants (fun r s₂ => r = .none ∧ ∃ h' tk c, s₂ = { s with heap := h', toks := tk } ∧ SetR w h' s.heap.objs.size (fun j => decide (j ∈ ns)) c ∧ c ≤ ns.length ∧ (∀ b o, s.heap.get? b = some o → h'.get? b = some o)) E) F.called_set.init.plain F.entry_set_init (check_set_init_1 hT ?_)) fun r₂ s₂ hr₂ => ?_
    · obtain ⟨⟨lc, ld, lda, lsl⟩, hol, hcl, nl, hdl⟩ := hl
      dsimp only at hcl hdl; subst hcl hdl
      have hol' := Heap.get?_push_of_some (sob w) hol
      have hlS : l < s.heap.objs.size := Heap.lt_size hol
      have t1 := F.sub_list_set; have t2 := F.sub_list_frozenset
      have t3 : (Value.type "list" == Value.type "dict") = false := by decide
      have hl1 : (s.heap.push (sob w)).IsList l xs := ⟨_, hol', rfl, nl, rfl⟩
      unfold Builtin.«set.__init__» noKeywords Builtin.Frozenset.updateFrom
      generalize hPI : pyIter = PI
      wp_walk
      subst hPI
      refine wpAny_pyIter_list hl1 (wpAny_bind (wpAny_runValue ?_))
      have g3 : A.in1.in1.in1.handled = none := by simp [hh]
      have hneI : l ≠ (s.heap.push (sob w)).objs.size := fun z => Nat.lt_irrefl l (Nat.lt_of_lt_of_le hlS (by rw [z, Heap.size_push]; exact Nat.le_succ _))
      have hSf : s.heap.objs.size ∉ [(s.heap.push (sob w)).objs.size, l] := by
        simp only [List.mem_cons, List.not_mem_nil, or_false, not_or]
        exact ⟨fun z => Nat.succ_ne_self _ ((Heap.size_push s.heap (sob w)).symm.trans z.symm), fun z => Nat.lt_irrefl l (z ▸ hlS)⟩
      have hval : ∀ (i : Nat) (v : Value), xs[i]? = some v → ∃ k t, ns[i]? = some k ∧ v = .int k t := fun i v hv => by
        have hin : i < ns.length := by rw [← hsz]; exact (Array.getElem?_eq_some_iff.mp hv).1
        obtain ⟨t, e⟩ := PyProof.Rows.IntsAre.int_at hi i v (by rw [Array.getElem?_toList, hv])
        refine ⟨ns[i], t, List.getElem?_eq_getElem hin, ?_⟩
        rw [e, List.getD_eq_getElem?_getD, List.getElem?_eq_getElem hin]; rfl
      refine set_update_ints (Walks.list g3 _ l hneI xs).toS s.heap.objs.size hSf ns hsz hb hval (xs.size - 0) 0 _ rfl (Nat.zero_le _) ⟨⟨_, Heap.get?_push_size _ rfl, rfl, rfl⟩, hl1.push _⟩ ⟨0, Nat.le_refl 0, setR_new_at (Heap.get?_push_of_some _ hS)⟩ fun s' c' hm hc' hS' => ?_
      obtain ⟨h', g2, d', tk', os'⟩ := s'
      obtain rfl : g2 = s.gens := hm.gens
      obtain rfl : d' = s.drawn := hm.drawn
      obtain rfl : os' = s.os := hm.os
      refine wpAny_pure (show wpAny _ _ (ret Value.none) _ _ _ from wpAny_pure ⟨rfl, h', tk', c', rfl, hS', by omega, fun b o e => ?_⟩)
      have hb0 : b < s.heap.objs.size := Heap.lt_size e
      refine hm.heap b o ?_ (Heap.get?_push_of_some _ (Heap.get?_push_of_some _ e))
      simp only [List.mem_cons, List.not_mem_nil, or_false, not_or]
      exact ⟨Nat.ne_of_lt hb0, fun z => Nat.lt_irrefl b (Nat.lt_of_lt_of_le hb0 (by rw [z, Heap.size_push]; exact Nat.le_succ _))⟩
    · rcases r₂ with e | fl₂
      case error => exact hr₂
      rcases fl₂ with r | _
      case ok.ret =>
        obtain ⟨rfl, h', tk, c', rfl, hS', hc', hk'⟩ := hr₂
        repeat (any_goals (first | assumption | wp_step))
        exact h _ _ _ hS' hc' hk'
      all_goals exact hr₂.elim
  all_goals exact hr.elim
end
/-! ### len(set(..)) of a list of ints -/
def LsA (K : Fg) (x : V) (H1 : Hp) (Q : VK) : Prop := ∃ (l : Addr) (ns : List Int), x = .ref l ∧ SqL K H1 l (ns.map V.int) ∧ ns.length < 60 ∧
  ∀ (ys : List Int), ys.Nodup → (∀ k, k ∈ ys ↔ k ∈ ns) → Q (.int ys.length) H1
def tLenSet (K : Fg) (ta : TE) : TE := fun σ H Q => ta σ H fun x H1 => LsA K x H1 Q
theorem pe_lenSet {X : Cx} {a : Expr} {ta : TE} {p p2 q pos : Pos} (hg : Gl X "len") (hm : X.mg "len" = none) (hg2 : Gl X "set") (hm2 : X.mg "set" = none) (ha : PE X a ta) (hc : X.calm = true := by rfl)
    (na : starEach [a] X.env = (false, eval a X.env) :: starEach [] X.env := by rfl) : PE X (.Call (.Name "len" p) [.Call (.Name "set" p2) [a] [] q] [] pos) (tLenSet X.K ta) := by
  refine ⟨fun pins s σ H Q I h => ?_⟩
  refine Call_ (ld_blt I hg hm boot_len (PyProof.Rows.callWith_builtin1 (PyProof.Rows.args_cons ?_ rfl) rfl rfl))
  refine Call_ (ld_blt I hg2 hm2 boot_set (PyProof.Rows.callWith_type1 (PyProof.Rows.args_cons (thn (ha.run pins s σ H _ I h) fun v s1 ⟨x, H1, I1, r1, q1⟩ => PyProof.Rows.args_nil ?_) na) na rfl))
  obtain ⟨l, ns, rfl, hq, hl, q1⟩ := q1
  cases r1
  obtain ⟨its, r, pl, hz⟩ := I1.list hq
  refine set_listI ns (I1.ok.hd hc) pl.isList (by simpa using ints_of_vals r) (by unfold scanBound; omega) fun h' tk c R hcl hk => PyProof.Rows.args_nil ?_
  have I2 : Inv X pins σ H1 { s1 with heap := h', toks := tk } := I1.kept fun b o e => hk b o e
  obtain ⟨o, es, ep, t, ho, hex, hd, g, nd, hmm, hb, hf, hn, _⟩ := R
  have hlen : (es.toList.map keyOf).length = es.size := by rw [List.length_map, Array.length_toList]
  exact call_len_set ho hex hd hf (by rw [hn] <;> omega) ⟨.int es.size, H1, I2.tok _, ⟨_, rfl⟩, by
    have q2 := q1 (es.toList.map keyOf) nd fun k => by rw [← hmm k, decide_eq_true_iff]
    rw [hlen] at q2
    exact q2⟩
def t_is_whole (G : Gx) (E : XK) : TS :=
      (tRet (tAndV (tCB (uIsi G.K) (tCons (tVar 0) (tCons (tC (.ty "int")) tNil))) (tNotV (tCB (uIsi G.K) (tCons (tVar 0) (tCons (tC (.ty "bool")) tNil))))))
def sp_is_whole (G : Gx) : Sp := fun vs H Q E => vs.length = 1 ∧ t_is_whole G E { nx := fun _ H' => Q .non H', rt := Q } (start ["thing"] vs) H
def t_is_kind (G : Gx) (E : XK) : TS :=
      (tSeq (tIfS (tB (tCB (uIsi G.K) (tCons (tVar 0) (tCons (tC (.ty "str")) tNil)))) (tRet (tOp (uEq G.K) (tVar 0) (tC (.str "cubes")))) tNext)
      (tRet (tAndV (tCall (sp_is_whole G) [] E (tCons (tVar 0) tNil)) (tChain uLe uLe (tC (.int 3)) (tVar 0) (tC (.int 12))))))
def sp_is_kind (G : Gx) : Sp := fun vs H Q E => vs.length = 1 ∧ t_is_kind G E { nx := fun _ H' => Q .non H', rt := Q } (start ["thing"] vs) H
def t_are_kinds (G : Gx) (E : XK) : TS :=
      (tSeq (tIfS (tOr (tNot (tB (tCB (uIsi G.K) (tCons (tVar 0) (tCons (tC (.ty "list")) tNil))))) (tNot (tTest (tChain uLe uLe (tC (.int 1)) (tCB (uLen G.K) (tCons (tVar 0) tNil)) (tC (.int 5)))))) (tRet (tC (.bl false))) tNext)
      (tSeq (tIfS (tTest (tOp (uNe G.K) (tLc (iList G.K (tVar 0)) (gName 1) (tNot (tB (tCall (sp_is_kind G) [] E0 (tCons (tVar 1) tNil)))) (tVar 1) [1]) (tLst tNil))) (tRet (tC (.bl false))) tNext)
      (tRet (tOp (uEq G.K) (tLc (iEnum G.K (tCons (tVar 0) tNil)) (gTup G.K 2 (gCons (gName 2) (gCons (gName 1) gNil))) (tTest (tOp (uIn G.K) (tVar 1) (tSl (uSl G.K) (tVar 0) tNoPart (tPart (tVar 2))))) (tVar 2) [2, 1]) (tLst tNil)))))
def sp_are_kinds (G : Gx) : Sp := fun vs H Q E => vs.length = 1 ∧ t_are_kinds G E { nx := fun _ H' => Q .non H', rt := Q } (start ["thing", "kind", "k"] vs) H
def t_need_kind (G : Gx) (E : XK) : TS :=
      (tIfS (tNot (tB (tCall (sp_is_kind G) [] E (tCons (tVar 0) tNil)))) (tRz E (G.C "NoKind")) tNext)
def sp_need_kind (G : Gx) : Sp := fun vs H Q E => vs.length = 1 ∧ t_need_kind G E { nx := fun _ H' => Q .non H', rt := Q } (start ["thing"] vs) H
def t_need_from (G : Gx) (E : XK) : TS :=
      (tIfS (tOr (tNot (tB (tCall (sp_is_whole G) [] E (tCons (tVar 0) tNil)))) (tTest (tOp uLt (tVar 0) (tVar 1)))) (tRz E (G.C "NoNumber")) tNext)
def sp_need_from (G : Gx) : Sp := fun vs H Q E => vs.length = 2 ∧ t_need_from G E { nx := fun _ H' => Q .non H', rt := Q } (start ["thing", "least"] vs) H
def t_dots (G : Gx) (E : XK) : TS :=
      (tSeq (tIfS (tTest (tOp (uEq G.K) (tVar 0) (tC (.str "cubes")))) (tRet (tOp uMul (tOp uMul (tVar 1) (tVar 1)) (tVar 1))) tNext)
      (tRet (tOp uAdd (tVar 1) (tOp uMul (tOp uSub (tVar 0) (tC (.int 2))) (tOp uDiv (tOp uMul (tVar 1) (tOp uSub (tVar 1) (tC (.int 1)))) (tC (.int 2)))))))
def sp_dots (G : Gx) : Sp := fun vs H Q E => vs.length = 2 ∧ t_dots G E { nx := fun _ H' => Q .non H', rt := Q } (start ["kind", "k"] vs) H
def t_number_of_dots (G : Gx) (E : XK) : TS :=
      (tSeq (tDrop (tCall (sp_need_kind G) [] E (tCons (tVar 0) tNil)))
      (tSeq (tDrop (tCall (sp_need_from G) [] E (tCons (tVar 1) (tCons (tC (.int 1)) tNil))))
      (tRet (tCall (sp_dots G) [] E (tCons (tVar 0) (tCons (tVar 1) tNil))))))
def sp_number_of_dots (G : Gx) : Sp := fun vs H Q E => vs.length = 2 ∧ t_number_of_dots G E { nx := fun _ H' => Q .non H', rt := Q } (start ["kind", "k"] vs) H
def t_place_in (G : Gx) (E : XK) : TS :=
      (tSeq (tDrop (tCall (sp_need_kind G) [] E (tCons (tVar 0) tNil)))
      (tSeq (tDrop (tCall (sp_need_from G) [] E (tCons (tVar 1) (tCons (tC (.int 1)) tNil))))
      (tSeq (tAsg (tC (.int 0)) (gName 2))
      (tSeq (tAsg (tC (.int 1)) (gName 3))
      (tSeq (tWhile (tTest (tOp uLt (tCall (sp_dots G) [] E (tCons (tVar 0) (tCons (tVar 3) tNil))) (tVar 1))) (tSeq (tAsg (tVar 3) (gName 2))
      (tAsg (tOp uMul (tC (.int 2)) (tVar 3)) (gName 3))))
      (tSeq (tWhile (tTest (tOp uGt (tOp uSub (tVar 3) (tVar 2)) (tC (.int 1)))) (tSeq (tAsg (tOp uDiv (tOp uAdd (tVar 2) (tVar 3)) (tC (.int 2))) (gName 4))
      (tIfS (tTest (tOp uLt (tCall (sp_dots G) [] E (tCons (tVar 0) (tCons (tVar 4) tNil))) (tVar 1))) (tAsg (tVar 4) (gName 2)) (tAsg (tVar 4) (gName 3)))))
      (tRet (tIf (tTest (tOp (uEq G.K) (tCall (sp_dots G) [] E (tCons (tVar 0) (tCons (tVar 3) tNil))) (tVar 1))) (tVar 3) (tC .non)))))))))
def sp_place_in (G : Gx) : Sp := fun vs H Q E => vs.length = 2 ∧ t_place_in G E { nx := fun _ H' => Q .non H', rt := Q } (start ["kind", "n", "low", "high", "between"] vs) H
def t_need_kinds (G : Gx) (E : XK) : TS :=
      (tIfS (tNot (tB (tCall (sp_are_kinds G) [] E (tCons (tVar 0) tNil)))) (tRz E (G.C "NoKinds")) tNext)
def sp_need_kinds (G : Gx) : Sp := fun vs H Q E => vs.length = 1 ∧ t_need_kinds G E { nx := fun _ H' => Q .non H', rt := Q } (start ["thing"] vs) H
def t_need_to_most (G : Gx) (E : XK) : TS :=
      (tIfS (tOr (tNot (tB (tCall (sp_is_whole G) [] E (tCons (tVar 0) tNil)))) (tNot (tTest (tChain uLe uLe (tC (.int 0)) (tVar 0) (tC (.int 200)))))) (tRz E (G.C "NoNumber")) tNext)
def sp_need_to_most (G : Gx) : Sp := fun vs H Q E => vs.length = 1 ∧ t_need_to_most G E { nx := fun _ H' => Q .non H', rt := Q } (start ["thing"] vs) H
def t_stock_of (G : Gx) (E : XK) : TS :=
      (tSeq (tAsg tDNewK (gName 2))
      (tSeq (tFor (iList G.K (tVar 0)) (gName 3) (tSeq (tAsg (tC (.int 1)) (gName 4))
      (tWhile (tTest (tOp uLe (tCall (sp_dots G) [] E (tCons (tVar 3) (tCons (tVar 4) tNil))) (tVar 1))) (tSeq (tAsg (tC (.bl true)) (gSub (tVar 2) (tCall (sp_dots G) [] E (tCons (tVar 3) (tCons (tVar 4) tNil))) uSet))
      (tAug 4 (tC (.int 1)) (ipI fun i j => i + j))))))
      (tRet (tCB (uSorted G.K) (tCons (tVar 2) tNil)))))
def sp_stock_of (G : Gx) : Sp := fun vs H Q E => vs.length = 2 ∧ t_stock_of G E { nx := fun _ H' => Q .non H', rt := Q } (start ["kinds", "b", "found", "kind", "k"] vs) H
def t_stock_to (G : Gx) (E : XK) : TS :=
      (tSeq (tDrop (tCall (sp_need_kinds G) [] E (tCons (tVar 0) tNil)))
      (tSeq (tDrop (tCall (sp_need_to_most G) [] E (tCons (tVar 1) tNil)))
      (tRet (tCall (sp_stock_of G) [] E (tCons (tVar 0) (tCons (tVar 1) tNil))))))
def sp_stock_to (G : Gx) : Sp := fun vs H Q E => vs.length = 2 ∧ t_stock_to G E { nx := fun _ H' => Q .non H', rt := Q } (start ["kinds", "b"] vs) H
def t_is_sum (G : Gx) (E : XK) : TS :=
      (tSeq (tDrop (tCall (sp_need_kinds G) [] E (tCons (tVar 0) tNil)))
      (tSeq (tDrop (tCall (sp_need_to_most G) [] E (tCons (tVar 1) tNil)))
      (tSeq (tIfS (tOr (tNot (tB (tCB (uIsi G.K) (tCons (tVar 2) (tCons (tC (.ty "list")) tNil))))) (tTest (tOp (uNe G.K) (tLc (iList G.K (tVar 2)) (gName 4) (tNot (tB (tCall (sp_is_whole G) [] E0 (tCons (tVar 4) tNil)))) (tVar 4) [4]) (tLst tNil)))) (tRet (tC (.bl false))) tNext)
      (tSeq (tAsg (tCall (sp_stock_of G) [] E (tCons (tVar 0) (tCons (tVar 1) tNil))) (gName 3))
      (tSeq (tIfS (tOr (tTest (tOp (uNe G.K) (tLc (iList G.K (tVar 2)) (gName 4) (tTest (tOp (uNotIn G.K) (tVar 4) (tVar 3))) (tVar 4) [4]) (tLst tNil))) (tTest (tOp (uNe G.K) (tCB (uSum G.K) (tCons (tVar 2) tNil)) (tVar 1)))) (tRet (tC (.bl false))) tNext)
      (tRet (tOp (uEq G.K) (tLc (iRng2 (tCons (tC (.int 1)) (tCons (tCB (uLen G.K) (tCons (tVar 2) tNil)) tNil))) (gName 5) (tTest (tOp uLt (tOp (uIx G.K) (tVar 2) (tOp uSub (tVar 5) (tC (.int 1)))) (tOp (uIx G.K) (tVar 2) (tVar 5)))) (tVar 5) [5]) (tLst tNil))))))))
def sp_is_sum (G : Gx) : Sp := fun vs H Q E => vs.length = 3 ∧ t_is_sum G E { nx := fun _ H' => Q .non H', rt := Q } (start ["kinds", "n", "thing", "stock", "part", "k"] vs) H
def t_fewest_by (G : Gx) (E : XK) : TS :=
      (tSeq (tAsg (tLst (tCons (tC (.int 0)) tNil)) (gName 2))
      (tSeq (tFor (iRng2 (tCons (tC (.int 1)) (tCons (tOp uAdd (tVar 1) (tC (.int 1))) tNil))) (gName 3) (tDrop (tBM G.K "list" rAppend (tVar 2) (tCons (tOp uAdd (tC (.int 1)) (tCB (uMin G.K) (tCons (tLc (iList G.K (tVar 0)) (gName 4) (tTest (tOp uLe (tVar 4) (tVar 3))) (tOp (uIx G.K) (tVar 2) (tOp uSub (tVar 3) (tVar 4))) [4]) tNil))) tNil))))
      (tRet (tVar 2))))
def sp_fewest_by (G : Gx) : Sp := fun vs H Q E => vs.length = 2 ∧ t_fewest_by G E { nx := fun _ H' => Q .non H', rt := Q } (start ["stock", "b", "found", "n", "part"] vs) H
def t_fewest_parts (G : Gx) (E : XK) : TS :=
      (tSeq (tDrop (tCall (sp_need_kinds G) [] E (tCons (tVar 0) tNil)))
      (tSeq (tDrop (tCall (sp_need_to_most G) [] E (tCons (tVar 1) tNil)))
      (tRet (tOp (uIx G.K) (tCall (sp_fewest_by G) [] E (tCons (tCall (sp_stock_of G) [] E (tCons (tVar 0) (tCons (tVar 1) tNil))) (tCons (tVar 1) tNil))) (tVar 1)))))
def sp_fewest_parts (G : Gx) : Sp := fun vs H Q E => vs.length = 2 ∧ t_fewest_parts G E { nx := fun _ H' => Q .non H', rt := Q } (start ["kinds", "n"] vs) H
def t_fewest_to (G : Gx) (E : XK) : TS :=
      (tSeq (tDrop (tCall (sp_need_kinds G) [] E (tCons (tVar 0) tNil)))
      (tSeq (tDrop (tCall (sp_need_to_most G) [] E (tCons (tVar 1) tNil)))
      (tRet (tCall (sp_fewest_by G) [] E (tCons (tCall (sp_stock_of G) [] E (tCons (tVar 0) (tCons (tVar 1) tNil))) (tCons (tVar 1) tNil))))))
def sp_fewest_to (G : Gx) : Sp := fun vs H Q E => vs.length = 2 ∧ t_fewest_to G E { nx := fun _ H' => Q .non H', rt := Q } (start ["kinds", "b"] vs) H
def t_tables_of (G : Gx) (E : XK) : TS :=
      (tSeq (tAsg (tLst tNil) (gName 2))
      (tSeq (tFor (iList G.K (tVar 0)) (gName 3) (tIfS (tTest (tOp (uEq G.K) (tVar 2) (tLst tNil))) (tDrop (tBM G.K "list" rAppend (tVar 2) (tCons (tLstRg (tRg1 (tOp uAdd (tVar 1) (tC (.int 1))))) tNil))) (tSeq (tDrop (tBM G.K "list" rAppend (tVar 2) (tCons (tCB (uList G.K) (tCons (tOp (uIx G.K) (tVar 2) (tUn uNeg (tC (.int 1)))) tNil)) tNil)))
      (tFor (iRng2 (tCons (tVar 3) (tCons (tOp uAdd (tVar 1) (tC (.int 1))) tNil))) (gName 4) (tAsg (tCB (uMin G.K) (tCons (tOp (uIx G.K) (tOp (uIx G.K) (tVar 2) (tUn uNeg (tC (.int 1)))) (tVar 4)) (tCons (tOp uAdd (tC (.int 1)) (tOp (uIx G.K) (tOp (uIx G.K) (tVar 2) (tUn uNeg (tC (.int 1)))) (tOp uSub (tVar 4) (tVar 3)))) tNil))) (gSub (tOp (uIx G.K) (tVar 2) (tUn uNeg (tC (.int 1)))) (tVar 4) uSet))))))
      (tRet (tVar 2))))
def sp_tables_of (G : Gx) : Sp := fun vs H Q E => vs.length = 2 ∧ t_tables_of G E { nx := fun _ H' => Q .non H', rt := Q } (start ["stock", "n", "found", "part", "number"] vs) H
def t_first_sum (G : Gx) (E : XK) : TS :=
      (tSeq (tDrop (tCall (sp_need_kinds G) [] E (tCons (tVar 0) tNil)))
      (tSeq (tDrop (tCall (sp_need_to_most G) [] E (tCons (tVar 1) tNil)))
      (tSeq (tAsg (tCall (sp_stock_of G) [] E (tCons (tVar 0) (tCons (tVar 1) tNil))) (gName 2))
      (tSeq (tAsg (tCall (sp_tables_of G) [] E (tCons (tVar 2) (tCons (tVar 1) tNil))) (gName 3))
      (tSeq (tAsg (tLst tNil) (gName 4))
      (tSeq (tAsg (tVar 1) (gName 5))
      (tSeq (tAsg (tIf (tTest (tOp uGt (tVar 1) (tC (.int 0)))) (tOp (uIx G.K) (tOp (uIx G.K) (tVar 3) (tUn uNeg (tC (.int 1)))) (tVar 1)) (tC (.int 0))) (gName 6))
      (tSeq (tWhile (tTest (tOp uGt (tVar 5) (tC (.int 0)))) (tSeq (tAug 6 (tC (.int 1)) (ipI fun i j => i - j))
      (tSeq (tAsg (tC (.int 0)) (gName 7))
      (tSeq (tWhile (tOr (tTest (tOp uGt (tOp (uIx G.K) (tVar 2) (tVar 7)) (tVar 5))) (tTest (tOp (uNe G.K) (tOp (uIx G.K) (tOp (uIx G.K) (tVar 3) (tVar 7)) (tOp uSub (tVar 5) (tOp (uIx G.K) (tVar 2) (tVar 7)))) (tVar 6)))) (tAug 7 (tC (.int 1)) (ipI fun i j => i + j)))
      (tSeq (tDrop (tBM G.K "list" rAppend (tVar 4) (tCons (tOp (uIx G.K) (tVar 2) (tVar 7)) tNil)))
      (tAug 5 (tOp (uIx G.K) (tVar 2) (tVar 7)) (ipI fun i j => i - j)))))))
      (tRet (tVar 4))))))))))
def sp_first_sum (G : Gx) : Sp := fun vs H Q E => vs.length = 2 ∧ t_first_sum G E { nx := fun _ H' => Q .non H', rt := Q } (start ["kinds", "n", "stock", "tables", "found", "left", "wanted", "at"] vs) H
def t_Counts___init__ (G : Gx) (E : XK) : TS :=
      (tSeq (tFls (G.C "Counts") (tVar 0) (tVar 1) "values_let")
      (tSeq (tAsg (tOp uAdd (tLst (tCons (tC (.int 1)) tNil)) (tOp uMul (tLst (tCons (tC (.int 0)) tNil)) (tVar 2))) (gName 3))
      (tSeq (tFls (G.C "Counts") (tVar 0) (tLst (tCons (tVar 3) tNil)) "rows")
      (tFor (iList G.K (tVar 1)) (gName 4) (tSeq (tAsg (tCB (uList G.K) (tCons (tVar 3) tNil)) (gName 3))
      (tSeq (tFor (iRng2 (tCons (tVar 4) (tCons (tOp uAdd (tVar 2) (tC (.int 1))) tNil))) (gName 5) (tAugS (tVar 3) (tVar 5) (tOp uShl (tOp (uIx G.K) (tVar 3) (tOp uSub (tVar 5) (tVar 4))) (tC (.int 64))) (rIxL G.K) (ipI fun i j => i + j) uSet))
      (tDrop (tBM G.K "list" rAppend (tFl (G.C "Counts") (tVar 0) "rows") (tCons (tVar 3) tNil)))))))))
def sp_Counts___init__ (G : Gx) : Sp := fun vs H Q E => vs.length = 3 ∧ t_Counts___init__ G E { nx := fun _ H' => Q .non H', rt := Q } (start ["self", "some", "n", "row", "part", "total"] vs) H
def t_Counts_many (G : Gx) (E : XK) : TS :=
      (tSeq (tIfS (tNot (tTest (tChain uLe uLe (tC (.int 0)) (tVar 3) (tVar 2)))) (tRet (tC (.int 0))) tNext)
      (tRet (tOp uAnd (tOp uShr (tOp (uIx G.K) (tOp (uIx G.K) (tFl (G.C "Counts") (tVar 0) "rows") (tVar 1)) (tVar 2)) (tOp uMul (tC (.int 64)) (tVar 3))) (tC (.int 18446744073709551615)))))
def sp_Counts_many (G : Gx) : Sp := fun vs H Q E => vs.length = 4 ∧ t_Counts_many G E { nx := fun _ H' => Q .non H', rt := Q } (start ["self", "size", "total", "k"] vs) H
def t_counts_of (G : Gx) (E : XK) : TS :=
      (tRet (tMake (G.C "Counts") (sp_Counts___init__ G) [] E (tCons (tCall (sp_stock_to G) [] E (tCons (tVar 0) (tCons (tVar 1) tNil))) (tCons (tVar 1) tNil))))
def sp_counts_of (G : Gx) : Sp := fun vs H Q E => vs.length = 2 ∧ t_counts_of G E { nx := fun _ H' => Q .non H', rt := Q } (start ["kinds", "n"] vs) H
def t_just (G : Gx) (E : XK) : TS :=
      (tRet (tMeth (G.C "Counts") "many" (sp_Counts_many G) [] E (tVar 0) (tCons (tCB (uLen G.K) (tCons (tFl (G.C "Counts") (tVar 0) "values_let") tNil)) (tCons (tVar 1) (tCons (tVar 2) tNil)))))
def sp_just (G : Gx) : Sp := fun vs H Q E => vs.length = 3 ∧ t_just G E { nx := fun _ H' => Q .non H', rt := Q } (start ["counts", "n", "k"] vs) H
def t_count_sums (G : Gx) (E : XK) : TS :=
      (tSeq (tAsg (tCall (sp_counts_of G) [] E (tCons (tVar 0) (tCons (tVar 1) tNil))) (gName 2))
      (tRet (tCB (uSum G.K) (tCons (tLc (iRng1 (tCons (tOp uAdd (tVar 1) (tC (.int 1))) tNil)) (gName 3) tYes (tCall (sp_just G) [] E0 (tCons (tVar 2) (tCons (tVar 1) (tCons (tVar 3) tNil)))) [3]) tNil))))
def sp_count_sums (G : Gx) : Sp := fun vs H Q E => vs.length = 2 ∧ t_count_sums G E { nx := fun _ H' => Q .non H', rt := Q } (start ["kinds", "n", "counts", "k"] vs) H
def t_count_just (G : Gx) (E : XK) : TS :=
      (tSeq (tAsg (tCall (sp_counts_of G) [] E (tCons (tVar 0) (tCons (tVar 1) tNil))) (gName 3))
      (tSeq (tDrop (tCall (sp_need_from G) [] E (tCons (tVar 2) (tCons (tC (.int 0)) tNil))))
      (tRet (tCall (sp_just G) [] E (tCons (tVar 3) (tCons (tVar 1) (tCons (tVar 2) tNil)))))))
def sp_count_just (G : Gx) : Sp := fun vs H Q E => vs.length = 3 ∧ t_count_just G E { nx := fun _ H' => Q .non H', rt := Q } (start ["kinds", "n", "k", "counts"] vs) H
def t_count_at_most (G : Gx) (E : XK) : TS :=
      (tSeq (tAsg (tCall (sp_counts_of G) [] E (tCons (tVar 0) (tCons (tVar 1) tNil))) (gName 3))
      (tSeq (tDrop (tCall (sp_need_from G) [] E (tCons (tVar 2) (tCons (tC (.int 0)) tNil))))
      (tRet (tCB (uSum G.K) (tCons (tLc (iRng1 (tCons (tOp uAdd (tCB (uMin G.K) (tCons (tVar 1) (tCons (tVar 2) tNil))) (tC (.int 1))) tNil)) (gName 4) tYes (tCall (sp_just G) [] E0 (tCons (tVar 3) (tCons (tVar 1) (tCons (tVar 4) tNil)))) [4]) tNil)))))
def sp_count_at_most (G : Gx) : Sp := fun vs H Q E => vs.length = 3 ∧ t_count_at_most G E { nx := fun _ H' => Q .non H', rt := Q } (start ["kinds", "n", "k", "counts", "fewer"] vs) H
def t_Counts_firsts_v2 (G : Gx) (E : XK) : TS :=
      (tSeq (tAsg (tLst tNil) (gName 4))
      (tSeq (tFor (iRng1 (tCons (tVar 1) tNil)) (gName 5) (tSeq (tAsg (tOp (uIx G.K) (tFl (G.C "Counts") (tVar 0) "values_let") (tVar 5)) (gName 6))
      (tIfS (tTest (tOp uLe (tVar 6) (tVar 2))) (tDrop (tBM G.K "list" rAppend (tVar 4) (tCons (tTup (tCons (tVar 6) (tCons (tOp uAdd (tVar 5) (tC (.int 1))) (tCons (tMeth (G.C "Counts") "many" (sp_Counts_many G) [] E (tVar 0) (tCons (tOp uAdd (tVar 5) (tC (.int 1))) (tCons (tOp uSub (tVar 2) (tVar 6)) (tCons (tOp uSub (tVar 3) (tC (.int 1))) tNil)))) tNil)))) tNil))) tNext)))
      (tRet (tVar 4))))
def sp_Counts_firsts_v2 (G : Gx) : Sp := fun vs H Q E => vs.length = 4 ∧ t_Counts_firsts_v2 G E { nx := fun _ H' => Q .non H', rt := Q } (start ["self", "size", "total", "k", "found", "at", "part"] vs) H
def t_sum_by (G : Gx) (E : XK) : TS :=
      (tSeq (tAsg (tCall (sp_counts_of G) [] E (tCons (tVar 0) (tCons (tVar 1) tNil))) (gName 4))
      (tSeq (tDrop (tCall (sp_need_from G) [] E (tCons (tVar 2) (tCons (tC (.int 0)) tNil))))
      (tSeq (tDrop (tCall (sp_need_from G) [] E (tCons (tVar 3) (tCons (tC (.int 0)) tNil))))
      (tSeq (tIfS (tTest (tOp uGe (tVar 3) (tCall (sp_just G) [] E (tCons (tVar 4) (tCons (tVar 1) (tCons (tVar 2) tNil)))))) (tRz E (G.C "NoNumber")) tNext)
      (tSeq (tAsg (tCB (uLen G.K) (tCons (tFl (G.C "Counts") (tVar 4) "values_let") tNil)) (gName 5))
      (tSeq (tAsg (tLst tNil) (gName 6))
      (tSeq (tWhile (tTest (tOp uLt (tCB (uLen G.K) (tCons (tVar 6) tNil)) (tVar 2))) (tSeq (tAsg (tC .non) (gName 7))
      (tSeq (tFor (iList G.K (tMeth (G.C "Counts") "firsts" (sp_Counts_firsts_v2 G) [] E (tVar 4) (tCons (tVar 5) (tCons (tVar 1) (tCons (tOp uSub (tVar 2) (tCB (uLen G.K) (tCons (tVar 6) tNil))) tNil))))) (gTup G.K 3 (gCons (gName 8) (gCons (gName 9) (gCons (gName 10) gNil)))) (tIfS (tTest (tOp uIs (tVar 7) (tC .non))) (tIfS (tTest (tOp uLt (tVar 3) (tVar 10))) (tAsg (tTup (tCons (tVar 8) (tCons (tVar 9) tNil))) (gName 7)) (tAug 3 (tVar 10) (ipI fun i j => i - j))) tNext))
      (tSeq (tDrop (tBM G.K "list" rAppend (tVar 6) (tCons (tOp (uIx G.K) (tVar 7) (tC (.int 0))) tNil)))
      (tSeq (tAug 1 (tOp (uIx G.K) (tVar 7) (tC (.int 0))) (ipI fun i j => i - j))
      (tAsg (tOp (uIx G.K) (tVar 7) (tC (.int 1))) (gName 5)))))))
      (tRet (tVar 6)))))))))
def sp_sum_by (G : Gx) : Sp := fun vs H Q E => vs.length = 4 ∧ t_sum_by G E { nx := fun _ H' => Q .non H', rt := Q } (start ["kinds", "n", "k", "number", "counts", "size", "parts", "chosen", "part", "further", "many"] vs) H
def t_number_of (G : Gx) (E : XK) : TS :=
      (tSeq (tAsg (tCall (sp_counts_of G) [] E (tCons (tVar 0) (tCons (tVar 1) tNil))) (gName 4))
      (tSeq (tDrop (tCall (sp_need_from G) [] E (tCons (tVar 2) (tCons (tC (.int 0)) tNil))))
      (tSeq (tIfS (tOr (tNot (tB (tCall (sp_is_sum G) [] E (tCons (tVar 0) (tCons (tVar 1) (tCons (tVar 3) tNil)))))) (tTest (tOp (uNe G.K) (tCB (uLen G.K) (tCons (tVar 3) tNil)) (tVar 2)))) (tRz E (G.C "NoSum")) tNext)
      (tSeq (tAsg (tCB (uLen G.K) (tCons (tFl (G.C "Counts") (tVar 4) "values_let") tNil)) (gName 5))
      (tSeq (tAsg (tC (.int 0)) (gName 6))
      (tSeq (tFor (iEnum G.K (tCons (tVar 3) tNil)) (gTup G.K 2 (gCons (gName 7) (gCons (gName 8) gNil))) (tSeq (tFor (iList G.K (tMeth (G.C "Counts") "firsts" (sp_Counts_firsts_v2 G) [] E (tVar 4) (tCons (tVar 5) (tCons (tVar 1) (tCons (tOp uSub (tVar 2) (tVar 7)) tNil))))) (gTup G.K 3 (gCons (gName 9) (gCons (gName 10) (gCons (gName 11) gNil)))) (tSeq (tIfS (tTest (tOp uLt (tVar 9) (tVar 8))) (tAug 6 (tVar 11) (ipI fun i j => i + j)) tNext)
      (tIfS (tTest (tOp (uEq G.K) (tVar 9) (tVar 8))) (tAsg (tVar 10) (gName 5)) tNext)))
      (tAug 1 (tVar 8) (ipI fun i j => i - j))))
      (tRet (tVar 6))))))))
def sp_number_of (G : Gx) : Sp := fun vs H Q E => vs.length = 4 ∧ t_number_of G E { nx := fun _ H' => Q .non H', rt := Q } (start ["kinds", "n", "k", "thing", "counts", "size", "total", "at", "own", "part", "further", "many"] vs) H
def t_least_rows (G : Gx) (E : XK) : TS :=
      (tSeq (tAsg (tOp uAdd (tLst (tCons (tC (.int 0)) tNil)) (tOp uMul (tLst (tCons (tC .non) tNil)) (tVar 1))) (gName 2))
      (tSeq (tAsg (tLst (tCons (tVar 2) tNil)) (gName 3))
      (tSeq (tFor (iList G.K (tVar 0)) (gName 4) (tSeq (tAsg (tCB (uList G.K) (tCons (tOp (uIx G.K) (tVar 3) (tUn uNeg (tC (.int 1)))) tNil)) (gName 2))
      (tSeq (tFor (iRng2 (tCons (tVar 4) (tCons (tOp uAdd (tVar 1) (tC (.int 1))) tNil))) (gName 5) (tSeq (tAsg (tOp (uIx G.K) (tOp (uIx G.K) (tVar 3) (tUn uNeg (tC (.int 1)))) (tOp uSub (tVar 5) (tVar 4))) (gName 6))
      (tIfS (tAnd (tTest (tOp uIsNot (tVar 6) (tC .non))) (tOr (tTest (tOp uIs (tOp (uIx G.K) (tVar 2) (tVar 5)) (tC .non))) (tTest (tOp uLt (tOp uAdd (tVar 6) (tC (.int 1))) (tOp (uIx G.K) (tVar 2) (tVar 5)))))) (tAsg (tOp uAdd (tVar 6) (tC (.int 1))) (gSub (tVar 2) (tVar 5) uSet)) tNext)))
      (tDrop (tBM G.K "list" rAppend (tVar 3) (tCons (tVar 2) tNil))))))
      (tRet (tVar 3)))))
def sp_least_rows (G : Gx) : Sp := fun vs H Q E => vs.length = 2 ∧ t_least_rows G E { nx := fun _ H' => Q .non H', rt := Q } (start ["stock", "n", "row", "rows", "part", "total", "ahead"] vs) H
def t_fewest_unlike (G : Gx) (E : XK) : TS :=
      (tRet (tOp (uIx G.K) (tOp (uIx G.K) (tCall (sp_least_rows G) [] E (tCons (tCall (sp_stock_to G) [] E (tCons (tVar 0) (tCons (tVar 1) tNil))) (tCons (tVar 1) tNil))) (tUn uNeg (tC (.int 1)))) (tVar 1)))
def sp_fewest_unlike (G : Gx) : Sp := fun vs H Q E => vs.length = 2 ∧ t_fewest_unlike G E { nx := fun _ H' => Q .non H', rt := Q } (start ["kinds", "n"] vs) H
def t_first_unlike (G : Gx) (E : XK) : TS :=
      (tSeq (tAsg (tCall (sp_stock_to G) [] E (tCons (tVar 0) (tCons (tVar 1) tNil))) (gName 2))
      (tSeq (tAsg (tCall (sp_least_rows G) [] E (tCons (tVar 2) (tCons (tVar 1) tNil))) (gName 3))
      (tSeq (tAsg (tOp (uIx G.K) (tOp (uIx G.K) (tVar 3) (tUn uNeg (tC (.int 1)))) (tVar 1)) (gName 4))
      (tSeq (tIfS (tTest (tOp uIs (tVar 4) (tC .non))) (tRet (tC .non)) tNext)
      (tSeq (tAsg (tLst tNil) (gName 5))
      (tSeq (tAsg (tCB (uLen G.K) (tCons (tVar 2) tNil)) (gName 6))
      (tSeq (tWhile (tTest (tOp uGt (tVar 4) (tC (.int 0)))) (tSeq (tAug 4 (tC (.int 1)) (ipI fun i j => i - j))
      (tSeq (tFor (iRng1 (tCons (tVar 6) tNil)) (gName 7) (tIfS (tAnd (tTest (tOp uLe (tOp (uIx G.K) (tVar 2) (tVar 7)) (tVar 1))) (tTest (tOp (uEq G.K) (tOp (uIx G.K) (tOp (uIx G.K) (tVar 3) (tVar 7)) (tOp uSub (tVar 1) (tOp (uIx G.K) (tVar 2) (tVar 7)))) (tVar 4)))) tBreak tNext))
      (tSeq (tDrop (tBM G.K "list" rAppend (tVar 5) (tCons (tOp (uIx G.K) (tVar 2) (tVar 7)) tNil)))
      (tSeq (tAug 1 (tOp (uIx G.K) (tVar 2) (tVar 7)) (ipI fun i j => i - j))
      (tAsg (tVar 7) (gName 6)))))))
      (tRet (tVar 5)))))))))
def sp_first_unlike (G : Gx) : Sp := fun vs H Q E => vs.length = 2 ∧ t_first_unlike G E { nx := fun _ H' => Q .non H', rt := Q } (start ["kinds", "n", "stock", "rows", "many", "found", "top", "at"] vs) H
def t_ways_to (G : Gx) (E : XK) : TS :=
      (tSeq (tAsg (tOp uAdd (tLst (tCons (tC (.int 1)) tNil)) (tOp uMul (tLst (tCons (tC (.int 0)) tNil)) (tVar 1))) (gName 2))
      (tSeq (tFor (iList G.K (tVar 0)) (gName 3) (tFor (iRng3 (tCons (tVar 1) (tCons (tOp uSub (tVar 3) (tC (.int 1))) (tCons (tUn uNeg (tC (.int 1))) tNil)))) (gName 4) (tAugS (tVar 2) (tVar 4) (tOp (uIx G.K) (tVar 2) (tOp uSub (tVar 4) (tVar 3))) (rIxL G.K) (ipI fun i j => i + j) uSet)))
      (tRet (tVar 2))))
def sp_ways_to (G : Gx) : Sp := fun vs H Q E => vs.length = 2 ∧ t_ways_to G E { nx := fun _ H' => Q .non H', rt := Q } (start ["stock", "n", "ways", "part", "total"] vs) H
def t_count_unlike (G : Gx) (E : XK) : TS :=
      (tRet (tOp (uIx G.K) (tCall (sp_ways_to G) [] E (tCons (tCall (sp_stock_to G) [] E (tCons (tVar 0) (tCons (tVar 1) tNil))) (tCons (tVar 1) tNil))) (tVar 1)))
def sp_count_unlike (G : Gx) : Sp := fun vs H Q E => vs.length = 2 ∧ t_count_unlike G E { nx := fun _ H' => Q .non H', rt := Q } (start ["kinds", "n"] vs) H
def t_without_unlike (G : Gx) (E : XK) : TS :=
      (tRet (tLc (iEnum G.K (tCons (tCall (sp_ways_to G) [] E (tCons (tCall (sp_stock_to G) [] E (tCons (tVar 0) (tCons (tVar 1) tNil))) (tCons (tVar 1) tNil))) tNil)) (gTup G.K 2 (gCons (gName 2) (gCons (gName 3) gNil))) (tTest (tOp (uEq G.K) (tVar 3) (tC (.int 0)))) (tVar 2) [2, 3]))
def sp_without_unlike (G : Gx) : Sp := fun vs H Q E => vs.length = 2 ∧ t_without_unlike G E { nx := fun _ H' => Q .non H', rt := Q } (start ["kinds", "b", "n", "ways"] vs) H
def t_needing (G : Gx) (E : XK) : TS :=
      (tSeq (tAsg (tCall (sp_fewest_to G) [] E (tCons (tVar 0) (tCons (tVar 2) tNil))) (gName 3))
      (tSeq (tDrop (tCall (sp_need_from G) [] E (tCons (tVar 1) (tCons (tC (.int 0)) tNil))))
      (tRet (tLc (iEnum G.K (tCons (tVar 3) tNil)) (gTup G.K 2 (gCons (gName 4) (gCons (gName 5) gNil))) (tTest (tOp (uEq G.K) (tVar 5) (tVar 1))) (tVar 4) [4, 5]))))
def sp_needing (G : Gx) : Sp := fun vs H Q E => vs.length = 3 ∧ t_needing G E { nx := fun _ H' => Q .non H', rt := Q } (start ["kinds", "k", "b", "fewest", "n", "parts"] vs) H
def t_greatest_needing (G : Gx) (E : XK) : TS :=
      (tSeq (tAsg (tCall (sp_needing G) [] E (tCons (tVar 0) (tCons (tVar 1) (tCons (tVar 2) tNil)))) (gName 3))
      (tSeq (tIfS (tTest (tOp (uEq G.K) (tVar 3) (tLst tNil))) (tRet (tC .non)) tNext)
      (tRet (tOp (uIx G.K) (tVar 3) (tUn uNeg (tC (.int 1)))))))
def sp_greatest_needing (G : Gx) : Sp := fun vs H Q E => vs.length = 3 ∧ t_greatest_needing G E { nx := fun _ H' => Q .non H', rt := Q } (start ["kinds", "k", "b", "found"] vs) H
def t_most_needed (G : Gx) (E : XK) : TS :=
      (tRet (tCB (uMax G.K) (tCons (tCall (sp_fewest_to G) [] E (tCons (tVar 0) (tCons (tVar 1) tNil))) tNil)))
def sp_most_needed (G : Gx) : Sp := fun vs H Q E => vs.length = 2 ∧ t_most_needed G E { nx := fun _ H' => Q .non H', rt := Q } (start ["kinds", "b"] vs) H
def t_counts_by_need (G : Gx) (E : XK) : TS :=
      (tSeq (tAsg (tCall (sp_fewest_to G) [] E (tCons (tVar 0) (tCons (tVar 1) tNil))) (gName 2))
      (tRet (tLc (iRng1 (tCons (tOp uAdd (tCB (uMax G.K) (tCons (tVar 2) tNil)) (tC (.int 1))) tNil)) (gName 3) tYes (tBM G.K "list" (rCntV G.K) (tVar 2) (tCons (tVar 3) tNil)) [3])))
def sp_counts_by_need (G : Gx) : Sp := fun vs H Q E => vs.length = 2 ∧ t_counts_by_need G E { nx := fun _ H' => Q .non H', rt := Q } (start ["kinds", "b", "fewest", "k"] vs) H
def t_need_paper (G : Gx) (E : XK) : TS :=
      (tRet (tCall (sp_fewest_to G) [] E (tCons (tVar 0) (tCons (tVar 1) tNil))))
def sp_need_paper (G : Gx) : Sp := fun vs H Q E => vs.length = 2 ∧ t_need_paper G E { nx := fun _ H' => Q .non H', rt := Q } (start ["kinds", "n"] vs) H
def t_paper_shows (G : Gx) (E : XK) : TS :=
      (tSeq (tAsg (tCall (sp_stock_to G) [] E (tCons (tVar 0) (tCons (tVar 1) tNil))) (gName 4))
      (tSeq (tIfS (tOr (tNot (tB (tCall (sp_is_whole G) [] E (tCons (tVar 2) tNil)))) (tOr (tTest (tOp uLt (tVar 2) (tC (.int 0)))) (tOr (tNot (tB (tCB (uIsi G.K) (tCons (tVar 3) (tCons (tC (.ty "list")) tNil))))) (tTest (tOp (uNe G.K) (tCB (uLen G.K) (tCons (tVar 3) tNil)) (tOp uAdd (tVar 1) (tC (.int 1)))))))) (tRet (tC (.bl false))) tNext)
      (tSeq (tIfS (tOr (tTest (tOp (uNe G.K) (tLc (iList G.K (tVar 3)) (gName 7) (tNot (tB (tCall (sp_is_whole G) [] E0 (tCons (tVar 7) tNil)))) (tVar 7) [7]) (tLst tNil))) (tOr (tTest (tOp (uNe G.K) (tOp (uIx G.K) (tVar 3) (tC (.int 0))) (tC (.int 0)))) (tTest (tOp uLt (tOp (uIx G.K) (tVar 3) (tVar 1)) (tVar 2))))) (tRet (tC (.bl false))) tNext)
      (tSeq (tFor (iRng2 (tCons (tC (.int 1)) (tCons (tOp uAdd (tVar 1) (tC (.int 1))) tNil))) (gName 5) (tFor (iList G.K (tVar 4)) (gName 6) (tIfS (tAnd (tTest (tOp uLe (tVar 6) (tVar 5))) (tTest (tOp uGt (tOp (uIx G.K) (tVar 3) (tVar 5)) (tOp uAdd (tOp (uIx G.K) (tVar 3) (tOp uSub (tVar 5) (tVar 6))) (tC (.int 1)))))) (tRet (tC (.bl false))) tNext)))
      (tRet (tC (.bl true)))))))
def sp_paper_shows (G : Gx) : Sp := fun vs H Q E => vs.length = 4 ∧ t_paper_shows G E { nx := fun _ H' => Q .non H', rt := Q } (start ["kinds", "n", "m", "thing", "stock", "i", "j", "number"] vs) H
def t_Keeper___init__ (G : Gx) (E : XK) : TS :=
      (tSeq (tDrop (tCall (sp_need_kinds G) [] E (tCons (tVar 1) tNil)))
      (tSeq (tDrop (tCall (sp_need_to_most G) [] E (tCons (tVar 2) tNil)))
      (tSeq (tFls (G.C "Keeper") (tVar 0) (tCB (uList G.K) (tCons (tVar 1) tNil)) "own")
      (tFls (G.C "Keeper") (tVar 0) (tVar 2) "bound"))))
def sp_Keeper___init__ (G : Gx) : Sp := fun vs H Q E => vs.length = 3 ∧ t_Keeper___init__ G E { nx := fun _ H' => Q .non H', rt := Q } (start ["self", "kinds", "b"] vs) H
def t_Keeper_needs (G : Gx) (E : XK) : TS :=
      (tRet (tCall (sp_fewest_by G) [] E (tCons (tCall (sp_stock_of G) [] E (tCons (tFl (G.C "Keeper") (tVar 0) "own") (tCons (tFl (G.C "Keeper") (tVar 0) "bound") tNil))) (tCons (tFl (G.C "Keeper") (tVar 0) "bound") tNil))))
def sp_Keeper_needs (G : Gx) : Sp := fun vs H Q E => vs.length = 1 ∧ t_Keeper_needs G E { nx := fun _ H' => Q .non H', rt := Q } (start ["self"] vs) H
def t_Keeper_come (G : Gx) (E : XK) : TS :=
      (tSeq (tIfS (tTest (tOp (uEq G.K) (tCB (uLen G.K) (tCons (tFl (G.C "Keeper") (tVar 0) "own") tNil)) (tC (.int 5)))) (tRz E (G.C "TooMany")) tNext)
      (tSeq (tIfS (tOr (tNot (tB (tCall (sp_is_kind G) [] E (tCons (tVar 1) tNil)))) (tTest (tOp (uIn G.K) (tVar 1) (tFl (G.C "Keeper") (tVar 0) "own")))) (tRz E (G.C "NoKind")) tNext)
      (tSeq (tAsg (tCB (uMax G.K) (tCons (tMeth (G.C "Keeper") "needs" (sp_Keeper_needs G) [] E (tVar 0) tNil) tNil)) (gName 2))
      (tSeq (tDrop (tBM G.K "list" rAppend (tFl (G.C "Keeper") (tVar 0) "own") (tCons (tVar 1) tNil)))
      (tRet (tTup (tCons (tVar 2) (tCons (tCB (uMax G.K) (tCons (tMeth (G.C "Keeper") "needs" (sp_Keeper_needs G) [] E (tVar 0) tNil) tNil)) tNil))))))))
def sp_Keeper_come (G : Gx) : Sp := fun vs H Q E => vs.length = 2 ∧ t_Keeper_come G E { nx := fun _ H' => Q .non H', rt := Q } (start ["self", "kind", "before"] vs) H
def t_Keeper_go (G : Gx) (E : XK) : TS :=
      (tSeq (tIfS (tOr (tNot (tB (tCall (sp_is_kind G) [] E (tCons (tVar 1) tNil)))) (tOr (tTest (tOp (uNotIn G.K) (tVar 1) (tFl (G.C "Keeper") (tVar 0) "own"))) (tTest (tOp (uEq G.K) (tCB (uLen G.K) (tCons (tFl (G.C "Keeper") (tVar 0) "own") tNil)) (tC (.int 1)))))) (tRz E (G.C "NoKind")) tNext)
      (tSeq (tAsg (tCB (uMax G.K) (tCons (tMeth (G.C "Keeper") "needs" (sp_Keeper_needs G) [] E (tVar 0) tNil) tNil)) (gName 2))
      (tSeq (tDrop (tBM G.K "list" rRmV (tFl (G.C "Keeper") (tVar 0) "own") (tCons (tVar 1) tNil)))
      (tRet (tTup (tCons (tVar 2) (tCons (tCB (uMax G.K) (tCons (tMeth (G.C "Keeper") "needs" (sp_Keeper_needs G) [] E (tVar 0) tNil) tNil)) tNil)))))))
def sp_Keeper_go (G : Gx) : Sp := fun vs H Q E => vs.length = 2 ∧ t_Keeper_go G E { nx := fun _ H' => Q .non H', rt := Q } (start ["self", "kind", "before"] vs) H
def t_Keeper_kinds (G : Gx) (E : XK) : TS :=
      (tRet (tCB (uList G.K) (tCons (tFl (G.C "Keeper") (tVar 0) "own") tNil)))
def sp_Keeper_kinds (G : Gx) : Sp := fun vs H Q E => vs.length = 1 ∧ t_Keeper_kinds G E { nx := fun _ H' => Q .non H', rt := Q } (start ["self"] vs) H
def t_Keeper_stock (G : Gx) (E : XK) : TS :=
      (tRet (tCall (sp_stock_of G) [] E (tCons (tFl (G.C "Keeper") (tVar 0) "own") (tCons (tFl (G.C "Keeper") (tVar 0) "bound") tNil))))
def sp_Keeper_stock (G : Gx) : Sp := fun vs H Q E => vs.length = 1 ∧ t_Keeper_stock G E { nx := fun _ H' => Q .non H', rt := Q } (start ["self"] vs) H
def t_Keeper_fewest (G : Gx) (E : XK) : TS :=
      (tSeq (tIfS (tOr (tNot (tB (tCall (sp_is_whole G) [] E (tCons (tVar 1) tNil)))) (tNot (tTest (tChain uLe uLe (tC (.int 0)) (tVar 1) (tFl (G.C "Keeper") (tVar 0) "bound"))))) (tRz E (G.C "NoNumber")) tNext)
      (tRet (tOp (uIx G.K) (tMeth (G.C "Keeper") "needs" (sp_Keeper_needs G) [] E (tVar 0) tNil) (tVar 1))))
def sp_Keeper_fewest (G : Gx) : Sp := fun vs H Q E => vs.length = 2 ∧ t_Keeper_fewest G E { nx := fun _ H' => Q .non H', rt := Q } (start ["self", "n"] vs) H
def t_law_cell_v2 (G : Gx) (E : XK) : TS :=
      (tSeq (tIfS (tTest (tOp uLt (tVar 1) (tCB (uLen G.K) (tCons (tVar 0) tNil)))) (tRet (tOp (uIx G.K) (tVar 0) (tVar 1))) tNext)
      (tRet (tOp uAdd (tOp uAdd (tOp uMul (tOp uMul (tC (.int 107)) (tVar 1)) (tVar 1)) (tOp uMul (tC (.int 89)) (tVar 1))) (tC (.int 22)))))
def sp_law_cell_v2 (G : Gx) : Sp := fun vs H Q E => vs.length = 2 ∧ t_law_cell_v2 G E { nx := fun _ H' => Q .non H', rt := Q } (start ["script", "k"] vs) H
def t_law_mixed (G : Gx) (E : XK) : TS :=
      (tSeq (tAsg (tOp uMod (tOp uAdd (tOp uAdd (tOp uAdd (tOp uMul (tVar 0) (tC (.int 48271))) (tOp uMul (tOp uMul (tC (.int 7919)) (tVar 1)) (tVar 1))) (tOp uMul (tC (.int 104729)) (tVar 1))) (tC (.int 11))) (tC (.int 2147483647))) (gName 2))
      (tSeq (tAsg (tLst (tCons (tC (.int 2147483629)) (tCons (tC (.int 2147483587)) (tCons (tC (.int 2147483579)) (tCons (tC (.int 2147483563)) (tCons (tC (.int 2147483549)) (tCons (tC (.int 2147483543)) (tCons (tC (.int 2147483497)) tNil)))))))) (gName 3))
      (tSeq (tAsg (tOp uMod (tOp uMul (tVar 2) (tVar 2)) (tOp (uIx G.K) (tVar 3) (tOp uMod (tVar 1) (tC (.int 7))))) (gName 2))
      (tRet (tOp uDiv (tOp uAdd (tOp uMul (tVar 2) (tC (.int 16811))) (tOp uMod (tVar 0) (tC (.int 5)))) (tC (.int 8)))))))
def sp_law_mixed (G : Gx) : Sp := fun vs H Q E => vs.length = 2 ∧ t_law_mixed G E { nx := fun _ H' => Q .non H', rt := Q } (start ["cell", "k", "number", "some"] vs) H
def t_law_kinds_v3 (G : Gx) (E : XK) : TS :=
      (tSeq (tAsg (tOp uAdd (tLstRg (tRg2 (tC (.int 3)) (tC (.int 13)))) (tLst (tCons (tC (.str "cubes")) tNil))) (gName 1))
      (tSeq (tAsg (tLst tNil) (gName 2))
      (tSeq (tFor (iRng1 (tCons (tOp uAdd (tC (.int 1)) (tOp uMod (tVar 0) (tC (.int 5)))) tNil)) (gName 3) (tDrop (tBM G.K "list" rAppend (tVar 2) (tCons (tBM G.K "list" rPopAt (tVar 1) (tCons (tOp uMod (tCall (sp_law_mixed G) [] E (tCons (tVar 0) (tCons (tVar 3) tNil))) (tCB (uLen G.K) (tCons (tVar 1) tNil))) tNil)) tNil))))
      (tRet (tVar 2)))))
def sp_law_kinds_v3 (G : Gx) : Sp := fun vs H Q E => vs.length = 1 ∧ t_law_kinds_v3 G E { nx := fun _ H' => Q .non H', rt := Q } (start ["cell", "left", "found", "k"] vs) H
def t_law_dots_v3 (G : Gx) (E : XK) : TS :=
      (tSeq (tIfS (tTest (tOp (uEq G.K) (tVar 0) (tC (.str "cubes")))) (tRet (tOp uMul (tOp uMul (tVar 1) (tVar 1)) (tVar 1))) tNext)
      (tSeq (tAsg (tC (.int 1)) (gName 2))
      (tSeq (tAsg (tOp uSub (tVar 0) (tC (.int 1))) (gName 3))
      (tSeq (tFor (iRng1 (tCons (tOp uSub (tVar 1) (tC (.int 1))) tNil)) (gName 4) (tSeq (tAsg (tOp uAdd (tVar 2) (tVar 3)) (gName 2))
      (tAsg (tOp uSub (tOp uAdd (tVar 3) (tVar 0)) (tC (.int 2))) (gName 3))))
      (tRet (tVar 2))))))
def sp_law_dots_v3 (G : Gx) : Sp := fun vs H Q E => vs.length = 2 ∧ t_law_dots_v3 G E { nx := fun _ H' => Q .non H', rt := Q } (start ["kind", "k", "total", "put", "turn"] vs) H
def t_law_stock_v4 (G : Gx) (E : XK) : TS :=
      (tSeq (tAsg tDNewK (gName 2))
      (tSeq (tFor (iList G.K (tVar 0)) (gName 3) (tSeq (tAsg (tC (.int 1)) (gName 4))
      (tWhile (tTest (tOp uLe (tCall (sp_law_dots_v3 G) [] E (tCons (tVar 3) (tCons (tVar 4) tNil))) (tVar 1))) (tSeq (tAsg (tC (.bl true)) (gSub (tVar 2) (tCall (sp_law_dots_v3 G) [] E (tCons (tVar 3) (tCons (tVar 4) tNil))) uSet))
      (tAsg (tOp uAdd (tVar 4) (tC (.int 1))) (gName 4))))))
      (tRet (tCB (uSorted G.K) (tCons (tVar 2) tNil)))))
def sp_law_stock_v4 (G : Gx) : Sp := fun vs H Q E => vs.length = 2 ∧ t_law_stock_v4 G E { nx := fun _ H' => Q .non H', rt := Q } (start ["kinds", "b", "found", "kind", "k"] vs) H
def t_law_sums_v2 (G : Gx) (E : XK) : TS :=
      (tSeq (tAsg (tLst tNil) (gName 2))
      (tSeq (tAsg (tLst (tCons (tTup (tCons (tLst tNil) (tCons (tVar 1) tNil))) tNil)) (gName 3))
      (tSeq (tWhile (tTest (tOp (uNe G.K) (tVar 3) (tLst tNil))) (tSeq (tAsg (tBM0 G.K "list" rPop (tVar 3)) (gTup G.K 2 (gCons (gName 4) (gCons (gName 5) gNil))))
      (tSeq (tIfS (tTest (tOp (uEq G.K) (tVar 5) (tC (.int 0)))) (tDrop (tBM G.K "list" rAppend (tVar 2) (tCons (tVar 4) tNil))) tNext)
      (tFor (iList G.K (tVar 0)) (gName 6) (tIfS (tTest (tOp uLe (tVar 6) (tCB (uMin G.K) (tCons (tOp uAdd (tLst (tCons (tVar 5) tNil)) (tSl (uSl G.K) (tVar 4) (tPart (tUn uNeg (tC (.int 1)))) tNoPart)) tNil)))) (tDrop (tBM G.K "list" rAppend (tVar 3) (tCons (tTup (tCons (tOp uAdd (tVar 4) (tLst (tCons (tVar 6) tNil))) (tCons (tOp uSub (tVar 5) (tVar 6)) tNil))) tNil))) tNext)))))
      (tRet (tCB (uSortedLL G.K) (tCons (tVar 2) tNil))))))
def sp_law_sums_v2 (G : Gx) : Sp := fun vs H Q E => vs.length = 2 ∧ t_law_sums_v2 G E { nx := fun _ H' => Q .non H', rt := Q } (start ["stock", "n", "found", "waiting", "parts", "left", "part"] vs) H
def t_law_stock_good (G : Gx) (E : XK) : TS :=
      (tSeq (tIfS (tTest (tOp (uNe G.K) (tCall (sp_stock_to G) [] E (tCons (tVar 0) (tCons (tVar 1) tNil))) (tVar 2))) (tRet (tC (.bl false))) tNext)
      (tSeq (tFor (iList G.K (tVar 0)) (gName 3) (tSeq (tAsg (tLc (iRng2 (tCons (tC (.int 1)) (tCons (tC (.int 8)) tNil))) (gName 7) tYes (tCall (sp_law_dots_v3 G) [] E0 (tCons (tVar 3) (tCons (tVar 7) tNil))) [7]) (gName 4))
      (tSeq (tIfS (tTest (tOp (uNe G.K) (tLc (iRng2 (tCons (tC (.int 1)) (tCons (tC (.int 8)) tNil))) (gName 7) tYes (tCall (sp_number_of_dots G) [] E0 (tCons (tVar 3) (tCons (tVar 7) tNil))) [7]) (tVar 4))) (tRet (tC (.bl false))) tNext)
      (tFor (iRng2 (tCons (tC (.int 1)) (tCons (tOp uAdd (tVar 1) (tC (.int 2))) tNil))) (gName 5) (tSeq (tAsg (tC .non) (gName 6))
      (tSeq (tIfS (tTest (tOp (uIn G.K) (tVar 5) (tVar 4))) (tAsg (tOp uAdd (tBM G.K "list" (rIndex G.K) (tVar 4) (tCons (tVar 5) tNil)) (tC (.int 1))) (gName 6)) tNext)
      (tIfS (tAnd (tTest (tOp uLe (tVar 5) (tOp (uIx G.K) (tVar 4) (tUn uNeg (tC (.int 1)))))) (tTest (tOp (uNe G.K) (tCall (sp_place_in G) [] E (tCons (tVar 3) (tCons (tVar 5) tNil))) (tVar 6)))) (tRet (tC (.bl false))) tNext)))))))
      (tRet (tC (.bl true)))))
def sp_law_stock_good (G : Gx) : Sp := fun vs H Q E => vs.length = 3 ∧ t_law_stock_good G E { nx := fun _ H' => Q .non H', rt := Q } (start ["kinds", "n", "stock", "kind", "first", "total", "due", "k"] vs) H
def t_law_sums_good (G : Gx) (E : XK) : TS :=
      (tSeq (tAsg (tOp (uIx G.K) (tVar 2) (tVar 1)) (gName 3))
      (tSeq (tAsg (tCB (uMin G.K) (tCons (tLc (iList G.K (tVar 3)) (gName 10) tYes (tCB (uLen G.K) (tCons (tVar 10) tNil)) [10]) tNil)) (gName 4))
      (tSeq (tAsg (tLc (iList G.K (tVar 3)) (gName 10) (tTest (tOp (uEq G.K) (tCB (uLen G.K) (tCons (tVar 10) tNil)) (tVar 4))) (tVar 10) [10]) (gName 5))
      (tSeq (tIfS (tOr (tTest (tOp (uNe G.K) (tCall (sp_fewest_parts G) [] E (tCons (tVar 0) (tCons (tVar 1) tNil))) (tVar 4))) (tTest (tOp (uNe G.K) (tCall (sp_first_sum G) [] E (tCons (tVar 0) (tCons (tVar 1) tNil))) (tOp (uIx G.K) (tVar 5) (tC (.int 0)))))) (tRet (tC (.bl false))) tNext)
      (tSeq (tIfS (tTest (tOp (uNe G.K) (tCall (sp_count_sums G) [] E (tCons (tVar 0) (tCons (tVar 1) tNil))) (tCB (uLen G.K) (tCons (tVar 3) tNil)))) (tRet (tC (.bl false))) tNext)
      (tSeq (tFor (iRng1 (tCons (tOp uAdd (tVar 1) (tC (.int 2))) tNil)) (gName 6) (tSeq (tAsg (tLc (iList G.K (tVar 3)) (gName 10) (tTest (tOp (uEq G.K) (tCB (uLen G.K) (tCons (tVar 10) tNil)) (tVar 6))) (tVar 10) [10]) (gName 7))
      (tSeq (tIfS (tTest (tOp (uNe G.K) (tCall (sp_count_just G) [] E (tCons (tVar 0) (tCons (tVar 1) (tCons (tVar 6) tNil)))) (tCB (uLen G.K) (tCons (tVar 7) tNil)))) (tRet (tC (.bl false))) tNext)
      (tSeq (tAsg (tLc (iList G.K (tVar 3)) (gName 10) (tTest (tOp uLe (tCB (uLen G.K) (tCons (tVar 10) tNil)) (tVar 6))) (tVar 10) [10]) (gName 8))
      (tSeq (tIfS (tTest (tOp (uNe G.K) (tCall (sp_count_at_most G) [] E (tCons (tVar 0) (tCons (tVar 1) (tCons (tVar 6) tNil)))) (tCB (uLen G.K) (tCons (tVar 8) tNil)))) (tRet (tC (.bl false))) tNext)
      (tFor (iRng3 (tCons (tC (.int 0)) (tCons (tCB (uLen G.K) (tCons (tVar 7) tNil)) (tCons (tOp uAdd (tC (.int 1)) (tOp uDiv (tCB (uLen G.K) (tCons (tVar 7) tNil)) (tC (.int 4)))) tNil)))) (gName 9) (tSeq (tIfS (tTest (tOp (uNe G.K) (tCall (sp_sum_by G) [] E (tCons (tVar 0) (tCons (tVar 1) (tCons (tVar 6) (tCons (tVar 9) tNil))))) (tOp (uIx G.K) (tVar 7) (tVar 9)))) (tRet (tC (.bl false))) tNext)
      (tIfS (tTest (tOp (uNe G.K) (tCall (sp_number_of G) [] E (tCons (tVar 0) (tCons (tVar 1) (tCons (tVar 6) (tCons (tCB (uList G.K) (tCons (tOp (uIx G.K) (tVar 7) (tVar 9)) tNil)) tNil))))) (tVar 9))) (tRet (tC (.bl false))) tNext))))))))
      (tRet (tC (.bl true)))))))))
def sp_law_sums_good (G : Gx) : Sp := fun vs H Q E => vs.length = 3 ∧ t_law_sums_good G E { nx := fun _ H' => Q .non H', rt := Q } (start ["kinds", "n", "every", "sums", "few", "best", "k", "some", "less", "j", "parts"] vs) H
def t_law_near_good_v2 (G : Gx) (E : XK) : TS :=
      (tSeq (tFor (iRng1 (tCons (tC (.int 8)) tNil)) (gName 4) (tSeq (tAsg (tCB (uList G.K) (tCons (tOp (uIx G.K) (tVar 2) (tOp uMod (tCall (sp_law_mixed G) [] E (tCons (tVar 3) (tCons (tVar 4) tNil))) (tCB (uLen G.K) (tCons (tVar 2) tNil)))) tNil)) (gName 5))
      (tSeq (tAsg (tOp uMod (tCall (sp_law_mixed G) [] E (tCons (tVar 3) (tCons (tOp uAdd (tC (.int 20)) (tVar 4)) tNil))) (tOp uAdd (tCB (uLen G.K) (tCons (tVar 5) tNil)) (tC (.int 1)))) (gName 6))
      (tSeq (tAsg (tOp uMod (tCall (sp_law_mixed G) [] E (tCons (tVar 3) (tCons (tOp uAdd (tC (.int 40)) (tVar 4)) tNil))) (tOp uAdd (tVar 1) (tC (.int 2)))) (gName 7))
      (tSeq (tAsg (tOp uAdd (tOp uAdd (tSl (uSl G.K) (tVar 5) tNoPart (tPart (tVar 6))) (tLst (tCons (tVar 7) tNil))) (tSl (uSl G.K) (tVar 5) (tPart (tOp uAdd (tVar 6) (tOp uMod (tVar 4) (tC (.int 2))))) tNoPart)) (gName 8))
      (tSeq (tIfS (tTest (tOp (uEq G.K) (tOp uMod (tVar 4) (tC (.int 4))) (tC (.int 3)))) (tAsg (tRevL G.K (tVar 5)) (gName 8)) tNext)
      (tIfS (tTest (tOp (uNe G.K) (tCall (sp_is_sum G) [] E (tCons (tVar 0) (tCons (tVar 1) (tCons (tVar 8) tNil)))) (tOp (uInDp G.K) (tVar 8) (tVar 2)))) (tRet (tC (.bl false))) tNext)))))))
      (tRet (tC (.bl true))))
def sp_law_near_good_v2 (G : Gx) : Sp := fun vs H Q E => vs.length = 4 ∧ t_law_near_good_v2 G E { nx := fun _ H' => Q .non H', rt := Q } (start ["kinds", "n", "sums", "cell", "k", "parts", "at", "part", "near"] vs) H
def t_law_unlike_good (G : Gx) (E : XK) : TS :=
      (tSeq (tAsg (tLc (iList G.K (tOp (uIx G.K) (tVar 2) (tVar 1))) (gName 8) (tTest (tOp (uEq G.K) (tLenSet G.K (tVar 8)) (tCB (uLen G.K) (tCons (tVar 8) tNil)))) (tVar 8) [8]) (gName 3))
      (tSeq (tAsg (tC .non) (gName 4))
      (tSeq (tAsg (tC .non) (gName 5))
      (tSeq (tIfS (tTest (tOp (uNe G.K) (tVar 3) (tLst tNil))) (tSeq (tAsg (tCB (uMin G.K) (tCons (tLc (iList G.K (tVar 3)) (gName 8) tYes (tCB (uLen G.K) (tCons (tVar 8) tNil)) [8]) tNil)) (gName 4))
      (tAsg (tOp (uIx G.K) (tLc (iList G.K (tVar 3)) (gName 8) (tTest (tOp (uEq G.K) (tCB (uLen G.K) (tCons (tVar 8) tNil)) (tVar 4))) (tVar 8) [8]) (tC (.int 0))) (gName 5))) tNext)
      (tSeq (tIfS (tOr (tTest (tOp (uNe G.K) (tCall (sp_fewest_unlike G) [] E (tCons (tVar 0) (tCons (tVar 1) tNil))) (tVar 4))) (tTest (tOp (uNe G.K) (tCall (sp_first_unlike G) [] E (tCons (tVar 0) (tCons (tVar 1) tNil))) (tVar 5)))) (tRet (tC (.bl false))) tNext)
      (tSeq (tIfS (tTest (tOp (uNe G.K) (tCall (sp_count_unlike G) [] E (tCons (tVar 0) (tCons (tVar 1) tNil))) (tCB (uLen G.K) (tCons (tVar 3) tNil)))) (tRet (tC (.bl false))) tNext)
      (tSeq (tAsg (tLst tNil) (gName 6))
      (tSeq (tFor (iRng1 (tCons (tOp uAdd (tVar 1) (tC (.int 1))) tNil)) (gName 7) (tIfS (tTest (tOp (uEq G.K) (tLc (iList G.K (tOp (uIx G.K) (tVar 2) (tVar 7))) (gName 8) (tTest (tOp (uEq G.K) (tLenSet G.K (tVar 8)) (tCB (uLen G.K) (tCons (tVar 8) tNil)))) (tVar 8) [8]) (tLst tNil))) (tDrop (tBM G.K "list" rAppend (tVar 6) (tCons (tVar 7) tNil))) tNext))
      (tRet (tOp (uEq G.K) (tCall (sp_without_unlike G) [] E (tCons (tVar 0) (tCons (tVar 1) tNil))) (tVar 6)))))))))))
def sp_law_unlike_good (G : Gx) : Sp := fun vs H Q E => vs.length = 3 ∧ t_law_unlike_good G E { nx := fun _ H' => Q .non H', rt := Q } (start ["kinds", "n", "every", "some", "few", "first", "none", "total", "parts"] vs) H
def t_law_needs_good (G : Gx) (E : XK) : TS :=
      (tSeq (tIfS (tOr (tTest (tOp (uNe G.K) (tCall (sp_fewest_to G) [] E (tCons (tVar 0) (tCons (tVar 1) tNil))) (tVar 2))) (tTest (tOp (uNe G.K) (tCall (sp_most_needed G) [] E (tCons (tVar 0) (tCons (tVar 1) tNil))) (tCB (uMax G.K) (tCons (tVar 2) tNil))))) (tRet (tC (.bl false))) tNext)
      (tSeq (tFor (iRng1 (tCons (tOp uAdd (tCB (uMax G.K) (tCons (tVar 2) tNil)) (tC (.int 2))) tNil)) (gName 3) (tSeq (tAsg (tLc (iRng1 (tCons (tOp uAdd (tVar 1) (tC (.int 1))) tNil)) (gName 5) (tTest (tOp (uEq G.K) (tOp (uIx G.K) (tVar 2) (tVar 5)) (tVar 3))) (tVar 5) [5]) (gName 4))
      (tSeq (tIfS (tTest (tOp (uNe G.K) (tCall (sp_needing G) [] E (tCons (tVar 0) (tCons (tVar 3) (tCons (tVar 1) tNil)))) (tVar 4))) (tRet (tC (.bl false))) tNext)
      (tIfS (tTest (tOp (uNe G.K) (tCall (sp_greatest_needing G) [] E (tCons (tVar 0) (tCons (tVar 3) (tCons (tVar 1) tNil)))) (tOp (uIx G.K) (tOp uAdd (tLst (tCons (tC .non) tNil)) (tVar 4)) (tUn uNeg (tC (.int 1)))))) (tRet (tC (.bl false))) tNext))))
      (tRet (tOp (uEq G.K) (tCall (sp_counts_by_need G) [] E (tCons (tVar 0) (tCons (tVar 1) tNil))) (tLc (iRng1 (tCons (tOp uAdd (tCB (uMax G.K) (tCons (tVar 2) tNil)) (tC (.int 1))) tNil)) (gName 3) tYes (tBM G.K "list" (rCntV G.K) (tVar 2) (tCons (tVar 3) tNil)) [3])))))
def sp_law_needs_good (G : Gx) : Sp := fun vs H Q E => vs.length = 3 ∧ t_law_needs_good G E { nx := fun _ H' => Q .non H', rt := Q } (start ["kinds", "n", "needs", "k", "some", "total"] vs) H
def t_law_shows_v2 (G : Gx) (E : XK) : TS :=
      (tSeq (tIfS (tOr (tTest (tOp (uNe G.K) (tCB (uLen G.K) (tCons (tVar 3) tNil)) (tOp uAdd (tVar 1) (tC (.int 1))))) (tOr (tTest (tOp (uNe G.K) (tOp (uIx G.K) (tVar 3) (tC (.int 0))) (tC (.int 0)))) (tTest (tOp uLt (tOp (uIx G.K) (tVar 3) (tUn uNeg (tC (.int 1)))) (tVar 2))))) (tRet (tC (.bl false))) tNext)
      (tSeq (tFor (iRng2 (tCons (tC (.int 1)) (tCons (tOp uAdd (tVar 1) (tC (.int 1))) tNil))) (gName 4) (tFor (iList G.K (tVar 0)) (gName 5) (tIfS (tAnd (tTest (tOp uLe (tVar 5) (tVar 4))) (tTest (tOp uGt (tOp (uIx G.K) (tVar 3) (tVar 4)) (tOp uAdd (tOp (uIx G.K) (tVar 3) (tOp uSub (tVar 4) (tVar 5))) (tC (.int 1)))))) (tRet (tC (.bl false))) tNext)))
      (tRet (tC (.bl true)))))
def sp_law_shows_v2 (G : Gx) : Sp := fun vs H Q E => vs.length = 4 ∧ t_law_shows_v2 G E { nx := fun _ H' => Q .non H', rt := Q } (start ["stock", "n", "m", "paper", "total", "part"] vs) H
def t_law_papers_good (G : Gx) (E : XK) : TS :=
      (tSeq (tAsg (tCall (sp_need_paper G) [] E (tCons (tVar 0) (tCons (tVar 1) tNil))) (gName 5))
      (tSeq (tIfS (tNot (tB (tCall (sp_paper_shows G) [] E (tCons (tVar 0) (tCons (tVar 1) (tCons (tOp (uIx G.K) (tVar 3) (tVar 1)) (tCons (tVar 5) tNil))))))) (tRet (tC (.bl false))) tNext)
      (tSeq (tIfS (tB (tCall (sp_paper_shows G) [] E (tCons (tVar 0) (tCons (tVar 1) (tCons (tOp uAdd (tOp (uIx G.K) (tVar 3) (tVar 1)) (tC (.int 1))) (tCons (tVar 5) tNil)))))) (tRet (tC (.bl false))) tNext)
      (tSeq (tFor (iRng1 (tCons (tC (.int 8)) tNil)) (gName 6) (tSeq (tAsg (tCB (uList G.K) (tCons (tOp (uIx G.K) (tLst (tCons (tVar 5) (tCons (tVar 3) tNil))) (tOp uMod (tVar 6) (tC (.int 2)))) tNil)) (gName 7))
      (tSeq (tAsg (tOp uMod (tCall (sp_law_mixed G) [] E (tCons (tVar 4) (tCons (tVar 6) tNil))) (tOp uAdd (tVar 1) (tC (.int 1)))) (gName 8))
      (tSeq (tAsg (tOp uAdd (tOp (uIx G.K) (tVar 7) (tVar 8)) (tOp (uIx G.K) (tLst (tCons (tUn uNeg (tC (.int 1))) (tCons (tC (.int 1)) (tCons (tUn uNeg (tC (.int 2))) (tCons (tC (.int 0)) tNil))))) (tOp uMod (tCall (sp_law_mixed G) [] E (tCons (tVar 4) (tCons (tOp uAdd (tC (.int 20)) (tVar 6)) tNil))) (tC (.int 4))))) (gSub (tVar 7) (tVar 8) uSet))
      (tSeq (tAsg (tCB (uMax G.K) (tCons (tC (.int 0)) (tCons (tOp uSub (tOp uAdd (tOp (uIx G.K) (tVar 3) (tVar 1)) (tOp uMod (tCall (sp_law_mixed G) [] E (tCons (tVar 4) (tCons (tOp uAdd (tC (.int 40)) (tVar 6)) tNil))) (tC (.int 3)))) (tC (.int 1))) tNil))) (gName 9))
      (tSeq (tIfS (tTest (tOp (uEq G.K) (tVar 6) (tC (.int 6)))) (tDrop (tBM G.K "list" rAppend (tVar 7) (tCons (tC (.int 0)) tNil))) tNext)
      (tIfS (tTest (tOp (uNe G.K) (tCall (sp_paper_shows G) [] E (tCons (tVar 0) (tCons (tVar 1) (tCons (tVar 9) (tCons (tVar 7) tNil))))) (tCall (sp_law_shows_v2 G) [] E (tCons (tVar 2) (tCons (tVar 1) (tCons (tVar 9) (tCons (tVar 7) tNil))))))) (tRet (tC (.bl false))) tNext)))))))
      (tRet (tC (.bl true)))))))
def sp_law_papers_good (G : Gx) : Sp := fun vs H Q E => vs.length = 5 ∧ t_law_papers_good G E { nx := fun _ H' => Q .non H', rt := Q } (start ["kinds", "n", "stock", "needs", "cell", "told", "k", "paper", "at", "m"] vs) H
def t_law_most_v2 (G : Gx) (E : XK) : TS :=
      (tSeq (tAsg (tCall (sp_law_stock_v4 G) [] E (tCons (tVar 0) (tCons (tVar 1) tNil))) (gName 2))
      (tSeq (tAsg (tLst (tCons (tC (.int 0)) tNil)) (gName 3))
      (tSeq (tFor (iRng2 (tCons (tC (.int 1)) (tCons (tOp uAdd (tVar 1) (tC (.int 1))) tNil))) (gName 4) (tSeq (tAsg (tLc (iList G.K (tVar 2)) (gName 6) (tTest (tOp uLe (tVar 6) (tVar 4))) (tOp (uIx G.K) (tVar 3) (tOp uSub (tVar 4) (tVar 6))) [6]) (gName 5))
      (tDrop (tBM G.K "list" rAppend (tVar 3) (tCons (tOp uAdd (tC (.int 1)) (tCB (uMin G.K) (tCons (tVar 5) tNil))) tNil)))))
      (tRet (tVar 3)))))
def sp_law_most_v2 (G : Gx) : Sp := fun vs H Q E => vs.length = 2 ∧ t_law_most_v2 G E { nx := fun _ H' => Q .non H', rt := Q } (start ["kinds", "n", "stock", "needs", "total", "below", "part"] vs) H
def t_law_keeper_good (G : Gx) (E : XK) : TS :=
      (tSeq (tAsg (tLc (iList G.K (tOp uAdd (tLstRg (tRg2 (tC (.int 3)) (tC (.int 13)))) (tLst (tCons (tC (.str "cubes")) tNil)))) (gName 10) (tTest (tOp (uNotIn G.K) (tVar 10) (tVar 0))) (tVar 10) [10]) (gName 3))
      (tSeq (tAsg (tOp (uIx G.K) (tVar 3) (tOp uMod (tVar 2) (tCB (uLen G.K) (tCons (tVar 3) tNil)))) (gName 4))
      (tSeq (tAsg (tMake (G.C "Keeper") (sp_Keeper___init__ G) [] E (tCons (tCB (uList G.K) (tCons (tVar 0) tNil)) (tCons (tVar 1) tNil))) (gName 5))
      (tSeq (tAsg (tCB (uMax G.K) (tCons (tCall (sp_law_most_v2 G) [] E (tCons (tVar 0) (tCons (tVar 1) tNil))) tNil)) (gName 6))
      (tSeq (tIfS (tTest (tOp uLt (tCB (uLen G.K) (tCons (tVar 0) tNil)) (tC (.int 5)))) (tSeq (tAsg (tCall (sp_law_most_v2 G) [] E (tCons (tOp uAdd (tVar 0) (tLst (tCons (tVar 4) tNil))) (tCons (tVar 1) tNil))) (gName 7))
      (tSeq (tAsg (tOp uAdd (tVar 0) (tLst (tCons (tVar 4) tNil))) (gName 8))
      (tSeq (tIfS (tOr (tTest (tOp (uNe G.K) (tMeth (G.C "Keeper") "come" (sp_Keeper_come G) [] E (tVar 5) (tCons (tVar 4) tNil)) (tTup (tCons (tVar 6) (tCons (tCB (uMax G.K) (tCons (tVar 7) tNil)) tNil))))) (tTest (tOp (uNe G.K) (tMeth (G.C "Keeper") "kinds" (sp_Keeper_kinds G) [] E (tVar 5) tNil) (tVar 8)))) (tRet (tC (.bl false))) tNext)
      (tSeq (tIfS (tTest (tOp (uNe G.K) (tMeth (G.C "Keeper") "fewest" (sp_Keeper_fewest G) [] E (tVar 5) (tCons (tVar 1) tNil)) (tOp (uIx G.K) (tVar 7) (tVar 1)))) (tRet (tC (.bl false))) tNext)
      (tSeq (tIfS (tTest (tOp (uNe G.K) (tMeth (G.C "Keeper") "stock" (sp_Keeper_stock G) [] E (tVar 5) tNil) (tCall (sp_law_stock_v4 G) [] E (tCons (tVar 8) (tCons (tVar 1) tNil))))) (tRet (tC (.bl false))) tNext)
      (tSeq (tIfS (tTest (tOp (uNe G.K) (tLc (iRng1 (tCons (tOp uAdd (tVar 1) (tC (.int 1))) tNil)) (gName 11) (tTest (tOp uGt (tOp (uIx G.K) (tVar 7) (tVar 11)) (tOp (uIx G.K) (tCall (sp_law_most_v2 G) [] E0 (tCons (tVar 0) (tCons (tVar 1) tNil))) (tVar 11)))) (tVar 11) [11]) (tLst tNil))) (tRet (tC (.bl false))) tNext)
      (tIfS (tTest (tOp (uNe G.K) (tMeth (G.C "Keeper") "go" (sp_Keeper_go G) [] E (tVar 5) (tCons (tVar 4) tNil)) (tTup (tCons (tCB (uMax G.K) (tCons (tVar 7) tNil)) (tCons (tVar 6) tNil))))) (tRet (tC (.bl false))) tNext))))))) tNext)
      (tSeq (tAsg (tCall (sp_law_most_v2 G) [] E (tCons (tVar 0) (tCons (tVar 1) tNil))) (gName 9))
      (tRet (tAndV (tOp (uEq G.K) (tMeth (G.C "Keeper") "kinds" (sp_Keeper_kinds G) [] E (tVar 5) tNil) (tVar 0)) (tOp (uEq G.K) (tMeth (G.C "Keeper") "fewest" (sp_Keeper_fewest G) [] E (tVar 5) (tCons (tVar 1) tNil)) (tOp (uIx G.K) (tVar 9) (tVar 1)))))))))))
def sp_law_keeper_good (G : Gx) : Sp := fun vs H Q E => vs.length = 3 ∧ t_law_keeper_good G E { nx := fun _ H' => Q .non H', rt := Q } (start ["kinds", "n", "cell", "left", "one", "keeper", "before", "more", "both", "needs", "kind", "k"] vs) H
def t_law_k45 (G : Gx) (E : XK) : TS :=
      (tSeq (tFor (iRng1 (tCons (tCB (uMax G.K) (tCons (tC (.int 2)) (tCons (tCB (uMin G.K) (tCons (tCB (uLen G.K) (tCons (tVar 0) tNil)) (tCons (tC (.int 7)) tNil))) tNil))) tNil)) (gName 1) (tSeq (tAsg (tCB uAbs (tCons (tCall (sp_law_cell_v2 G) [] E (tCons (tVar 0) (tCons (tVar 1) tNil))) tNil)) (gName 2))
      (tSeq (tAsg (tCall (sp_law_kinds_v3 G) [] E (tCons (tCall (sp_law_mixed G) [] E (tCons (tVar 2) (tCons (tVar 1) tNil))) tNil)) (gName 3))
      (tSeq (tAsg (tOp uMod (tOp uDiv (tVar 2) (tC (.int 3))) (tC (.int 19))) (gName 4))
      (tSeq (tAsg (tCall (sp_law_stock_v4 G) [] E (tCons (tVar 3) (tCons (tVar 4) tNil))) (gName 5))
      (tSeq (tAsg (tLc (iRng1 (tCons (tOp uAdd (tVar 4) (tC (.int 1))) tNil)) (gName 9) tYes (tCall (sp_law_sums_v2 G) [] E0 (tCons (tVar 5) (tCons (tVar 9) tNil))) [9]) (gName 6))
      (tSeq (tAsg (tLc (iList G.K (tVar 6)) (gName 10) tYes (tCB (uMin G.K) (tCons (tLc (iList G.K (tVar 10)) (gName 11) tYes (tCB (uLen G.K) (tCons (tVar 11) tNil)) [11]) tNil)) [10]) (gName 7))
      (tSeq (tIfS (tOr (tNot (tB (tCall (sp_law_stock_good G) [] E (tCons (tVar 3) (tCons (tVar 4) (tCons (tVar 5) tNil)))))) (tNot (tB (tCall (sp_law_sums_good G) [] E (tCons (tVar 3) (tCons (tVar 4) (tCons (tVar 6) tNil))))))) (tRet (tC (.bl false))) tNext)
      (tSeq (tIfS (tNot (tB (tCall (sp_law_near_good_v2 G) [] E (tCons (tVar 3) (tCons (tVar 4) (tCons (tOp (uIx G.K) (tVar 6) (tVar 4)) (tCons (tCall (sp_law_mixed G) [] E (tCons (tVar 2) (tCons (tC (.int 30)) tNil))) tNil))))))) (tRet (tC (.bl false))) tNext)
      (tSeq (tIfS (tOr (tNot (tB (tCall (sp_law_unlike_good G) [] E (tCons (tVar 3) (tCons (tVar 4) (tCons (tVar 6) tNil)))))) (tNot (tB (tCall (sp_law_needs_good G) [] E (tCons (tVar 3) (tCons (tVar 4) (tCons (tVar 7) tNil))))))) (tRet (tC (.bl false))) tNext)
      (tSeq (tIfS (tNot (tB (tCall (sp_law_papers_good G) [] E (tCons (tVar 3) (tCons (tVar 4) (tCons (tVar 5) (tCons (tVar 7) (tCons (tCall (sp_law_mixed G) [] E (tCons (tVar 2) (tCons (tC (.int 31)) tNil))) tNil)))))))) (tRet (tC (.bl false))) tNext)
      (tSeq (tIfS (tNot (tB (tCall (sp_law_keeper_good G) [] E (tCons (tVar 3) (tCons (tVar 4) (tCons (tCall (sp_law_mixed G) [] E (tCons (tVar 2) (tCons (tC (.int 32)) tNil))) tNil)))))) (tRet (tC (.bl false))) tNext)
      (tSeq (tAsg (tRevL G.K (tVar 3)) (gName 8))
      (tSeq (tIfS (tTest (tOp (uNe G.K) (tCall (sp_count_sums G) [] E (tCons (tVar 8) (tCons (tVar 4) tNil))) (tCB (uLen G.K) (tCons (tOp (uIx G.K) (tVar 6) (tVar 4)) tNil)))) (tRet (tC (.bl false))) tNext)
      (tIfS (tTest (tOp (uNe G.K) (tCall (sp_first_sum G) [] E (tCons (tVar 8) (tCons (tVar 4) tNil))) (tCall (sp_first_sum G) [] E (tCons (tVar 3) (tCons (tVar 4) tNil))))) (tRet (tC (.bl false))) tNext)))))))))))))))
      (tRet (tC (.bl true))))
def sp_law_k45 (G : Gx) : Sp := fun vs H Q E => vs.length = 1 ∧ t_law_k45 G E { nx := fun _ H' => Q .non H', rt := Q } (start ["script", "k", "cell", "kinds", "n", "stock", "every", "needs", "other", "total", "sums", "parts"] vs) H
local macro_rules | `(tactic| wtm_at "w1") => `(tactic| with_reducible first
  | refine i_seq ?_ | refine i_asg ?_ | refine i_gname ?_ | refine i_ifS ?_ | refine i_ret ?_ | refine i_drop ?_ | refine i_next ?_ | refine i_brk ?_ | refine i_retN ?_
  | refine i_op ?_ | refine i_var rfl ?_ | refine i_c ?_ | refine i_call ?_ | refine i_cb ?_ | refine i_cons ?_ | refine i_nil ?_ | refine i_un ?_
  | refine i_test ?_ | refine i_B ?_ | refine i_not ?_ | refine i_exbl ?_ | refine i_exint ?_
  | refine i_andV ?_ | refine i_orV ?_ | refine i_notV ?_ | refine i_if ?_ | refine i_chain ?_ | refine i_yes ?_
  | refine i_add ?_ | refine i_sub ?_ | refine i_lt ?_ | refine i_le ?_ | refine i_gt ?_ | refine i_ge ?_ | refine i_eqI ?_ | refine i_neI ?_ | refine i_eqS ?_ | refine i_neS ?_ | refine i_eqIS ?_ | refine i_neIS ?_
  | refine i_eqIN ?_ | refine i_neIN ?_ | refine i_eqNI ?_ | refine i_neNI ?_ | refine i_neNN ?_
  | refine i_isN ?_ | refine i_notN ?_ | refine i_isB ?_ | refine i_notB ?_ | refine i_max2 ?_ | refine i_min2 ?_ | refine i_intI ?_ | refine i_intB ?_ | refine i_abs ?_ | refine i_neg ?_ | refine i_band ?_ | refine i_bor ?_
  | refine i_isiII ?_ | refine i_isiIB ?_ | refine i_isiIS ?_ | refine i_isiIL ?_ | refine i_isiSI ?_ | refine i_isiSB ?_ | refine i_isiSS ?_ | refine i_isiSL ?_ | refine i_isiBI ?_ | refine i_isiBB ?_ | refine i_isiBS ?_ | refine i_isiNI ?_ | refine i_isiNB ?_
  | refine i_bm ?_ | refine i_bm0 ?_ | refine i_lst ?_ | refine i_tup ?_ | refine i_sl ?_ | refine i_nopart ?_ | refine i_part ?_ | refine i_gsub ?_ | refine i_aug rfl ?_ | refine i_ipI ?_
  | refine i_for ?_ | refine i_lc ?_ | refine i_rng1 ?_ | refine i_rng2 ?_ | refine i_rng3 ?_ | refine i_list ?_ | refine i_tupl ?_ | refine i_enum ?_ | refine i_zip ?_ | refine i_str ?_ | refine i_strA ?_
  | refine i_fl ?_ | refine i_fls ?_ | refine i_make ?_ | refine i_meth ?_
  | refine i_T rfl ?_ | refine i_F rfl ?_)
local macro_rules | `(tactic| wtm_at "num") => `(tactic| first | decide | omega)
local macro_rules | `(tactic| wtm_at "w2") => `(tactic| first
  | ((with_reducible refine i_pow ?_ ?_); · exact ⟨by decide, by decide, by decide⟩)
  | ((with_reducible refine i_mod ?_ ?_); · wtm_at "num")
  | ((with_reducible refine i_mulL ?_ ?_); · wtm_at "num")
  | ((with_reducible refine i_mulR ?_ ?_); · wtm_at "num")
  | ((with_reducible refine i_div ?_ ?_); · exact div_ok (by wtm_at "num") (by wtm_at "num")))
local macro_rules | `(tactic| wtm_at "w") => `(tactic| repeat (first | wtm_at "w1" | wtm_at "w2"))
local macro_rules | `(tactic| wtm_at "ao") => `(tactic| (with_reducible first | refine i_and ?_ | refine i_or ?_))
local macro_rules | `(tactic| wtm_at "ix") => `(tactic| (refine i_ixL (sq_of (by assumption)) (by rfl) ?_; wtm_at "w"))
local macro_rules | `(tactic| wtm_at "wa") => `(tactic| repeat (first | wtm_at "w1" | wtm_at "ao" | wtm_at "w2"))
/-! ### kinds and their numbers -/
/-- a kind: 3 to 12, or "cubes" -/
def IsKd (v : V) : Prop := (∃ s : Int, v = .int s ∧ 3 ≤ s ∧ s ≤ 12) ∨ v = .str "cubes"
/-- the k-th number of a kind -/
def dotsV : V → Int → Int
  | .int s, k => k + (s - 2) * (k * (k - 1) / 2)
  | _, k => k * k * k
section
variable {G : Gx} {H : Hp} {Q : VK} {E : XK}
theorem u_is_whole_int {n : Int} (h : Q (.bl true) H) : sp_is_whole G [.int n] H Q E := by
  refine ⟨rfl, ?_⟩
  unfold t_is_whole
  wtm_at "w"
  exact h
theorem u_is_kind_int {n : Int} (h : Q (.bl (decide (3 ≤ n ∧ n ≤ 12))) H) : sp_is_kind G [.int n] H Q E := by
  refine ⟨rfl, ?_⟩
  unfold t_is_kind
  wtm_at "w"
  refine u_is_whole_int ?_
  wtm_at "w"
  refine i_ite (fun h3 => ?_) (fun h3 => ?_)
  · wtm_at "w"
    rw [show decide (3 ≤ n ∧ n ≤ 12) = decide (n ≤ 12) by simp [h3]] at h
    exact h
  · rw [show decide (3 ≤ n ∧ n ≤ 12) = false by simp [h3]] at h
    exact h
theorem u_is_kind_cubes (h : Q (.bl true) H) : sp_is_kind G [.str "cubes"] H Q E := by
  refine ⟨rfl, ?_⟩
  unfold t_is_kind
  wtm_at "w"
  rw [decide_eq_true rfl]
  exact h
theorem u_is_kind {v : V} (hv : IsKd v) (h : Q (.bl true) H) : sp_is_kind G [v] H Q E := by
  rcases hv with ⟨s, rfl, h1, h2⟩ | rfl
  · refine u_is_kind_int ?_
    rw [decide_eq_true ⟨h1, h2⟩]
    exact h
  · exact u_is_kind_cubes h
theorem u_need_kind {v : V} (hv : IsKd v) (h : Q .non H) : sp_need_kind G [v] H Q E := by
  refine ⟨rfl, ?_⟩
  unfold t_need_kind
  wtm_at "w"
  refine u_is_kind hv ?_
  wtm_at "w"
  exact h
theorem u_need_from {n m : Int} (hv : m ≤ n) (h : Q .non H) : sp_need_from G [.int n, .int m] H Q E := by
  refine ⟨rfl, ?_⟩
  unfold t_need_from
  wtm_at "wa"
  refine u_is_whole_int ?_
  wtm_at "w"
  refine i_F (by simpa using hv) ?_
  wtm_at "w"
  exact h
theorem big_mul {i j : Int} (a b : Nat) (ha : i.natAbs < 2 ^ a) (hb : j.natAbs < 2 ^ b) (h : a + b ≤ 134217728) : CMulX i j := mulx_ok ha hb h
theorem u_dots {v : V} {k : Int} (hv : IsKd v) (h0 : 0 ≤ k) (h1 : k < 2 ^ 100) (h : Q (.int (dotsV v k)) H) : sp_dots G [v, .int k] H Q E := by
  have ek : k.natAbs < 2 ^ 100 := by omega
  refine ⟨rfl, ?_⟩
  unfold t_dots
  rcases hv with ⟨s, rfl, h2, h3⟩ | rfl
  · wtm_at "w"
    refine i_mulX (big_mul 100 101 ek (by omega) (by decide)) ?_
    wtm_at "w"
    exact h
  · wtm_at "w"
    refine i_mulX (big_mul 100 100 ek ek (by decide)) ?_
    wtm_at "w"
    refine i_mulX (big_mul 200 100 (wide_lt ek ek) ek (by decide)) ?_
    exact h
theorem u_number_of_dots {v : V} {k : Int} (hv : IsKd v) (h0 : 1 ≤ k) (h1 : k < 2 ^ 100) (h : Q (.int (dotsV v k)) H) : sp_number_of_dots G [v, .int k] H Q E := by
  refine ⟨rfl, ?_⟩
  unfold t_number_of_dots
  wtm_at "w"
  refine u_need_kind hv ?_
  wtm_at "w"
  refine u_need_from h0 ?_
  wtm_at "w"
  exact u_dots hv (by omega) h1 h
end
/-! ### a part of the heap of one's own -/
structure Wd where
  R : Addr → Prop
  I : Hp → Prop
  tr : ∀ H a, I H → R a → H a ≠ none
  up : ∀ H a o, I H → ¬ R a → I (upd H a o)
  sm : ∀ H H', I H → Same H H' → I H'
structure Kp (W : Wd) (H H' : Hp) : Prop where
  i : W.I H'
  k : Keep W.R H H'
structure At (W : Wd) (H : Hp) (a : Addr) (o : HO) : Prop where
  h : H a = some o
  r : ¬ W.R a
section
variable {W : Wd} {H H0 H1 H2 : Hp} {a p : Addr} {o : HO}
theorem Kp.refl (i : W.I H) : Kp W H H := ⟨i, Keep.refl _ _⟩
theorem Kp.trans (x : Kp W H H1) (y : Kp W H1 H2) : Kp W H H2 := ⟨y.i, x.k.trans y.k⟩
theorem Wd.notR (i : W.I H) (h : H p = none) : ¬ W.R p := fun r => W.tr H p i r h
theorem Kp.free (x : Kp W H H1) (h : H1 p = none) : H p = none := by
  cases e : H p with
  | none => rfl
  | some o =>
    have n := Wd.notR x.i h
    rw [x.k p o n e] at h
    cases h
theorem Kp.at (x : Kp W H H1) (z : At W H a o) : At W H1 a o := ⟨x.k a o z.r z.h, z.r⟩
theorem Kp.same (x : Kp W H0 H) (s : Same H H1) : Kp W H0 H1 := ⟨W.sm _ _ x.i s, fun b u n e => s _ _ (x.k b u n e)⟩
theorem Kp.mut (x : Kp W H0 H) (h : H0 p = none) (r : ¬ W.R p) : Kp W H0 (upd H p o) := ⟨W.up _ _ _ x.i r, keep_mut x.k h⟩
theorem At.same (z : At W H a o) (s : Same H H1) : At W H1 a o := ⟨s _ _ z.h, z.r⟩
theorem At.ne (z : At W H a o) (h : H p = none) : a ≠ p := ne_of_none z.h h
end
/-! ### the deck -/
/-! ### numbers of a kind in order -/
theorem tri_succ (k : Int) : (k + 1) * k / 2 = k * (k - 1) / 2 + k := by
  have e : (k + 1) * k = k * (k - 1) + k * 2 := by
    rw [Int.add_mul, Int.mul_sub]; omega
  rw [e, Int.add_mul_ediv_right _ _ (by decide)]
theorem dots_succ_int (s k : Int) : dotsV (.int s) (k + 1) = dotsV (.int s) k + (1 + k * (s - 2)) := by
  unfold dotsV
  have e : k + 1 - 1 = k := by omega
  simp only [e]
  rw [tri_succ, Int.mul_add, Int.mul_comm (s - 2) k]
  omega
theorem cube_succ (k : Int) : (k + 1) * (k + 1) * (k + 1) = k * k * k + (3 * (k * k) + 3 * k + 1) := by
  have e : (k + 1) * (k + 1) = k * k + 2 * k + 1 := by rw [Int.add_mul, Int.mul_add]; omega
  rw [e, Int.add_mul, Int.add_mul, Int.mul_add, Int.mul_add, Int.mul_assoc 2 k k]
  have : k * k * k + k * k * 1 = k * k * k + k * k := by rw [Int.mul_one]
  omega
theorem dots_lt {v : V} (hv : IsKd v) {k : Int} (hk : 1 ≤ k) : dotsV v k + 1 ≤ dotsV v (k + 1) := by
  rcases hv with ⟨s, rfl, h1, h2⟩ | rfl
  · rw [dots_succ_int]
    have : 0 ≤ k * (s - 2) := Int.mul_nonneg (by omega) (by omega)
    omega
  · show k * k * k + 1 ≤ (k + 1) * (k + 1) * (k + 1)
    rw [cube_succ]
    have : 0 ≤ k * k := Int.mul_nonneg (by omega) (by omega)
    omega
theorem dots_one {v : V} (hv : IsKd v) : dotsV v 1 = 1 := by
  rcases hv with ⟨s, rfl, h1, h2⟩ | rfl
  · show 1 + (s - 2) * (1 * (1 - 1) / 2) = 1
    rw [show (1 * (1 - 1) / 2 : Int) = 0 by decide]; omega
  · rfl
theorem dots_mono {v : V} (hv : IsKd v) : ∀ (n : Nat) {k : Int}, 1 ≤ k → dotsV v k + n ≤ dotsV v (k + n)
  | 0, k, hk => by simp
  | n + 1, k, hk => by
    have h1 := dots_mono hv n hk
    have h2 := dots_lt hv (k := k + n) (by omega)
    have e : k + ((n + 1 : Nat) : Int) = k + n + 1 := by omega
    rw [e]; omega
theorem dots_le {v : V} (hv : IsKd v) {i j : Int} (h1 : 1 ≤ i) (h2 : i ≤ j) : dotsV v i + (j - i) ≤ dotsV v j := by
  have h := dots_mono hv (j - i).toNat h1
  have e : i + ((j - i).toNat : Int) = j := by omega
  rw [e] at h
  omega
theorem dots_ge {v : V} (hv : IsKd v) {k : Int} (hk : 1 ≤ k) : k ≤ dotsV v k := by
  have h := dots_le hv (i := 1) (j := k) (by omega) hk
  rw [dots_one hv] at h
  omega
/-- the numbers of a kind to a bound: the first n -/
def dotsN (v : V) (n : Nat) : List Int := (List.range n).map fun (j : Nat) => dotsV v ((j : Int) + 1)
theorem dotsN_len (v : V) (n : Nat) : (dotsN v n).length = n := by unfold dotsN; simp
theorem dotsN_get {v : V} {n j : Nat} (h : j < n) : (dotsN v n)[j]? = some (dotsV v ((j : Int) + 1)) := by
  unfold dotsN
  rw [List.getElem?_map, List.getElem?_range h]; rfl
/-! ### == of lists of plain things -/
def toD : V → PyData
  | .non => .none
  | .bl b => .bool b
  | .int i => .int i
  | .str s => .str s
  | _ => .none
def sV : V → Bool
  | .non => true
  | .int _ => true
  | .str s => PyData.strOk s
  | _ => false
theorem dp_sV {K : Fg} {H : Hp} : ∀ {v : V}, sV v = true → Dp K H v (toD v)
  | .non, _ => .non
  | .int i, _ => .int i
  | .str s, _ => .str s
  | .bl _, h => by cases h
  | .byt _, h => by cases h
  | .flt _, h => by cases h
  | .ref _, h => by cases h
  | .ty _, h => by cases h
theorem dpAll_sV {K : Fg} {H : Hp} : ∀ {xs : List V}, xs.all sV = true → DpAll K H xs (xs.map toD)
  | [], _ => .nil
  | x :: r, h => by
    rw [List.all_cons, Bool.and_eq_true] at h
    exact .cons (dp_sV h.1) (dpAll_sV h.2)
theorem lay_sV : ∀ {v : V}, sV v = true → (toD v).canLay0 = true ∧ (toD v).depth = 0
  | .non, _ => ⟨by simp [toD, PyData.canLay0], by simp [toD, PyData.depth]⟩
  | .int i, _ => ⟨by simp [toD, PyData.canLay0], by simp [toD, PyData.depth]⟩
  | .str s, h => ⟨by have h' : PyData.strOk s = true := h
                     simpa [toD, PyData.canLay0] using h', by simp [toD, PyData.depth]⟩
  | .bl _, h => by cases h
  | .byt _, h => by cases h
  | .flt _, h => by cases h
  | .ref _, h => by cases h
  | .ty _, h => by cases h
theorem layAll_sV : ∀ {xs : List V}, xs.all sV = true → PyData.canLayAll0 (xs.map toD) = true ∧ PyData.depthAll (xs.map toD) = 0
  | [], _ => ⟨by simp [PyData.canLayAll0], by simp [PyData.depthAll]⟩
  | x :: r, h => by
    rw [List.all_cons, Bool.and_eq_true] at h
    have h1 := lay_sV h.1
    have h2 := layAll_sV h.2
    exact ⟨by simp [PyData.canLayAll0, h1.1, h2.1], by simp [PyData.depthAll, h1.2, h2.2]⟩
theorem shaped_L {xs : List V} (h : xs.all sV = true) : SeqAt.shaped (.list (xs.map toD)) = true := by
  have h2 := layAll_sV h
  unfold SeqAt.shaped
  simp [PyData.canLay0, PyData.depth, h2.1, h2.2]
theorem eqv_sV : ∀ {x y : V}, sV x = true → sV y = true → PyData.eqv (toD x) (toD y) = decide (x = y)
  | .non, .non, _, _ => by simp [toD, PyData.eqv]
  | .non, .int _, _, _ => by simp [toD, PyData.eqv]
  | .non, .str _, _, _ => by simp [toD, PyData.eqv]
  | .int _, .non, _, _ => by simp [toD, PyData.eqv]
  | .int i, .int j, _, _ => by simp only [toD, PyData.eqv]; rw [Bool.eq_iff_iff]; simp
  | .int _, .str _, _, _ => by simp [toD, PyData.eqv]
  | .str _, .non, _, _ => by simp [toD, PyData.eqv]
  | .str _, .int _, _, _ => by simp [toD, PyData.eqv]
  | .str _, .str _, _, _ => by simp only [toD, PyData.eqv]; rw [Bool.eq_iff_iff]; simp
  | .bl _, _, h, _ => by cases h
  | .byt _, _, h, _ => by cases h
  | .flt _, _, h, _ => by cases h
  | .ref _, _, h, _ => by cases h
  | .ty _, _, h, _ => by cases h
  | _, .bl _, _, h => by cases h
  | _, .byt _, _, h => by cases h
  | _, .flt _, _, h => by cases h
  | _, .ref _, _, h => by cases h
  | _, .ty _, _, h => by cases h
theorem eqvAll_sV : ∀ {xs ys : List V}, xs.all sV = true → ys.all sV = true → PyData.eqvAll (xs.map toD) (ys.map toD) = decide (xs = ys)
  | [], [], _, _ => by simp [PyData.eqvAll]
  | [], _ :: _, _, _ => by simp [PyData.eqvAll]
  | _ :: _, [], _, _ => by simp [PyData.eqvAll]
  | x :: r, y :: q, h1, h2 => by
    rw [List.all_cons, Bool.and_eq_true] at h1 h2
    simp only [List.map_cons, PyData.eqvAll, eqv_sV h1.1 h2.1, eqvAll_sV h1.2 h2.2]
    rw [Bool.eq_iff_iff]
    simp
section
variable {K : Fg} {H : Hp} {Q : VK} {a b : Addr} {xs ys : List V}
theorem i_eqL (h1 : SqL K H a xs) (h2 : SqL K H b ys) (s1 : xs.all sV = true) (s2 : ys.all sV = true) (h : Q (.bl (decide (xs = ys))) H) : uEq K (.ref a) (.ref b) H Q :=
  .inr ⟨_, _, .lst h1 (dpAll_sV s1), .lst h2 (dpAll_sV s2), shaped_L s1, shaped_L s2, by
    have e : PyData.eqv (.list (xs.map toD)) (.list (ys.map toD)) = decide (xs = ys) := by simp only [PyData.eqv]; exact eqvAll_sV s1 s2
    rw [e]; exact h⟩
theorem i_neL (h1 : SqL K H a xs) (h2 : SqL K H b ys) (s1 : xs.all sV = true) (s2 : ys.all sV = true) (h : Q (.bl (!decide (xs = ys))) H) : uNe K (.ref a) (.ref b) H Q :=
  .inr ⟨_, _, .lst h1 (dpAll_sV s1), .lst h2 (dpAll_sV s2), shaped_L s1, shaped_L s2, by
    have e : PyData.eqv (.list (xs.map toD)) (.list (ys.map toD)) = decide (xs = ys) := by simp only [PyData.eqv]; exact eqvAll_sV s1 s2
    rw [e]; exact h⟩
end
theorem ints_sV (ns : List Int) : (ns.map V.int).all sV = true := by
  induction ns with
  | nil => rfl
  | cons n r ih => rw [List.map_cons, List.all_cons, ih]; rfl
theorem ints_flat (ns : List Int) : (ns.map V.int).all flatV = true := by
  induction ns with
  | nil => rfl
  | cons n r ih => rw [List.map_cons, List.all_cons, ih]; rfl
theorem inV_int {n : Int} {ns : List Int} : inV (.int n) (ns.map V.int) = decide (n ∈ ns) := by
  rw [Bool.eq_iff_iff]
  simp only [inV, List.any_eq_true, List.mem_map, decide_eq_true_eq]
  constructor
  · rintro ⟨x, ⟨m, hm, rfl⟩, e⟩
    have : m = n := by simpa [eqV] using e
    rw [← this]; exact hm
  · intro h
    exact ⟨.int n, ⟨n, h, rfl⟩, by simp [eqV]⟩
theorem kd_sV {v : V} (h : IsKd v) : sV v = true := by
  rcases h with ⟨s, rfl, _⟩ | rfl
  · rfl
  · decide +kernel
theorem kd_flat {v : V} (h : IsKd v) : flatV v = true := by
  rcases h with ⟨s, rfl, _⟩ | rfl <;> rfl
theorem kds_sV {ks : List V} (h : ∀ v ∈ ks, IsKd v) : ks.all sV = true := by
  rw [List.all_eq_true]; exact fun v hv => kd_sV (h v hv)
theorem kds_flat {ks : List V} (h : ∀ v ∈ ks, IsKd v) : ks.all flatV = true := by
  rw [List.all_eq_true]; exact fun v hv => kd_flat (h v hv)
theorem eqV_kd {v w : V} (hv : IsKd v) (hw : IsKd w) : eqV v w = decide (v = w) := by
  rcases hv with ⟨s, rfl, _⟩ | rfl <;> rcases hw with ⟨t, rfl, _⟩ | rfl
  · simp only [eqV]; rw [Bool.eq_iff_iff]; simp
  · simp [eqV]
  · simp [eqV]
  · simp [eqV]
theorem inV_kd {v : V} {ks : List V} (hv : IsKd v) (hk : ∀ w ∈ ks, IsKd w) : inV v ks = decide (v ∈ ks) := by
  rw [Bool.eq_iff_iff]
  simp only [inV, List.any_eq_true, decide_eq_true_eq]
  constructor
  · rintro ⟨x, hx, e⟩
    rw [eqV_kd (hk x hx) hv] at e
    rw [← of_decide_eq_true e]; exact hx
  · intro h
    exact ⟨v, h, by rw [eqV_kd hv hv]; simp⟩
/-! ### slices -/
theorem cut_take {xs : List V} {n : Nat} (h : n ≤ xs.length) : cutV xs none (some (n : Int)) = xs.take n := by
  unfold cutV
  rw [show HT.sIx xs.length 0 none = 0 from HT.sIx_none _ _, HT.sIx_nat]
  simp [Nat.min_eq_left h]
/-! ### kinds -/
structure KdL (ks : List V) : Prop where
  kd : ∀ v ∈ ks, IsKd v
  nd : ks.Nodup
  lo : 1 ≤ ks.length
  hi : ks.length ≤ 5
section
variable {G : Gx} {H : Hp} {Q : VK} {E : XK} {a : Addr} {ks : List V}
theorem given_none (n : Nat) : given (fun _ => none) n = [] := by
  induction n with
  | zero => rfl
  | succ n ih => show given _ n ++ [] = []; rw [ih]; rfl
theorem u_are_kinds (ha : H a = some (.lst ks)) (hk : KdL ks) (h : ∀ H', Same H H' → Q (.bl true) H') : sp_are_kinds G [.ref a] H Q E := by
  refine ⟨rfl, ?_⟩
  unfold t_are_kinds
  wtm_at "wa"
  refine i_isiLL ha ?_
  wtm_at "wa"
  refine i_lenL (sq_of ha) ?_
  wtm_at "wa"
  have h1 := hk.lo
  have h5 := hk.hi
  refine i_T (by simp; omega) ?_
  wtm_at "wa"
  refine i_F (by simp; omega) ?_
  wtm_at "wa"
  refine i_lstA (sq_of ha) ?_
  refine lck_pure walk_list (by omega) (fun _ => none) (fun H' s => sq_of (s _ _ ha)) (fun i x H1 H2 KK NN hi s y hK hN => ?_) (fun p H1 np s1 e1 => ?_)
  · obtain ⟨rfl, hx⟩ := y
    wtm_at "w"
    refine ⟨rfl, ?_⟩
    wtm_at "w"
    refine u_is_kind (hk.kd x (List.mem_of_getElem? hx)) ?_
    wtm_at "w"
    exact hN _ rfl (fun _ _ z => z)
  · rw [given_none] at e1
    wtm_at "w"
    refine ⟨Nat.zero_le _, fun q nq => ?_⟩
    refine i_neL (xs := []) (ys := []) (sq_of (by rw [upd_ne (ne_of_none e1 nq)]; exact e1)) (sq_of upd_same) rfl rfl ?_
    wtm_at "w"
    have s2 : Same H (upd H1 q (.lst [])) := s1.trans (same_new nq)
    generalize upd H1 q (.lst []) = H2 at s2 ⊢
    refine i_enumA (sq_of (s2 _ _ ha)) ?_
    refine lck_pure walk_enum (by omega) (fun _ => none) (fun H' s => sq_of (s _ _ (s2 _ _ ha))) (fun i x H3 H4 KK NN hi s y hK hN => ?_) (fun p H3 np s3 e3 => ?_)
    · obtain ⟨T, x1, x2, rfl, nT, rfl, h1', h2'⟩ := y
      cases h1'
      have e4 : (upd H3 T (.tup [.int (i : Nat), x2])) a = some (.lst ks) := by
        rw [upd_ne (ne_of_none (s _ _ (s2 _ _ ha)) nT)]; exact s _ _ (s2 _ _ ha)
      have s4 : Same H3 (upd H3 T (.tup [.int (i : Nat), x2])) := same_new nT
      refine ⟨T, _, rfl, st_of upd_same, rfl, _, _, rfl, ?_⟩
      generalize upd H3 T (.tup [.int (i : Nat), x2]) = H4 at e4 s4 ⊢
      refine ⟨_, _, rfl, rfl, ?_⟩
      refine ⟨rfl, ?_⟩
      wtm_at "w"
      refine i_slL (sq_of e4) fun q2 nq2 => ?_
      rw [cut_take (by omega)]
      have hx2 : x2 ∈ ks := List.mem_of_getElem? h2'
      refine i_inL (sq_of upd_same) (kd_flat (hk.kd _ hx2)) (kds_flat fun v hv => hk.kd v (List.mem_of_mem_take hv)) ?_
      wtm_at "w"
      rw [inV_kd (hk.kd _ hx2) (fun v hv => hk.kd v (List.mem_of_mem_take hv))]
      refine i_F ?_ ?_
      · rw [decide_eq_false]
        intro hm
        obtain ⟨j, hj, ej⟩ := List.getElem_of_mem hm
        rw [List.length_take] at hj
        rw [List.getElem_take] at ej
        have e5 : ks[j]? = some x2 := by rw [List.getElem?_eq_getElem (by omega), ej]
        have := nd_ix hk.nd e5 h2'
        omega
      · exact hN _ rfl (s4.trans (same_new nq2))
    · rw [given_none] at e3
      wtm_at "w"
      refine ⟨Nat.zero_le _, fun q2 nq2 => ?_⟩
      refine i_eqL (xs := []) (ys := []) (sq_of (by rw [upd_ne (ne_of_none e3 nq2)]; exact e3)) (sq_of upd_same) rfl rfl ?_
      exact h _ ((s2.trans s3).trans (same_new nq2))
theorem u_need_kinds (ha : H a = some (.lst ks)) (hk : KdL ks) (h : ∀ H', Same H H' → Q .non H') : sp_need_kinds G [.ref a] H Q E := by
  refine ⟨rfl, ?_⟩
  unfold t_need_kinds
  wtm_at "w"
  refine u_are_kinds ha hk fun H' s => ?_
  wtm_at "w"
  exact h H' s
theorem u_need_to_most {n : Int} (h0 : 0 ≤ n) (h1 : n ≤ 200) (h : Q .non H) : sp_need_to_most G [.int n] H Q E := by
  refine ⟨rfl, ?_⟩
  unfold t_need_to_most
  wtm_at "wa"
  refine u_is_whole_int ?_
  wtm_at "wa"
  refine i_T (by simp; omega) ?_
  wtm_at "wa"
  refine i_F (by simp; omega) ?_
  wtm_at "wa"
  exact h
end
/-! ### a dict that is used as a set of ints -/
def insI (ks : List Int) (n : Int) : List Int := if n ∈ ks then ks else ks ++ [n]
theorem mem_insI {ks : List Int} {n x : Int} : x ∈ insI ks n ↔ x ∈ ks ∨ x = n := by
  unfold insI
  split
  · constructor
    · exact .inl
    · rintro (h | rfl)
      · exact h
      · assumption
  · simp
theorem nd_insI {ks : List Int} {n : Int} (h : ks.Nodup) : (insI ks n).Nodup := by
  unfold insI
  split
  · exact h
  · rename_i hn
    rw [List.nodup_append]
    refine ⟨h, by simp, fun a ha b hb => ?_⟩
    have : b = n := by simpa using hb
    subst this
    exact fun z => hn (z ▸ ha)
theorem len_insI (ks : List Int) (n : Int) : (insI ks n).length ≤ ks.length + 1 := by
  unfold insI
  split
  · omega
  · simp
theorem keys_put {kvs : List (Key × V)} {ks : List Int} (e : kvs.map (·.1) = ks.map Sum.inl) (n : Int) (v : V) : (putK kvs (Sum.inl n) v).map (·.1) = (insI ks n).map Sum.inl := by
  have hm : (kvs.any fun kv => decide (kv.1 = Sum.inl n)) = true ↔ n ∈ ks := by
    rw [List.any_eq_true]
    constructor
    · rintro ⟨kv, hk, z⟩
      have z' : kv.1 = Sum.inl n := of_decide_eq_true z
      have : kv.1 ∈ kvs.map (·.1) := List.mem_map.mpr ⟨kv, hk, rfl⟩
      rw [e, z'] at this
      simpa using this
    · intro h
      have : (Sum.inl n : Key) ∈ kvs.map (·.1) := by rw [e]; exact List.mem_map.mpr ⟨n, h, rfl⟩
      obtain ⟨kv, hk, z⟩ := List.mem_map.mp this
      exact ⟨kv, hk, by simpa using z⟩
  unfold putK insI
  by_cases h : n ∈ ks
  · rw [if_pos (hm.mpr h), if_pos h, List.map_map, ← e]
    refine List.map_congr_left fun kv _ => ?_
    show (if kv.1 = Sum.inl n then (kv.1, v) else kv).1 = kv.1
    split <;> rfl
  · rw [if_neg (fun z => h (hm.mp z)), if_neg h, List.map_append, List.map_append, e]; rfl
/-- at f a dict whose keys are the ints ks -/
def DI (H : Hp) (f : Addr) (ks : List Int) : Prop := ∃ kvs, H f = some (.dK kvs) ∧ kvs.map (·.1) = ks.map Sum.inl
theorem DI.same {H H' : Hp} {f : Addr} {ks : List Int} (d : DI H f ks) (s : Same H H') : DI H' f ks := by
  obtain ⟨kvs, e, k⟩ := d
  exact ⟨kvs, s _ _ e, k⟩
theorem DI.len {H : Hp} {f : Addr} {ks : List Int} {kvs : List (Key × V)} (k : kvs.map (·.1) = ks.map Sum.inl) : kvs.length = ks.length := by
  have := congrArg List.length k
  simpa using this
theorem i_setD {H : Hp} {f : Addr} {ks : List Int} {n : Int} {v : V} {R : Hp → Prop} (d : DI H f ks) (hl : ks.length < 1000000) (h : ∀ kvs, DI (upd H f (.dK kvs)) f (insI ks n) → R (upd H f (.dK kvs))) : uSet (.ref f) (.int n) v H R := by
  obtain ⟨kvs, e, k⟩ := d
  refine .inr ⟨f, _, rfl, DPut.k (k := Sum.inl n) e (sz_lt (by rw [DI.len (H := H) (f := f) k]; exact hl)), h _ ⟨_, upd_same, keys_put k n v⟩⟩
theorem i_sortedD {K : Fg} {H : Hp} {f : Addr} {ks : List Int} {Q : VK} (d : DI H f ks) (h : ∀ (ys : List Int) (p : Addr), ys.Perm ks → ys.Pairwise (· ≤ ·) → H p = none → Q (.ref p) (upd H p (.lst (ys.map V.int)))) : uSorted K [.ref f] H Q := by
  obtain ⟨kvs, e, k⟩ := d
  exact .inr ⟨f, kvs, ks, rfl, .inl e, k, h⟩
/-! ### stocks -/
def IsDot (ks : List V) (x : Int) : Prop := ∃ v ∈ ks, ∃ k : Int, 1 ≤ k ∧ dotsV v k = x
structure StockOf (ks : List V) (b : Int) (L : List Int) : Prop where
  up : L.Pairwise (· < ·)
  mem : ∀ x, x ∈ L ↔ x ≤ b ∧ IsDot ks x
theorem lt_of_le_nd : ∀ {l : List Int}, l.Pairwise (· ≤ ·) → l.Nodup → l.Pairwise (· < ·)
  | [], _, _ => .nil
  | x :: r, h, n => by
    rw [List.pairwise_cons] at h ⊢
    rw [List.nodup_cons] at n
    exact ⟨fun y hy => by
      have h1 := h.1 y hy
      have h2 : x ≠ y := fun z => n.1 (z ▸ hy)
      omega, lt_of_le_nd h.2 n.2⟩
theorem up_ext : ∀ {l m : List Int}, l.Pairwise (· < ·) → m.Pairwise (· < ·) → (∀ x, x ∈ l ↔ x ∈ m) → l = m
  | [], [], _, _, _ => rfl
  | [], y :: q, _, _, h => by have := (h y).mpr (by simp); simp at this
  | x :: r, [], _, _, h => by have := (h x).mp (by simp); simp at this
  | x :: r, y :: q, h1, h2, h => by
    rw [List.pairwise_cons] at h1 h2
    have exy : x = y := by
      have a := (h x).mp (by simp)
      have b := (h y).mpr (by simp)
      rcases List.mem_cons.mp a with z | z
      · exact z
      · rcases List.mem_cons.mp b with w | w
        · exact w.symm
        · have := h2.1 x z
          have := h1.1 y w
          omega
    subst exy
    rw [up_ext h1.2 h2.2 fun z => ?_]
    have hz := h z
    constructor
    · intro m
      rcases List.mem_cons.mp (hz.mp (List.mem_cons_of_mem _ m)) with w | w
      · have := h1.1 z m; omega
      · exact w
    · intro m
      rcases List.mem_cons.mp (hz.mpr (List.mem_cons_of_mem _ m)) with w | w
      · have := h2.1 z m; omega
      · exact w
theorem StockOf.uniq {ks : List V} {b : Int} {L M : List Int} (h : StockOf ks b L) (g : StockOf ks b M) : L = M := up_ext h.up g.up fun x => by rw [h.mem, g.mem]
/-- ahead of kind i, and in kind i ahead of its k-th -/
def InSt (ks : List V) (b : Int) (i : Nat) (v : V) (k : Int) (x : Int) : Prop := x ≤ b ∧ (IsDot (ks.take i) x ∨ ∃ j : Int, 1 ≤ j ∧ j < k ∧ dotsV v j = x)
theorem isDot_take {ks : List V} {i : Nat} {v : V} (hi : ks[i]? = some v) (x : Int) : IsDot (ks.take (i + 1)) x ↔ IsDot (ks.take i) x ∨ ∃ j : Int, 1 ≤ j ∧ dotsV v j = x := by
  unfold IsDot
  rw [List.take_add_one, hi]
  constructor
  · rintro ⟨w, hw, k, h1, h2⟩
    rcases List.mem_append.mp hw with hw | hw
    · exact .inl ⟨w, hw, k, h1, h2⟩
    · have : w = v := by simpa using hw
      subst this
      exact .inr ⟨k, h1, h2⟩
  · rintro (⟨w, hw, k, h1, h2⟩ | ⟨j, h1, h2⟩)
    · exact ⟨w, List.mem_append_left _ hw, k, h1, h2⟩
    · exact ⟨v, List.mem_append_right _ (by simp), j, h1, h2⟩
section
variable {G : Gx} {H : Hp} {Q : VK} {E : XK} {a : Addr} {ks : List V}
def StkO (H : Hp) (a f : Addr) (ks : List V) (b : Int) (i : Nat) (σ : L2.St) (H' : Hp) : Prop := ∃ y3 y4 keys, σ = [some (.ref a), some (.int b), some (.ref f), y3, y4] ∧ Same H H' ∧ DI H' f keys ∧ keys.Nodup ∧ keys.length ≤ 1000 * i ∧ ∀ x, x ∈ keys ↔ x ≤ b ∧ IsDot (ks.take i) x
def StkI (H : Hp) (a f : Addr) (ks : List V) (b : Int) (i : Nat) (v : V) (m : Nat) (σ : L2.St) (H' : Hp) : Prop := ∃ (k : Int) (keys : List Int), σ = [some (.ref a), some (.int b), some (.ref f), some v, some (.int k)] ∧ 1 ≤ k ∧ k ≤ b + 1 ∧ m = (b + 1 - k).toNat ∧ Same H H' ∧ DI H' f keys ∧ keys.Nodup ∧ (keys.length : Int) ≤ 1000 * i + k ∧ ∀ x, x ∈ keys ↔ InSt ks b i v k x
theorem u_stock_of {b : Int} (ha : SqL G.K H a ks) (hk : ∀ v ∈ ks, IsKd v) (hn : ks.length ≤ 100) (h0 : 0 ≤ b) (h1 : b ≤ 900) (h : ∀ p L H', Same H H' → H p = none → H' p = some (.lst (L.map V.int)) → StockOf ks b L → Q (.ref p) H') : sp_stock_of G [.ref a, .int b] H Q E := by
  refine ⟨rfl, ?_⟩
  unfold t_stock_of
  wtm_at "w"
  intro f nf
  wtm_at "w"
  have s1 : Same H (upd H f (.dK [])) := same_new nf
  refine i_lstA (s1.seq ha) ?_
  refine lk_list (StkO H a f ks b) ⟨_, _, [], rfl, s1, ⟨[], upd_same, rfl⟩, List.nodup_nil, by simp, fun x => ?_⟩ (fun i σ H' _ ⟨_, _, _, _, s, _⟩ => s.seq ha) ?_ ?_
  · simp [IsDot]
  · rintro i v σ H2 hi ⟨y3, y4, keys, rfl, s, d, nd, hl, hm⟩
    have hv := hk v (List.mem_of_getElem? hi)
    have hi' : i < ks.length := (List.getElem?_eq_some_iff.mp hi).1
    wtm_at "w"
    refine i_while (StkI H a f ks b i v) b.toNat ⟨1, keys, rfl, by omega, by omega, by omega, s, d, nd, by omega, fun x => ?_⟩ ?_
    · rw [hm]
      unfold InSt
      constructor
      · rintro ⟨z1, z2⟩; exact ⟨z1, .inl z2⟩
      · rintro ⟨z1, z2 | ⟨j, z2, z3, _⟩⟩
        · exact ⟨z1, z2⟩
        · omega
    · rintro m σ H3 ⟨k, keys, rfl, k1, k2, em, s3, d3, nd3, hl3, hm3⟩
      have hge := dots_ge hv k1
      wtm_at "w"
      refine u_dots hv (by omega) (by omega) ?_
      wtm_at "w"
      refine i_ite (fun hle => ?_) (fun hle => ?_)
      · refine i_turn ?_
        wtm_at "w"
        refine u_dots hv (by omega) (by omega) ?_
        refine i_setD d3 (by omega) fun kvs d4 => ?_
        wtm_at "w"
        refine ⟨(b + 1 - (k + 1)).toNat, by omega, k + 1, insI keys (dotsV v k), rfl, by omega, by omega, rfl, same_mut s3 nf, d4, nd_insI nd3, by have := len_insI keys (dotsV v k); omega, fun x => ?_⟩
        rw [mem_insI, hm3]
        unfold InSt
        constructor
        · rintro (⟨z1, z2 | ⟨j, z2, z3, z4⟩⟩ | rfl)
          · exact ⟨z1, .inl z2⟩
          · exact ⟨z1, .inr ⟨j, z2, by omega, z4⟩⟩
          · exact ⟨hle, .inr ⟨k, k1, by omega, rfl⟩⟩
        · rintro ⟨z1, z2 | ⟨j, z2, z3, z4⟩⟩
          · exact .inl ⟨z1, .inl z2⟩
          · by_cases z : j = k
            · subst z; exact .inr z4.symm
            · exact .inl ⟨z1, .inr ⟨j, z2, by omega, z4⟩⟩
      · refine ⟨_, _, keys, rfl, s3, d3, nd3, by omega, fun x => ?_⟩
        rw [hm3, isDot_take hi]
        unfold InSt
        constructor
        · rintro ⟨z1, z2 | ⟨j, z2, z3, z4⟩⟩
          · exact ⟨z1, .inl z2⟩
          · exact ⟨z1, .inr ⟨j, z2, z4⟩⟩
        · rintro ⟨z1, z2 | ⟨j, z2, z4⟩⟩
          · exact ⟨z1, .inl z2⟩
          · refine ⟨z1, .inr ⟨j, z2, ?_, z4⟩⟩
            by_cases z : j < k
            · exact z
            · have := dots_le hv k1 (show k ≤ j by omega)
              omega
  · rintro σ H2 ⟨y3, y4, keys, rfl, s, d, nd, hl, hm⟩
    wtm_at "w"
    refine i_sortedD d fun ys p perm srt np => ?_
    refine h p ys _ (s.trans (same_new np)) (s.free np) upd_same ⟨lt_of_le_nd srt (perm.symm.nodup nd), fun x => ?_⟩
    rw [perm.mem_iff, hm, List.take_length]
theorem u_stock_to {b : Int} (ha : H a = some (.lst ks)) (hk : KdL ks) (h0 : 0 ≤ b) (h1 : b ≤ 200) (h : ∀ p L H', Same H H' → H p = none → H' p = some (.lst (L.map V.int)) → StockOf ks b L → Q (.ref p) H') : sp_stock_to G [.ref a, .int b] H Q E := by
  refine ⟨rfl, ?_⟩
  unfold t_stock_to
  have := hk.hi
  wtm_at "w"
  refine u_need_kinds ha hk fun H1 s1 => ?_
  wtm_at "w"
  refine u_need_to_most h0 h1 ?_
  wtm_at "w"
  refine u_stock_of (sq_of (s1 _ _ ha)) hk.kd (by omega) h0 (by omega) fun p L H' s np e st => h p L H' (s1.trans s) (s1.free np) e st
end
/-! ### what stands in a heap -/
theorem upd_old {H : Hp} {a p : Addr} {o u : HO} (np : H p = none) (e : H a = some o) : upd H p u a = some o := by rw [upd_ne (ne_of_none e np)]; exact e
theorem same_at {H H' : Hp} {a : Addr} {o : HO} (s : Same H H') (e : H a = some o) : H' a = some o := s a o e
theorem upd_oth {H : Hp} {a p : Addr} {o u : HO} (n : a ≠ p) (e : H a = some o) : upd H p u a = some o := by rw [upd_ne n]; exact e
theorem i_tyL {K : Fg} {H : Hp} {a : Addr} {xs : List V} {P : Prop} (e : H a = some (.lst xs)) (h : P) : tyV K "list" (.ref a) H ∧ P := ⟨.inl ⟨rfl, _, sq_of e⟩, h⟩
theorem i_new {n : Nat} {P : Prop} (hn : n ≤ 1000) (h : P) : n ≤ sizeLine ∧ P := ⟨sz_le (by omega), h⟩
theorem i_popAt {H : Hp} {l : Addr} {xs : List V} {i : Int} {k : Nat} {Q : VK} (e : H l = some (.lst xs)) (ei : i = (k : Int)) (hk : k < xs.length) (hz : xs.length ≤ 1000) (h : Q xs[k] (upd H l (.lst (xs.eraseIdx k)))) : rPopAt (.ref l) [.int i] H Q :=
  ⟨l, xs, i, k, xs[k], rfl, rfl, e, by omega, by omega, by rw [seqIndex_of (by omega) (by omega), ei]; rfl, List.getElem?_eq_getElem hk, h⟩
theorem i_ulist {K : Fg} {H : Hp} {p : Addr} {ys : List V} {Q : VK} (e : SqL K H p ys) (h : ∀ l, H l = none → Q (.ref l) (upd H l (.lst ys))) : uList K [.ref p] H Q := .inl ⟨p, ys, rfl, .inl e, h⟩
local macro_rules | `(tactic| wtm_at "hp") => `(tactic| solve_by_elim (maxDepth := 14) only [*, upd_same, upd_old, same_at, sq_of, st_of])
/-! ### drawing -/
def kinds11 : List V := [.int 3, .int 4, .int 5, .int 6, .int 7, .int 8, .int 9, .int 10, .int 11, .int 12, .str "cubes"]
theorem kinds11_kd {x : V} (h : x ∈ kinds11) : IsKd x := by
  simp only [kinds11, List.mem_cons, List.not_mem_nil, or_false] at h
  rcases h with rfl | rfl | rfl | rfl | rfl | rfl | rfl | rfl | rfl | rfl | rfl
  all_goals first | exact .inr rfl | exact .inl ⟨_, rfl, by decide, by decide⟩
theorem kinds11_nd : kinds11.Nodup := by decide
theorem erase_perm : ∀ (l : List V) {k : Nat} (h : k < l.length), ([l[k]] ++ l.eraseIdx k).Perm l
  | [], _, h => absurd h (Nat.not_lt_zero _)
  | x :: r, 0, _ => List.Perm.refl _
  | x :: r, k + 1, h => by
    have h' : k < r.length := by simpa using h
    show (r[k] :: x :: r.eraseIdx k).Perm (x :: r)
    exact (List.Perm.swap _ _ _).trans ((erase_perm r h').cons x)
theorem perm_pop {ks rest : List V} {k : Nat} (hk : k < rest.length) : ((ks ++ [rest[k]]) ++ rest.eraseIdx k).Perm (ks ++ rest) := by
  rw [List.append_assoc]
  exact (erase_perm rest hk).append_left ks
theorem kdl_of {ks rest : List V} (p : (ks ++ rest).Perm kinds11) (h1 : 1 ≤ ks.length) (h5 : ks.length ≤ 5) : KdL ks :=
  ⟨fun v hv => kinds11_kd (p.mem_iff.mp (List.mem_append_left _ hv)), (List.nodup_append.mp (p.nodup_iff.mpr kinds11_nd)).1, h1, h5⟩
/-! ### the law's own stock -/
theorem mem_dotsN {v : V} {n : Nat} {x : Int} : x ∈ dotsN v n ↔ ∃ j < n, dotsV v ((j : Int) + 1) = x := by
  unfold dotsN
  simp only [List.mem_map, List.mem_range]
/-! ### a store by a cell -/
/-! ### tables -/
def optV : Option Int → V
  | none => .non
  | some i => .int i
def tab (n : Nat) (g : Nat → V) : List V := (List.range n).map g
theorem tab_len (n : Nat) (g : Nat → V) : (tab n g).length = n := by unfold tab; simp
theorem tab_get {n i : Nat} {g : Nat → V} (h : i < n) : (tab n g)[i]? = some (g i) := by
  unfold tab; rw [List.getElem?_map, List.getElem?_range h]; rfl
theorem tab_at {n i : Nat} {g : Nat → V} {j : Int} (e : j = (i : Int)) (h : i < n) : atI (tab n g) j = some (g i) := at_nat e (tab_get h)
theorem tab_ext {n : Nat} {f g : Nat → V} (h : ∀ i < n, f i = g i) : tab n f = tab n g := by
  unfold tab
  exact List.map_congr_left fun i hi => h i (List.mem_range.mp hi)
theorem tab_set {n i : Nat} {g : Nat → V} {v : V} : (tab n g).set i v = tab n fun u => if u = i then v else g u := by
  refine List.ext_getElem? fun j => ?_
  rw [List.getElem?_set, tab_len]
  by_cases hj : j < n
  · rw [tab_get hj, tab_get hj]
    by_cases z : i = j
    · subst z; simp [hj]
    · rw [if_neg z, if_neg (fun w => z w.symm)]
  · have e1 : (tab n g)[j]? = none := List.getElem?_eq_none (by rw [tab_len]; omega)
    have e2 : (tab n fun u => if u = i then v else g u)[j]? = none := List.getElem?_eq_none (by rw [tab_len]; omega)
    rw [e1, e2]
    split
    · split <;> first | rfl | omega
    · rfl
theorem ixN_nat {n : Nat} {i : Int} {k : Nat} (e : i = (k : Int)) (h : k < n) : ixN n i = some k := by
  unfold ixN
  rw [if_pos (by omega), if_pos (by omega), e]; rfl
theorem at_last {xs : List V} {v : V} (h : xs[xs.length - 1]? = some v) : atI xs (-1) = some v := by
  have h0 : 0 < xs.length := by
    by_cases z : 0 < xs.length
    · exact z
    · rw [List.getElem?_eq_none (by omega)] at h; cases h
  unfold atI ixN
  rw [if_neg (by decide), if_pos (by omega)]
  show xs[((-1 : Int) + xs.length).toNat]? = some v
  rw [show ((-1 : Int) + xs.length).toNat = xs.length - 1 by omega]
  exact h
theorem rep_one (v : V) (k : Nat) : (List.replicate k [v]).flatten = List.replicate k v := by
  induction k with
  | zero => rfl
  | succ k ih => rw [List.replicate_succ, List.replicate_succ, List.flatten_cons, ih]; rfl
theorem tab_first {v w : V} {n : Nat} : [v] ++ List.replicate n w = tab (n + 1) fun u => if u = 0 then v else w := by
  refine List.ext_getElem? fun j => ?_
  cases j with
  | zero => rw [tab_get (by omega)]; rfl
  | succ j =>
    by_cases hj : j < n
    · rw [tab_get (by omega), if_neg (by omega)]
      show (List.replicate n w)[j]? = _
      rw [List.getElem?_replicate, if_pos hj]
    · rw [List.getElem?_eq_none (by simp; omega), List.getElem?_eq_none (by rw [tab_len]; omega)]
section
variable {K : Fg} {H : Hp} {Q : VK}
theorem i_neO {o : Option Int} (h : Q (.bl false) H) : uNe K (optV o) (optV o) H Q := by
  cases o with
  | none => exact i_neNN h
  | some i => refine i_neI ?_; rw [decide_eq_true rfl]; exact h
end
/-! ### the fewest unlike ones -/
def lbase : Nat → Option Int := fun t => if t = 0 then some 0 else none
def lbest : Option Int → Option Int → Option Int
  | none, c => c
  | some a, none => some (a + 1)
  | some a, some c => if a + 1 < c then some (a + 1) else some c
def lstep (p : Nat) (f : Nat → Option Int) : Nat → Option Int := fun t => if p ≤ t then lbest (f (t - p)) (f t) else f t
def lrow (S : List Int) : Nat → Option Int := S.foldl (fun f p => lstep p.toNat f) lbase
theorem lrow_snoc {S : List Int} {i : Nat} {p : Int} (h : S[i]? = some p) : lrow (S.take (i + 1)) = lstep p.toNat (lrow (S.take i)) := by
  unfold lrow
  rw [List.take_add_one, h, List.foldl_append]; rfl
theorem StockOf.pos {ks : List V} {b : Int} {L : List Int} (h : StockOf ks b L) (hk : ∀ v ∈ ks, IsKd v) {x : Int} (hx : x ∈ L) : 1 ≤ x := by
  obtain ⟨_, v, hv, k, h1, rfl⟩ := (h.mem x).mp hx
  have := dots_ge (hk v hv) h1
  omega
theorem up_len : ∀ {l : List Int} {lo hi : Int}, l.Pairwise (· < ·) → (∀ x ∈ l, lo ≤ x ∧ x ≤ hi) → lo ≤ hi + 1 → (l.length : Int) ≤ hi + 1 - lo
  | [], lo, hi, _, _, h => by simp; omega
  | x :: r, lo, hi, p, h, hh => by
    rw [List.pairwise_cons] at p
    have h1 := h x (by simp)
    have h2 := up_len (l := r) (lo := x + 1) (hi := hi) p.2 (fun y hy => ⟨by have := p.1 y hy; omega, (h y (List.mem_cons_of_mem _ hy)).2⟩) (by omega)
    rw [List.length_cons]; omega
theorem StockOf.len {ks : List V} {b : Int} {L : List Int} (h : StockOf ks b L) (hk : ∀ v ∈ ks, IsKd v) (hb : 0 ≤ b) : (L.length : Int) ≤ b := by
  have := up_len (lo := 1) (hi := b) h.up (fun x hx => ⟨h.pos hk hx, ((h.mem x).mp hx).1⟩) (by omega)
  omega
/-- at qs the rows of a stock -/
structure LRows (H : Hp) (qs : List Addr) (f : Nat → Nat → V) (i n : Nat) : Prop where
  len : qs.length = i + 1
  row : ∀ j q, qs[j]? = some q → H q = some (.lst (tab (n + 1) (f j)))
theorem LRows.same {H H' : Hp} {qs : List Addr} {f : Nat → Nat → V} {i n : Nat} (r : LRows H qs f i n) (s : Same H H') : LRows H' qs f i n := ⟨r.len, fun j q h => s _ _ (r.row j q h)⟩
theorem LRows.last {H : Hp} {qs : List Addr} {f : Nat → Nat → V} {i n : Nat} (r : LRows H qs f i n) : ∃ q, atI (qs.map V.ref) (-1) = some (.ref q) ∧ H q = some (.lst (tab (n + 1) (f i))) := by
  have h : i < qs.length := by have := r.len; omega
  refine ⟨qs[i], at_last ?_, r.row i _ (List.getElem?_eq_getElem h)⟩
  rw [List.length_map, r.len, List.getElem?_map, Nat.add_sub_cancel, List.getElem?_eq_getElem h]; rfl
theorem LRows.snoc {H H' : Hp} {qs : List Addr} {f : Nat → Nat → V} {i n : Nat} {w r : Addr} {o : HO} (c : LRows H qs f i n) (s : Same H H') (hr : ∀ q ∈ qs, q ≠ r) (hw : w ≠ r) (e : H' w = some (.lst (tab (n + 1) (f (i + 1))))) : LRows (upd H' r o) (qs ++ [w]) f (i + 1) n := by
  refine ⟨by simp [c.len], fun j q hj => ?_⟩
  by_cases z : j < qs.length
  · rw [List.getElem?_append_left z] at hj
    rw [upd_ne (hr q (List.mem_of_getElem? hj))]
    exact s _ _ (c.row j q hj)
  · rw [List.getElem?_append_right (by omega)] at hj
    have z2 : j - qs.length = 0 := by
      by_cases y : j - qs.length = 0
      · exact y
      · rw [List.getElem?_eq_none (by simp; omega)] at hj; cases hj
    rw [z2] at hj
    have : w = q := by simpa using hj
    subst this
    rw [upd_ne hw, e, show j = i + 1 by have := c.len; omega]
section
variable {G : Gx} {H : Hp} {Q : VK} {E : XK} {a : Addr} {ks : List V}
def lmix (f : Nat → Option Int) (p k : Nat) : Nat → V := fun u => optV (if u < p + k then lstep p f u else f u)
theorem lmix_zero {f : Nat → Option Int} {p n : Nat} : tab n (fun u => optV (f u)) = tab n (lmix f p 0) := tab_ext fun i _ => by
  unfold lmix lstep
  split
  · rw [if_neg (by omega)]
  · rfl
theorem lmix_end {f : Nat → Option Int} {p n k : Nat} (h : n ≤ p + k) : tab n (lmix f p k) = tab n (fun u => optV (lstep p f u)) := tab_ext fun i hi => by
  unfold lmix
  rw [if_pos (by omega)]
theorem lmix_set {f : Nat → Option Int} {p n k : Nat} {v : V} (h : v = optV (lstep p f (p + k))) : (tab n (lmix f p k)).set (p + k) v = tab n (lmix f p (k + 1)) := by
  rw [tab_set]
  refine tab_ext fun i hi => ?_
  unfold lmix
  by_cases z : i = p + k
  · rw [if_pos z, if_pos (by omega), h, z]
  · rw [if_neg z]
    by_cases y : i < p + k
    · rw [if_pos y, if_pos (by omega)]
    · rw [if_neg y, if_neg (by omega)]
theorem lmix_keep {f : Nat → Option Int} {p n k : Nat} (h : lstep p f (p + k) = f (p + k)) : tab n (lmix f p k) = tab n (lmix f p (k + 1)) := tab_ext fun i hi => by
  unfold lmix
  by_cases z : i = p + k
  · rw [if_neg (by omega), if_pos (by omega), z, h]
  · by_cases y : i < p + k
    · rw [if_pos y, if_pos (by omega)]
    · rw [if_neg y, if_neg (by omega)]
theorem lmix_at {f : Nat → Option Int} {p k : Nat} : lmix f p k (p + k) = optV (f (p + k)) := by
  unfold lmix; rw [if_neg (by omega)]
theorem lstep_at {f : Nat → Option Int} {p k : Nat} : lstep p f (p + k) = lbest (f k) (f (p + k)) := by
  unfold lstep; rw [if_pos (by omega), Nat.add_sub_cancel_left]
def LRO (H : Hp) (a r : Addr) (S : List Int) (n : Nat) (i : Nat) (σ : L2.St) (H' : Hp) : Prop := ∃ qs y2 y4 y5 y6, σ = [some (.ref a), some (.int n), y2, some (.ref r), y4, y5, y6] ∧ Same H H' ∧ H' r = some (.lst (qs.map V.ref)) ∧ (∀ q ∈ qs, q ≠ r) ∧ LRows H' qs (fun j u => optV (lrow (S.take j) u)) i n
def LRI (H2 : Hp) (a r w : Addr) (p n : Nat) (f : Nat → Option Int) (k : Nat) (σ : L2.St) (H' : Hp) : Prop := ∃ y5 y6, σ = [some (.ref a), some (.int n), some (.ref w), some (.ref r), some (.int p), y5, y6] ∧ Same H2 H' ∧ H' w = some (.lst (tab (n + 1) (lmix f p k)))
theorem u_least_rows {S : List Int} {n : Nat} (ha : H a = some (.lst (S.map V.int))) (hS : ∀ x ∈ S, 1 ≤ x ∧ x ≤ 1000) (hn : n ≤ 900) (hl : S.length ≤ 1000)
    (h : ∀ p qs H', Same H H' → H p = none → H' p = some (.lst (qs.map V.ref)) → LRows H' qs (fun j u => optV (lrow (S.take j) u)) S.length n → Q (.ref p) H') : sp_least_rows G [.ref a, .int n] H Q E := by
  refine ⟨rfl, ?_⟩
  unfold t_least_rows
  wtm_at "w"
  refine i_new (by simp) fun p1 n1 => ?_
  wtm_at "w"
  refine i_new (by simp) fun p2 n2 => ?_
  wtm_at "w"
  refine i_rep upd_same (by omega) (by omega) (sz_le (by simp; omega)) fun p3 n3 => ?_
  rw [Int.toNat_natCast, rep_one]
  refine i_addL (xs := [.int 0]) (ys := List.replicate n .non) (upd_old n3 (upd_old n2 upd_same)) upd_same (sz_le (by simp; omega)) fun w0 n4 => ?_
  rw [tab_first]
  have s4 : Same H (upd (upd (upd (upd H p1 (.lst [.int 0])) p2 (.lst [.non])) p3 (.lst (List.replicate n .non))) w0 (.lst (tab (n + 1) fun u => if u = 0 then .int 0 else .non))) := ((((same_new n1).trans (same_new n2)).trans (same_new n3)).trans (same_new n4))
  have e4 : (upd (upd (upd (upd H p1 (.lst [.int 0])) p2 (.lst [.non])) p3 (.lst (List.replicate n .non))) w0 (.lst (tab (n + 1) fun u => if u = 0 then .int 0 else .non))) w0 = some (.lst (tab (n + 1) fun u => if u = 0 then .int 0 else .non)) := upd_same
  generalize upd (upd (upd (upd H p1 (.lst [.int 0])) p2 (.lst [.non])) p3 (.lst (List.replicate n .non))) w0 (.lst (tab (n + 1) fun u => if u = 0 then .int 0 else .non)) = H4 at s4 e4 ⊢
  wtm_at "w"
  refine i_new (by simp) fun r nr => ?_
  wtm_at "w"
  have nHr := s4.free nr
  have s5 := s4.trans (same_new (o := .lst [.ref w0]) nr)
  refine i_lstA (sq_of (s5 _ _ ha)) ?_
  refine lk_list (LRO H a r S n) ⟨[w0], _, _, _, _, rfl, s5, upd_same, fun q hq => ?_, by simp, fun j q hj => ?_⟩ (fun i σ H' _ ⟨_, _, _, _, _, _, s, _⟩ => sq_of (s _ _ ha)) ?_ ?_
  · have : q = w0 := by simpa using hq
    subst this
    exact ne_of_none e4 nr
  · have hj0 : j = 0 := by
      by_cases y : j = 0
      · exact y
      · rw [List.getElem?_eq_none (by simp; omega)] at hj; cases hj
    subst hj0
    have : w0 = q := by simpa using hj
    subst this
    rw [upd_old nr e4]
    refine congrArg (fun z => some (HO.lst z)) (tab_ext fun u _ => ?_)
    show _ = optV (if u = 0 then some 0 else none)
    split <;> rfl
  · rintro i x σ H5 hi ⟨qs, y2, y4, y5, y6, rfl, s, er, hqr, rows⟩
    rw [List.getElem?_map] at hi
    obtain ⟨p, hp, rfl⟩ := Option.map_eq_some_iff.mp hi
    have hp1 := hS p (List.mem_of_getElem? hp)
    obtain ⟨q, hq, eq⟩ := rows.last
    wtm_at "w"
    refine i_ixL (sq_of er) hq ?_
    wtm_at "w"
    refine i_ulist (sq_of eq) fun w nw => ?_
    wtm_at "w"
    obtain ⟨P, rfl⟩ : ∃ P : Nat, p = (P : Int) := ⟨p.toNat, by omega⟩
    refine i_rngA2 (by omega) ?_
    have nwr : w ≠ r := (ne_of_none er nw).symm
    refine lk_range (LRI H5 a r w P n (lrow (S.take i))) ⟨_, _, rfl, same_new nw, by rw [upd_same, ← lmix_zero]⟩ ?_ ?_
    · rintro k σ H6 hk ⟨y5, y6, rfl, s6, ew⟩
      have hk' : P + k < n + 1 := by omega
      wtm_at "w"
      refine i_ixL (sq_of (s6 _ _ er)) hq ?_
      wtm_at "w"
      refine i_ixL (sq_of (s6 _ _ eq)) (tab_at (i := k) (by omega) (by omega)) ?_
      wtm_at "wa"
      have gw : atI (tab (n + 1) (lmix (lrow (S.take i)) P k)) ((P : Int) + (k : Nat)) = some (optV (lrow (S.take i) (P + k))) := by
        rw [← lmix_at]; exact tab_at (by omega) hk'
      have ls := lstep_at (f := lrow (S.take i)) (p := P) (k := k)
      cases c1 : lrow (S.take i) k with
      | none =>
        refine i_F (by simp [optV]) ?_
        wtm_at "wa"
        refine ⟨_, _, rfl, s6, ?_⟩
        rw [ew, lmix_keep (by rw [ls, c1]; rfl)]
      | some av =>
        refine i_T (by simp [optV]) ?_
        wtm_at "wa"
        refine i_ixL (sq_of ew) gw ?_
        wtm_at "wa"
        cases c2 : lrow (S.take i) (P + k) with
        | none =>
          refine i_T (by simp [optV]) ?_
          wtm_at "wa"
          show uAdd (.int av) _ _ _
          wtm_at "wa"
          refine i_setL ew (n := P + k) (by rw [tab_len]; exact ixN_nat (by omega) hk') ?_
          refine ⟨_, _, rfl, same_mut s6 nw, ?_⟩
          rw [upd_same, lmix_set (by rw [ls, c1, c2]; rfl)]
        | some cv =>
          refine i_F (by simp [optV]) ?_
          wtm_at "wa"
          show uAdd (.int av) _ _ _
          wtm_at "wa"
          refine i_ixL (sq_of ew) gw ?_
          rw [c2]
          show uLt (.int (av + 1)) (.int cv) _ _
          wtm_at "wa"
          refine i_ite (fun hlt => ?_) (fun hlt => ?_)
          · wtm_at "wa"
            show uAdd (.int av) _ _ _
            wtm_at "wa"
            refine i_setL ew (n := P + k) (by rw [tab_len]; exact ixN_nat (by omega) hk') ?_
            refine ⟨_, _, rfl, same_mut s6 nw, ?_⟩
            rw [upd_same, lmix_set (by rw [ls, c1, c2]; show _ = optV (if av + 1 < cv then _ else _); rw [if_pos hlt]; rfl)]
          · wtm_at "wa"
            refine ⟨_, _, rfl, s6, ?_⟩
            rw [ew, lmix_keep (by rw [ls, c1, c2]; show (if av + 1 < cv then _ else _) = _; rw [if_neg hlt])]
    · rintro σ H6 ⟨y5, y6, rfl, s6, ew⟩
      wtm_at "w"
      refine i_tyL (s6 _ _ er) ?_
      wtm_at "w"
      have hqn : qs.length < 2000 := by have := rows.len; have := (List.getElem?_eq_some_iff.mp hp).1; omega
      refine i_app (s6 _ _ er) (sz_lt (by rw [List.length_map]; omega)) ?_
      rw [lmix_end (by omega)] at ew
      refine ⟨qs ++ [w], _, _, _, _, rfl, same_mut (s.trans s6) nHr, by rw [upd_same, List.map_append]; rfl, fun q hq => ?_, rows.snoc s6 hqr nwr ?_⟩
      · rcases List.mem_append.mp hq with z | z
        · exact hqr q z
        · have : q = w := by simpa using z
          subst this; exact nwr
      · rw [ew]
        refine congrArg (fun z => some (HO.lst z)) (tab_ext fun u _ => ?_)
        rw [lrow_snoc hp, Int.toNat_natCast]
  · rintro σ H5 ⟨qs, y2, y4, y5, y6, rfl, s, er, hqr, rows⟩
    wtm_at "w"
    rw [List.length_map] at rows
    exact h r qs H5 s nHr er rows
theorem u_fewest_unlike {n : Nat} (ha : H a = some (.lst ks)) (hk : KdL ks) (h1 : n ≤ 200) (h : ∀ L H', Same H H' → StockOf ks n L → Q (optV (lrow L n)) H') : sp_fewest_unlike G [.ref a, .int n] H Q E := by
  refine ⟨rfl, ?_⟩
  unfold t_fewest_unlike
  wtm_at "w"
  refine u_stock_to ha hk (by omega) (by omega) fun p L H1 s1 np e1 st => ?_
  wtm_at "w"
  have hlen := st.len hk.kd (by omega)
  refine u_least_rows e1 (fun x hx => ⟨st.pos hk.kd hx, by have := ((st.mem x).mp hx).1; omega⟩) (by omega) (by omega) fun r qs H2 s2 nr er rows => ?_
  wtm_at "w"
  obtain ⟨q, hq, eq⟩ := rows.last
  refine i_ixL (sq_of er) hq ?_
  wtm_at "w"
  refine i_ixL (sq_of eq) (tab_at (i := n) rfl (by omega)) ?_
  rw [List.take_length]
  exact h L H2 (s1.trans s2) st
end
/-! ### the law's own rows of unlike ones -/
/-! [f(store) for turn in range(m)] -/
/-! ### more steps -/
section
variable {K : Fg} {D : Ends} {σ : L2.St} {H : Hp} {Q : VK} {R : L2.St → Hp → Prop}
theorem i_augS {to ti te : TE} {tget : V → V → Hp → VK → Prop} {tip : TIp} {tset : TSet} (h : to σ H fun o H1 => ti σ H1 fun i H2 => tget o i H2 fun x H3 => te σ H3 fun y H4 => tip x y H4 fun z H5 => tset o i z H5 fun H6 => D.nx σ H6) : tAugS to ti te tget tip tset D σ H := h
theorem i_rixL {a : Addr} {xs : List V} {i : Int} {v : V} (hs : SqL K H a xs) (ha : atI xs i = some v) (h : Q v H) : rIxL K (.ref a) (.int i) H Q := ⟨a, xs, i, v, rfl, rfl, hs, ha, h⟩
theorem g_pair {i j : Nat} {T : Addr} {x y : V} (h : R ((σ.set i (some x)).set j (some y)) (upd H T (.tup [x, y]))) : gTup K 2 (gCons (gName i) (gCons (gName j) gNil)) (.ref T) σ (upd H T (.tup [x, y])) R :=
  ⟨T, _, rfl, st_of upd_same, rfl, x, [y], rfl, y, [], rfl, rfl, h⟩
end
theorem given_mem {f : Nat → Option V} : ∀ {n : Nat} {y : V}, y ∈ given f n → ∃ i < n, f i = some y
  | 0, _, h => by cases h
  | n + 1, y, h => by
    rcases List.mem_append.mp h with h | h
    · obtain ⟨i, hi, e⟩ := given_mem h
      exact ⟨i, by omega, e⟩
    · cases e : f n with
      | none => rw [e] at h; cases h
      | some z =>
        rw [e] at h
        have : y = z := by simpa using h
        subst this
        exact ⟨n, by omega, e⟩
theorem given_all {f : Nat → Option V} {n : Nat} {P : V → Bool} (h : ∀ i < n, ∀ y, f i = some y → P y = true) : (given f n).all P = true := by
  rw [List.all_eq_true]
  intro y hy
  obtain ⟨i, hi, e⟩ := given_mem hy
  exact h i hi y e
/-- a list that is all of its members, walked -/
theorem given_list {xs : List V} {g : V → Option V} : given (fun i => (xs[i]?).bind g) xs.length = xs.filterMap g := by
  have h : ∀ n ≤ xs.length, given (fun i => (xs[i]?).bind g) n = (xs.take n).filterMap g := by
    intro n
    induction n with
    | zero => intro _; rfl
    | succ n ih =>
      intro hn
      show given _ n ++ _ = _
      rw [ih (by omega), List.take_add_one, List.getElem?_eq_getElem (by omega), List.filterMap_append]
      congr 1
      show _ = List.filterMap g [xs[n]]
      have e1 : (xs[n]?).bind g = g xs[n] := by rw [List.getElem?_eq_getElem (by omega)]; rfl
      show (match (xs[n]?).bind g with | some y => [y] | none => []) = _
      rw [e1]
      cases e : g xs[n] <;> simp [e]
  rw [h _ (Nat.le_refl _), List.take_length]
/-! ### how many unlike sums -/
def wbase : Nat → Int := fun t => if t = 0 then 1 else 0
def wstep (p : Nat) (f : Nat → Int) : Nat → Int := fun t => if p ≤ t then f t + f (t - p) else f t
def wrow (S : List Int) : Nat → Int := S.foldl (fun f p => wstep p.toNat f) wbase
theorem wrow_snoc {S : List Int} {i : Nat} {p : Int} (h : S[i]? = some p) : wrow (S.take (i + 1)) = wstep p.toNat (wrow (S.take i)) := by
  unfold wrow
  rw [List.take_add_one, h, List.foldl_append]; rfl
def wmix (f : Nat → Int) (p n k : Nat) : Nat → V := fun u => .int (if n < u + k then wstep p f u else f u)
theorem wmix_zero {f : Nat → Int} {p n : Nat} : tab (n + 1) (fun u => .int (f u)) = tab (n + 1) (wmix f p n 0) := tab_ext fun i _ => by
  unfold wmix
  rw [if_neg (by omega)]
theorem wmix_end {f : Nat → Int} {p n : Nat} : tab (n + 1) (wmix f p n (n + 1 - p)) = tab (n + 1) (fun u => .int (wstep p f u)) := tab_ext fun i hi => by
  unfold wmix
  by_cases z : n < i + (n + 1 - p)
  · rw [if_pos z]
  · rw [if_neg z]
    unfold wstep
    rw [if_neg (by omega)]
theorem wmix_set {f : Nat → Int} {p n k : Nat} {v : V} (hk : k ≤ n) (h : v = .int (wstep p f (n - k))) : (tab (n + 1) (wmix f p n k)).set (n - k) v = tab (n + 1) (wmix f p n (k + 1)) := by
  rw [tab_set]
  refine tab_ext fun i hi => ?_
  unfold wmix
  by_cases z : i = n - k
  · rw [if_pos z, if_pos (by omega), h, z]
  · rw [if_neg z]
    by_cases y : n < i + k
    · rw [if_pos y, if_pos (by omega)]
    · rw [if_neg y, if_neg (by omega)]
section
variable {G : Gx} {H : Hp} {Q : VK} {E : XK} {a : Addr} {ks : List V}
def WYO (H : Hp) (a w : Addr) (S : List Int) (n : Nat) (i : Nat) (σ : L2.St) (H' : Hp) : Prop := ∃ y3 y4, σ = [some (.ref a), some (.int n), some (.ref w), y3, y4] ∧ Same H H' ∧ H' w = some (.lst (tab (n + 1) fun u => .int (wrow (S.take i) u)))
def WYI (H : Hp) (a w : Addr) (p n : Nat) (f : Nat → Int) (k : Nat) (σ : L2.St) (H' : Hp) : Prop := ∃ y4, σ = [some (.ref a), some (.int n), some (.ref w), some (.int p), y4] ∧ Same H H' ∧ H' w = some (.lst (tab (n + 1) (wmix f p n k)))
theorem u_ways_to {S : List Int} {n : Nat} (ha : H a = some (.lst (S.map V.int))) (hS : ∀ x ∈ S, 1 ≤ x ∧ x ≤ 1000) (hn : n ≤ 900)
    (h : ∀ p H', Same H H' → H p = none → H' p = some (.lst (tab (n + 1) fun u => .int (wrow S u))) → Q (.ref p) H') : sp_ways_to G [.ref a, .int n] H Q E := by
  refine ⟨rfl, ?_⟩
  unfold t_ways_to
  wtm_at "w"
  refine i_new (by simp) fun p1 n1 => ?_
  wtm_at "w"
  refine i_new (by simp) fun p2 n2 => ?_
  wtm_at "w"
  refine i_rep upd_same (by omega) (by omega) (sz_le (by simp; omega)) fun p3 n3 => ?_
  rw [Int.toNat_natCast, rep_one]
  refine i_addL (xs := [.int 1]) (ys := List.replicate n (.int 0)) (upd_old n3 (upd_old n2 upd_same)) upd_same (sz_le (by simp; omega)) fun w n4 => ?_
  rw [tab_first]
  have s3 : Same H (upd (upd (upd H p1 (.lst [.int 1])) p2 (.lst [.int 0])) p3 (.lst (List.replicate n (.int 0)))) := (((same_new n1).trans (same_new n2)).trans (same_new n3))
  generalize upd (upd (upd H p1 (.lst [.int 1])) p2 (.lst [.int 0])) p3 (.lst (List.replicate n (.int 0))) = H3 at s3 n4 ⊢
  have nw := s3.free n4
  have s4 : Same H (upd H3 w (.lst (tab (n + 1) fun u => if u = 0 then .int 1 else .int 0))) := s3.trans (same_new n4)
  have e4 : (upd H3 w (.lst (tab (n + 1) fun u => if u = 0 then .int 1 else .int 0))) w = some (.lst (tab (n + 1) fun u => if u = 0 then .int 1 else .int 0)) := upd_same
  generalize upd H3 w (.lst (tab (n + 1) fun u => if u = 0 then .int 1 else .int 0)) = H4 at s4 e4 ⊢
  wtm_at "w"
  refine i_lstA (sq_of (s4 _ _ ha)) ?_
  refine lk_list (WYO H a w S n) ⟨_, _, rfl, s4, ?_⟩ (fun i σ H' _ ⟨_, _, _, s, _⟩ => sq_of (s _ _ ha)) ?_ ?_
  · rw [e4]
    refine congrArg (fun z => some (HO.lst z)) (tab_ext fun u _ => ?_)
    show _ = V.int (if u = 0 then 1 else 0)
    split <;> rfl
  · rintro i x σ H5 hi ⟨y3, y4, rfl, s, ew⟩
    rw [List.getElem?_map] at hi
    obtain ⟨p, hp, rfl⟩ := Option.map_eq_some_iff.mp hi
    have hp1 := hS p (List.mem_of_getElem? hp)
    obtain ⟨P, rfl⟩ : ∃ P : Nat, p = (P : Int) := ⟨p.toNat, by omega⟩
    wtm_at "w"
    refine i_rngA3 (by omega) ?_
    rw [show ((n : Int) - ((P : Int) - 1)).toNat = n + 1 - P by omega]
    refine lk walk_rangeC (WYI H a w P n (wrow (S.take i))) ⟨_, rfl, s, by rw [ew, ← wmix_zero]⟩ (fun _ _ _ _ _ => trivial) ?_ ?_
    · rintro k x σ H6 H7 hk ⟨y4, rfl, s6, ew6⟩ ⟨rfl, rfl⟩
      have g1 : atI (tab (n + 1) (wmix (wrow (S.take i)) P n k)) ((n : Int) + (k : Nat) * -1) = some (.int (wrow (S.take i) (n - k))) := by
        rw [tab_at (i := n - k) (by omega) (by omega)]
        unfold wmix; rw [if_neg (by omega)]
      have g2 : atI (tab (n + 1) (wmix (wrow (S.take i)) P n k)) ((n : Int) + (k : Nat) * -1 - P) = some (.int (wrow (S.take i) (n - k - P))) := by
        rw [tab_at (i := n - k - P) (by omega) (by omega)]
        unfold wmix; rw [if_neg (by omega)]
      wtm_at "w"
      refine i_augS ?_
      wtm_at "w"
      refine i_rixL (sq_of ew6) g1 ?_
      wtm_at "w"
      refine i_ixL (sq_of ew6) g2 ?_
      wtm_at "w"
      refine i_setL ew6 (n := n - k) (by rw [tab_len]; exact ixN_nat (by omega) (by omega)) ?_
      refine ⟨_, rfl, same_mut s6 nw, ?_⟩
      rw [upd_same, wmix_set (by omega) (by unfold wstep; rw [if_pos (by omega)])]
    · rintro σ H6 ⟨y4, rfl, s6, ew6⟩
      refine ⟨_, _, rfl, s6, ?_⟩
      rw [ew6, wmix_end, wrow_snoc hp, Int.toNat_natCast]
  · rintro σ H5 ⟨y3, y4, rfl, s, ew⟩
    wtm_at "w"
    rw [List.length_map, List.take_length] at ew
    exact h w H5 s nw ew
theorem StockOf.lim {b : Int} {L : List Int} (h : StockOf ks b L) (hk : ∀ v ∈ ks, IsKd v) (hb : b ≤ 1000) : ∀ x ∈ L, 1 ≤ x ∧ x ≤ 1000 := fun x hx => ⟨h.pos hk hx, by have := ((h.mem x).mp hx).1; omega⟩
theorem u_count_unlike {n : Nat} (ha : H a = some (.lst ks)) (hk : KdL ks) (h1 : n ≤ 200) (h : ∀ L H', Same H H' → StockOf ks n L → Q (.int (wrow L n)) H') : sp_count_unlike G [.ref a, .int n] H Q E := by
  refine ⟨rfl, ?_⟩
  unfold t_count_unlike
  wtm_at "w"
  refine u_stock_to ha hk (by omega) (by omega) fun p L H1 s1 np e1 st => ?_
  wtm_at "w"
  refine u_ways_to e1 (st.lim hk.kd (by omega)) (by omega) fun w H2 s2 nw ew => ?_
  wtm_at "w"
  refine i_ixL (sq_of ew) (tab_at (i := n) rfl (by omega)) ?_
  exact h L H2 (s1.trans s2) st
def zeroAt (f : Nat → Int) : Nat → Option V := fun i => if f i = 0 then some (.int (i : Nat)) else none
theorem u_without_unlike {n : Nat} (ha : H a = some (.lst ks)) (hk : KdL ks) (h1 : n ≤ 200) (h : ∀ p L H', Same H H' → H p = none → StockOf ks n L → H' p = some (.lst (given (zeroAt (wrow L)) (n + 1))) → Q (.ref p) H') : sp_without_unlike G [.ref a, .int n] H Q E := by
  refine ⟨rfl, ?_⟩
  unfold t_without_unlike
  wtm_at "w"
  refine u_stock_to ha hk (by omega) (by omega) fun p L H1 s1 np e1 st => ?_
  wtm_at "w"
  refine u_ways_to e1 (st.lim hk.kd (by omega)) (by omega) fun w H2 s2 nw ew => ?_
  wtm_at "w"
  refine i_enumA (sq_of ew) ?_
  refine lck_pure walk_enum (by rw [tab_len]; omega) (zeroAt (wrow L)) (fun H' s => sq_of (s _ _ ew)) (fun i x H3 H4 KK NN hi s y hK hN => ?_) (fun p H3 np s3 e3 => ?_)
  · obtain ⟨T, x1, x2, rfl, nT, rfl, h1', h2'⟩ := y
    cases h1'
    rw [tab_len] at hi
    have h3 := (tab_get hi).symm.trans h2'
    cases h3
    refine g_pair ?_
    refine ⟨rfl, ?_⟩
    wtm_at "w"
    refine i_ite (fun hz => ?_) (fun hz => ?_)
    · wtm_at "w"
      exact hK _ _ (by unfold zeroAt; rw [if_pos hz]) (same_new nT)
    · exact hN _ (by unfold zeroAt; rw [if_neg hz]) (same_new nT)
  · rw [tab_len] at e3
    exact h p L H3 ((s1.trans s2).trans s3) ((s1.trans s2).free np) st e3
end
/-! ### the fewest parts -/
open Classical in
noncomputable def minI (ns : List Int) : Int := if h : ∃ m, m ∈ ns ∧ ∀ y ∈ ns, m ≤ y then h.choose else 0
theorem minI_eq {ns : List Int} {m : Int} (h1 : m ∈ ns) (h2 : ∀ y ∈ ns, m ≤ y) : m = minI ns := by
  have h : ∃ m, m ∈ ns ∧ ∀ y ∈ ns, m ≤ y := ⟨m, h1, h2⟩
  unfold minI
  rw [dif_pos h]
  have a := h.choose_spec
  have := h2 _ a.1
  have := a.2 _ h1
  omega
theorem min_ex : ∀ {ns : List Int}, ns ≠ [] → ∃ m, m ∈ ns ∧ ∀ y ∈ ns, m ≤ y
  | [], h => absurd rfl h
  | [x], _ => ⟨x, by simp, by simp⟩
  | x :: y :: r, _ => by
    obtain ⟨m, h1, h2⟩ := min_ex (ns := y :: r) (by simp)
    by_cases z : x ≤ m
    · exact ⟨x, by simp, fun w hw => by
        rcases List.mem_cons.mp hw with e | e
        · omega
        · have := h2 w e; omega⟩
    · exact ⟨m, List.mem_cons_of_mem _ h1, fun w hw => by
        rcases List.mem_cons.mp hw with e | e
        · omega
        · exact h2 w e⟩
/-- what the fewest of n is the least of, but for the one part more -/
def befores (S : List Int) (f : Nat → Int) (n : Nat) : List Int := S.filterMap fun p => if p ≤ (n : Int) then some (f ((n : Int) - p).toNat) else none
noncomputable def fewT (S : List Int) : Nat → Nat → Int
  | 0 => fun _ => 0
  | n + 1 => fun t => if t = n + 1 then 1 + minI (befores S (fewT S n) (n + 1)) else fewT S n t
noncomputable def fewF (S : List Int) (n : Nat) : Int := fewT S n n
theorem fewT_eq (S : List Int) : ∀ (n t : Nat), t ≤ n → fewT S n t = fewF S t
  | 0, t, h => by
    have : t = 0 := by omega
    subst this; rfl
  | n + 1, t, h => by
    by_cases z : t = n + 1
    · subst z; rfl
    · show (if t = n + 1 then _ else fewT S n t) = _
      rw [if_neg z]
      exact fewT_eq S n t (by omega)
theorem fewF_zero (S : List Int) : fewF S 0 = 0 := rfl
theorem befores_ext {S : List Int} {f g : Nat → Int} {n : Nat} (hp : ∀ p ∈ S, 1 ≤ p) (h : ∀ t < n, f t = g t) : befores S f n = befores S g n := by
  unfold befores
  refine filterMap_ext S fun p hm => ?_
  by_cases z : p ≤ (n : Int)
  · rw [if_pos z, if_pos z, h _ (by have := hp p hm; omega)]
  · rw [if_neg z, if_neg z]
where
  filterMap_ext : ∀ {α β : Type} {f g : α → Option β} (l : List α), (∀ a ∈ l, f a = g a) → l.filterMap f = l.filterMap g
    | _, _, _, _, [], _ => rfl
    | _, _, f, g, a :: l, h => by
      rw [List.filterMap_cons, List.filterMap_cons, h a (by simp), filterMap_ext l fun b hb => h b (List.mem_cons_of_mem _ hb)]
theorem fewF_succ {S : List Int} (hp : ∀ p ∈ S, 1 ≤ p) (n : Nat) : fewF S (n + 1) = 1 + minI (befores S (fewF S) (n + 1)) := by
  show (if n + 1 = n + 1 then 1 + minI (befores S (fewT S n) (n + 1)) else _) = _
  rw [if_pos rfl, befores_ext hp fun t ht => fewT_eq S n t (by omega)]
theorem mem_befores {S : List Int} {f : Nat → Int} {n : Nat} {x : Int} : x ∈ befores S f n ↔ ∃ p ∈ S, p ≤ (n : Int) ∧ x = f ((n : Int) - p).toNat := by
  unfold befores
  rw [List.mem_filterMap]
  constructor
  · rintro ⟨p, hp, e⟩
    by_cases z : p ≤ (n : Int)
    · rw [if_pos z] at e
      exact ⟨p, hp, z, (Option.some.inj e).symm⟩
    · rw [if_neg z] at e; cases e
  · rintro ⟨p, hp, z, rfl⟩
    exact ⟨p, hp, by rw [if_pos z]⟩
theorem befores_ne {S : List Int} {f : Nat → Int} {n : Nat} (h1 : 1 ∈ S) (hn : 1 ≤ n) : befores S f n ≠ [] := fun e => by
  have : f ((n : Int) - 1).toNat ∈ befores S f n := mem_befores.mpr ⟨1, h1, by omega, rfl⟩
  rw [e] at this; cases this
theorem fewF_le {S : List Int} (hp : ∀ p ∈ S, 1 ≤ p) {n : Nat} {p : Nat} (hm : (p : Int) ∈ S) (hn : p ≤ n) : fewF S n ≤ fewF S (n - p) + 1 := by
  have hp1 := hp _ hm
  obtain ⟨m, rfl⟩ : ∃ m, n = m + 1 := ⟨n - 1, by omega⟩
  rw [fewF_succ hp]
  have hx : fewF S (m + 1 - p) ∈ befores S (fewF S) (m + 1) := mem_befores.mpr ⟨p, hm, by omega, by congr 1; omega⟩
  obtain ⟨v, h1, h2⟩ := min_ex (List.ne_nil_of_mem hx)
  rw [← minI_eq h1 h2]
  have := h2 _ hx
  omega
theorem fewF_ex {S : List Int} (hp : ∀ p ∈ S, 1 ≤ p) (h1 : 1 ∈ S) {n : Nat} (hn : 1 ≤ n) : ∃ p : Nat, (p : Int) ∈ S ∧ p ≤ n ∧ 1 ≤ p ∧ fewF S n = fewF S (n - p) + 1 := by
  obtain ⟨m, rfl⟩ : ∃ m, n = m + 1 := ⟨n - 1, by omega⟩
  rw [fewF_succ hp]
  obtain ⟨v, h3, h4⟩ := min_ex (befores_ne (f := fewF S) h1 hn)
  rw [← minI_eq h3 h4]
  obtain ⟨p, hm, hle, rfl⟩ := mem_befores.mp h3
  have := hp p hm
  refine ⟨p.toNat, by rw [show (p.toNat : Int) = p by omega]; exact hm, by omega, by omega, ?_⟩
  rw [show (((m + 1 : Nat) : Int) - p).toNat = m + 1 - p.toNat by omega]
  omega
theorem fewF_nn {S : List Int} (hp : ∀ p ∈ S, 1 ≤ p) (h1 : 1 ∈ S) : ∀ n, 0 ≤ fewF S n := by
  intro n
  induction n using Nat.strongRecOn with
  | _ n ih =>
    by_cases z : n = 0
    · subst z; rw [fewF_zero]; omega
    · obtain ⟨p, _, h2, h3, e⟩ := fewF_ex hp h1 (n := n) (by omega)
      have := ih (n - p) (by omega)
      omega
theorem fewF_pos {S : List Int} (hp : ∀ p ∈ S, 1 ≤ p) (h1 : 1 ∈ S) {n : Nat} (hn : 1 ≤ n) : 1 ≤ fewF S n := by
  obtain ⟨p, _, h2, h3, e⟩ := fewF_ex hp h1 hn
  have := fewF_nn hp h1 (n - p)
  omega
theorem fewF_bd {S : List Int} (hp : ∀ p ∈ S, 1 ≤ p) (h1 : 1 ∈ S) : ∀ n : Nat, fewF S n ≤ n
  | 0 => by rw [fewF_zero]; omega
  | n + 1 => by
    have h := fewF_le hp (n := n + 1) (p := 1) h1 (by omega)
    have := fewF_bd hp h1 n
    rw [Nat.add_sub_cancel] at h
    omega
theorem tab_snoc {n : Nat} {g : Nat → V} {v : V} (h : v = g n) : tab n g ++ [v] = tab (n + 1) g := by
  unfold tab
  rw [List.range_succ, List.map_append, h]; rfl
theorem given_ints {α : Type} {S : List α} {g : α → Option Int} : given (fun j => ((S[j]?).bind g).map V.int) S.length = (S.filterMap g).map V.int := by
  have h : ∀ n ≤ S.length, given (fun j => ((S[j]?).bind g).map V.int) n = ((S.take n).filterMap g).map V.int := by
    intro n
    induction n with
    | zero => intro _; rfl
    | succ n ih =>
      intro hn
      show given _ n ++ (match ((S[n]?).bind g).map V.int with | some y => [y] | none => []) = _
      rw [ih (by omega), List.take_add_one, List.getElem?_eq_getElem (by omega), List.filterMap_append, List.map_append]
      congr 1
      show (match ((some S[n]).bind g).map V.int with | some y => [y] | none => []) = (List.filterMap g [S[n]]).map V.int
      cases e : g S[n] <;> simp [e]
  rw [h _ (Nat.le_refl _), List.take_length]
theorem stock_one {ks : List V} {b : Int} {L : List Int} (h : StockOf ks b L) (hk : KdL ks) (hb : 1 ≤ b) : 1 ∈ L := by
  obtain ⟨v, hv⟩ : ∃ v, v ∈ ks := List.exists_mem_of_length_pos (by have := hk.lo; omega)
  exact (h.mem 1).mpr ⟨hb, v, hv, 1, by omega, dots_one (hk.kd v hv)⟩
section
variable {G : Gx} {H : Hp} {Q : VK} {E : XK} {a : Addr} {ks : List V}
theorem u_fewest_by {S : List Int} {b : Nat} (ha : H a = some (.lst (S.map V.int))) (hp : ∀ p ∈ S, 1 ≤ p) (h1 : 1 ≤ b → 1 ∈ S) (hb : b ≤ 900) (hl : S.length ≤ 1000)
    (h : ∀ p H', Same H H' → H p = none → H' p = some (.lst (tab (b + 1) fun u => .int (fewF S u))) → Q (.ref p) H') : sp_fewest_by G [.ref a, .int b] H Q E := by
  refine ⟨rfl, ?_⟩
  unfold t_fewest_by
  wtm_at "w"
  refine i_new (by simp) fun f nf => ?_
  wtm_at "w"
  refine i_rngA2 (by omega) ?_
  rw [show ((b : Int) + 1 - 1).toNat = b by omega]
  refine lk_range (fun i σ H' => ∃ y3 y4, σ = [some (.ref a), some (.int b), some (.ref f), y3, y4] ∧ Same H H' ∧ H' f = some (.lst (tab (i + 1) fun u => .int (fewF S u)))) ⟨_, _, rfl, same_new nf, by rw [upd_same]; rfl⟩ ?_ ?_
  · rintro i σ H1 hi ⟨y3, y4, rfl, s1, e1⟩
    wtm_at "w"
    refine i_tyL e1 ?_
    wtm_at "w"
    refine i_lstA (sq_of (s1 _ _ ha)) ?_
    refine lck_pure walk_list (by rw [List.length_map]; omega) (fun j => ((S[j]?).bind fun p => if p ≤ ((i + 1 : Nat) : Int) then some (fewF S (((i + 1 : Nat) : Int) - p).toNat) else none).map V.int) (fun H' s => sq_of (s _ _ (s1 _ _ ha))) (fun j x H5 H6 KK NN hj s y hK hN => ?_) (fun p H5 np s5 e5 => ?_)
    · obtain ⟨rfl, hx⟩ := y
      rw [List.getElem?_map] at hx
      obtain ⟨x0, hx0, rfl⟩ := Option.map_eq_some_iff.mp hx
      have hx1 := hp x0 (List.mem_of_getElem? hx0)
      wtm_at "w"
      refine ⟨rfl, ?_⟩
      wtm_at "w"
      refine i_ite (fun hle => ?_) (fun hle => ?_)
      · wtm_at "w"
        refine i_ixL (sq_of (s _ _ e1)) (tab_at (i := (((i + 1 : Nat) : Int) - x0).toNat) (by omega) (by omega)) ?_
        exact hK _ _ (by rw [hx0]; show Option.map V.int (if _ then _ else _) = _; rw [if_pos (by omega)]; rfl) (fun _ _ z => z)
      · exact hN _ (by rw [hx0]; show Option.map V.int (if _ then _ else _) = _; rw [if_neg (by omega)]; rfl) (fun _ _ z => z)
    · rw [List.length_map, given_ints] at e5
      refine i_minL (sq_of e5) (List.length_pos_iff.mpr (befores_ne (S := S) (f := fewF S) (n := i + 1) (h1 (by omega)) (by omega))) fun m hm1 hm2 => ?_
      wtm_at "w"
      refine i_app (s5 _ _ e1) (sz_lt (by rw [tab_len]; omega)) ?_
      refine ⟨_, _, rfl, same_mut (s1.trans s5) nf, ?_⟩
      rw [upd_same, tab_snoc]
      rw [fewF_succ hp]
      exact congrArg V.int (congrArg (1 + ·) (minI_eq hm1 hm2))
  · rintro σ H1 ⟨y3, y4, rfl, s1, e1⟩
    wtm_at "w"
    exact h f H1 s1 nf e1
theorem u_fewest_to {n : Nat} (ha : H a = some (.lst ks)) (hk : KdL ks) (h1 : n ≤ 200) (h : ∀ p L H', Same H H' → H p = none → StockOf ks n L → H' p = some (.lst (tab (n + 1) fun u => .int (fewF L u))) → Q (.ref p) H') : sp_fewest_to G [.ref a, .int n] H Q E := by
  refine ⟨rfl, ?_⟩
  unfold t_fewest_to
  have := hk.hi
  wtm_at "w"
  refine u_need_kinds ha hk fun H1 s1 => ?_
  wtm_at "w"
  refine u_need_to_most (by omega) (by omega) ?_
  wtm_at "w"
  refine u_stock_of (sq_of (s1 _ _ ha)) hk.kd (by omega) (by omega) (by omega) fun p L H2 s2 np e2 st => ?_
  wtm_at "w"
  have hl := st.len hk.kd (by omega)
  refine u_fewest_by e2 (fun p hm => st.pos hk.kd hm) (fun z => stock_one st hk (by omega)) (by omega) (by omega) fun q H3 s3 nq e3 => ?_
  exact h q L H3 ((s1.trans s2).trans s3) ((s1.trans s2).free nq) st e3
theorem u_fewest_parts {n : Nat} (ha : H a = some (.lst ks)) (hk : KdL ks) (h1 : n ≤ 200) (h : ∀ L H', Same H H' → StockOf ks n L → Q (.int (fewF L n)) H') : sp_fewest_parts G [.ref a, .int n] H Q E := by
  refine ⟨rfl, ?_⟩
  unfold t_fewest_parts
  have := hk.hi
  wtm_at "w"
  refine u_need_kinds ha hk fun H1 s1 => ?_
  wtm_at "w"
  refine u_need_to_most (by omega) (by omega) ?_
  wtm_at "w"
  refine u_stock_of (sq_of (s1 _ _ ha)) hk.kd (by omega) (by omega) (by omega) fun p L H2 s2 np e2 st => ?_
  wtm_at "w"
  have hl := st.len hk.kd (by omega)
  refine u_fewest_by e2 (fun p hm => st.pos hk.kd hm) (fun z => stock_one st hk (by omega)) (by omega) (by omega) fun q H3 s3 nq e3 => ?_
  wtm_at "w"
  refine i_ixL (sq_of e3) (tab_at (i := n) rfl (by omega)) ?_
  exact h L H3 ((s1.trans s2).trans s3) st
end
/-! ### the first of unlike ones -/
def firstP (P : Nat → Bool) : Nat → Option Nat
  | 0 => none
  | t + 1 => match firstP P t with
    | some a => some a
    | none => if P t then some t else none
theorem firstP_some {P : Nat → Bool} : ∀ {t a : Nat}, firstP P t = some a → a < t ∧ P a = true ∧ ∀ j < a, P j = false
  | 0, _, h => by cases h
  | t + 1, a, h => by
    unfold firstP at h
    cases e : firstP P t with
    | some b =>
      rw [e] at h
      cases h
      obtain ⟨h1, h2, h3⟩ := firstP_some e
      exact ⟨by omega, h2, h3⟩
    | none =>
      rw [e] at h
      by_cases z : P t = true
      · simp only [z, if_true, Option.some.injEq] at h
        subst h
        refine ⟨by omega, z, fun j hj => ?_⟩
        exact firstP_none e j hj
      · simp only [z] at h
        cases h
where
  firstP_none {P : Nat → Bool} : ∀ {t : Nat}, firstP P t = none → ∀ j < t, P j = false
    | 0, _, j, hj => absurd hj (Nat.not_lt_zero _)
    | t + 1, h, j, hj => by
      unfold firstP at h
      cases e : firstP P t with
      | some b => rw [e] at h; cases h
      | none =>
        rw [e] at h
        by_cases z : P t = true
        · simp [z] at h
        · by_cases y : j = t
          · subst y; simpa using z
          · exact firstP_none e j (by omega)
theorem firstP_is {P : Nat → Bool} {t a : Nat} (h1 : a < t) (h2 : P a = true) (h3 : ∀ j < a, P j = false) : firstP P t = some a := by
  cases e : firstP P t with
  | none =>
    have := firstP_some.firstP_none e a h1
    rw [h2] at this; cases this
  | some b =>
    obtain ⟨g1, g2, g3⟩ := firstP_some e
    by_cases z : a < b
    · have := g3 a z; rw [h2] at this; cases this
    · by_cases y : b < a
      · have := h3 b y; rw [g2] at this; cases this
      · rw [show a = b by omega]
theorem firstP_ex {P : Nat → Bool} {t a : Nat} (h1 : a < t) (h2 : P a = true) : ∃ b, firstP P t = some b := by
  cases e : firstP P t with
  | none =>
    have := firstP_some.firstP_none e a h1
    rw [h2] at this; cases this
  | some b => exact ⟨b, rfl⟩
def uOk (S : List Int) (n : Nat) (m : Int) (j : Nat) : Bool := decide (S.getD j 0 ≤ (n : Int)) && decide (lrow (S.take j) (n - (S.getD j 0).toNat) = some m)
def greedy (S : List Int) : Nat → Nat → Nat → List Int
  | 0, _, _ => []
  | m + 1, top, n => match firstP (uOk S n (m : Int)) top with
    | some j => S.getD j 0 :: greedy S m j (n - (S.getD j 0).toNat)
    | none => []
theorem lbest_nn {x y : Option Int} (hx : ∀ v, x = some v → 0 ≤ v) (hy : ∀ v, y = some v → 0 ≤ v) : ∀ v, lbest x y = some v → 0 ≤ v := by
  intro v h
  cases x with
  | none => exact hy v h
  | some a => cases y with
    | none =>
      have := hx a rfl
      have h' : a + 1 = v := Option.some.inj h
      omega
    | some c =>
      have h' : (if a + 1 < c then some (a + 1) else some c) = some v := h
      have := hx a rfl
      have := hy c rfl
      split at h' <;> cases h' <;> omega
theorem lrow_nn (S : List Int) : ∀ t v, lrow S t = some v → 0 ≤ v := by
  unfold lrow
  have : ∀ (S : List Int) (f : Nat → Option Int), (∀ t v, f t = some v → 0 ≤ v) → ∀ t v, S.foldl (fun f p => lstep p.toNat f) f t = some v → 0 ≤ v := by
    intro S
    induction S with
    | nil => intro f h t v e; exact h t v e
    | cons p r ih =>
      intro f h t v e
      rw [List.foldl_cons] at e
      refine ih _ (fun t v e => ?_) t v e
      unfold lstep at e
      split at e
      · exact lbest_nn (fun v e => h _ v e) (fun v e => h _ v e) v e
      · exact h t v e
  refine this S lbase fun t v e => ?_
  unfold lbase at e
  split at e
  · cases e; omega
  · cases e
theorem lrow_zero {m : Int} {n : Nat} (h : lrow [] n = some m) : m = 0 := by
  have h' : (if n = 0 then some (0 : Int) else none) = some m := h
  split at h'
  · cases h'; rfl
  · cases h'
/-- where m is the fewest and above 0, some one is the last part -/
theorem lrow_last {S : List Int} (hp : ∀ x ∈ S, 1 ≤ x) {n : Nat} {m : Nat} : ∀ {top : Nat}, top ≤ S.length → lrow (S.take top) n = some ((m + 1 : Nat) : Int) → ∃ j < top, uOk S n m j = true
  | 0, _, h => by
    have := lrow_zero (m := ((m + 1 : Nat) : Int)) (n := n) h
    omega
  | t + 1, ht, h => by
    have hg : S[t]? = some S[t] := List.getElem?_eq_getElem (by omega)
    have hd : S.getD t 0 = S[t] := by rw [List.getD_eq_getElem?_getD, hg]; rfl
    have hp1 := hp S[t] (List.getElem_mem _)
    rw [lrow_snoc hg] at h
    have old : lrow (S.take t) n = some ((m + 1 : Nat) : Int) → ∃ j < t + 1, uOk S n m j = true := fun e => by
      obtain ⟨j, hj, e⟩ := lrow_last hp (by omega) e
      exact ⟨j, by omega, e⟩
    unfold lstep at h
    by_cases z : S[t].toNat ≤ n
    · rw [if_pos z] at h
      have new : lrow (S.take t) (n - S[t].toNat) = some (m : Int) → ∃ j < t + 1, uOk S n m j = true := fun e => by
        refine ⟨t, by omega, ?_⟩
        unfold uOk
        rw [hd, decide_eq_true (by omega), decide_eq_true e]; rfl
      cases e1 : lrow (S.take t) (n - S[t].toNat) with
      | none => rw [e1] at h; exact old h
      | some a =>
        rw [e1] at h
        cases e2 : lrow (S.take t) n with
        | none =>
          rw [e2] at h
          have h' : a + 1 = ((m + 1 : Nat) : Int) := Option.some.inj h
          exact new (by rw [e1, show a = (m : Int) by omega])
        | some c =>
          rw [e2] at h
          have h' : (if a + 1 < c then some (a + 1) else some c) = some ((m + 1 : Nat) : Int) := h
          by_cases y : a + 1 < c
          · rw [if_pos y] at h'
            have h'' := Option.some.inj h'
            exact new (by rw [e1, show a = (m : Int) by omega])
          · rw [if_neg y] at h'
            exact old (by rw [e2, h'])
    · rw [if_neg z] at h
      exact old h
section
variable {K : Fg} {H : Hp} {Q : VK}
theorem i_eqOI {o : Option Int} {m : Int} (h : Q (.bl (decide (o = some m))) H) : uEq K (optV o) (.int m) H Q := by
  cases o with
  | none => refine i_eqNI ?_; exact h
  | some i =>
    refine i_eqI ?_
    rw [show decide (some i = some m) = decide (i = m) by rw [Bool.eq_iff_iff]; simp] at h
    exact h
end
theorem LRows.at {H : Hp} {qs : List Addr} {f : Nat → Nat → V} {i n j : Nat} {jv : Int} (r : LRows H qs f i n) (e : jv = (j : Int)) (hj : j ≤ i) : ∃ q, atI (qs.map V.ref) jv = some (.ref q) ∧ H q = some (.lst (tab (n + 1) (f j))) := by
  have h : j < qs.length := by have := r.len; omega
  refine ⟨qs[j], at_nat e ?_, r.row j _ (List.getElem?_eq_getElem h)⟩
  rw [List.getElem?_map, List.getElem?_eq_getElem h]; rfl
theorem ints_at {S : List Int} {j : Nat} {jv : Int} (e : jv = (j : Int)) (hj : j < S.length) : atI (S.map V.int) jv = some (.int (S.getD j 0)) := by
  refine at_nat e ?_
  rw [List.getElem?_map, List.getD_eq_getElem?_getD, List.getElem?_eq_getElem hj]; rfl
theorem getD_mem {S : List Int} {j : Nat} (hj : j < S.length) : S.getD j 0 ∈ S := by
  rw [List.getD_eq_getElem?_getD, List.getElem?_eq_getElem hj]
  exact List.getElem_mem _
section
variable {G : Gx} {H : Hp} {Q : VK} {E : XK} {a : Addr} {ks : List V}
/-- the test at a place -/
theorem u_ok {D : Ends} {σ : L2.St} {QB : Bool → Hp → Prop} {iS iR iJ iN : Nat} {tm : TE} {sp rp : Addr} {S : List Int} {qs : List Addr} {N n j : Nat} {m jv : Int} (h1 : σ[iS]? = some (some (.ref sp))) (h2 : σ[iR]? = some (some (.ref rp))) (h3 : σ[iJ]? = some (some (.int jv))) (h4 : σ[iN]? = some (some (.int n))) (ej : jv = (j : Int))
    (es : H sp = some (.lst (S.map V.int))) (er : H rp = some (.lst (qs.map V.ref))) (rows : LRows H qs (fun j u => optV (lrow (S.take j) u)) S.length N) (hp : ∀ x ∈ S, 1 ≤ x) (hj : j < S.length) (hn : n ≤ N) (hm : ∀ (H : Hp) (Q : VK), Q (.int m) H → tm σ H Q)
    (h : QB (uOk S n m j) H) : tAnd (tTest (tOp uLe (tOp (uIx G.K) (tVar iS) (tVar iJ)) (tVar iN))) (tTest (tOp (uEq G.K) (tOp (uIx G.K) (tOp (uIx G.K) (tVar iR) (tVar iJ)) (tOp uSub (tVar iN) (tOp (uIx G.K) (tVar iS) (tVar iJ)))) tm)) σ H QB := by
  have hx := hp _ (getD_mem hj)
  have gs := ints_at (S := S) ej hj
  obtain ⟨q, hq, eq⟩ := rows.at ej (by omega)
  wtm_at "wa"
  refine i_var h1 ?_
  wtm_at "wa"
  refine i_var h3 ?_
  refine i_ixL (sq_of es) gs ?_
  wtm_at "wa"
  refine i_var h4 ?_
  wtm_at "wa"
  unfold uOk at h
  refine i_ite (fun hle => ?_) (fun hle => ?_)
  · rw [decide_eq_true hle, Bool.true_and] at h
    wtm_at "wa"
    refine i_var h2 ?_
    wtm_at "wa"
    refine i_var h3 ?_
    refine i_ixL (sq_of er) hq ?_
    wtm_at "wa"
    refine i_var h4 ?_
    wtm_at "wa"
    refine i_var h1 ?_
    wtm_at "wa"
    refine i_var h3 ?_
    refine i_ixL (sq_of es) gs ?_
    wtm_at "wa"
    refine i_ixL (sq_of eq) (tab_at (i := n - (S.getD j 0).toNat) (by omega) (by omega)) ?_
    refine hm _ _ ?_
    refine i_eqOI ?_
    wtm_at "wa"
    exact h
  · rw [decide_eq_false hle, Bool.false_and] at h
    exact h
end
section
variable {G : Gx} {H : Hp} {Q : VK} {E : XK} {a : Addr} {ks : List V}
theorem greedy_step {S : List Int} {m top n j : Nat} (h : firstP (uOk S n (m : Int)) top = some j) : greedy S (m + 1) top n = S.getD j 0 :: greedy S m j (n - (S.getD j 0).toNat) := by
  show (match firstP (uOk S n (m : Int)) top with | some j => S.getD j 0 :: greedy S m j (n - (S.getD j 0).toNat) | none => []) = _
  rw [h]
theorem uOk_row {S : List Int} {n j : Nat} {m : Int} (h : uOk S n m j = true) : S.getD j 0 ≤ (n : Int) ∧ lrow (S.take j) (n - (S.getD j 0).toNat) = some m := by
  unfold uOk at h
  rw [Bool.and_eq_true] at h
  exact ⟨of_decide_eq_true h.1, of_decide_eq_true h.2⟩
/-- where such a loop stands -/
structure GrI (S : List Int) (G0 : List Int) (fs : List Int) (m top n N : Nat) : Prop where
  g : fs ++ greedy S m top n = G0
  r : lrow (S.take top) n = some (m : Int)
  t : top ≤ S.length
  n : n ≤ N
theorem GrI.next {S : List Int} {G0 fs : List Int} {m top n N j : Nat} (i : GrI S G0 fs (m + 1) top n N) (h : firstP (uOk S n (m : Int)) top = some j) : GrI S G0 (fs ++ [S.getD j 0]) m j (n - (S.getD j 0).toNat) N := by
  obtain ⟨h1, h2, _⟩ := firstP_some h
  have := i.t
  have := i.n
  exact ⟨by rw [← i.g, greedy_step h, List.append_assoc]; rfl, (uOk_row h2).2, by omega, by omega⟩
theorem GrI.ex {S : List Int} (hp : ∀ x ∈ S, 1 ≤ x) {G0 fs : List Int} {m top n N : Nat} (i : GrI S G0 fs (m + 1) top n N) : ∃ j, firstP (uOk S n (m : Int)) top = some j := by
  obtain ⟨j, h1, h2⟩ := lrow_last hp i.t i.r
  exact firstP_ex h1 h2
def FuT (H : Hp) (a sp rp l : Addr) (S G0 : List Int) (N c : Nat) (σ : L2.St) (H' : Hp) : Prop := ∃ (fs : List Int) (top n : Nat) (y7 : Option V), σ = [some (.ref a), some (.int n), some (.ref sp), some (.ref rp), some (.int (c : Nat)), some (.ref l), some (.int top), y7] ∧ Same H H' ∧ H' l = some (.lst (fs.map V.int)) ∧ fs.length + c ≤ N ∧ GrI S G0 fs c top n N
theorem lrow_bd (S : List Int) (hp : ∀ x ∈ S, 1 ≤ x) : ∀ t v, lrow S t = some v → v ≤ t := by
  unfold lrow
  have : ∀ (S : List Int) (hp : ∀ x ∈ S, 1 ≤ x) (f : Nat → Option Int), (∀ (t : Nat) v, f t = some v → v ≤ t) → ∀ (t : Nat) v, S.foldl (fun f p => lstep p.toNat f) f t = some v → v ≤ t := by
    intro S
    induction S with
    | nil => intro _ f h t v e; exact h t v e
    | cons p r ih =>
      intro hp f h t v e
      rw [List.foldl_cons] at e
      have hp1 := hp p (by simp)
      refine ih (fun x hx => hp x (List.mem_cons_of_mem _ hx)) _ (fun t v e => ?_) t v e
      unfold lstep at e
      split at e
      · cases e1 : f (t - p.toNat) with
        | none => rw [e1] at e; exact h t v e
        | some x =>
          rw [e1] at e
          have hx := h _ x e1
          cases e2 : f t with
          | none =>
            rw [e2] at e
            have h' : x + 1 = v := Option.some.inj e
            omega
          | some y =>
            rw [e2] at e
            have hy := h _ y e2
            have h' : (if x + 1 < y then some (x + 1) else some y) = some v := e
            split at h' <;> cases h' <;> omega
      · exact h t v e
  refine this S hp lbase fun t v e => ?_
  unfold lbase at e
  split at e
  · cases e; omega
  · cases e
theorem u_first_unlike {n : Nat} (ha : H a = some (.lst ks)) (hk : KdL ks) (h1 : n ≤ 200) (hN : ∀ L H', Same H H' → StockOf ks n L → lrow L n = none → Q .non H')
    (hY : ∀ p L m H', Same H H' → H p = none → StockOf ks n L → lrow L n = some ((m : Nat) : Int) → H' p = some (.lst ((greedy L m L.length n).map V.int)) → (greedy L m L.length n).length ≤ 1000 → Q (.ref p) H') : sp_first_unlike G [.ref a, .int n] H Q E := by
  refine ⟨rfl, ?_⟩
  unfold t_first_unlike
  wtm_at "w"
  refine u_stock_to ha hk (by omega) (by omega) fun p L H1 s1 np e1 st => ?_
  wtm_at "w"
  have hlen := st.len hk.kd (by omega)
  have hpos : ∀ x ∈ L, 1 ≤ x := fun x hx => st.pos hk.kd hx
  refine u_least_rows e1 (st.lim hk.kd (by omega)) (by omega) (by omega) fun r qs H2 s2 nr er rows => ?_
  wtm_at "w"
  obtain ⟨q, hq, eq⟩ := rows.last
  refine i_ixL (sq_of er) hq ?_
  wtm_at "w"
  refine i_ixL (sq_of eq) (tab_at (i := n) rfl (by omega)) ?_
  rw [List.take_length]
  wtm_at "w"
  cases em : lrow L n with
  | none =>
    refine i_T (by simp [optV]) ?_
    wtm_at "w"
    exact hN L H2 (s1.trans s2) st em
  | some mv =>
    refine i_F (by simp [optV]) ?_
    have m0 := lrow_nn L _ _ em
    have mb := lrow_bd L hpos _ _ em
    obtain ⟨m, rfl⟩ : ∃ m : Nat, mv = (m : Int) := ⟨mv.toNat, by omega⟩
    wtm_at "w"
    refine i_new (by simp) fun l nl => ?_
    wtm_at "w"
    refine i_lenL (sq_of (upd_old nl (s2 _ _ e1))) ?_
    rw [List.length_map]
    wtm_at "w"
    have s12 := s1.trans s2
    have s3 : Same H (upd H2 l (.lst [])) := s12.trans (same_new nl)
    have s23 : Same H2 (upd H2 l (.lst [])) := same_new nl
    have nl0 := s12.free nl
    refine i_while (FuT H2 a p r l L (greedy L m L.length n) n) m ⟨[], L.length, n, _, rfl, s23, upd_same, by simp; omega, ⟨rfl, by rw [List.take_length]; exact em, Nat.le_refl _, Nat.le_refl _⟩⟩ ?_
    rintro c σ H4 ⟨fs, top, n', y7, rfl, s4, el, hfl, gi⟩
    wtm_at "w"
    refine i_ite (fun hgt => ?_) (fun hgt => ?_)
    · refine i_turn ?_
      obtain ⟨c, rfl⟩ : ∃ c', c = c' + 1 := ⟨c - 1, by omega⟩
      wtm_at "w"
      have htop := gi.t
      refine i_rngA1 (by omega) ?_
      rw [Int.toNat_natCast]
      obtain ⟨j0, hj0⟩ := gi.ex hpos
      have ec : ((c + 1 : Nat) : Int) - 1 = (c : Int) := by omega
      rw [ec]
      have rows4 := rows.same s4
      refine lk_range (fun i σ H' => ∃ y7, σ = [some (.ref a), some (.int n'), some (.ref p), some (.ref r), some (.int c), some (.ref l), some (.int top), y7] ∧ H' = H4 ∧ ∀ j < i, uOk L n' c j = false) ⟨_, rfl, rfl, fun j hj => absurd hj (Nat.not_lt_zero _)⟩ ?_ ?_
      · rintro i σ H5 hi ⟨y7, rfl, rfl, hno⟩
        wtm_at "w"
        refine u_ok (D := ⟨fun _ _ => True, fun _ _ => True, fun _ _ => True, fun _ _ => True⟩) (j := i) rfl rfl rfl rfl (by omega) (s4 _ _ (s2 _ _ e1)) (s4 _ _ er) rows4 hpos (by omega) gi.n (fun H Q h => ⟨_, rfl, h⟩) ?_
        refine i_both (fun hok => ?_) (fun hok => ?_)
        · wtm_at "w"
          have hf : firstP (uOk L n' (c : Int)) top = some i := firstP_is hi hok hno
          have hil : i < L.length := by omega
          have gs := ints_at (S := L) (j := i) (jv := 0 + (i : Int)) (by omega) hil
          obtain ⟨u1, u2⟩ := uOk_row hok
          have hx1 := hpos _ (getD_mem hil)
          have gn := gi.n
          refine i_tyL el ?_
          wtm_at "w"
          refine i_ixL (sq_of (s4 _ _ (s2 _ _ e1))) gs ?_
          wtm_at "w"
          refine i_app el (sz_lt (by rw [List.length_map]; omega)) ?_
          have s5 := same_mut (o := .lst (fs.map V.int ++ [.int (L.getD i 0)])) s4 nl
          wtm_at "w"
          refine i_ixL (sq_of (s5 _ _ (s2 _ _ e1))) gs ?_
          wtm_at "w"
          refine ⟨c, by omega, fs ++ [L.getD i 0], i, n' - (L.getD i 0).toNat, some (.int (0 + (i : Nat))), ?_, s5, by rw [upd_same, List.map_append]; rfl, by simp; omega, gi.next hf⟩
          rw [show ((n' - (L.getD i 0).toNat : Nat) : Int) = (n' : Int) - L.getD i 0 by omega, show (0 : Int) + (i : Nat) = (i : Int) by omega]
          rfl
        · wtm_at "w"
          refine ⟨_, rfl, rfl, fun j hj => ?_⟩
          by_cases z : j = i
          · subst z; exact hok
          · exact hno j (by omega)
      · rintro σ H5 ⟨y7, rfl, rfl, hno⟩
        obtain ⟨g1, g2, _⟩ := firstP_some hj0
        rw [hno j0 g1] at g2
        cases g2
    · wtm_at "w"
      have c0 : c = 0 := by omega
      subst c0
      have gg := gi.g
      have : fs = greedy L m L.length n := by rw [← gg]; exact (List.append_nil _).symm
      subst this
      exact hY l L m H4 (s12.trans s4) nl0 st em el (by omega)
end
/-! ### a list of draws -/
theorem i_setLe {H : Hp} {a : Addr} {xs ys : List V} {i : Int} {v : V} {R : Hp → Prop} {n : Nat} (hs : H a = some (.lst xs)) (hi : ixN xs.length i = some n) (e : xs.set n v = ys) (h : R (upd H a (.lst ys))) : uSet (.ref a) (.int i) v H R := .inl ⟨a, xs, i, n, rfl, rfl, hs, hi, by rw [e]; exact h⟩
/-! ### levels of the fewest -/
/-! ### which need so many -/
def needAt (f : Nat → Int) (k : Int) : Nat → Option V := fun i => if f i = k then some (.int (i : Nat)) else none
theorem needAt_int {f : Nat → Int} {k : Int} {i : Nat} {y : V} (h : needAt f k i = some y) : y = .int (i : Nat) := by
  unfold needAt at h
  split at h
  · cases h; rfl
  · cases h
theorem need_sV {f : Nat → Int} {k : Int} {n : Nat} : (given (needAt f k) n).all sV = true := given_all fun i hi y hy => by rw [needAt_int hy]; rfl
def lastV (xs : List V) : V := (xs[xs.length - 1]?).getD .non
theorem lastV_need {f : Nat → Int} {k : Int} {n : Nat} : ∃ o, lastV (given (needAt f k) n) = optV o := by
  unfold lastV
  cases e : (given (needAt f k) n)[(given (needAt f k) n).length - 1]? with
  | none => exact ⟨none, rfl⟩
  | some y =>
    obtain ⟨i, _, h⟩ := given_mem (List.mem_of_getElem? e)
    rw [needAt_int h]
    exact ⟨some (i : Nat), rfl⟩
theorem cut_last (xs : List V) : cutV xs (some (-1)) none = xs.drop (xs.length - 1) := by
  unfold cutV
  rw [show HT.sIx xs.length xs.length none = xs.length from rfl, show HT.sIx xs.length 0 (some (-1)) = xs.length - 1 from ?_]
  · exact List.take_of_length_le (by simp)
  · show (if (-1 : Int) < 0 then ((-1 : Int) + (xs.length : Int)).toNat else min (-1 : Int).toNat xs.length) = _
    rw [if_pos (by decide)]
    omega
theorem tab_ints {n : Nat} {f : Nat → Int} : (tab n fun u => .int (f u)) = ((List.range n).map f).map V.int := by
  unfold tab; rw [List.map_map]; rfl
theorem tabI_sV {n : Nat} {f : Nat → Int} : (tab n fun u => .int (f u)).all sV = true := by rw [tab_ints]; exact ints_sV _
section
variable {G : Gx} {H : Hp} {Q : VK} {E : XK} {a : Addr} {ks : List V}
theorem u_needing {n : Nat} {k : Int} (ha : H a = some (.lst ks)) (hk : KdL ks) (h1 : n ≤ 200) (k0 : 0 ≤ k) (h : ∀ p L H', Same H H' → H p = none → StockOf ks n L → H' p = some (.lst (given (needAt (fewF L) k) (n + 1))) → Q (.ref p) H') : sp_needing G [.ref a, .int k, .int n] H Q E := by
  refine ⟨rfl, ?_⟩
  unfold t_needing
  wtm_at "w"
  refine u_fewest_to ha hk h1 fun w L H1 s1 nw st ew => ?_
  wtm_at "w"
  refine u_need_from k0 ?_
  wtm_at "w"
  refine i_enumA (sq_of ew) ?_
  refine lck_pure walk_enum (by rw [tab_len]; omega) (needAt (fewF L) k) (fun H' s => sq_of (s _ _ ew)) (fun i x H3 H4 KK NN hi s y hK hN => ?_) (fun p H3 np s3 e3 => ?_)
  · obtain ⟨T, x1, x2, rfl, nT, rfl, h1', h2'⟩ := y
    cases h1'
    rw [tab_len] at hi
    have h3 := (tab_get hi).symm.trans h2'
    cases h3
    refine g_pair ?_
    refine ⟨rfl, ?_⟩
    wtm_at "w"
    refine i_ite (fun hz => ?_) (fun hz => ?_)
    · wtm_at "w"
      exact hK _ _ (by unfold needAt; rw [if_pos hz]) (same_new nT)
    · exact hN _ (by unfold needAt; rw [if_neg hz]) (same_new nT)
  · rw [tab_len] at e3
    exact h p L H3 (s1.trans s3) (s1.free np) st e3
theorem u_greatest_needing {n : Nat} {k : Int} (ha : H a = some (.lst ks)) (hk : KdL ks) (h1 : n ≤ 200) (k0 : 0 ≤ k) (h : ∀ L H', Same H H' → StockOf ks n L → Q (lastV (given (needAt (fewF L) k) (n + 1))) H') : sp_greatest_needing G [.ref a, .int k, .int n] H Q E := by
  refine ⟨rfl, ?_⟩
  unfold t_greatest_needing
  wtm_at "w"
  refine u_needing ha hk h1 k0 fun p L H1 s1 np st e1 => ?_
  wtm_at "w"
  refine i_new (by simp) fun q nq => ?_
  refine i_eqL (sq_of (upd_old nq e1)) (sq_of upd_same) need_sV rfl ?_
  have s2 : Same H1 (upd H1 q (.lst [])) := same_new nq
  generalize upd H1 q (.lst []) = H2 at s2 ⊢
  have hh := h L H2 (s1.trans s2) st
  generalize given (needAt (fewF L) k) (n + 1) = xs at e1 hh
  wtm_at "w"
  refine i_ite (fun he => ?_) (fun he => ?_)
  · wtm_at "w"
    subst he
    exact hh
  · wtm_at "w"
    have hl : xs.length - 1 < xs.length := by
      have := List.length_pos_iff.mpr he
      omega
    refine i_ixL (sq_of (s2 _ _ e1)) (at_last (List.getElem?_eq_getElem hl)) ?_
    unfold lastV at hh
    rw [List.getElem?_eq_getElem hl] at hh
    exact hh
end
/-! ### places -/
theorem dots_zero {v : V} (hv : IsKd v) : dotsV v 0 = 0 := by
  rcases hv with ⟨s, rfl, h1, h2⟩ | rfl
  · show 0 + (s - 2) * (0 * (0 - 1) / 2) = 0
    rw [show (0 * (0 - 1) / 2 : Int) = 0 by decide]; omega
  · rfl
theorem dots_mon {v : V} (hv : IsKd v) {i j : Int} (h1 : 0 ≤ i) (h2 : i ≤ j) : dotsV v i + (j - i) ≤ dotsV v j := by
  by_cases z : i = 0
  · subst z
    rw [dots_zero hv]
    by_cases y : j = 0
    · subst y; rw [dots_zero hv]; omega
    · have := dots_ge hv (k := j) (by omega); omega
  · exact dots_le hv (by omega) h2
structure IsPl (v : V) (n k : Int) : Prop where
  one : 1 ≤ k
  up : n ≤ dotsV v k
  lo : dotsV v (k - 1) < n
theorem IsPl.uniq {v : V} (hv : IsKd v) {n k j : Int} (a : IsPl v n k) (b : IsPl v n j) : k = j := by
  have a1 := a.one
  have b1 := b.one
  have a2 := a.up
  have b2 := b.up
  have a3 := a.lo
  have b3 := b.lo
  by_cases z : k < j
  · have := dots_mon hv (i := k) (j := j - 1) (by omega) (by omega)
    omega
  · by_cases y : j < k
    · have := dots_mon hv (i := j) (j := k - 1) (by omega) (by omega)
      omega
    · omega
theorem IsPl.of {v : V} (hv : IsKd v) {n k : Int} (h1 : 1 ≤ k) (e : dotsV v k = n) : IsPl v n k := by
  refine ⟨h1, by omega, ?_⟩
  have := dots_mon hv (i := k - 1) (j := k) (by omega) (by omega)
  omega
def plV (v : V) (n k : Int) : V := if dotsV v k = n then .int k else .non
section
variable {G : Gx} {H : Hp} {Q : VK} {E : XK}
theorem u_place_in {v : V} {n : Int} (hv : IsKd v) (h0 : 1 ≤ n) (h1 : n < 2 ^ 90) (h : ∀ k, IsPl v n k → Q (plV v n k) H) : sp_place_in G [v, .int n] H Q E := by
  refine ⟨rfl, ?_⟩
  unfold t_place_in
  wtm_at "w"
  refine u_need_kind hv ?_
  wtm_at "w"
  refine u_need_from h0 ?_
  wtm_at "w"
  refine i_while (fun m σ H' => ∃ low high : Int, σ = [some v, some (.int n), some (.int low), some (.int high), none] ∧ H' = H ∧ m = (2 * n - high).toNat ∧ 0 ≤ low ∧ low < high ∧ high ≤ 2 * n ∧ dotsV v low < n) (2 * n - 1).toNat ⟨0, 1, rfl, rfl, rfl, by omega, by omega, by omega, by rw [dots_zero hv]; omega⟩ ?_
  rintro m σ H' ⟨low, high, rfl, rfl, rfl, l0, lh, hn, dl⟩
  wtm_at "w"
  refine u_dots hv (by omega) (by omega) ?_
  wtm_at "w"
  refine i_ite (fun hlt => ?_) (fun hge => ?_)
  · refine i_turn ?_
    wtm_at "w"
    have := dots_ge hv (k := high) (by omega)
    exact ⟨(2 * n - 2 * high).toNat, by omega, high, 2 * high, rfl, rfl, rfl, by omega, by omega, by omega, hlt⟩
  · wtm_at "w"
    refine i_while (fun m σ H'' => ∃ (low high : Int) (y4 : Option V), σ = [some v, some (.int n), some (.int low), some (.int high), y4] ∧ H'' = H' ∧ m = (high - low).toNat ∧ 0 ≤ low ∧ low < high ∧ high ≤ 2 * n ∧ dotsV v low < n ∧ n ≤ dotsV v high) (high - low).toNat ⟨low, high, _, rfl, rfl, rfl, l0, lh, hn, dl, by omega⟩ ?_
    rintro m σ H'' ⟨low, high, y4, rfl, rfl, rfl, l0, lh, hn, dl, dh⟩
    wtm_at "w"
    refine i_ite (fun hgt => ?_) (fun hle => ?_)
    · refine i_turn ?_
      wtm_at "w"
      refine u_dots hv (by omega) (by omega) ?_
      wtm_at "w"
      refine i_ite (fun hlt => ?_) (fun hge => ?_)
      · wtm_at "w"
        exact ⟨(high - (low + high) / 2).toNat, by omega, (low + high) / 2, high, _, rfl, rfl, rfl, by omega, by omega, by omega, hlt, dh⟩
      · wtm_at "w"
        exact ⟨((low + high) / 2 - low).toNat, by omega, low, (low + high) / 2, _, rfl, rfl, rfl, by omega, by omega, by omega, dl, by omega⟩
    · wtm_at "w"
      refine u_dots hv (by omega) (by omega) ?_
      wtm_at "w"
      have hpl : IsPl v n high := ⟨by omega, dh, by rw [show high - 1 = low by omega]; exact dl⟩
      have hh := h high hpl
      unfold plV at hh
      refine i_ite (fun he => ?_) (fun he => ?_)
      · wtm_at "w"
        rw [if_pos he] at hh
        exact hh
      · wtm_at "w"
        rw [if_neg he] at hh
        exact hh
end
/-! ### bits -/
section
variable {H : Hp} {Q : VK}
theorem i_shlN {X P : Nat} {n : Nat} {j : Int} (ej : j = (P : Int)) (hX : X < 2 ^ n) (hn : n + P ≤ 100000) (h : Q (.int ((X <<< P : Nat) : Int)) H) : uShl (.int X) (.int j) H Q := by
  subst ej
  refine i_shl (shl_ok (n := n) (by simpa using hX) (by omega)) ?_
  rw [Int.toNat_natCast, show ((X : Int) * 2 ^ P) = ((X <<< P : Nat) : Int) by rw [Nat.shiftLeft_eq]; push_cast; rfl]
  exact h
theorem i_shrN {X P : Nat} {j : Int} (ej : j = (P : Int)) (h : Q (.int ((X / 2 ^ P : Nat) : Int)) H) : uShr (.int X) (.int j) H Q := by
  subst ej
  refine i_shr (by omega) ?_
  rw [Int.toNat_natCast, show ((X : Int) / 2 ^ P) = ((X / 2 ^ P : Nat) : Int) by push_cast; rfl]
  exact h
theorem band_N {X Y : Nat} : Builtin.bitAnd (X : Int) (Y : Int) = ((X &&& Y : Nat) : Int) := by rw [bitAnd_pp (by omega) (by omega), Int.toNat_natCast, Int.toNat_natCast]
end
theorem bits_lt {X n : Nat} (h : ∀ i, n ≤ i → X.testBit i = false) : X < 2 ^ n := Nat.lt_pow_two_of_testBit X h
/-- the numbers to b that need at most c -/
structure BLev (S : List Int) (b : Nat) (c : Int) (X : Nat) : Prop where
  nn : 0 ≤ c
  bit : ∀ u, X.testBit u = true ↔ u ≤ b ∧ fewF S u ≤ c
theorem BLev.lt {S : List Int} {b : Nat} {c : Int} {X : Nat} (l : BLev S b c X) : X < 2 ^ (b + 1) := bits_lt fun i hi => by
  cases e : X.testBit i with
  | false => rfl
  | true => have := ((l.bit i).mp e).1; omega
theorem BLev.all {S : List Int} {b : Nat} {c : Int} {X : Nat} (l : BLev S b c X) : X = 2 ^ (b + 1) - 1 ↔ ∀ u ≤ b, fewF S u ≤ c := by
  constructor
  · intro h u hu
    have e : X.testBit u = true := by rw [h, Nat.testBit_two_pow_sub_one]; simp; omega
    exact ((l.bit u).mp e).2
  · intro h
    refine Nat.eq_of_testBit_eq fun i => ?_
    rw [Nat.testBit_two_pow_sub_one, Bool.eq_iff_iff, l.bit]
    simp only [decide_eq_true_eq]
    constructor
    · rintro ⟨h1, _⟩; omega
    · intro h1; exact ⟨by omega, h i (by omega)⟩
/-! ### of one kind -/
/-! ### the fewest, looked at -/
/-! ### sums as lists -/
def XS (S : List Int) (m : Nat) (t : Int) : Prop := ∃ l : List Int, (∀ x ∈ l, x ∈ S) ∧ l.length = m ∧ l.sum = t
theorem sum_erase {p : Int} : ∀ {l : List Int}, p ∈ l → (l.erase p).sum + p = l.sum
  | [], h => by cases h
  | x :: r, h => by
    rw [List.erase_cons]
    by_cases e : x = p
    · subst e; simp; omega
    · have hr : p ∈ r := by
        rcases List.mem_cons.mp h with z | z
        · exact absurd z.symm e
        · exact z
      have ih := sum_erase hr
      rw [if_neg (by simpa using e), List.sum_cons, List.sum_cons]
      omega
theorem sum_nn : ∀ {l : List Int}, (∀ x ∈ l, 1 ≤ x) → (l.length : Int) ≤ l.sum
  | [], _ => by simp
  | x :: r, h => by
    have := sum_nn (l := r) fun y hy => h y (List.mem_cons_of_mem _ hy)
    have := h x (by simp)
    rw [List.sum_cons, List.length_cons]
    omega
section
variable {S S' : List Int} {m : Nat} {t p : Int}
theorem XS.zero : XS S 0 t ↔ t = 0 := by
  constructor
  · rintro ⟨l, _, h, e⟩
    have : l = [] := List.eq_nil_of_length_eq_zero h
    subst this
    exact e.symm
  · rintro rfl
    exact ⟨[], by simp, rfl, rfl⟩
theorem XS.mono (h : ∀ x ∈ S, x ∈ S') : XS S m t → XS S' m t := by
  rintro ⟨l, h1, h2, h3⟩
  exact ⟨l, fun x hx => h x (h1 x hx), h2, h3⟩
theorem XS.cons (hm : p ∈ S) (h : XS S m (t - p)) : XS S (m + 1) t := by
  obtain ⟨l, h1, h2, h3⟩ := h
  refine ⟨p :: l, fun x hx => ?_, by simp [h2], by rw [List.sum_cons]; omega⟩
  rcases List.mem_cons.mp hx with rfl | z
  · exact hm
  · exact h1 x z
theorem XS.nn (hp : ∀ x ∈ S, 1 ≤ x) (h : XS S m t) : (m : Int) ≤ t := by
  obtain ⟨l, h1, h2, h3⟩ := h
  have := sum_nn (l := l) fun x hx => hp x (h1 x hx)
  omega
theorem XS.ex (h : XS S (m + 1) t) : ∃ p ∈ S, XS S m (t - p) := by
  obtain ⟨l, h1, h2, h3⟩ := h
  cases l with
  | nil => simp at h2
  | cons x r => exact ⟨x, h1 x (by simp), r, fun y hy => h1 y (List.mem_cons_of_mem _ hy), by simpa using h2, by rw [List.sum_cons] at h3; omega⟩
theorem XS.step (hS : ∀ x, x ∈ S' ↔ x ∈ S ∨ x = p) : XS S' (m + 1) t ↔ XS S (m + 1) t ∨ XS S' m (t - p) := by
  constructor
  · rintro ⟨l, h1, h2, h3⟩
    by_cases hp : p ∈ l
    · refine .inr ⟨l.erase p, fun x hx => h1 x (List.mem_of_mem_erase hx), ?_, ?_⟩
      · rw [List.length_erase_of_mem hp]; omega
      · have := sum_erase hp; omega
    · refine .inl ⟨l, fun x hx => ?_, h2, h3⟩
      rcases (hS x).mp (h1 x hx) with z | z
      · exact z
      · subst z; exact absurd hx hp
  · rintro (h | h)
    · exact h.mono fun x hx => (hS x).mpr (.inl hx)
    · exact h.cons ((hS p).mpr (.inr rfl))
theorem few_xs (hp : ∀ x ∈ S, 1 ≤ x) : ∀ n : Nat, (1 ≤ n → 1 ∈ S) → XS S (fewF S n).toNat n := by
  intro n
  induction n using Nat.strongRecOn with
  | ind n ih =>
    intro h1
    by_cases z : n = 0
    · subst z; rw [fewF_zero]; exact XS.zero.mpr rfl
    · have h1' := h1 (by omega)
      obtain ⟨q, a1, a2, a3, a4⟩ := fewF_ex hp h1' (n := n) (by omega)
      have := ih (n - q) (by omega) (fun _ => h1')
      have hn := fewF_nn hp h1' (n - q)
      rw [a4, show (fewF S (n - q) + 1).toNat = (fewF S (n - q)).toNat + 1 by omega]
      refine XS.cons a1 ?_
      rw [show ((n : Nat) : Int) - (q : Nat) = ((n - q : Nat) : Int) by omega]
      exact this
theorem few_min (hp : ∀ x ∈ S, 1 ≤ x) : ∀ (m n : Nat), XS S m n → fewF S n ≤ m
  | 0, n, h => by
    have := XS.zero.mp h
    have : n = 0 := by omega
    subst this
    rw [fewF_zero]; exact Int.le_refl _
  | m + 1, n, h => by
    obtain ⟨p, hm, h2⟩ := h.ex
    have h3 := h2.nn hp
    have p1 := hp p hm
    obtain ⟨q, rfl⟩ : ∃ q : Nat, p = (q : Int) := ⟨p.toNat, by omega⟩
    rw [show ((n : Nat) : Int) - (q : Nat) = ((n - q : Nat) : Int) by omega] at h2
    have := few_min hp m (n - q) h2
    have := fewF_le hp hm (n := n) (by omega)
    omega
theorem few_sub (hp : ∀ x ∈ S', 1 ≤ x) (hs : ∀ x ∈ S, x ∈ S') {n : Nat} (h1 : 1 ≤ n → 1 ∈ S) : fewF S' n ≤ fewF S n := by
  have hpS : ∀ x ∈ S, 1 ≤ x := fun x hx => hp x (hs x hx)
  have := few_min hp _ _ ((few_xs hpS n h1).mono hs)
  by_cases z : n = 0
  · subst z; rw [fewF_zero, fewF_zero]; exact Int.le_refl _
  · have := fewF_nn hpS (h1 (by omega)) n
    omega
theorem few_snocLt (hp : ∀ x ∈ S', 1 ≤ x) (h1 : 1 ∈ S) (hS : ∀ x, x ∈ S' ↔ x ∈ S ∨ x = p) {n : Nat} (hn : (n : Int) < p) : fewF S' n = fewF S n := by
  have hs : ∀ x ∈ S, x ∈ S' := fun x hx => (hS x).mpr (.inl hx)
  have hpS : ∀ x ∈ S, 1 ≤ x := fun x hx => hp x (hs x hx)
  have a := few_sub hp hs (n := n) (fun _ => h1)
  have b := few_xs hp n (fun _ => hs 1 h1)
  have c := fewF_nn hp (hs 1 h1) n
  by_cases z : (fewF S' n).toNat = 0
  · rw [z] at b
    have := XS.zero.mp b
    have : n = 0 := by omega
    subst this; rw [fewF_zero, fewF_zero]
  · obtain ⟨m, e⟩ : ∃ m, (fewF S' n).toNat = m + 1 := ⟨(fewF S' n).toNat - 1, by omega⟩
    rw [e] at b
    rcases (XS.step hS).mp b with h | h
    · have := few_min hpS _ _ h; omega
    · have := h.nn hp; omega
theorem few_snocLe (hp : ∀ x ∈ S', 1 ≤ x) (h1 : 1 ∈ S) (hS : ∀ x, x ∈ S' ↔ x ∈ S ∨ x = p) {n q : Nat} (eq : p = (q : Int)) (hn : q ≤ n) : fewF S' n = if 1 + fewF S' (n - q) < fewF S n then 1 + fewF S' (n - q) else fewF S n := by
  have hs : ∀ x ∈ S, x ∈ S' := fun x hx => (hS x).mpr (.inl hx)
  have hpS : ∀ x ∈ S, 1 ≤ x := fun x hx => hp x (hs x hx)
  have a := few_sub hp hs (n := n) (fun _ => h1)
  have b := few_xs hp n (fun _ => hs 1 h1)
  have c := fewF_nn hp (hs 1 h1) n
  have d := fewF_le hp (p := q) (n := n) (by rw [← eq]; exact (hS p).mpr (.inr rfl)) hn
  have k : fewF S n ≤ fewF S' n ∨ 1 + fewF S' (n - q) ≤ fewF S' n := by
    by_cases z : (fewF S' n).toNat = 0
    · rw [z] at b
      have := XS.zero.mp b
      have : n = 0 := by omega
      subst this; rw [fewF_zero, fewF_zero]; exact .inl (Int.le_refl _)
    · obtain ⟨m, e⟩ : ∃ m, (fewF S' n).toNat = m + 1 := ⟨(fewF S' n).toNat - 1, by omega⟩
      rw [e] at b
      rcases (XS.step hS).mp b with h | h
      · have := few_min hpS _ _ h; exact .inl (by omega)
      · rw [eq, show ((n : Nat) : Int) - (q : Nat) = ((n - q : Nat) : Int) by omega] at h
        have := few_min hp _ _ h; exact .inr (by omega)
  split <;> omega
end
theorem take_mem {S : List Int} {j : Nat} {p : Int} (h : S[j]? = some p) (x : Int) : x ∈ S.take (j + 1) ↔ x ∈ S.take j ∨ x = p := by
  rw [List.take_succ, h]
  simp
theorem few_oneone (n : Nat) : fewF [1] n = n := by
  have hp : ∀ x ∈ ([1] : List Int), 1 ≤ x := by simp
  have a := few_xs hp n (fun _ => by simp)
  obtain ⟨l, h1, h2, h3⟩ := a
  have e : ∀ {l : List Int}, (∀ x ∈ l, x ∈ ([1] : List Int)) → l.sum = l.length := by
    intro l
    induction l with
    | nil => intro _; rfl
    | cons x r ih =>
      intro h
      have hx : x = 1 := by simpa using h x (by simp)
      have := ih fun y hy => h y (List.mem_cons_of_mem _ hy)
      rw [List.sum_cons, List.length_cons]
      omega
  have := e h1
  have := fewF_nn hp (by simp) n
  omega
/-! ### the first of the fewest -/
noncomputable def fOk (S : List Int) (n : Nat) (m : Int) (j : Nat) : Bool := decide (S.getD j 0 ≤ (n : Int)) && decide (fewF (S.take (j + 1)) (n - (S.getD j 0).toNat) = m)
noncomputable def fsum (S : List Int) : Nat → Nat → List Int
  | 0, _ => []
  | m + 1, n => match firstP (fOk S n m) S.length with
    | some j => S.getD j 0 :: fsum S m (n - (S.getD j 0).toNat)
    | none => []
theorem fsum_step {S : List Int} {m n j : Nat} (h : firstP (fOk S n (m : Int)) S.length = some j) : fsum S (m + 1) n = S.getD j 0 :: fsum S m (n - (S.getD j 0).toNat) := by
  show (match firstP (fOk S n m) S.length with
    | some j => S.getD j 0 :: fsum S m (n - (S.getD j 0).toNat)
    | none => []) = _
  rw [h]
theorem fOk_of {S : List Int} {n j : Nat} {m : Int} (h : fOk S n m j = true) : S.getD j 0 ≤ (n : Int) ∧ fewF (S.take (j + 1)) (n - (S.getD j 0).toNat) = m := by
  unfold fOk at h
  rw [Bool.and_eq_true] at h
  exact ⟨of_decide_eq_true h.1, of_decide_eq_true h.2⟩
theorem getD_get {S : List Int} {j : Nat} (h : j < S.length) : S[j]? = some (S.getD j 0) := by
  rw [List.getD_eq_getElem?_getD, List.getElem?_eq_getElem h]; rfl
/-- a stock to look at: its first is 1, all from 1 on -/
structure Stk (S : List Int) : Prop where
  pos : ∀ x ∈ S, 1 ≤ x
  one : S[0]? = some 1
theorem Stk.lt {S : List Int} (k : Stk S) : 0 < S.length := by
  have := k.one
  cases S with
  | nil => simp at this
  | cons x r => simp
theorem Stk.mem1 {S : List Int} (k : Stk S) {j : Nat} : 1 ∈ S.take (j + 1) := by
  have := k.one
  cases S with
  | nil => simp at this
  | cons x r => have e : x = 1 := by simpa using this
                subst e; simp
theorem Stk.tpos {S : List Int} (k : Stk S) {j : Nat} : ∀ x ∈ S.take j, 1 ≤ x := fun x hx => k.pos x (List.mem_of_mem_take hx)
theorem Stk.mem {S : List Int} (k : Stk S) : 1 ∈ S := List.mem_of_mem_take (i := 0 + 1) k.mem1
/-- by which numbers so many come to -/
theorem fOk_xs {S : List Int} (k : Stk S) {n m j : Nat} (hj : j < S.length) (h : fOk S n m j = true) : XS (S.take (j + 1)) (m + 1) n := by
  obtain ⟨h1, h2⟩ := fOk_of h
  have hp := k.pos _ (getD_mem hj)
  have a := few_xs (k.tpos (j := j + 1)) (n - (S.getD j 0).toNat) (fun _ => k.mem1)
  rw [h2, Int.toNat_natCast] at a
  refine XS.cons (p := S.getD j 0) ((take_mem (getD_get hj) _).mpr (.inr rfl)) ?_
  rw [show (n : Int) - S.getD j 0 = ((n - (S.getD j 0).toNat : Nat) : Int) by omega]
  exact a
theorem xs_fOk {S : List Int} (k : Stk S) {n m j : Nat} (hj : j < S.length) (hn : fewF S n = ((m + 1 : Nat) : Int)) (h : XS (S.take (j + 1)) (m + 1) n) (h2 : ¬ XS (S.take j) (m + 1) n) : fOk S n m j = true := by
  have hp := k.pos _ (getD_mem hj)
  rcases (XS.step (take_mem (getD_get hj))).mp h with z | z
  · exact absurd z h2
  · have hn1 := z.nn k.tpos
    rw [show (n : Int) - S.getD j 0 = ((n - (S.getD j 0).toNat : Nat) : Int) by omega] at z
    have a := few_min k.tpos _ _ z
    have b := few_sub k.pos (S := S.take (j + 1)) (fun x hx => List.mem_of_mem_take hx) (n := n - (S.getD j 0).toNat) (fun _ => k.mem1)
    have c := fewF_le k.pos (p := (S.getD j 0).toNat) (n := n) (by rw [show (((S.getD j 0).toNat : Nat) : Int) = S.getD j 0 by omega]; exact getD_mem hj) (by omega)
    unfold fOk
    rw [Bool.and_eq_true]
    exact ⟨decide_eq_true (by omega), decide_eq_true (by omega)⟩
/-- the first place by either look -/
theorem first_xs {S : List Int} (k : Stk S) {n m : Nat} (hn : fewF S n = ((m + 1 : Nat) : Int)) {P : Nat → Bool} (hP : ∀ j, j < S.length → (P j = true ↔ XS (S.take (j + 1)) (m + 1) n)) : ∃ j, j < S.length ∧ firstP P S.length = some j ∧ firstP (fOk S n m) S.length = some j := by
  have hl := k.lt
  have n0 : n ≠ 0 := fun z => by subst z; rw [fewF_zero] at hn; omega
  have a := few_xs k.pos n (fun _ => k.mem)
  rw [hn, Int.toNat_natCast] at a
  have hlast : P (S.length - 1) = true := (hP _ (by omega)).mpr (by rw [show S.length - 1 + 1 = S.length by omega, List.take_length]; exact a)
  obtain ⟨j, hj⟩ := firstP_ex (P := P) (t := S.length) (by omega) hlast
  obtain ⟨b1, b2, b3⟩ := firstP_some hj
  refine ⟨j, b1, hj, firstP_is b1 (xs_fOk k b1 hn ((hP j b1).mp b2) fun z => ?_) fun i hi => ?_⟩
  · cases j with
    | zero =>
      obtain ⟨p, hp, _⟩ := z.ex
      simp at hp
    | succ i => have := (hP i (by omega)).mpr z; rw [b3 i (by omega)] at this; cases this
  · cases e : fOk S n m i with
    | false => rfl
    | true =>
      have := (hP i (by omega)).mpr (fOk_xs k (by omega) e)
      rw [b3 i hi] at this; cases this
theorem first_ok {S : List Int} (k : Stk S) {n m : Nat} (hn : fewF S n = ((m + 1 : Nat) : Int)) : ∃ j, j < S.length ∧ firstP (fOk S n m) S.length = some j := by
  classical
  obtain ⟨j, h1, _, h2⟩ := first_xs k hn (P := fun j => decide (XS (S.take (j + 1)) (m + 1) n)) (fun j _ => by simp)
  exact ⟨j, h1, h2⟩
/-- what is left behind a part of the fewest -/
theorem fOk_left {S : List Int} (k : Stk S) {n m j : Nat} (hj : j < S.length) (hn : fewF S n = ((m + 1 : Nat) : Int)) (h : fOk S n m j = true) : fewF S (n - (S.getD j 0).toNat) = (m : Int) := by
  obtain ⟨h1, h2⟩ := fOk_of h
  have hp := k.pos _ (getD_mem hj)
  have b := few_sub k.pos (S := S.take (j + 1)) (fun x hx => List.mem_of_mem_take hx) (n := n - (S.getD j 0).toNat) (fun _ => k.mem1)
  have c := fewF_le k.pos (p := (S.getD j 0).toNat) (n := n) (by rw [show (((S.getD j 0).toNat : Nat) : Int) = S.getD j 0 by omega]; exact getD_mem hj) (by omega)
  omega
theorem few_pos {S : List Int} (k : Stk S) {n : Nat} (h : 0 < n) : ∃ m : Nat, fewF S n = ((m + 1 : Nat) : Int) := by
  have := fewF_pos k.pos k.mem (n := n) h
  exact ⟨(fewF S n).toNat - 1, by omega⟩
theorem Stk.of {ks : List V} {b : Int} {L : List Int} (hL : StockOf ks b L) (hk : KdL ks) (hb : 1 ≤ b) : Stk L := by
  have hp : ∀ x ∈ L, 1 ≤ x := fun x hx => hL.pos hk.kd hx
  refine ⟨hp, ?_⟩
  have h1 := stock_one hL hk hb
  have up := hL.up
  cases L with
  | nil => cases h1
  | cons x r =>
    have hx := hp x (by simp)
    rcases List.mem_cons.mp h1 with e | e
    · rw [← e]; rfl
    · have := (List.pairwise_cons.mp up).1 1 e
      omega
/-! ### rows of rows -/
structure QRows (H : Hp) (qs : List Addr) (f : Nat → Nat → V) (i w : Nat) : Prop where
  len : qs.length = i
  row : ∀ j q, qs[j]? = some q → H q = some (.lst (tab w (f j)))
section
variable {H H' : Hp} {qs : List Addr} {f : Nat → Nat → V} {i w : Nat}
theorem QRows.same (r : QRows H qs f i w) (s : Same H H') : QRows H' qs f i w := ⟨r.len, fun j q h => s _ _ (r.row j q h)⟩
theorem QRows.at {j : Nat} {jv : Int} (r : QRows H qs f i w) (e : jv = (j : Int)) (hj : j < i) : ∃ q, atI (qs.map V.ref) jv = some (.ref q) ∧ H q = some (.lst (tab w (f j))) := by
  have h : j < qs.length := by have := r.len; omega
  exact ⟨qs[j], at_nat e (by rw [List.getElem?_map, List.getElem?_eq_getElem h]; rfl), r.row j _ (List.getElem?_eq_getElem h)⟩
theorem QRows.last (r : QRows H qs f (i + 1) w) : ∃ q, atI (qs.map V.ref) (-1) = some (.ref q) ∧ H q = some (.lst (tab w (f i))) := by
  have h : i < qs.length := by have := r.len; omega
  refine ⟨qs[i], at_last ?_, r.row i _ (List.getElem?_eq_getElem h)⟩
  rw [List.length_map, r.len, List.getElem?_map, Nat.add_sub_cancel, List.getElem?_eq_getElem h]; rfl
theorem QRows.snoc {x : Addr} (c : QRows H qs f i w) (k : ∀ q ∈ qs, ∀ o, H q = some o → H' q = some o) (e : H' x = some (.lst (tab w (f i)))) : QRows H' (qs ++ [x]) f (i + 1) w := by
  refine ⟨by simp [c.len], fun j q hj => ?_⟩
  by_cases z : j < qs.length
  · rw [List.getElem?_append_left z] at hj
    exact k q (List.mem_of_getElem? hj) _ (c.row j q hj)
  · rw [List.getElem?_append_right (by omega)] at hj
    have z2 : j - qs.length = 0 := by
      by_cases y : j - qs.length = 0
      · exact y
      · rw [List.getElem?_eq_none (by simp; omega)] at hj; cases hj
    rw [z2] at hj
    have : x = q := by simpa using hj
    subst this
    rw [e, show j = i by have := c.len; omega]
theorem QRows.keep (c : QRows H qs f i w) (k : ∀ q ∈ qs, ∀ o, H q = some o → H' q = some o) : QRows H' qs f i w := ⟨c.len, fun j q h => k q (List.mem_of_getElem? h) _ (c.row j q h)⟩
theorem QRows.old (c : QRows H qs f i w) : ∀ q ∈ qs, ∃ o, H q = some o := fun q hq => by
  obtain ⟨j, hj, rfl⟩ := List.mem_iff_getElem.mp hq
  exact ⟨_, c.row j _ (List.getElem?_eq_getElem hj)⟩
theorem QRows.ne (c : QRows H qs f i w) {x : Addr} (n : H x = none) : ∀ q ∈ qs, q ≠ x := fun q hq => by
  obtain ⟨o, e⟩ := c.old q hq
  exact ne_of_none e n
theorem QRows.nil : QRows H [] f 0 w := ⟨rfl, fun j q h => by simp at h⟩
end
/-! ### == of lists of lists of ints -/
def dLL (rs : List (List Int)) : PyData := .list (rs.map fun r => .list (r.map PyData.int))
theorem toD_ints (ns : List Int) : (ns.map V.int).map toD = ns.map PyData.int := by
  rw [List.map_map]; rfl
theorem shaped_LL (rs : List (List Int)) : SeqAt.shaped (dLL rs) = true := by
  have h1 : ∀ r : List Int, (PyData.list (r.map PyData.int)).canLay0 = true ∧ (PyData.list (r.map PyData.int)).depth = 1 := fun r => by
    have := layAll_sV (ints_sV r)
    rw [toD_ints] at this
    simp [PyData.canLay0, PyData.depth, this.1, this.2]
  have h2 : ∀ rs : List (List Int), PyData.canLayAll0 (rs.map fun r => .list (r.map PyData.int)) = true ∧ PyData.depthAll (rs.map fun r => .list (r.map PyData.int)) ≤ 1 := by
    intro rs
    induction rs with
    | nil => simp [PyData.canLayAll0, PyData.depthAll]
    | cons r q ih => 
      have a := h1 r
      refine ⟨by simp only [List.map_cons, PyData.canLayAll0, a.1, ih.1, Bool.and_true], ?_⟩
      simp only [List.map_cons, PyData.depthAll, a.2]
      omega
  have a := h2 rs
  unfold SeqAt.shaped dLL
  simp only [PyData.canLay0, PyData.depth, a.1, Bool.true_and]
  simp
  omega
theorem dp_ints {K : Fg} {H : Hp} {p : Addr} {ns : List Int} (h : SqL K H p (ns.map V.int)) : Dp K H (.ref p) (.list (ns.map PyData.int)) := by
  have := dpAll_sV (K := K) (H := H) (ints_sV ns)
  rw [toD_ints] at this
  exact .lst h this
theorem dpAll_LL {K : Fg} {H : Hp} : ∀ {qs : List Addr} {rs : List (List Int)}, qs.length = rs.length → (∀ (j : Nat) (q : Addr) (r : List Int), qs[j]? = some q → rs[j]? = some r → SqL K H q (r.map V.int)) → DpAll K H (qs.map V.ref) (rs.map fun (r : List Int) => PyData.list (r.map PyData.int))
  | [], [], _, _ => .nil
  | [], _ :: _, h, _ => by simp at h
  | _ :: _, [], h, _ => by simp at h
  | q :: qs, r :: rs, hl, h => .cons (dp_ints (h 0 q r rfl rfl)) (dpAll_LL (by simpa using hl) fun j q' r' h1 h2 => h (j + 1) q' r' h1 h2)
theorem i_eqG {K : Fg} {H : Hp} {Q : VK} {x y : V} {d e : PyData} (h1 : Dp K H x d) (h2 : Dp K H y e) (s1 : SeqAt.shaped d = true) (s2 : SeqAt.shaped e = true) (h : Q (.bl (PyData.eqv d e)) H) : uEq K x y H Q := .inr ⟨d, e, h1, h2, s1, s2, h⟩
theorem i_neG {K : Fg} {H : Hp} {Q : VK} {x y : V} {d e : PyData} (h1 : Dp K H x d) (h2 : Dp K H y e) (s1 : SeqAt.shaped d = true) (s2 : SeqAt.shaped e = true) (h : Q (.bl (!PyData.eqv d e)) H) : uNe K x y H Q := .inr ⟨d, e, h1, h2, s1, s2, h⟩
/-- xs == [] where xs are rows of ints -/
theorem i_eqRows0 {K : Fg} {H : Hp} {Q : VK} {p e : Addr} {qs : List Addr} {f : Nat → Nat → Int} {i w : Nat} (h1 : H p = some (.lst (qs.map V.ref))) (r : QRows H qs (fun j u => .int (f j u)) i w) (h2 : H e = some (.lst [])) (h : Q (.bl (decide (i = 0))) H) : uEq K (.ref p) (.ref e) H Q := by
  have hr := r.len
  have d := dpAll_LL (K := K) (H := H) (qs := qs) (rs := (List.range i).map fun j => (List.range w).map (f j)) (by simp [hr]) (fun j q rr a b => by
    rw [List.getElem?_map] at b
    obtain ⟨j', hj, rfl⟩ := Option.map_eq_some_iff.mp b
    have hj' : j' = j := by
      have := List.getElem?_eq_some_iff.mp hj
      obtain ⟨z, zz⟩ := this
      rw [List.getElem_range] at zz; exact zz.symm
    subst hj'
    have := r.row _ q a
    rw [tab_ints] at this
    exact sq_of this)
  refine i_eqG (.lst (sq_of h1) d) (.lst (sq_of h2) .nil) (shaped_LL _) (shaped_LL []) ?_
  have e : PyData.eqv (.list (((List.range i).map fun j => (List.range w).map (f j)).map fun r => PyData.list (r.map PyData.int))) (.list []) = decide (i = 0) := by
    cases i with
    | zero => simp [PyData.eqv, PyData.eqvAll]
    | succ i => simp [PyData.eqv, PyData.eqvAll, List.range_succ_eq_map]
  rw [e]
  exact h
/-! ### tables of the fewest -/
noncomputable def ftab (S : List Int) (j u : Nat) : Int := fewF (S.take (j + 1)) u
noncomputable def tmix (S : List Int) (i p k : Nat) : Nat → V := fun u => .int (if u < p + k then ftab S (i + 1) u else ftab S i u)
section
variable {G : Gx} {H : Hp} {Q : VK} {E : XK} {a : Addr} {ks : List V}
theorem rg_tab (n : Nat) : rgV 0 (n : Int) = tab n fun u => .int (u : Nat) := by
  unfold rgV tab
  rw [show ((n : Int) - 0).toNat = n by omega]
  refine List.map_congr_left fun i _ => ?_
  rw [show (0 : Int) + (i : Nat) = (i : Nat) by omega]
theorem i_lstRg1 {σ : L2.St} {te : TE} (h : te σ H fun x H1 => ∃ n : Int, x = .int n ∧ RgOk 0 n ∧ ∀ p, H1 p = none → Q (.ref p) (upd H1 p (.lst (rgV 0 n)))) : tLstRg (tRg1 te) σ H Q := h
theorem ftab_zero {S : List Int} (k : Stk S) (u : Nat) : ftab S 0 u = u := by
  have := k.one
  unfold ftab
  cases S with
  | nil => simp at this
  | cons x r =>
    have e : x = 1 := by simpa using this
    subst e
    exact few_oneone u
theorem ftab_lt {S : List Int} (k : Stk S) {i P u : Nat} (hp : S[i + 1]? = some (P : Int)) (hu : u < P) : ftab S (i + 1) u = ftab S i u :=
  few_snocLt (S' := S.take (i + 1 + 1)) (S := S.take (i + 1)) k.tpos k.mem1 (take_mem hp) (by omega)
theorem ftab_le {S : List Int} (k : Stk S) {i P u : Nat} (hp : S[i + 1]? = some (P : Int)) : ftab S (i + 1) (P + u) = if 1 + ftab S (i + 1) u < ftab S i (P + u) then 1 + ftab S (i + 1) u else ftab S i (P + u) := by
  have := few_snocLe (S' := S.take (i + 1 + 1)) (S := S.take (i + 1)) k.tpos k.mem1 (take_mem hp) (n := P + u) (q := P) rfl (by omega)
  rw [Nat.add_sub_cancel_left] at this
  exact this
def TbO (H : Hp) (a r : Addr) (S : List Int) (n : Nat) (i : Nat) (σ : L2.St) (H' : Hp) : Prop := ∃ qs y3 y4, σ = [some (.ref a), some (.int n), some (.ref r), y3, y4] ∧ Same H H' ∧ H' r = some (.lst (qs.map V.ref)) ∧ (∀ q ∈ qs, q ≠ r) ∧ QRows H' qs (fun j u => .int (ftab S j u)) i (n + 1)
def TbI (H : Hp) (a r w : Addr) (S : List Int) (qs : List Addr) (n i P : Nat) (k : Nat) (σ : L2.St) (H' : Hp) : Prop := ∃ y4, σ = [some (.ref a), some (.int n), some (.ref r), some (.int P), y4] ∧ Same H H' ∧ H' r = some (.lst ((qs ++ [w]).map V.ref)) ∧ QRows H' qs (fun j u => .int (ftab S j u)) (i + 1) (n + 1) ∧ H' w = some (.lst (tab (n + 1) (tmix S i P k)))
theorem u_tables_of {S : List Int} {n : Nat} (ha : H a = some (.lst (S.map V.int))) (k : S = [] ∨ Stk S) (hS : ∀ x ∈ S, 1 ≤ x ∧ x ≤ 1000) (hn : n ≤ 900) (hl : S.length ≤ 1000)
    (h : ∀ r qs H', Same H H' → H r = none → H' r = some (.lst (qs.map V.ref)) → QRows H' qs (fun j u => .int (ftab S j u)) S.length (n + 1) → Q (.ref r) H') : sp_tables_of G [.ref a, .int n] H Q E := by
  refine ⟨rfl, ?_⟩
  unfold t_tables_of
  wtm_at "w"
  refine i_new (by simp) fun r nr => ?_
  have s0 : Same H (upd H r (.lst [])) := same_new nr
  wtm_at "w"
  refine i_lstA (sq_of (s0 _ _ ha)) ?_
  refine lk_list (TbO H a r S n) ⟨[], _, _, rfl, s0, upd_same, by simp, QRows.nil⟩ (fun i σ H' _ ⟨_, _, _, _, s, _⟩ => sq_of (s _ _ ha)) ?_ ?_
  · rintro i x σ H1 hi ⟨qs, y3, y4, rfl, s1, er, hr, rows⟩
    rw [List.getElem?_map] at hi
    obtain ⟨p, hp, rfl⟩ := Option.map_eq_some_iff.mp hi
    have hp1 := hS p (List.mem_of_getElem? hp)
    have st : Stk S := k.resolve_left fun z => by subst z; simp at hp
    obtain ⟨P, rfl⟩ : ∃ P : Nat, p = (P : Int) := ⟨p.toNat, by omega⟩
    have hil : i < S.length := (List.getElem?_eq_some_iff.mp hp).1
    wtm_at "w"
    refine i_new (by simp) fun e ne => ?_
    refine i_eqRows0 (upd_old ne er) (rows.same (same_new ne)) upd_same ?_
    have s2 : Same H (upd H1 e (.lst [])) := s1.trans (same_new ne)
    have s12 : Same H1 (upd H1 e (.lst [])) := same_new ne
    have er2 := s12 _ _ er
    have rows2 := rows.same s12
    generalize upd H1 e (.lst []) = H2 at s2 s12 er2 rows2 ⊢
    wtm_at "w"
    refine i_ite (fun hz => ?_) (fun hz => ?_)
    · subst hz
      have hq : qs = [] := List.eq_nil_of_length_eq_zero rows.len
      subst hq
      wtm_at "w"
      refine i_tyL er2 ?_
      wtm_at "w"
      refine i_lstRg1 ?_
      · wtm_at "w"
        refine ⟨RgOk.of_le (by omega) (by omega) (by omega) (by omega), fun w nw => ?_⟩
        rw [show (n : Int) + 1 = ((n + 1 : Nat) : Int) by omega, rg_tab]
        wtm_at "w"
        refine i_app (upd_old nw er2) (sz_lt (by simp)) ?_
        have hwr : w ≠ r := (ne_of_none er2 nw).symm
        refine ⟨[w], _, _, rfl, same_mut (s2.trans (same_new nw)) nr, upd_same, fun q hq => by rw [List.mem_singleton.mp hq]; exact hwr, ?_⟩
        refine ⟨rfl, fun j q hj => ?_⟩
        have hj0 : j = 0 := by
          have := (List.getElem?_eq_some_iff.mp hj).1
          simp at this; exact this
        subst hj0
        have : w = q := by simpa using hj
        subst this
        rw [upd_ne hwr, upd_same]
        refine congrArg (fun z => some (HO.lst z)) (tab_ext fun u hu => ?_)
        rw [ftab_zero st]
    · obtain ⟨i, rfl⟩ : ∃ i', i = i' + 1 := ⟨i - 1, by omega⟩
      wtm_at "w"
      refine i_tyL er2 ?_
      wtm_at "w"
      obtain ⟨q0, hq0, eq0⟩ := rows2.last
      refine i_ixL (sq_of er2) hq0 ?_
      wtm_at "w"
      refine i_ulist (sq_of eq0) fun w nw => ?_
      wtm_at "w"
      have hwr : w ≠ r := (ne_of_none er2 nw).symm
      have hql := rows2.len
      refine i_app (upd_old nw er2) (sz_lt (by rw [List.length_map]; omega)) ?_
      have nw0 : H w = none := s2.free nw
      have s3 : Same H (upd (upd H2 w (.lst (tab (n + 1) fun u => .int (ftab S i u)))) r (.lst (qs.map V.ref ++ [.ref w]))) := same_mut (s2.trans (same_new nw)) nr
      have rows3 : QRows (upd (upd H2 w (.lst (tab (n + 1) fun u => .int (ftab S i u)))) r (.lst (qs.map V.ref ++ [.ref w]))) qs (fun j u => .int (ftab S j u)) (i + 1) (n + 1) := rows2.keep fun q hq o e => by
        rw [upd_ne (hr q hq)]; exact upd_old nw e
      have er3 : (upd (upd H2 w (.lst (tab (n + 1) fun u => .int (ftab S i u)))) r (.lst (qs.map V.ref ++ [.ref w]))) r = some (.lst ((qs ++ [w]).map V.ref)) := by rw [upd_same, List.map_append]; rfl
      have ew3 : (upd (upd H2 w (.lst (tab (n + 1) fun u => .int (ftab S i u)))) r (.lst (qs.map V.ref ++ [.ref w]))) w = some (.lst (tab (n + 1) fun u => .int (ftab S i u))) := by rw [upd_ne hwr, upd_same]
      have hqw : ∀ q ∈ qs, q ≠ w := rows2.ne nw
      generalize upd (upd H2 w (.lst (tab (n + 1) fun u => .int (ftab S i u)))) r (.lst (qs.map V.ref ++ [.ref w])) = H3 at s3 rows3 er3 ew3 ⊢
      have hlast : atI ((qs ++ [w]).map V.ref) (-1) = some (.ref w) := at_last (by simp)
      wtm_at "w"
      refine i_rngA2 (by omega) ?_
      rw [show ((n : Int) + 1 - (P : Int)).toNat = n + 1 - P by omega]
      refine lk_range (TbI H a r w S qs n i P) ⟨_, rfl, s3, er3, rows3, ?_⟩ ?_ ?_
      · rw [ew3]
        refine congrArg (fun z => some (HO.lst z)) (tab_ext fun u hu => ?_)
        unfold tmix
        split
        · rw [ftab_lt st hp (by omega)]
        · rfl
      · rintro t σ H4 ht ⟨y4, rfl, s4, er4, rows4, ew4⟩
        have g1 : atI (tab (n + 1) (tmix S i P t)) ((P : Int) + (t : Nat)) = some (.int (ftab S i (P + t))) := by
          rw [tab_at (i := P + t) (by omega) (by omega)]
          unfold tmix; rw [if_neg (by omega)]
        have g2 : atI (tab (n + 1) (tmix S i P t)) ((P : Int) + (t : Nat) - P) = some (.int (ftab S (i + 1) t)) := by
          rw [tab_at (i := t) (by omega) (by omega)]
          unfold tmix; rw [if_pos (by omega)]
        wtm_at "w"
        refine i_ixL (sq_of er4) hlast ?_
        wtm_at "w"
        refine i_ixL (sq_of ew4) g1 ?_
        wtm_at "w"
        refine i_ixL (sq_of er4) hlast ?_
        wtm_at "w"
        refine i_ixL (sq_of ew4) g2 ?_
        wtm_at "w"
        refine i_ixL (sq_of er4) hlast ?_
        wtm_at "w"
        rw [← ftab_le st hp]
        refine i_setLe ew4 (n := P + t) (ys := tab (n + 1) (tmix S i P (t + 1))) (by rw [tab_len]; exact ixN_nat (by omega) (by omega)) ?_ ?_
        · rw [tab_set]
          refine tab_ext fun u hu => ?_
          unfold tmix
          by_cases z : u = P + t
          · rw [if_pos z, if_pos (by omega), z]
          · rw [if_neg z]
            by_cases y : u < P + t
            · rw [if_pos y, if_pos (by omega)]
            · rw [if_neg y, if_neg (by omega)]
        · exact ⟨_, rfl, same_mut s4 nw0, by rw [upd_ne hwr.symm]; exact er4, rows4.keep fun q hq o e => by rw [upd_ne (hqw q hq)]; exact e, upd_same⟩
      · rintro σ H4 ⟨y4, rfl, s4, er4, rows4, ew4⟩
        wtm_at "w"
        refine ⟨qs ++ [w], _, _, rfl, s4, er4, fun q hq => ?_, rows4.snoc (fun _ _ _ e => e) ?_⟩
        · rcases List.mem_append.mp hq with z | z
          · exact hr q z
          · rw [List.mem_singleton.mp z]; exact hwr
        · rw [ew4]
          refine congrArg (fun z => some (HO.lst z)) (tab_ext fun u hu => ?_)
          unfold tmix
          rw [if_pos (by omega)]
  · rintro σ H1 ⟨qs, y3, y4, rfl, s1, er, hr, rows⟩
    wtm_at "w"
    rw [List.length_map] at rows
    exact h r qs H1 s1 nr er rows
end
/-! ### the first sum -/
structure FsI (S G0 fs : List Int) (c left N : Nat) : Prop where
  g : fs ++ fsum S c left = G0
  f : fewF S left = (c : Int)
  n : left ≤ N
  l : fs.length + c ≤ N
theorem FsI.next {S G0 fs : List Int} {c left N j : Nat} (k : Stk S) (i : FsI S G0 fs (c + 1) left N) (hj : firstP (fOk S left (c : Int)) S.length = some j) : FsI S G0 (fs ++ [S.getD j 0]) c (left - (S.getD j 0).toNat) N := by
  obtain ⟨a, b, _⟩ := firstP_some hj
  refine ⟨?_, fOk_left k a i.f b, by have := i.n; omega, by have := i.l; simp; omega⟩
  have := i.g
  rw [fsum_step hj] at this
  rw [List.append_assoc]; exact this
theorem FsI.ex {S G0 fs : List Int} {c left N : Nat} (k : Stk S) (i : FsI S G0 fs (c + 1) left N) : ∃ j, j < S.length ∧ firstP (fOk S left (c : Int)) S.length = some j := first_ok k i.f
theorem FsI.pos {S G0 fs : List Int} {c left N : Nat} (k : Stk S) (i : FsI S G0 fs c left N) (h : 0 < left) : ∃ c', c = c' + 1 := by
  obtain ⟨m, hm⟩ := few_pos k h
  have := i.f
  exact ⟨m, by omega⟩
section
variable {G : Gx} {H : Hp} {Q : VK} {E : XK} {a : Addr} {ks : List V}
theorem u_first_sum {n : Nat} (ha : H a = some (.lst ks)) (hk : KdL ks) (h1 : n ≤ 200)
    (h : ∀ p L H', Same H H' → H p = none → StockOf ks n L → H' p = some (.lst ((fsum L (fewF L n).toNat n).map V.int)) → (fsum L (fewF L n).toNat n).length ≤ 200 → Q (.ref p) H') : sp_first_sum G [.ref a, .int n] H Q E := by
  refine ⟨rfl, ?_⟩
  unfold t_first_sum
  have hk5 := hk.hi
  wtm_at "w"
  refine u_need_kinds ha hk fun H1 s1 => ?_
  wtm_at "w"
  refine u_need_to_most (by omega) (by omega) ?_
  wtm_at "w"
  refine u_stock_of (sq_of (s1 _ _ ha)) hk.kd (by omega) (by omega) (by omega) fun sp L H2 s2 nsp e2 hL => ?_
  have hlen := hL.len hk.kd (by omega)
  have hlim := hL.lim hk.kd (by omega)
  have st : 1 ≤ n → Stk L := fun z => Stk.of hL hk (by omega)
  wtm_at "w"
  refine u_tables_of e2 ?_ hlim (by omega) (by omega) fun r qs H3 s3 nr er rows => ?_
  · by_cases z : 1 ≤ n
    · exact .inr (st z)
    · refine .inl (List.eq_nil_of_length_eq_zero (by omega))
  wtm_at "w"
  refine i_new (by simp) fun l nl => ?_
  wtm_at "w"
  have s03 := (s1.trans s2).trans s3
  have e3 := s3 _ _ e2
  have nl0 := s03.free nl
  have s4 : Same H3 (upd H3 l (.lst [])) := same_new nl
  have fin : ∀ (w : Nat), fewF L n = (w : Int) → tSeq (tWhile (tTest (tOp uGt (tVar 5) (tC (.int 0)))) (tSeq (tAug 6 (tC (.int 1)) (ipI fun i j => i - j))
      (tSeq (tAsg (tC (.int 0)) (gName 7))
      (tSeq (tWhile (tOr (tTest (tOp uGt (tOp (uIx G.K) (tVar 2) (tVar 7)) (tVar 5))) (tTest (tOp (uNe G.K) (tOp (uIx G.K) (tOp (uIx G.K) (tVar 3) (tVar 7)) (tOp uSub (tVar 5) (tOp (uIx G.K) (tVar 2) (tVar 7)))) (tVar 6)))) (tAug 7 (tC (.int 1)) (ipI fun i j => i + j)))
      (tSeq (tDrop (tBM G.K "list" rAppend (tVar 4) (tCons (tOp (uIx G.K) (tVar 2) (tVar 7)) tNil)))
      (tAug 5 (tOp (uIx G.K) (tVar 2) (tVar 7)) (ipI fun i j => i - j)))))))
      (tRet (tVar 4)) { nx := fun _ H' => Q .non H', rt := Q } [some (.ref a), some (.int n), some (.ref sp), some (.ref r), some (.ref l), some (.int n), some (.int w), none] (upd H3 l (.lst [])) := fun w hw => by
    wtm_at "w"
    have hwn : w ≤ n := by
      by_cases z : n = 0
      · subst z; rw [fewF_zero] at hw; omega
      · have := fewF_bd (st (by omega)).pos (st (by omega)).mem n; omega
    refine i_while (fun c σ H' => ∃ (fs : List Int) (left : Nat) (y7 : Option V), σ = [some (.ref a), some (.int n), some (.ref sp), some (.ref r), some (.ref l), some (.int left), some (.int (c : Nat)), y7] ∧ Same H3 H' ∧ H' l = some (.lst (fs.map V.int)) ∧ FsI L (fsum L w n) fs c left n) w ⟨[], n, _, rfl, s4, upd_same, ⟨rfl, hw, Nat.le_refl _, by simp; omega⟩⟩ ?_
    rintro c σ H4 ⟨fs, left, y7, rfl, s4, el, fi⟩
    wtm_at "w"
    refine i_ite (fun hgt => ?_) (fun hgt => ?_)
    · have hn1 : 1 ≤ n := by have := fi.n; omega
      have k := st hn1
      obtain ⟨c, rfl⟩ := fi.pos k (by omega)
      obtain ⟨j0, hj0, ff⟩ := fi.ex k
      obtain ⟨_, fok, fno⟩ := firstP_some ff
      have hfl := fi.l
      have hln := fi.n
      refine i_turn ?_
      wtm_at "w"
      have ec : ((c + 1 : Nat) : Int) - 1 = (c : Int) := by omega
      rw [ec]
      refine i_while (fun m σ H' => ∃ (t : Nat), σ = [some (.ref a), some (.int n), some (.ref sp), some (.ref r), some (.ref l), some (.int left), some (.int (c : Nat)), some (.int t)] ∧ H' = H4 ∧ t ≤ j0 ∧ m = j0 - t) j0 ⟨0, rfl, rfl, Nat.zero_le _, rfl⟩ ?_
      rintro m σ H5 ⟨t, rfl, rfl, htj, rfl⟩
      have htl : t < L.length := by omega
      have gs := ints_at (S := L) (j := t) (jv := (t : Int)) rfl htl
      have hpt := k.pos _ (getD_mem htl)
      wtm_at "w"
      refine i_orP (b1 := decide ((left : Int) < L.getD t 0)) (b2 := !decide (ftab L t (left - (L.getD t 0).toNat) = (c : Int))) (fun QB h => ?_) (fun hb QB h => ?_) ?_
      · wtm_at "w"
        refine i_ixL (sq_of (s4 _ _ e3)) gs ?_
        wtm_at "w"
        exact h
      · have hb' : L.getD t 0 ≤ (left : Int) := by have := of_decide_eq_false hb; omega
        obtain ⟨q, hq, eq⟩ := (rows.same s4).at (j := t) (jv := (t : Int)) rfl htl
        wtm_at "w"
        refine i_ixL (sq_of (s4 _ _ er)) hq ?_
        wtm_at "w"
        refine i_ixL (sq_of (s4 _ _ e3)) gs ?_
        wtm_at "w"
        refine i_ixL (sq_of eq) (tab_at (i := left - (L.getD t 0).toNat) (by omega) (by omega)) ?_
        wtm_at "w"
        exact h
      have eb : (decide ((left : Int) < L.getD t 0) || !decide (ftab L t (left - (L.getD t 0).toNat) = (c : Int))) = !fOk L left (c : Int) t := by
        unfold fOk ftab
        rw [Bool.not_and]
        congr 1
        rw [Bool.eq_iff_iff]; simp
      rw [eb]
      refine i_both (fun hno => ?_) (fun hok => ?_)
      · refine i_turn ?_
        wtm_at "w"
        have hne : t ≠ j0 := fun z => by subst z; rw [fok] at hno; cases hno
        refine ⟨j0 - (t + 1), by omega, t + 1, rfl, rfl, by omega, rfl⟩
      · have hok' : fOk L left (c : Int) t = true := by simpa using hok
        have htj0 : t = j0 := by
          by_cases z : t < j0
          · rw [fno t z] at hok'; cases hok'
          · omega
        subst htj0
        obtain ⟨o1, o2⟩ := fOk_of hok'
        wtm_at "w"
        refine i_tyL el ?_
        wtm_at "w"
        refine i_ixL (sq_of (s4 _ _ e3)) gs ?_
        wtm_at "w"
        refine i_app el (sz_lt (by rw [List.length_map]; omega)) ?_
        have s5 := same_mut (o := .lst (fs.map V.int ++ [.int (L.getD t 0)])) s4 nl
        wtm_at "w"
        refine i_ixL (sq_of (s5 _ _ e3)) gs ?_
        wtm_at "w"
        refine ⟨c, by omega, fs ++ [L.getD t 0], left - (L.getD t 0).toNat, some (.int t), ?_, s5, by rw [upd_same, List.map_append]; rfl, fi.next k ff⟩
        rw [show ((left - (L.getD t 0).toNat : Nat) : Int) = (left : Int) - L.getD t 0 by omega]
        rfl
    · wtm_at "w"
      have hl0 : left = 0 := by omega
      subst hl0
      have c0 : c = 0 := by have := fi.f; rw [fewF_zero] at this; omega
      subst c0
      have gg := fi.g
      have e : fs = fsum L w n := by rw [← gg]; exact (List.append_nil _).symm
      subst e
      have hfl := fi.l
      have ew : (fewF L n).toNat = w := by omega
      exact h l L H4 (s03.trans s4) nl0 hL (by rw [ew]; exact el) (by rw [ew]; omega)
  refine i_ite (fun hgt => ?_) (fun hgt => ?_)
  · have hn1 : 1 ≤ n := by omega
    have k := st hn1
    have kl := k.lt
    obtain ⟨z, ez⟩ : ∃ z, L.length = z + 1 := ⟨L.length - 1, by omega⟩
    rw [ez] at rows
    obtain ⟨q, hq, eq⟩ := rows.last
    wtm_at "w"
    refine i_ixL (sq_of (s4 _ _ er)) hq ?_
    wtm_at "w"
    refine i_ixL (sq_of (s4 _ _ eq)) (tab_at (i := n) rfl (by omega)) ?_
    obtain ⟨m, hm⟩ := few_pos k (n := n) (by omega)
    rw [show ftab L z n = ((m + 1 : Nat) : Int) by rw [← hm]; unfold ftab; rw [← ez, List.take_length]]
    exact fin (m + 1) hm
  · have hn0 : n = 0 := by omega
    subst hn0
    wtm_at "w"
    exact fin 0 (fewF_zero _)
end
/-! ### so many parts, as bits -/
/-! ### the fewest, reckoned -/
/-! ### papers -/
def Pap (S : List Int) (n : Nat) (m : Int) (f : Nat → Int) : Prop := 0 ≤ m ∧ f 0 = 0 ∧ m ≤ f n ∧ ∀ i j : Nat, 1 ≤ i → i ≤ n → (j : Int) ∈ S → j ≤ i → f i ≤ f (i - j) + 1
theorem Pap.sound {S : List Int} {n : Nat} {m : Int} {f : Nat → Int} (hp : ∀ p ∈ S, 1 ≤ p) (h1 : 1 ≤ n → 1 ∈ S) (h : Pap S n m f) : m ≤ fewF S n := by
  obtain ⟨_, h0, hm, hs⟩ := h
  have key : ∀ i, i ≤ n → f i ≤ fewF S i := by
    intro i
    induction i using Nat.strongRecOn with
    | ind i ih =>
      intro hi
      by_cases z : i = 0
      · subst z; rw [h0, fewF_zero]; exact Int.le_refl _
      · obtain ⟨p, a1, a2, a3, a4⟩ := fewF_ex hp (h1 (by omega)) (n := i) (by omega)
        have := ih (i - p) (by omega) (by omega)
        have := hs i p (by omega) hi a1 a2
        omega
  have := key n (Nat.le_refl _)
  omega
theorem Pap.few {S : List Int} {n : Nat} {m : Int} (hp : ∀ p ∈ S, 1 ≤ p) (h0 : 0 ≤ m) (hm : m ≤ fewF S n) : Pap S n m (fewF S) :=
  ⟨h0, fewF_zero _, hm, fun i j _ _ hj hji => fewF_le hp hj hji⟩
theorem Pap.sub {S S' : List Int} {n : Nat} {m : Int} {f : Nat → Int} (hs : ∀ x ∈ S', x ∈ S) (h : Pap S n m f) : Pap S' n m f := ⟨h.1, h.2.1, h.2.2.1, fun i j a b c d => h.2.2.2 i j a b (hs _ c) d⟩
section
variable {G : Gx} {H : Hp} {Q : VK} {E : XK} {a t : Addr} {ks : List V}
theorem u_paper_shows {n : Nat} {m : Int} {f : Nat → Int} (ha : H a = some (.lst ks)) (hk : KdL ks) (hn : n ≤ 200) (ht : H t = some (.lst (tab (n + 1) fun u => .int (f u)))) (hm : 0 ≤ m)
    (h : ∀ L b H', Same H H' → StockOf ks n L → (b = true ↔ Pap L n m f) → Q (.bl b) H') : sp_paper_shows G [.ref a, .int n, .int m, .ref t] H Q E := by
  refine ⟨rfl, ?_⟩
  unfold t_paper_shows
  wtm_at "w"
  refine u_stock_to ha hk (by omega) (by omega) fun sp L H1 s1 nsp e1 hL => ?_
  have hp : ∀ p ∈ L, 1 ≤ p := fun p hm => hL.pos hk.kd hm
  have hlen := hL.len hk.kd (by omega)
  have ht1 := s1 _ _ ht
  have no : ∀ H', Same H H' → ¬ Pap L n m f → Q (.bl false) H' := fun H' s hn => h L false H' s hL ⟨fun z => (by cases z), fun z => absurd z hn⟩
  wtm_at "wa"
  refine u_is_whole_int ?_
  wtm_at "wa"
  refine i_F (by simp; omega) ?_
  wtm_at "wa"
  refine i_isiLL ht1 ?_
  wtm_at "wa"
  refine i_lenL (sq_of ht1) ?_
  rw [tab_len]
  wtm_at "wa"
  refine i_F (by simp) ?_
  wtm_at "wa"
  refine i_lstA (sq_of ht1) ?_
  refine lck_pure walk_list (by rw [tab_len]; omega) (fun _ => none) (fun H' s => sq_of (s _ _ ht1)) (fun i x H5 H6 KK NN hi s y hK hN => ?_) (fun p H2 np s2 e2 => ?_)
  · obtain ⟨rfl, hx⟩ := y
    rw [tab_len] at hi
    have h3 := (tab_get hi).symm.trans hx
    cases h3
    wtm_at "wa"
    refine ⟨rfl, ?_⟩
    wtm_at "wa"
    refine u_is_whole_int ?_
    wtm_at "wa"
    exact hN _ rfl (fun _ _ z => z)
  · rw [given_none] at e2
    wtm_at "w"
    refine i_new (by simp) fun q nq => ?_
    refine i_neL (xs := []) (ys := []) (sq_of (upd_old nq e2)) (sq_of upd_same) rfl rfl ?_
    wtm_at "wa"
    have s3 : Same H1 (upd H2 q (.lst [])) := s2.trans (same_new nq)
    generalize upd H2 q (.lst []) = H3 at s3 ⊢
    have s03 := s1.trans s3
    have ht3 := s3 _ _ ht1
    refine i_ixL (sq_of ht3) (tab_at (i := 0) rfl (by omega)) ?_
    wtm_at "wa"
    refine i_iteN (fun h0 => ?_) (fun h0 => ?_)
    · wtm_at "wa"
      refine i_ixL (sq_of ht3) (tab_at (i := n) rfl (by omega)) ?_
      wtm_at "wa"
      refine i_ite (fun hlt => ?_) (fun hlt => ?_)
      · wtm_at "wa"
        exact no _ s03 fun z => by have := z.2.2.1; omega
      · wtm_at "wa"
        refine i_rngA2 (by omega) ?_
        rw [show ((n : Int) + 1 - 1).toNat = n by omega]
        refine lk_range (fun i σ H' => ∃ y5 y6 y7, σ = [some (.ref a), some (.int n), some (.int m), some (.ref t), some (.ref sp), y5, y6, y7] ∧ H' = H3 ∧ ∀ i' j : Nat, 1 ≤ i' → i' ≤ i → (j : Int) ∈ L → j ≤ i' → f i' ≤ f (i' - j) + 1) ⟨_, _, _, rfl, rfl, fun i' j z1 z2 => by omega⟩ ?_ ?_
        · rintro i σ H4 hi ⟨y5, y6, y7, rfl, rfl, hok⟩
          wtm_at "w"
          refine i_lstA (sq_of (s3 _ _ e1)) ?_
          refine lk_list (fun j σ H' => ∃ y6 y7, σ = [some (.ref a), some (.int n), some (.int m), some (.ref t), some (.ref sp), some (.int (1 + (i : Nat))), y6, y7] ∧ H' = H4 ∧ ∀ p ∈ L.take j, p ≤ ((i + 1 : Nat) : Int) → f (i + 1) ≤ f (i + 1 - p.toNat) + 1) ⟨_, _, rfl, rfl, fun p hp => by simp at hp⟩ (fun i σ H' _ ⟨_, _, _, e, _⟩ => by rw [e]; exact sq_of (s3 _ _ e1)) ?_ ?_
          · rintro j x σ H5 hj ⟨y6, y7, rfl, rfl, hok2⟩
            rw [List.getElem?_map] at hj
            obtain ⟨p, hpj, rfl⟩ := Option.map_eq_some_iff.mp hj
            have hpm := List.mem_of_getElem? hpj
            have hp1 := hp p hpm
            wtm_at "wa"
            refine i_ite (fun hle => ?_) (fun hle => ?_)
            · wtm_at "wa"
              refine i_ixL (sq_of ht3) (tab_at (i := i + 1) (by omega) (by omega)) ?_
              wtm_at "wa"
              refine i_ixL (sq_of ht3) (tab_at (i := i + 1 - p.toNat) (by omega) (by omega)) ?_
              wtm_at "wa"
              refine i_ite (fun hgt => ?_) (fun hgt => ?_)
              · wtm_at "wa"
                exact no _ s03 fun z => by
                  have := z.2.2.2 (i + 1) p.toNat (by omega) (by omega) (by rw [show (p.toNat : Int) = p by omega]; exact hpm) (by omega)
                  omega
              · wtm_at "wa"
                refine ⟨_, _, rfl, rfl, fun p' hp' hle' => ?_⟩
                rcases (take_mem hpj p').mp hp' with z | z
                · exact hok2 p' z hle'
                · subst z; omega
            · wtm_at "wa"
              refine ⟨_, _, rfl, rfl, fun p' hp' hle' => ?_⟩
              rcases (take_mem hpj p').mp hp' with z | z
              · exact hok2 p' z hle'
              · subst z; omega
          · rintro σ H5 ⟨y6, y7, rfl, rfl, hok2⟩
            rw [List.length_map, List.take_length] at hok2
            refine ⟨_, _, _, rfl, rfl, fun i' j z1 z2 z3 z4 => ?_⟩
            by_cases z : i' = i + 1
            · subst z
              have := hok2 j z3 (by omega)
              rw [Int.toNat_natCast] at this
              exact this
            · exact hok i' j z1 (by omega) z3 z4
        · rintro σ H4 ⟨y5, y6, y7, rfl, rfl, hok⟩
          wtm_at "w"
          exact h L true _ s03 hL ⟨fun _ => ⟨hm, by omega, by omega, hok⟩, fun _ => rfl⟩
    · wtm_at "wa"
      exact no _ s03 fun z => h0 z.2.1
def revA (K : Fg) (x : V) (H : Hp) (Q : VK) : Prop := ∃ a xs, x = .ref a ∧ SqL K H a xs ∧ ∀ p, H p = none → Q (.ref p) (upd H p (.lst xs.reverse))
theorem i_revL {σ : L2.St} {te : TE} (h : te σ H fun x H1 => revA G.K x H1 Q) : tRevL G.K te σ H Q := h
theorem i_revA {K : Fg} {xs : List V} (hs : SqL K H a xs) (h : ∀ p, H p = none → Q (.ref p) (upd H p (.lst xs.reverse))) : revA K (.ref a) H Q := ⟨a, xs, rfl, hs, h⟩
end
/-! ### given lists -/
theorem cut_takeA {xs : List V} {n : Nat} : cutV xs none (some (n : Int)) = xs.take n := by
  unfold cutV
  rw [show HT.sIx xs.length 0 none = 0 from HT.sIx_none _ _, HT.sIx_nat]
  by_cases h : n ≤ xs.length
  · simp [Nat.min_eq_left h]
  · simp [Nat.min_eq_right (show xs.length ≤ n by omega)]
    rw [List.take_of_length_le (by omega)]
theorem cut_dropA {xs : List V} {n : Nat} : cutV xs (some (n : Int)) none = xs.drop n := by
  unfold cutV
  rw [show HT.sIx xs.length xs.length none = xs.length from HT.sIx_none _ _, HT.sIx_nat]
  by_cases h : n ≤ xs.length
  · rw [Nat.min_eq_left h, List.take_of_length_le]
    simp
  · rw [Nat.min_eq_right (show xs.length ≤ n by omega), List.drop_of_length_le (show xs.length ≤ n by omega), List.drop_of_length_le (Nat.le_refl _)]
    simp
theorem given_tab {g : Nat → V} : ∀ {n : Nat}, given (fun i => some (g i)) n = tab n g
  | 0 => rfl
  | n + 1 => by
    show given (fun i => some (g i)) n ++ [g n] = _
    rw [given_tab, tab_snoc rfl]
theorem KdL.rv {ks : List V} (h : KdL ks) : KdL ks.reverse := ⟨fun v hv => h.kd v (List.mem_reverse.mp hv), by unfold List.Nodup; rw [List.pairwise_reverse]; exact h.nd.imp fun z => z.symm, by rw [List.length_reverse]; exact h.lo, by rw [List.length_reverse]; exact h.hi⟩
theorem StockOf.cong {ks ks' : List V} {b : Int} {L : List Int} (h : StockOf ks b L) (hs : ∀ v, v ∈ ks ↔ v ∈ ks') : StockOf ks' b L := ⟨h.up, fun x => by
  rw [h.mem]
  unfold IsDot
  constructor
  · rintro ⟨h1, v, h2, h3⟩; exact ⟨h1, v, (hs v).mp h2, h3⟩
  · rintro ⟨h1, v, h2, h3⟩; exact ⟨h1, v, (hs v).mpr h2, h3⟩⟩
theorem StockOf.sub {ks ks' : List V} {b : Int} {L L' : List Int} (h : StockOf ks b L) (h' : StockOf ks' b L') (hs : ∀ v ∈ ks, v ∈ ks') : ∀ x ∈ L, x ∈ L' := fun x hx => by
  obtain ⟨h1, v, h2, h3⟩ := (h.mem x).mp hx
  exact (h'.mem x).mpr ⟨h1, v, hs v h2, h3⟩
theorem StockOf.few {ks : List V} {n : Nat} {L : List Int} (h : StockOf ks n L) (hk : KdL ks) : 0 ≤ fewF L n ∧ fewF L n ≤ n := by
  by_cases z : n = 0
  · subst z; rw [fewF_zero]; omega
  · have k := Stk.of h hk (by omega)
    exact ⟨fewF_nn k.pos k.mem n, fewF_bd k.pos k.mem n⟩
theorem StockOf.pap {ks : List V} {n : Nat} {L : List Int} {m : Int} {f : Nat → Int} (h : StockOf ks n L) (hk : KdL ks) (p : Pap L n m f) : m ≤ fewF L n := p.sound (fun x hx => h.pos hk.kd hx) (fun z => stock_one h hk (by omega))
/-- the rest of the kinds -/
theorem rest_ne {ks : List V} (h : ks.length ≤ 10) : (kinds11.filter fun v => decide (v ∉ ks)) ≠ [] := fun e => by
  have hsub : ∀ v ∈ kinds11, v ∈ ks := fun v hv => by
    by_cases z : v ∈ ks
    · exact z
    · have : v ∈ kinds11.filter fun v => decide (v ∉ ks) := List.mem_filter.mpr ⟨hv, decide_eq_true z⟩
      rw [e] at this; cases this
  have := List.Nodup.length_le_of_subset kinds11_nd hsub
  simp [kinds11] at this
  omega
theorem KdL.more {ks : List V} {v : V} (h : KdL ks) (h4 : ks.length ≤ 4) (hv : v ∈ kinds11.filter fun v => decide (v ∉ ks)) : KdL (ks ++ [v]) := by
  obtain ⟨h1, h2⟩ := List.mem_filter.mp hv
  have h2 := of_decide_eq_true h2
  refine ⟨fun w hw => ?_, ?_, by simp, by simp; omega⟩
  · rcases List.mem_append.mp hw with z | z
    · exact h.kd w z
    · rw [List.mem_singleton.mp z]; exact kinds11_kd h1
  · rw [List.nodup_append]
    refine ⟨h.nd, by simp, fun a ha b hb => ?_⟩
    rw [List.mem_singleton.mp hb]
    exact fun z => h2 (z ▸ ha)
section
variable {G : Gx} {H : Hp} {Q : VK} {E : XK} {a : Addr} {ks : List V}
theorem u_need_paperA {n : Nat} (ha : H a = some (.lst ks)) (hk : KdL ks) (h1 : n ≤ 200) (h : ∀ p L H', Same H H' → H p = none → StockOf ks n L → H' p = some (.lst (tab (n + 1) fun u => .int (fewF L u))) → Q (.ref p) H') : sp_need_paper G [.ref a, .int n] H Q E := by
  refine ⟨rfl, ?_⟩
  unfold t_need_paper
  wtm_at "w"
  exact u_fewest_to ha hk h1 h
/-- [kind for kind in all kinds if kind not in kinds] -/
theorem lc_rest {σ : L2.St} {iv ik : Nat} {p : Addr} (h2 : ∀ x, ((wipe σ [iv]).set iv (some x))[iv]? = some (some x)) (h4 : ∀ x, ((wipe σ [iv]).set iv (some x))[ik]? = some (some (.ref a))) (h3 : ∀ x, wipe ((wipe σ [iv]).set iv (some x)) [iv] = wipe σ [iv])
    (e : H p = some (.lst kinds11)) (ha : H a = some (.lst ks)) (hk : ∀ v ∈ ks, IsKd v) (h : ∀ q H', Same H H' → H q = none → H' q = some (.lst (kinds11.filter fun v => decide (v ∉ ks))) → Q (.ref q) H') :
    LcK (Itl G.K p) (gName iv) (tTest (tOp (uNotIn G.K) (tVar iv) (tVar ik))) (tVar iv) [iv] σ H Q := by
  refine lck_pure walk_list (by decide) (fun i => (kinds11[i]?).bind fun v => if v ∈ ks then none else some v) (fun H' s => sq_of (s _ _ e)) (fun i x H3 H4 KK NN hi s y hK hN => ?_) (fun q H5 nq s5 eq => ?_)
  · obtain ⟨rfl, hx⟩ := y
    have hxk := kinds11_kd (List.mem_of_getElem? hx)
    wtm_at "w"
    refine ⟨h3 _, ?_⟩
    wtm_at "w"
    refine i_var (h2 _) ?_
    refine i_var (h4 _) ?_
    refine i_ninL (sq_of (s _ _ ha)) (kd_flat hxk) (kds_flat hk) ?_
    rw [inV_kd hxk hk]
    wtm_at "w"
    refine i_iteN (fun hz => ?_) (fun hz => ?_)
    · exact hN _ (by rw [hx]; show (if x ∈ ks then none else some x) = none; rw [if_pos hz]) (fun _ _ z => z)
    · refine i_var (h2 _) ?_
      exact hK _ _ (by rw [hx]; show (if x ∈ ks then none else some x) = some x; rw [if_neg hz]) (fun _ _ z => z)
  · rw [given_list] at eq
    refine h q H5 s5 nq ?_
    rw [eq]
    congr 2
    have : ∀ l : List V, l.filterMap (fun v => if v ∈ ks then none else some v) = l.filter fun v => decide (v ∉ ks) := by
      intro l
      induction l with
      | nil => rfl
      | cons x r ih =>
        by_cases z : x ∈ ks
        · rw [List.filterMap_cons_none (by rw [if_pos z]), List.filter_cons_of_neg (by simpa using z), ih]
        · rw [List.filterMap_cons_some (by rw [if_neg z]), List.filter_cons_of_pos (by simpa using z), ih]
    exact this _
end
/-! ### a Keeper -/
def kfs (ol : Addr) (b : Int) : List (Str × V) := putF "bound" (.int b) (putF "own" (.ref ol) [])
theorem kfs_own (ol : Addr) (b : Int) : (kfs ol b).lookup ("own" : Str) = some (.ref ol) := by
  unfold kfs
  rw [lookup_putF, if_neg (by decide +kernel), lookup_putF, if_pos rfl]
theorem kfs_bound (ol : Addr) (b : Int) : (kfs ol b).lookup ("bound" : Str) = some (.int b) := by
  unfold kfs
  rw [lookup_putF, if_pos rfl]
theorem kfs_no (ol : Addr) (b : Int) {m : Str} (h1 : ¬ m = "bound") (h2 : ¬ m = "own") : (kfs ol b).lookup m = none := by
  unfold kfs
  rw [lookup_putF, if_neg h1, lookup_putF, if_neg h2]
  rfl
structure Kpr (C : Addr) (H : Hp) (kk ol : Addr) (b : Nat) (ks : List V) : Prop where
  o : ∃ dx, H kk = some (.ins C dx (kfs ol b))
  l : H ol = some (.lst ks)
theorem Kpr.same {C : Addr} {H H' : Hp} {kk ol : Addr} {b : Nat} {ks : List V} (k : Kpr C H kk ol b ks) (s : Same H H') : Kpr C H' kk ol b ks := by
  obtain ⟨dx, e⟩ := k.o
  exact ⟨⟨dx, s _ _ e⟩, s _ _ k.l⟩
theorem Kpr.ne {C : Addr} {H : Hp} {kk ol : Addr} {b : Nat} {ks : List V} (k : Kpr C H kk ol b ks) : kk ≠ ol := fun z => by
  obtain ⟨dx, e⟩ := k.o
  have := k.l
  rw [← z, e] at this
  cases this
theorem Kpr.keep {R : Addr → Prop} {C : Addr} {H H' : Hp} {kk ol : Addr} {b : Nat} {ks : List V} (k : Kpr C H kk ol b ks) (s : Keep R H H') (h1 : ¬ R kk) (h2 : ¬ R ol) : Kpr C H' kk ol b ks := by
  obtain ⟨dx, e⟩ := k.o
  exact ⟨⟨dx, s _ _ h1 e⟩, s _ _ h2 k.l⟩
/-- the most that is needed -/
structure IsMost (L : List Int) (b : Nat) (m : Int) : Prop where
  ex : ∃ u ≤ b, fewF L u = m
  ge : ∀ u ≤ b, fewF L u ≤ m
theorem IsMost.uniq {L : List Int} {b : Nat} {m n : Int} (x : IsMost L b m) (y : IsMost L b n) : m = n := by
  obtain ⟨u, hu, e⟩ := x.ex
  obtain ⟨v, hv, f⟩ := y.ex
  have := x.ge v hv
  have := y.ge u hu
  omega
section
variable {G : Gx} {H : Hp} {Q : VK} {E : XK} {kk ol : Addr} {ks : List V} {b : Nat}
theorem i_maxTab {K : Fg} {p : Addr} {f : Nat → Int} {L : List Int} (e : H p = some (.lst (tab (b + 1) fun u => .int (fewF L u)))) (h : ∀ m, IsMost L b m → Q (.int m) H) : uMax K [.ref p] H Q := by
  refine i_maxL (ns := (List.range (b + 1)).map (fewF L)) (by rw [← tab_ints]; exact sq_of e) (by simp) fun m h1 h2 => ?_
  obtain ⟨u, hu, rfl⟩ := List.mem_map.mp h1
  exact h _ ⟨⟨u, by have := List.mem_range.mp hu; omega, rfl⟩, fun v hv => h2 _ (List.mem_map.mpr ⟨v, List.mem_range.mpr (by omega), rfl⟩)⟩
theorem u_Keeper_needs (k : Kpr (G.C "Keeper") H kk ol b ks) (hk : KdL ks) (hb : b ≤ 200) (h : ∀ p L H', Same H H' → H p = none → StockOf ks b L → H' p = some (.lst (tab (b + 1) fun u => .int (fewF L u))) → Q (.ref p) H') : sp_Keeper_needs G [.ref kk] H Q E := by
  refine ⟨rfl, ?_⟩
  unfold t_Keeper_needs
  obtain ⟨dx, e⟩ := k.o
  have hk5 := hk.hi
  wtm_at "w"
  refine i_flA e (kfs_own _ _) ?_
  wtm_at "w"
  refine i_flA e (kfs_bound _ _) ?_
  wtm_at "w"
  refine u_stock_of (sq_of k.l) hk.kd (by omega) (by omega) (by omega) fun sp L H1 s1 nsp e1 hL => ?_
  wtm_at "w"
  refine i_flA (s1 _ _ e) (kfs_bound _ _) ?_
  wtm_at "w"
  have hlen := hL.len hk.kd (by omega)
  refine u_fewest_by e1 (fun p hp => hL.pos hk.kd hp) (fun z => stock_one hL hk (by omega)) (by omega) (by omega) fun p H2 s2 np e2 => ?_
  exact h p L H2 (s1.trans s2) (s1.free np) hL e2
theorem u_Keeper_kinds (k : Kpr (G.C "Keeper") H kk ol b ks) (h : ∀ p, H p = none → Q (.ref p) (upd H p (.lst ks))) : sp_Keeper_kinds G [.ref kk] H Q E := by
  refine ⟨rfl, ?_⟩
  unfold t_Keeper_kinds
  obtain ⟨dx, e⟩ := k.o
  wtm_at "w"
  refine i_flA e (kfs_own _ _) ?_
  wtm_at "w"
  exact i_ulist (sq_of k.l) h
theorem u_Keeper_stock (k : Kpr (G.C "Keeper") H kk ol b ks) (hk : KdL ks) (hb : b ≤ 200) (h : ∀ p L H', Same H H' → H p = none → H' p = some (.lst (L.map V.int)) → StockOf ks b L → Q (.ref p) H') : sp_Keeper_stock G [.ref kk] H Q E := by
  refine ⟨rfl, ?_⟩
  unfold t_Keeper_stock
  obtain ⟨dx, e⟩ := k.o
  have hk5 := hk.hi
  wtm_at "w"
  refine i_flA e (kfs_own _ _) ?_
  wtm_at "w"
  refine i_flA e (kfs_bound _ _) ?_
  wtm_at "w"
  exact u_stock_of (sq_of k.l) hk.kd (by omega) (by omega) (by omega) h
theorem u_Keeper_fewest {n : Nat} (k : Kpr (G.C "Keeper") H kk ol b ks) (hk : KdL ks) (hb : b ≤ 200) (hn : n ≤ b) (h : ∀ L H', Same H H' → StockOf ks b L → Q (.int (fewF L n)) H') : sp_Keeper_fewest G [.ref kk, .int n] H Q E := by
  refine ⟨rfl, ?_⟩
  unfold t_Keeper_fewest
  obtain ⟨dx, e⟩ := k.o
  wtm_at "wa"
  refine u_is_whole_int ?_
  wtm_at "wa"
  refine i_flA e (kfs_bound _ _) ?_
  wtm_at "wa"
  rw [decide_eq_true (show (n : Int) ≤ (b : Int) by omega)]
  wtm_at "wa"
  refine i_mtA e (kfs_no _ _ (by decide +kernel) (by decide +kernel)) ?_
  wtm_at "wa"
  refine u_Keeper_needs k hk hb fun p L H1 s1 np hL e1 => ?_
  wtm_at "wa"
  refine i_ixL (sq_of e1) (tab_at (i := n) rfl (by omega)) ?_
  exact h L H1 s1 hL
theorem mostOf {L : List Int} {m : Int} (hL : StockOf ks b L) (hk : KdL ks) (h : IsMost L b m) : 0 ≤ m ∧ m ≤ b := by
  obtain ⟨u, hu, e⟩ := h.ex
  by_cases z : u = 0
  · subst z; rw [fewF_zero] at e; omega
  · have h1 := stock_one hL hk (by omega)
    have hp : ∀ x ∈ L, 1 ≤ x := fun x hx => hL.pos hk.kd hx
    have := fewF_nn hp h1 u
    have := fewF_bd hp h1 u
    omega
theorem keep_same {R : Addr → Prop} {H0 H H' : Hp} (k : Keep R H0 H) (s : Same H H') : Keep R H0 H' := fun a o n e => s _ _ (k a o n e)
theorem u_Keeper_come {v : V} (k : Kpr (G.C "Keeper") H kk ol b ks) (hk : KdL ks) (hb : b ≤ 200) (h4 : ks.length ≤ 4) (hv : IsKd v) (hkv : KdL (ks ++ [v])) (h : ∀ T L L' m m' H', Keep (fun a => a = ol) H H' → Kpr (G.C "Keeper") H' kk ol b (ks ++ [v]) → H T = none → H' T = some (.tup [.int m, .int m']) → StockOf ks b L → IsMost L b m → StockOf (ks ++ [v]) b L' → IsMost L' b m' → Q (.ref T) H') : sp_Keeper_come G [.ref kk, v] H Q E := by
  refine ⟨rfl, ?_⟩
  unfold t_Keeper_come
  obtain ⟨dx, e⟩ := k.o
  have hno : v ∉ ks := fun z => by
    have := hkv.nd
    rw [List.nodup_append] at this
    exact this.2.2 v z v (by simp) rfl
  wtm_at "w"
  refine i_flA e (kfs_own _ _) ?_
  wtm_at "w"
  refine i_lenL (sq_of k.l) ?_
  wtm_at "w"
  refine i_F (by simp; omega) ?_
  wtm_at "wa"
  refine u_is_kind hv ?_
  wtm_at "wa"
  refine i_flA e (kfs_own _ _) ?_
  refine i_inL (sq_of k.l) (kd_flat hv) (kds_flat hk.kd) ?_
  rw [inV_kd hv hk.kd, decide_eq_false hno]
  wtm_at "wa"
  refine i_mtA e (kfs_no _ _ (by decide +kernel) (by decide +kernel)) ?_
  wtm_at "wa"
  refine u_Keeper_needs k hk hb fun p L H1 s1 np hL e1 => ?_
  wtm_at "wa"
  refine i_maxTab (f := fewF L) e1 fun m hm => ?_
  wtm_at "wa"
  have k1 := k.same s1
  refine i_flA (s1 _ _ e) (kfs_own _ _) ?_
  refine i_tyL k1.l ?_
  wtm_at "wa"
  refine i_app k1.l (sz_lt (by omega)) ?_
  have kp2 : Keep (fun a => a = ol) H (upd H1 ol (.lst (ks ++ [v]))) := keep_in (fun a o _ z => s1 a o z) rfl
  have e2 : (upd H1 ol (.lst (ks ++ [v]))) kk = some (.ins (G.C "Keeper") dx (kfs ol b)) := upd_oth k.ne (s1 _ _ e)
  have k2 : Kpr (G.C "Keeper") (upd H1 ol (.lst (ks ++ [v]))) kk ol b (ks ++ [v]) := ⟨⟨dx, e2⟩, upd_same⟩
  generalize upd H1 ol (.lst (ks ++ [v])) = H2 at kp2 e2 k2 ⊢
  wtm_at "wa"
  refine i_mtA e2 (kfs_no _ _ (by decide +kernel) (by decide +kernel)) ?_
  wtm_at "wa"
  refine u_Keeper_needs k2 hkv hb fun p3 L3 H3 s3 np3 hL3 e3 => ?_
  wtm_at "wa"
  refine i_maxTab (f := fewF L3) e3 fun m3 hm3 => ?_
  wtm_at "wa"
  refine i_new (by simp) fun T nT => ?_
  have kp3 := keep_same kp2 s3
  refine h T L L3 m m3 _ (keep_same kp3 (same_new nT)) ((k2.same s3).same (same_new nT)) ?_ upd_same hL hm hL3 hm3
  cases eT : H T with
  | none => rfl
  | some o =>
    by_cases z : T = ol
    · subst z
      rw [s3 _ _ k2.l] at nT; cases nT
    · rw [kp3 T o z eT] at nT; cases nT
theorem u_Keeper_go {j : Nat} {v : V} (k : Kpr (G.C "Keeper") H kk ol b ks) (hk : KdL ks) (hb : b ≤ 200) (h2 : 2 ≤ ks.length) (hj : ks[j]? = some v) (hkv : KdL (ks.eraseIdx j)) (h : ∀ T L L' m m' H', Keep (fun a => a = ol) H H' → Kpr (G.C "Keeper") H' kk ol b (ks.eraseIdx j) → H T = none → H' T = some (.tup [.int m, .int m']) → StockOf ks b L → IsMost L b m → StockOf (ks.eraseIdx j) b L' → IsMost L' b m' → Q (.ref T) H') : sp_Keeper_go G [.ref kk, v] H Q E := by
  refine ⟨rfl, ?_⟩
  unfold t_Keeper_go
  obtain ⟨dx, e⟩ := k.o
  have hm := List.mem_of_getElem? hj
  have hv := hk.kd v hm
  have hk5 := hk.hi
  wtm_at "wa"
  refine u_is_kind hv ?_
  wtm_at "wa"
  refine i_flA e (kfs_own _ _) ?_
  refine i_ninL (sq_of k.l) (kd_flat hv) (kds_flat hk.kd) ?_
  rw [inV_kd hv hk.kd, decide_eq_true hm]
  wtm_at "wa"
  refine i_flA e (kfs_own _ _) ?_
  wtm_at "wa"
  refine i_lenL (sq_of k.l) ?_
  wtm_at "wa"
  refine i_F (by simp; omega) ?_
  wtm_at "wa"
  refine i_mtA e (kfs_no _ _ (by decide +kernel) (by decide +kernel)) ?_
  wtm_at "wa"
  refine u_Keeper_needs k hk hb fun p L H1 s1 np hL e1 => ?_
  wtm_at "wa"
  refine i_maxTab (f := fewF L) e1 fun m hm => ?_
  wtm_at "wa"
  have k1 := k.same s1
  refine i_flA (s1 _ _ e) (kfs_own _ _) ?_
  refine i_tyL k1.l ?_
  wtm_at "wa"
  refine i_rmV (j := j) k1.l (kd_flat hv) (kds_flat hk.kd) hj (by rw [eqV_kd hv hv]; simp) (fun q z' hq hz' => ?_) ?_
  · rw [eqV_kd (hk.kd _ (List.mem_of_getElem? hz')) hv]
    refine decide_eq_false fun z => ?_
    subst z
    obtain ⟨q1, q2⟩ := List.getElem?_eq_some_iff.mp hz'
    obtain ⟨j1, j2⟩ := List.getElem?_eq_some_iff.mp hj
    have := (List.pairwise_iff_getElem.mp hk.nd) q j q1 j1 hq
    exact this (q2.trans j2.symm)
  have kp2 : Keep (fun a => a = ol) H (upd H1 ol (.lst (ks.eraseIdx j))) := keep_in (fun a o _ z => s1 a o z) rfl
  have e2 : (upd H1 ol (.lst (ks.eraseIdx j))) kk = some (.ins (G.C "Keeper") dx (kfs ol b)) := upd_oth k.ne (s1 _ _ e)
  have k2 : Kpr (G.C "Keeper") (upd H1 ol (.lst (ks.eraseIdx j))) kk ol b (ks.eraseIdx j) := ⟨⟨dx, e2⟩, upd_same⟩
  generalize upd H1 ol (.lst (ks.eraseIdx j)) = H2 at kp2 e2 k2 ⊢
  wtm_at "wa"
  refine i_mtA e2 (kfs_no _ _ (by decide +kernel) (by decide +kernel)) ?_
  wtm_at "wa"
  refine u_Keeper_needs k2 hkv hb fun p3 L3 H3 s3 np3 hL3 e3 => ?_
  wtm_at "wa"
  refine i_maxTab (f := fewF L3) e3 fun m3 hm3 => ?_
  wtm_at "wa"
  refine i_new (by simp) fun T nT => ?_
  have kp3 := keep_same kp2 s3
  refine h T L L3 m m3 _ (keep_same kp3 (same_new nT)) ((k2.same s3).same (same_new nT)) ?_ upd_same hL hm hL3 hm3
  cases eT : H T with
  | none => rfl
  | some o =>
    by_cases z : T = ol
    · subst z
      rw [s3 _ _ k2.l] at nT; cases nT
    · rw [kp3 T o z eT] at nT; cases nT
theorem u_Keeper_make {hd : Addr} (ha : H hd = some (.lst ks)) (hk : KdL ks) (hb : b ≤ 200) (h : ∀ kk ol H', Same H H' → H kk = none → H ol = none → Kpr (G.C "Keeper") H' kk ol b ks → Q (.ref kk) H') : MkA (G.C "Keeper") (sp_Keeper___init__ G) E [.ref hd, .int b] H Q := by
  intro x dx nx ndx nex
  refine ⟨rfl, ?_⟩
  unfold t_Keeper___init__
  have s1 : Same H (upd (upd H dx (.own x)) x (.ins (G.C "Keeper") dx [])) := fun a o e => by
    rw [upd_ne (ne_of_none e nx), upd_ne (ne_of_none e ndx)]; exact e
  have e1 : (upd (upd H dx (.own x)) x (.ins (G.C "Keeper") dx [])) x = some (.ins (G.C "Keeper") dx []) := upd_same
  generalize upd (upd H dx (.own x)) x (.ins (G.C "Keeper") dx []) = H1 at s1 e1 ⊢
  wtm_at "w"
  refine u_need_kinds (s1 _ _ ha) hk fun H2 s2 => ?_
  wtm_at "w"
  refine u_need_to_most (by omega) (by omega) ?_
  wtm_at "w"
  have s12 := s1.trans s2
  refine i_ulist (sq_of (s12 _ _ ha)) fun ol nol => ?_
  wtm_at "w"
  have nol0 := s12.free nol
  have hxo : x ≠ ol := ne_of_none (s2 _ _ e1) nol
  refine i_flsA (upd_old nol (s2 _ _ e1)) (by simp) ?_
  wtm_at "w"
  refine i_flsA upd_same (by simp [putF]) ?_
  refine ⟨rfl, h x ol _ ?_ nx nol0 ⟨⟨dx, upd_same⟩, ?_⟩⟩
  · intro a o e
    have n1 : a ≠ x := ne_of_none e nx
    rw [upd_ne n1, upd_ne n1, upd_ne (ne_of_none e nol0)]
    exact s12 _ _ e
  · rw [upd_ne hxo.symm, upd_ne hxo.symm, upd_same]
end
/-! ### how many need so many -/
noncomputable def cntF (L : List Int) (b : Nat) (c : Int) : Nat := ((List.range (b + 1)).filter fun u => decide (fewF L u = c)).length
section
variable {H : Hp} {Q : VK} {σ : L2.St} {ty td : TE} {f : Addr} {ks : List Int} {n : Int}
theorem DI.ne {H : Hp} {f g : Addr} {ks : List Int} {xs : List V} (d : DI H f ks) (e : H g = some (.lst xs)) : f ≠ g := fun z => by
  obtain ⟨kvs, ek, _⟩ := d
  rw [z, e] at ek; cases ek
theorem DI.some {H : Hp} {f : Addr} {ks : List Int} (d : DI H f ks) : ∃ o, H f = some o := by
  obtain ⟨kvs, e, _⟩ := d
  exact ⟨_, e⟩
end
/-- the numbers of a level, each once -/
structure LevN (L : List Int) (b : Nat) (c : Int) (xs : List Int) : Prop where
  nd : xs.Nodup
  mem : ∀ x, x ∈ xs ↔ ∃ u : Nat, x = u ∧ u ≤ b ∧ fewF L u = c
theorem LevN.len {L : List Int} {b : Nat} {c : Int} {xs : List Int} (l : LevN L b c xs) : xs.length = cntF L b c := by
  have e : xs.Perm (((List.range (b + 1)).filter fun u => decide (fewF L u = c)).map fun (u : Nat) => (u : Int)) := by
    refine (List.perm_ext_iff_of_nodup l.nd ?_).mpr fun x => ?_
    · unfold List.Nodup
      rw [List.pairwise_map]
      exact ((List.nodup_range).filter _).imp fun h z => h (by exact_mod_cast z)
    · rw [l.mem, List.mem_map]
      constructor
      · rintro ⟨u, rfl, hu, e⟩
        exact ⟨u, List.mem_filter.mpr ⟨List.mem_range.mpr (by omega), decide_eq_true e⟩, rfl⟩
      · rintro ⟨u, hu, rfl⟩
        obtain ⟨h1, h2⟩ := List.mem_filter.mp hu
        exact ⟨u, rfl, by have := List.mem_range.mp h1; omega, of_decide_eq_true h2⟩
  rw [e.length_eq, List.length_map]; rfl
theorem cnt_tab {L : List Int} {b : Nat} {c : Int} : (tab (b + 1) fun u => V.int (fewF L u)).countP (fun z => eqV z (.int c)) = cntF L b c := by
  unfold tab cntF
  rw [List.countP_map, List.countP_eq_length_filter]
  congr 2
section
variable {G : Gx} {H : Hp} {Q : VK} {E : XK} {a : Addr} {ks : List V}
theorem u_most_needed {b : Nat} (ha : H a = some (.lst ks)) (hk : KdL ks) (hb : b ≤ 200) (h : ∀ L m H', Same H H' → StockOf ks b L → IsMost L b m → Q (.int m) H') : sp_most_needed G [.ref a, .int b] H Q E := by
  refine ⟨rfl, ?_⟩
  unfold t_most_needed
  wtm_at "w"
  refine u_fewest_to ha hk hb fun p L H1 s1 np hL e1 => ?_
  wtm_at "w"
  refine i_maxTab (f := fewF L) e1 fun m hm => ?_
  exact h L m H1 s1 hL hm
theorem tabI_flat {n : Nat} {f : Nat → Int} : (tab n fun u => V.int (f u)).all flatV = true := by rw [tab_ints]; exact ints_flat _
theorem u_counts_by_need {b : Nat} (ha : H a = some (.lst ks)) (hk : KdL ks) (hb : b ≤ 200) (h : ∀ p L M H', Same H H' → H p = none → StockOf ks b L → IsMost L b ((M : Nat) : Int) → M ≤ b → H' p = some (.lst (tab (M + 1) fun c => .int (cntF L b (c : Nat)))) → Q (.ref p) H') : sp_counts_by_need G [.ref a, .int b] H Q E := by
  refine ⟨rfl, ?_⟩
  unfold t_counts_by_need
  wtm_at "w"
  refine u_fewest_to ha hk hb fun p L H1 s1 np hL e1 => ?_
  wtm_at "w"
  refine i_maxTab (f := fewF L) e1 fun m hm => ?_
  have hmb := mostOf hL hk hm
  obtain ⟨M, rfl⟩ : ∃ M : Nat, m = (M : Int) := ⟨m.toNat, by omega⟩
  wtm_at "w"
  refine i_rngA1 (by omega) ?_
  rw [show ((M : Int) + 1).toNat = M + 1 by omega]
  refine lck_pure walk_range (by omega) (fun c => some (.int (cntF L b (c : Nat)))) (fun _ _ => trivial) (fun i x H3 H4 KK NN hi s y hK hN => ?_) (fun q H2 nq s2 e2 => ?_)
  · obtain ⟨rfl, rfl⟩ := y
    wtm_at "w"
    refine ⟨rfl, ?_⟩
    wtm_at "w"
    refine i_tyL (s _ _ e1) ?_
    wtm_at "w"
    refine i_cntV (sq_of (s _ _ e1)) rfl tabI_flat ?_
    rw [cnt_tab, show (0 : Int) + (i : Nat) = (i : Nat) by omega]
    exact hK _ _ rfl (fun _ _ z => z)
  · rw [given_tab] at e2
    exact h q L M H2 (s1.trans s2) (s1.free nq) hL hm (by omega) e2
end
/-! ### a Keeper asked -/
/-! ### how many sums, by how many parts -/
def cst (p : Nat) (f : Nat → Nat → Nat) (t k : Nat) : Nat := f t k + if h : 1 ≤ p ∧ p ≤ t ∧ 1 ≤ k then cst p f (t - p) (k - 1) else 0
termination_by t
decreasing_by omega
def ust (p : Nat) (f : Nat → Nat) (t : Nat) : Nat := f t + if h : 1 ≤ p ∧ p ≤ t then ust p f (t - p) else 0
termination_by t
decreasing_by omega
def crow (S : List Int) : Nat → Nat → Nat := S.foldl (fun f p => cst p.toNat f) fun t k => if t = 0 ∧ k = 0 then 1 else 0
def urow (S : List Int) : Nat → Nat := S.foldl (fun f p => ust p.toNat f) fun t => if t = 0 then 1 else 0
theorem crow_snoc {S : List Int} {i : Nat} {p : Int} (h : S[i]? = some p) : crow (S.take (i + 1)) = cst p.toNat (crow (S.take i)) := by
  unfold crow
  rw [List.take_succ, h]; simp
theorem urow_snoc {S : List Int} {i : Nat} {p : Int} (h : S[i]? = some p) : urow (S.take (i + 1)) = ust p.toNat (urow (S.take i)) := by
  unfold urow
  rw [List.take_succ, h]; simp
theorem urow_app (S : List Int) (p : Int) : urow (S ++ [p]) = ust p.toNat (urow S) := by
  unfold urow
  rw [List.foldl_append]; rfl
theorem ust_le {p : Nat} {f : Nat → Nat} {t : Nat} (h : 1 ≤ p) (ht : p ≤ t) : ust p f t = f t + ust p f (t - p) := by
  rw [ust, dif_pos ⟨h, ht⟩]
theorem ust_lt {p : Nat} {f : Nat → Nat} {t : Nat} (ht : t < p) : ust p f t = f t := by
  rw [ust, dif_neg (by omega), Nat.add_zero]
theorem cst_lt {p : Nat} {f : Nat → Nat → Nat} {t k : Nat} (ht : t < p) : cst p f t k = f t k := by
  rw [cst, dif_neg (by omega), Nat.add_zero]
theorem cst_zero {p : Nat} {f : Nat → Nat → Nat} {t : Nat} : cst p f t 0 = f t 0 := by
  rw [cst, dif_neg (by omega), Nat.add_zero]
theorem cst_le {p : Nat} {f : Nat → Nat → Nat} {t k : Nat} (h : 1 ≤ p) (ht : p ≤ t) : cst p f t (k + 1) = f t (k + 1) + cst p f (t - p) k := by
  rw [cst, dif_pos ⟨h, ht, by omega⟩, Nat.add_sub_cancel]
theorem cst_none {p : Nat} {f : Nat → Nat → Nat} (hp : 1 ≤ p) (h : ∀ t k, t < k → f t k = 0) : ∀ n t k, t ≤ n → t < k → cst p f t k = 0 := by
  intro n
  induction n with
  | zero =>
    intro t k ht hk
    rw [cst_lt (by omega), h t k hk]
  | succ n ih =>
    intro t k ht hk
    by_cases z : p ≤ t
    · obtain ⟨k, rfl⟩ : ∃ k', k = k' + 1 := ⟨k - 1, by omega⟩
      rw [cst_le hp z, h t _ hk, ih (t - p) k (by omega) (by omega)]
    · rw [cst_lt (by omega), h t k hk]
theorem fold_none : ∀ (S : List Int) (f : Nat → Nat → Nat), (∀ x ∈ S, 1 ≤ x) → (∀ t k, t < k → f t k = 0) → ∀ t k, t < k → (S.foldl (fun f p => cst p.toNat f) f) t k = 0
  | [], f, _, h => h
  | p :: S, f, hp, h => by
    have p1 := hp p (by simp)
    exact fold_none S _ (fun x hx => hp x (List.mem_cons_of_mem _ hx)) fun t k hk => cst_none (by omega) h t t k (Nat.le_refl _) hk
theorem crow_none {S : List Int} (hp : ∀ x ∈ S, 1 ≤ x) {t k : Nat} (h : t < k) : crow S t k = 0 := fold_none S _ hp (fun t k hk => by rw [if_neg (by omega)]) t k h
/-! sums over k -/
def ksum (g : Nat → Nat) : Nat → Nat
  | 0 => 0
  | n + 1 => ksum g n + g n
theorem ksum_ext {g h : Nat → Nat} : ∀ {n : Nat}, (∀ k < n, g k = h k) → ksum g n = ksum h n
  | 0, _ => rfl
  | n + 1, e => by
    show ksum g n + g n = ksum h n + h n
    rw [ksum_ext fun k hk => e k (by omega), e n (by omega)]
theorem ksum_add {g h : Nat → Nat} : ∀ n, ksum (fun k => g k + h k) n = ksum g n + ksum h n
  | 0 => rfl
  | n + 1 => by
    show ksum (fun k => g k + h k) n + (g n + h n) = (ksum g n + g n) + (ksum h n + h n)
    rw [ksum_add n]; omega
theorem ksum_front {g : Nat → Nat} : ∀ n, ksum g (n + 1) = g 0 + ksum (fun k => g (k + 1)) n
  | 0 => by show 0 + g 0 = g 0 + 0; omega
  | n + 1 => by
    show ksum g (n + 1) + g (n + 1) = g 0 + (ksum (fun k => g (k + 1)) n + g (n + 1))
    rw [ksum_front n]; omega
theorem ksum_more {g : Nat → Nat} {n : Nat} : ∀ {m : Nat}, n ≤ m → (∀ k, n ≤ k → k < m → g k = 0) → ksum g m = ksum g n
  | 0, h, _ => by have : n = 0 := by omega
                  subst this; rfl
  | m + 1, h, z => by
    by_cases e : n = m + 1
    · subst e; rfl
    · show ksum g m + g m = _
      rw [ksum_more (m := m) (by omega) fun k h1 h2 => z k h1 (by omega), z m (by omega) (by omega), Nat.add_zero]
theorem ksum_ge {g : Nat → Nat} {k : Nat} : ∀ {n : Nat}, k < n → g k ≤ ksum g n
  | n + 1, h => by
    show g k ≤ ksum g n + g n
    by_cases e : k = n
    · subst e; omega
    · have := ksum_ge (g := g) (k := k) (n := n) (by omega); omega
/-- all of them, however many parts -/
theorem cst_sum {p : Nat} {f : Nat → Nat → Nat} {u : Nat → Nat} (hp : 1 ≤ p) (h : ∀ t k, t < k → f t k = 0) (hu : ∀ t, ksum (f t) (t + 1) = u t) : ∀ n t, t ≤ n → ksum (cst p f t) (t + 1) = ust p u t := by
  intro n
  induction n with
  | zero =>
    intro t ht
    have : t = 0 := by omega
    subst this
    rw [ust_lt (by omega), ← hu]
    exact ksum_ext fun k hk => cst_lt (by omega)
  | succ n ih =>
    intro t ht
    by_cases z : p ≤ t
    · rw [ust_le hp z, ← hu, ← ih (t - p) (by omega), ksum_front, ksum_front, cst_zero]
      rw [ksum_ext (h := fun k => f t (k + 1) + cst p f (t - p) k) fun k _ => cst_le hp z, ksum_add]
      rw [ksum_more (g := cst p f (t - p)) (n := t - p + 1) (m := t) (by omega) fun k h1 h2 => cst_none hp h (t - p) (t - p) k (Nat.le_refl _) (by omega)]
      omega
    · rw [ust_lt (by omega), ← hu]
      exact ksum_ext fun k hk => cst_lt (by omega)
theorem fold_sum : ∀ (S : List Int) (f : Nat → Nat → Nat) (u : Nat → Nat), (∀ x ∈ S, 1 ≤ x) → (∀ t k, t < k → f t k = 0) → (∀ t, ksum (f t) (t + 1) = u t) → ∀ t, ksum ((S.foldl (fun f p => cst p.toNat f) f) t) (t + 1) = (S.foldl (fun f p => ust p.toNat f) u) t
  | [], f, u, _, _, h => h
  | p :: S, f, u, hp, h0, h => by
    have p1 := hp p (by simp)
    exact fold_sum S _ _ (fun x hx => hp x (List.mem_cons_of_mem _ hx)) (fun t k hk => cst_none (by omega) h0 t t k (Nat.le_refl _) hk) fun t => cst_sum (by omega) h0 h t t (Nat.le_refl _)
theorem crow_sum {S : List Int} (hp : ∀ x ∈ S, 1 ≤ x) (t : Nat) : ksum (crow S t) (t + 1) = urow S t :=
  fold_sum S _ _ hp (fun t k hk => by rw [if_neg (by omega)]) (fun t => by
    cases t with
    | zero => rfl
    | succ t =>
      have e : ksum (fun k => if t + 1 = 0 ∧ k = 0 then 1 else 0) (t + 1 + 1) = ksum (fun _ => 0) (t + 1 + 1) := ksum_ext fun k _ => by rw [if_neg (by omega)]
      have z : ∀ n, ksum (fun _ => 0) n = 0 := by
        intro n; induction n with
        | zero => rfl
        | succ n ih => show ksum (fun _ => 0) n + 0 = 0; rw [ih]
      show ksum (fun k => if t + 1 = 0 ∧ k = 0 then 1 else 0) (t + 1 + 1) = if t + 1 = 0 then 1 else 0
      rw [e, z, if_neg (by omega)]) t
theorem crow_le {S : List Int} (hp : ∀ x ∈ S, 1 ≤ x) (t k : Nat) : crow S t k ≤ urow S t := by
  by_cases h : t < k
  · rw [crow_none hp h]; omega
  · rw [← crow_sum hp t]; exact ksum_ge (by omega)
/-! how many at most -/
def kseq : Nat → Nat
  | 0 => 2 ^ 64
  | p + 1 => (kseq p * 10 ^ (p + 1)) / (10 ^ (p + 1) - 9 ^ (p + 1)) + 1
theorem pow_gap (p : Nat) : 9 ^ (p + 1) < 10 ^ (p + 1) := Nat.pow_lt_pow_left (by decide) (by omega)
theorem kseq_ok (p : Nat) : kseq p * 10 ^ (p + 1) + kseq (p + 1) * 9 ^ (p + 1) ≤ kseq (p + 1) * 10 ^ (p + 1) := by
  have g := pow_gap p
  generalize h9 : 9 ^ (p + 1) = a at *
  generalize h10 : 10 ^ (p + 1) = b at *
  have e : kseq (p + 1) = kseq p * b / (b - a) + 1 := by show (kseq p * 10 ^ (p + 1)) / (10 ^ (p + 1) - 9 ^ (p + 1)) + 1 = _; rw [h9, h10]
  have d := Nat.div_add_mod (kseq p * b) (b - a)
  have m := Nat.mod_lt (kseq p * b) (show 0 < b - a by omega)
  have k1 : kseq p * b ≤ kseq (p + 1) * (b - a) := by
    rw [e, Nat.add_mul, Nat.one_mul, Nat.mul_comm (kseq p * b / (b - a))]; omega
  have k2 : kseq (p + 1) * (b - a) + kseq (p + 1) * a = kseq (p + 1) * b := by rw [← Nat.mul_add]; congr 1; omega
  omega
theorem kseq_mono (p : Nat) : kseq p ≤ kseq (p + 1) := by
  have h := kseq_ok p
  have g : 0 < 10 ^ (p + 1) := Nat.pow_pos (by decide)
  exact Nat.le_of_mul_le_mul_right (c := 10 ^ (p + 1)) (by omega) g
def Bnd (f : Nat → Nat) (K : Nat) : Prop := ∀ t, f t * 2 ^ 64 * 9 ^ t ≤ K * 10 ^ t
theorem Bnd.mono {f : Nat → Nat} {K K' : Nat} (h : Bnd f K) (k : K ≤ K') : Bnd f K' := fun t => Nat.le_trans (h t) (Nat.mul_le_mul_right _ k)
theorem Bnd.step {f : Nat → Nat} {p : Nat} (h : Bnd f (kseq p)) : Bnd (ust (p + 1) f) (kseq (p + 1)) := by
  have key : ∀ n t, t ≤ n → ust (p + 1) f t * 2 ^ 64 * 9 ^ t ≤ kseq (p + 1) * 10 ^ t := by
    intro n
    induction n with
    | zero =>
      intro t ht
      rw [ust_lt (by omega)]
      exact (h.mono (kseq_mono p)) t
    | succ n ih =>
      intro t ht
      by_cases z : p + 1 ≤ t
      · obtain ⟨s, rfl⟩ : ∃ s, t = p + 1 + s := ⟨t - (p + 1), by omega⟩
        rw [ust_le (by omega) z, Nat.add_sub_cancel_left]
        have a := h (p + 1 + s)
        have b := ih s (by omega)
        have c := kseq_ok p
        rw [Nat.pow_add] at a ⊢
        rw [Nat.pow_add 10] at a ⊢
        generalize 9 ^ (p + 1) = A at *
        generalize 10 ^ (p + 1) = B at *
        generalize 9 ^ s = A' at *
        generalize 10 ^ s = B' at *
        generalize ust (p + 1) f s = U at *
        generalize f (p + 1 + s) = F at *
        generalize kseq p = K at *
        generalize kseq (p + 1) = K' at *
        generalize (2 : Nat) ^ 64 = D at *
        have e1 : (F + U) * D * (A * A') = F * D * (A * A') + A * (U * D * A') := by
          rw [Nat.add_mul, Nat.add_mul]; congr 1
          rw [Nat.mul_left_comm]
        rw [e1]
        have e2 : A * (U * D * A') ≤ A * (K' * B') := Nat.mul_le_mul_left _ b
        have e3 : K * (B * B') + A * (K' * B') ≤ K' * (B * B') := by
          have : (K * B + K' * A) * B' ≤ K' * B * B' := Nat.mul_le_mul_right _ c
          rw [Nat.add_mul] at this
          rw [← Nat.mul_assoc, ← Nat.mul_assoc, ← Nat.mul_assoc, Nat.mul_comm A K']
          exact this
        omega
      · rw [ust_lt (by omega)]
        exact (h.mono (kseq_mono p)) t
  exact fun t => key t t (Nat.le_refl _)
theorem up_last {S : List Int} {x : Int} (up : S.Pairwise (· < ·)) (hx : x ∈ S) (hle : ∀ y ∈ S, y ≤ x) : ∃ S0, S = S0 ++ [x] ∧ ∀ y ∈ S0, y < x := by
  rcases List.eq_nil_or_concat S with rfl | ⟨S0, y, rfl⟩
  · cases hx
  · rw [List.concat_eq_append] at *
    have h := (List.pairwise_append.mp up).2.2
    have hy : y = x := by
      rcases List.mem_append.mp hx with z | z
      · have := h x z y (by simp); have := hle y (by simp); omega
      · exact (List.mem_singleton.mp z).symm
    subst hy
    exact ⟨S0, rfl, fun z hz => h z hz y (by simp)⟩
theorem urow_bnd : ∀ (N : Nat) (S : List Int), S.Pairwise (· < ·) → (∀ x ∈ S, 1 ≤ x ∧ x ≤ N) → Bnd (urow S) (kseq N)
  | 0, S, _, h => by
    have : S = [] := by
      cases S with
      | nil => rfl
      | cons x r => have := h x (by simp); omega
    subst this
    intro t
    show (if t = 0 then 1 else 0) * 2 ^ 64 * 9 ^ t ≤ 2 ^ 64 * 10 ^ t
    split
    · rw [Nat.one_mul]; exact Nat.mul_le_mul_left _ (Nat.pow_le_pow_left (by decide) _)
    · simp
  | N + 1, S, up, h => by
    by_cases z : ((N + 1 : Nat) : Int) ∈ S
    · obtain ⟨S0, rfl, h0⟩ := up_last up z fun y hy => (h y hy).2
      rw [urow_app, Int.toNat_natCast]
      exact (urow_bnd N S0 (List.pairwise_append.mp up).1 fun x hx => ⟨(h x (List.mem_append_left _ hx)).1, by have := h0 x hx; omega⟩).step
    · refine (urow_bnd N S up fun x hx => ⟨(h x hx).1, ?_⟩).mono (kseq_mono N)
      have := (h x hx).2
      have ne : x ≠ ((N + 1 : Nat) : Int) := fun e => z (e ▸ hx)
      omega
theorem bnd_at {f : Nat → Nat} {K M T : Nat} (h : Bnd f K) (c : K * 10 ^ T < M * 2 ^ 64 * 9 ^ T) {t : Nat} (ht : t ≤ T) : f t < M := by
  obtain ⟨s, rfl⟩ : ∃ s, T = t + s := ⟨T - t, by omega⟩
  have a := h t
  have p9 : 0 < 9 ^ (t + s) := Nat.pow_pos (by decide)
  have le : 9 ^ s ≤ 10 ^ s := Nat.pow_le_pow_left (by decide) _
  rw [Nat.pow_add 10] at c
  refine Nat.lt_of_not_le fun z => ?_
  have b : M * 2 ^ 64 * 9 ^ (t + s) ≤ f t * 2 ^ 64 * 9 ^ (t + s) := Nat.mul_le_mul_right _ (Nat.mul_le_mul_right _ z)
  have d : f t * 2 ^ 64 * 9 ^ (t + s) ≤ K * (10 ^ t * 10 ^ s) := by
    rw [Nat.pow_add 9, ← Nat.mul_assoc, ← Nat.mul_assoc]
    exact Nat.mul_le_mul a le
  omega
theorem urow_lt {S : List Int} (up : S.Pairwise (· < ·)) (h : ∀ x ∈ S, 1 ≤ x ∧ x ≤ 200) {t : Nat} (ht : t ≤ 200) : urow S t < 2 ^ 64 :=
  bnd_at (urow_bnd 200 S up h) (by decide +kernel) ht
/-! packed -/
def psum (g : Nat → Nat) : Nat → Nat
  | 0 => 0
  | n + 1 => psum g n + g n * 2 ^ (64 * n)
theorem psum_ext {g h : Nat → Nat} : ∀ {n : Nat}, (∀ k < n, g k = h k) → psum g n = psum h n
  | 0, _ => rfl
  | n + 1, e => by
    show psum g n + g n * _ = psum h n + h n * _
    rw [psum_ext fun k hk => e k (by omega), e n (by omega)]
theorem psum_add {g h : Nat → Nat} : ∀ n, psum (fun k => g k + h k) n = psum g n + psum h n
  | 0 => rfl
  | n + 1 => by
    show psum (fun k => g k + h k) n + (g n + h n) * _ = (psum g n + g n * _) + (psum h n + h n * _)
    rw [psum_add n, Nat.add_mul]; omega
theorem psum_front {g : Nat → Nat} : ∀ n, psum g (n + 1) = g 0 + psum (fun k => g (k + 1)) n * 2 ^ 64
  | 0 => by show 0 + g 0 * 2 ^ (64 * 0) = g 0 + 0 * 2 ^ 64; simp
  | n + 1 => by
    show psum g (n + 1) + g (n + 1) * 2 ^ (64 * (n + 1)) = g 0 + (psum (fun k => g (k + 1)) n + g (n + 1) * 2 ^ (64 * n)) * 2 ^ 64
    rw [psum_front n, Nat.add_mul, Nat.mul_assoc (g (n + 1)), ← Nat.pow_add, show 64 * n + 64 = 64 * (n + 1) by omega]; omega
theorem psum_more {g : Nat → Nat} {n : Nat} : ∀ {m : Nat}, n ≤ m → (∀ k, n ≤ k → k < m → g k = 0) → psum g m = psum g n
  | 0, h, _ => by have : n = 0 := by omega
                  subst this; rfl
  | m + 1, h, z => by
    by_cases e : n = m + 1
    · subst e; rfl
    · show psum g m + g m * _ = _
      rw [psum_more (m := m) (by omega) fun k h1 h2 => z k h1 (by omega), z m (by omega) (by omega), Nat.zero_mul, Nat.add_zero]
theorem psum_lt {g : Nat → Nat} : ∀ {n : Nat}, (∀ k < n, g k < 2 ^ 64) → psum g n < 2 ^ (64 * n)
  | 0, _ => by show 0 < 2 ^ (64 * 0); decide
  | n + 1, h => by
    show psum g n + g n * 2 ^ (64 * n) < _
    have a := psum_lt (g := g) (n := n) fun k hk => h k (by omega)
    have b := h n (by omega)
    rw [show 64 * (n + 1) = 64 + 64 * n by omega, Nat.pow_add]
    have c : (g n + 1) * 2 ^ (64 * n) ≤ 2 ^ 64 * 2 ^ (64 * n) := Nat.mul_le_mul_right _ (by omega)
    rw [Nat.add_mul, Nat.one_mul] at c
    omega
theorem psum_digit : ∀ (k n : Nat) (g : Nat → Nat), k < n → (∀ k < n, g k < 2 ^ 64) → psum g n / 2 ^ (64 * k) % 2 ^ 64 = g k
  | 0, n + 1, g, _, h => by
    rw [psum_front, show 64 * 0 = 0 from rfl, Nat.pow_zero, Nat.div_one, Nat.add_mul_mod_self_right]
    exact Nat.mod_eq_of_lt (h 0 (by omega))
  | k + 1, n + 1, g, hk, h => by
    rw [psum_front, show 64 * (k + 1) = 64 + 64 * k by omega, Nat.pow_add, ← Nat.div_div_eq_div_mul, Nat.add_mul_div_right _ _ (by decide), Nat.div_eq_of_lt (h 0 (by omega)), Nat.zero_add]
    exact psum_digit k n (fun k => g (k + 1)) (by omega) fun j hj => h (j + 1) (by omega)
/-- a row's number -/
def prow (S : List Int) (t : Nat) : Nat := psum (crow S t) (t + 1)
theorem prow_snocLt {S : List Int} {i P t : Nat} (h : S[i]? = some (P : Int)) (ht : t < P) : prow (S.take (i + 1)) t = prow (S.take i) t := by
  unfold prow
  rw [crow_snoc h, Int.toNat_natCast]
  exact psum_ext fun k _ => cst_lt ht
theorem prow_snocLe {S : List Int} (hp : ∀ x ∈ S, 1 ≤ x) {i P u : Nat} (h : S[i]? = some (P : Int)) : prow (S.take (i + 1)) (P + u) = prow (S.take i) (P + u) + prow (S.take (i + 1)) u * 2 ^ 64 := by
  have P1 : 1 ≤ P := by have := hp _ (List.mem_of_getElem? h); omega
  unfold prow
  rw [crow_snoc h, Int.toNat_natCast]
  have hz : ∀ t k, t < k → crow (S.take i) t k = 0 := fun t k => crow_none fun x hx => hp x (List.mem_of_mem_take hx)
  rw [psum_front, psum_front, cst_zero]
  rw [psum_ext (h := fun k => crow (S.take i) (P + u) (k + 1) + cst P (crow (S.take i)) u k) fun k _ => by rw [cst_le P1 (by omega), Nat.add_sub_cancel_left], psum_add]
  rw [psum_more (g := cst P (crow (S.take i)) u) (n := u + 1) (m := P + u) (by omega) fun k h1 h2 => cst_none P1 hz u u k (Nat.le_refl _) (by omega), Nat.add_mul]
  omega
/-! ### Counts -/
def cfs (sp rp : Addr) : List (Str × V) := putF "rows" (.ref rp) (putF "values_let" (.ref sp) [])
theorem cfs_rows (sp rp : Addr) : (cfs sp rp).lookup ("rows" : Str) = some (.ref rp) := by
  unfold cfs
  rw [lookup_putF, if_pos rfl]
theorem cfs_let (sp rp : Addr) : (cfs sp rp).lookup ("values_let" : Str) = some (.ref sp) := by
  unfold cfs
  rw [lookup_putF, if_neg (by decide +kernel), lookup_putF, if_pos rfl]
theorem cfs_no (sp rp : Addr) {m : Str} (h1 : ¬ m = "rows") (h2 : ¬ m = "values_let") : (cfs sp rp).lookup m = none := by
  unfold cfs
  rw [lookup_putF, if_neg h1, lookup_putF, if_neg h2]
  rfl
/-- counts to n of a stock -/
structure Cnt (C : Addr) (H : Hp) (x : Addr) (S : List Int) (n : Nat) : Prop where
  o : ∃ dx sp rp qs, H x = some (.ins C dx (cfs sp rp)) ∧ H sp = some (.lst (S.map V.int)) ∧ H rp = some (.lst (qs.map V.ref)) ∧ QRows H qs (fun j u => .int (prow (S.take j) u : Nat)) (S.length + 1) (n + 1)
theorem Cnt.same {C : Addr} {H H' : Hp} {x : Addr} {S : List Int} {n : Nat} (c : Cnt C H x S n) (s : Same H H') : Cnt C H' x S n := by
  obtain ⟨dx, sp, rp, qs, e1, e2, e3, e4⟩ := c.o
  exact ⟨dx, sp, rp, qs, s _ _ e1, s _ _ e2, s _ _ e3, e4.same s⟩
/-- a stock that is counted -/
structure StkC (S : List Int) (n : Nat) : Prop where
  up : S.Pairwise (· < ·)
  lim : ∀ x ∈ S, 1 ≤ x ∧ x ≤ 200
  n : n ≤ 200
theorem StkC.pos {S : List Int} {n : Nat} (k : StkC S n) : ∀ x ∈ S, 1 ≤ x := fun x hx => (k.lim x hx).1
theorem StkC.take {S : List Int} {n : Nat} (k : StkC S n) (j : Nat) : StkC (S.take j) n := ⟨k.up.sublist (List.take_sublist _ _), fun x hx => k.lim x (List.mem_of_mem_take hx), k.n⟩
theorem StkC.lt {S : List Int} {n : Nat} (k : StkC S n) {t : Nat} (ht : t ≤ n) (j : Nat) : crow S t j < 2 ^ 64 := Nat.lt_of_le_of_lt (crow_le k.pos t j) (urow_lt k.up k.lim (Nat.le_trans ht k.n))
theorem StkC.row {S : List Int} {n : Nat} (k : StkC S n) {t : Nat} (ht : t ≤ n) : prow S t < 2 ^ (64 * (t + 1)) := psum_lt fun j _ => k.lt ht j
theorem StkC.len {S : List Int} {n : Nat} (k : StkC S n) : S.length ≤ 200 := by
  have := up_len (lo := 1) (hi := 200) k.up (fun x hx => k.lim x hx) (by decide)
  omega
theorem StockOf.stkc {ks : List V} {n : Nat} {L : List Int} (h : StockOf ks n L) (hk : KdL ks) (hn : n ≤ 200) : StkC L n := ⟨h.up, fun x hx => ⟨h.pos hk.kd hx, by have := ((h.mem x).mp hx).1; omega⟩, hn⟩
section
variable {G : Gx} {H : Hp} {Q : VK} {E : XK} {a : Addr} {ks : List V}
def pmix (S : List Int) (i P k : Nat) : Nat → V := fun u => .int ((if u < P + k then prow (S.take (i + 1)) u else prow (S.take i) u : Nat) : Int)
theorem u_Counts_make {S : List Int} {n : Nat} (ha : H a = some (.lst (S.map V.int))) (k : StkC S n) (h : ∀ x H', Same H H' → H x = none → Cnt (G.C "Counts") H' x S n → Q (.ref x) H') : MkA (G.C "Counts") (sp_Counts___init__ G) E [.ref a, .int n] H Q := by
  intro x dx nx ndx nex
  refine ⟨rfl, ?_⟩
  unfold t_Counts___init__
  have hn := k.n
  have hlen := k.len
  have s1 : Same H (upd (upd H dx (.own x)) x (.ins (G.C "Counts") dx [])) := fun b o e => by
    rw [upd_ne (ne_of_none e nx), upd_ne (ne_of_none e ndx)]; exact e
  have e1 : (upd (upd H dx (.own x)) x (.ins (G.C "Counts") dx [])) x = some (.ins (G.C "Counts") dx []) := upd_same
  generalize upd (upd H dx (.own x)) x (.ins (G.C "Counts") dx []) = H1 at s1 e1 ⊢
  wtm_at "w"
  refine i_flsA e1 (by simp) ?_
  have s2 : Same H (upd H1 x (.ins (G.C "Counts") dx (putF "values_let" (.ref a) []))) := same_mut s1 nx
  have e2 : (upd H1 x (.ins (G.C "Counts") dx (putF "values_let" (.ref a) []))) x = some (.ins (G.C "Counts") dx (putF "values_let" (.ref a) [])) := upd_same
  generalize upd H1 x (.ins (G.C "Counts") dx (putF "values_let" (.ref a) [])) = H2 at s2 e2 ⊢
  wtm_at "w"
  refine i_new (by simp) fun p1 n1 => ?_
  wtm_at "w"
  refine i_new (by simp) fun p2 n2 => ?_
  wtm_at "w"
  refine i_rep (k := (n : Int)) upd_same (by omega) (by omega) (sz_le (by simp; omega)) fun p3 n3 => ?_
  rw [rep_one, Int.toNat_natCast]
  refine i_addL (xs := [.int 1]) (ys := List.replicate n (.int 0)) (upd_old n3 (upd_old n2 upd_same)) upd_same (sz_le (by simp; omega)) fun w0 n4 => ?_
  rw [tab_first]
  have s3 : Same H2 (upd (upd (upd H2 p1 (.lst [.int 1])) p2 (.lst [.int 0])) p3 (.lst (List.replicate n (.int 0)))) := (((same_new n1).trans (same_new n2)).trans (same_new n3))
  generalize upd (upd (upd H2 p1 (.lst [.int 1])) p2 (.lst [.int 0])) p3 (.lst (List.replicate n (.int 0))) = H3 at s3 n4 ⊢
  have s4 : Same H2 (upd H3 w0 (.lst (tab (n + 1) fun u => if u = 0 then .int 1 else .int 0))) := s3.trans (same_new n4)
  have e4 : (upd H3 w0 (.lst (tab (n + 1) fun u => if u = 0 then .int 1 else .int 0))) w0 = some (.lst (tab (n + 1) fun u => .int (prow (S.take 0) u : Nat))) := by
    rw [upd_same]
    refine congrArg (fun z => some (HO.lst z)) (tab_ext fun u _ => ?_)
    cases u with
    | zero => rfl
    | succ u =>
      have z : prow (S.take 0) (u + 1) = 0 := by
        unfold prow
        rw [psum_more (n := 0) (by omega) fun k _ _ => ?_]
        · rfl
        · show (if u + 1 = 0 ∧ k = 0 then 1 else 0) = 0
          rw [if_neg (by omega)]
      rw [if_neg (by omega), z]; rfl
  generalize upd H3 w0 (.lst (tab (n + 1) fun u => if u = 0 then .int 1 else .int 0)) = H4 at s4 e4 ⊢
  wtm_at "w"
  refine i_new (by simp) fun rp nrp => ?_
  wtm_at "w"
  have s5 : Same H4 (upd H4 rp (.lst [.ref w0])) := same_new nrp
  have er5 : (upd H4 rp (.lst [.ref w0])) rp = some (.lst ([w0].map V.ref)) := upd_same
  have ew5 := upd_old (u := .lst [.ref w0]) nrp e4
  have hwr : w0 ≠ rp := ne_of_none e4 nrp
  have nrp0 : H rp = none := s2.free (s4.free nrp)
  have hxr : x ≠ rp := ne_of_none (s4 _ _ e2) nrp
  generalize upd H4 rp (.lst [.ref w0]) = H5 at s5 er5 ew5 ⊢
  have ex5 := s5 _ _ (s4 _ _ e2)
  have s05 := (s2.trans s4).trans s5
  refine i_flsA ex5 (by simp [putF]) ?_
  have s6 : Same H (upd H5 x (.ins (G.C "Counts") dx (putF "rows" (.ref rp) (putF "values_let" (.ref a) [])))) := same_mut s05 nx
  have ex6 : (upd H5 x (.ins (G.C "Counts") dx (putF "rows" (.ref rp) (putF "values_let" (.ref a) [])))) x = some (.ins (G.C "Counts") dx (cfs a rp)) := upd_same
  have er6 : (upd H5 x (.ins (G.C "Counts") dx (putF "rows" (.ref rp) (putF "values_let" (.ref a) [])))) rp = some (.lst ([w0].map V.ref)) := upd_oth hxr.symm er5
  have hwx : w0 ≠ x := fun z => by rw [z, ex5] at ew5; cases ew5
  have ew6 : (upd H5 x (.ins (G.C "Counts") dx (putF "rows" (.ref rp) (putF "values_let" (.ref a) [])))) w0 = some (.lst (tab (n + 1) fun u => .int (prow (S.take 0) u : Nat))) := upd_oth hwx ew5
  generalize upd H5 x (.ins (G.C "Counts") dx (putF "rows" (.ref rp) (putF "values_let" (.ref a) []))) = H6 at s6 ex6 er6 ew6 ⊢
  wtm_at "w"
  refine i_lstA (sq_of (s6 _ _ ha)) ?_
  have rows6 : QRows H6 [w0] (fun j u => .int (prow (S.take j) u : Nat)) 1 (n + 1) := by
    have := QRows.snoc (H := H6) (H' := H6) (qs := []) (x := w0) (f := fun j u => .int (prow (S.take j) u : Nat)) (w := n + 1) QRows.nil (fun q hq => by cases hq) ew6
    exact this
  refine lk_list (fun i σ H' => ∃ w qs y4 y5, σ = [some (.ref x), some (.ref a), some (.int n), some (.ref w), y4, y5] ∧ Same H H' ∧ H' x = some (.ins (G.C "Counts") dx (cfs a rp)) ∧ H' rp = some (.lst (qs.map V.ref)) ∧ (∀ q ∈ qs, q ≠ rp) ∧ QRows H' qs (fun j u => .int (prow (S.take j) u : Nat)) (i + 1) (n + 1) ∧ H' w = some (.lst (tab (n + 1) fun u => .int (prow (S.take i) u : Nat)))) ⟨w0, [w0], _, _, rfl, s6, ex6, er6, fun q hq => by rw [List.mem_singleton.mp hq]; exact hwr, rows6, ew6⟩ (fun i σ H' _ ⟨_, _, _, _, _, s, _⟩ => sq_of (s _ _ ha)) ?_ ?_
  · rintro i y σ H7 hi ⟨w, qs, y4, y5, rfl, s7, ex7, er7, hqr, rows7, ew7⟩
    rw [List.getElem?_map] at hi
    obtain ⟨p, hp, rfl⟩ := Option.map_eq_some_iff.mp hi
    have hp1 := k.lim p (List.mem_of_getElem? hp)
    have hil : i < S.length := (List.getElem?_eq_some_iff.mp hp).1
    obtain ⟨P, rfl⟩ : ∃ P : Nat, p = (P : Int) := ⟨p.toNat, by omega⟩
    wtm_at "w"
    refine i_ulist (sq_of ew7) fun v nv => ?_
    have s8 : Same H7 (upd H7 v (.lst (tab (n + 1) fun u => .int (prow (S.take i) u : Nat)))) := same_new nv
    have ev8 : (upd H7 v (.lst (tab (n + 1) fun u => .int (prow (S.take i) u : Nat)))) v = some (.lst (tab (n + 1) (pmix S i P 0))) := by
      rw [upd_same]
      refine congrArg (fun z => some (HO.lst z)) (tab_ext fun u _ => ?_)
      unfold pmix
      split
      · rw [prow_snocLt hp (by omega)]
      · rfl
    generalize upd H7 v (.lst (tab (n + 1) fun u => .int (prow (S.take i) u : Nat))) = H8 at s8 ev8 ⊢
    wtm_at "w"
    refine i_rngA2 (by omega) ?_
    rw [show ((n : Int) + 1 - (P : Int)).toNat = n + 1 - P by omega]
    refine lk_range (fun t σ H' => ∃ y5, σ = [some (.ref x), some (.ref a), some (.int n), some (.ref v), some (.int P), y5] ∧ Same H7 H' ∧ H' v = some (.lst (tab (n + 1) (pmix S i P t)))) ⟨_, rfl, s8, ev8⟩ ?_ ?_
    · rintro t σ H9 ht ⟨y5, rfl, s9, ev9⟩
      have g1 : atI (tab (n + 1) (pmix S i P t)) ((P : Int) + (t : Nat)) = some (.int (prow (S.take i) (P + t) : Nat)) := by
        rw [tab_at (i := P + t) (by omega) (by omega)]
        unfold pmix; rw [if_neg (by omega)]
      have g2 : atI (tab (n + 1) (pmix S i P t)) ((P : Int) + (t : Nat) - P) = some (.int (prow (S.take (i + 1)) t : Nat)) := by
        rw [tab_at (i := t) (by omega) (by omega)]
        unfold pmix; rw [if_pos (by omega)]
      wtm_at "w"
      refine i_augS ?_
      wtm_at "w"
      refine i_rixL (sq_of ev9) g1 ?_
      wtm_at "w"
      refine i_ixL (sq_of ev9) g2 ?_
      wtm_at "w"
      refine i_shlN (X := prow (S.take (i + 1)) t) (P := 64) (n := 64 * (t + 1)) rfl ((k.take (i + 1)).row (by omega)) (by omega) ?_
      wtm_at "w"
      rw [Nat.shiftLeft_eq, show ((prow (S.take i) (P + t) : Nat) : Int) + ((prow (S.take (i + 1)) t * 2 ^ 64 : Nat) : Int) = ((prow (S.take i) (P + t) + prow (S.take (i + 1)) t * 2 ^ 64 : Nat) : Int) by omega, ← prow_snocLe k.pos hp]
      refine i_setLe ev9 (n := P + t) (ys := tab (n + 1) (pmix S i P (t + 1))) (by rw [tab_len]; exact ixN_nat (by omega) (by omega)) ?_ ?_
      · rw [tab_set]
        refine tab_ext fun u hu => ?_
        unfold pmix
        by_cases z : u = P + t
        · rw [if_pos z, if_pos (by omega), z]
        · rw [if_neg z]
          by_cases y : u < P + t
          · rw [if_pos y, if_pos (by omega)]
          · rw [if_neg y, if_neg (by omega)]
      · exact ⟨_, rfl, same_mut s9 nv, upd_same⟩
    · rintro σ H9 ⟨y5, rfl, s9, ev9⟩
      have s09 := s7.trans s9
      have ex9 := s9 _ _ ex7
      have er9 := s9 _ _ er7
      wtm_at "w"
      refine i_flA ex9 (cfs_rows _ _) ?_
      refine i_tyL er9 ?_
      wtm_at "w"
      have hql := rows7.len
      refine i_app er9 (sz_lt (by rw [List.length_map]; omega)) ?_
      have hvr : v ≠ rp := (ne_of_none er7 nv).symm
      have ev' : H9 v = some (.lst (tab (n + 1) fun u => .int (prow (S.take (i + 1)) u : Nat))) := by
        rw [ev9]
        refine congrArg (fun z => some (HO.lst z)) (tab_ext fun u hu => ?_)
        unfold pmix
        rw [if_pos (by omega)]
      refine ⟨v, qs ++ [v], _, _, rfl, same_mut s09 nrp0, upd_oth hxr ex9, by rw [upd_same, List.map_append]; rfl, fun q hq => ?_, ?_, upd_oth hvr ev'⟩
      · rcases List.mem_append.mp hq with z | z
        · exact hqr q z
        · rw [List.mem_singleton.mp z]; exact hvr
      · exact QRows.snoc (rows7.same s9) (fun q hq o e => by rw [upd_ne (hqr q hq)]; exact e) (upd_oth hvr ev')
  · rintro σ H7 ⟨w, qs, y4, y5, rfl, s7, ex7, er7, hqr, rows7, ew7⟩
    rw [List.length_map] at rows7
    exact ⟨rfl, h x H7 s7 nx ⟨dx, a, rp, qs, ex7, s7 _ _ ha, er7, rows7⟩⟩
theorem u_Counts_many {x : Addr} {S : List Int} {n j t : Nat} {m : Int} (c : Cnt (G.C "Counts") H x S n) (k : StkC S n) (hj : j ≤ S.length) (ht : t ≤ n) (h : Q (.int (if 0 ≤ m ∧ m ≤ t then crow (S.take j) t m.toNat else 0 : Nat)) H) : sp_Counts_many G [.ref x, .int j, .int t, .int m] H Q E := by
  refine ⟨rfl, ?_⟩
  unfold t_Counts_many
  obtain ⟨dx, sp, rp, qs, e1, e2, e3, rows⟩ := c.o
  have hn := k.n
  wtm_at "w"
  refine i_both (fun h0 => ?_) (fun h0 => ?_)
  · have h0' := of_decide_eq_true h0
    wtm_at "w"
    refine i_iteN (fun h1 => ?_) (fun h1 => ?_)
    · rw [if_pos ⟨h0', h1⟩] at h
      obtain ⟨M, rfl⟩ : ∃ M : Nat, m = (M : Int) := ⟨m.toNat, by omega⟩
      wtm_at "w"
      refine i_flA e1 (cfs_rows _ _) ?_
      wtm_at "w"
      obtain ⟨q, hq, eq⟩ := rows.at (j := j) (jv := (j : Int)) rfl (by omega)
      refine i_ixL (sq_of e3) hq ?_
      wtm_at "w"
      refine i_ixL (sq_of eq) (tab_at (i := t) rfl (by omega)) ?_
      wtm_at "w"
      refine i_shrN (P := 64 * M) (by omega) ?_
      wtm_at "w"
      rw [show (18446744073709551615 : Int) = ((2 ^ 64 - 1 : Nat) : Int) from rfl, band_N, Nat.and_two_pow_sub_one_eq_mod]
      unfold prow
      rw [psum_digit M (t + 1) _ (by omega) fun q _ => (k.take j).lt ht q]
      rw [Int.toNat_natCast] at h
      exact h
    · rw [if_neg (fun z => h1 z.2)] at h
      wtm_at "w"
      exact h
  · have h0' := of_decide_eq_false h0
    rw [if_neg (fun z => h0' z.1)] at h
    wtm_at "w"
    exact h
theorem u_just {x : Addr} {S : List Int} {n : Nat} {m : Int} (c : Cnt (G.C "Counts") H x S n) (k : StkC S n) (h : Q (.int (if 0 ≤ m then crow S n m.toNat else 0 : Nat)) H) : sp_just G [.ref x, .int n, .int m] H Q E := by
  refine ⟨rfl, ?_⟩
  unfold t_just
  obtain ⟨dx, sp, rp, qs, e1, e2, e3, rows⟩ := c.o
  wtm_at "w"
  refine i_mtA e1 (cfs_no _ _ (by decide +kernel) (by decide +kernel)) ?_
  wtm_at "w"
  refine i_flA e1 (cfs_let _ _) ?_
  wtm_at "w"
  refine i_lenL (sq_of e2) ?_
  rw [List.length_map]
  wtm_at "w"
  refine u_Counts_many c k (Nat.le_refl _) (Nat.le_refl _) ?_
  rw [List.take_length]
  by_cases h0 : 0 ≤ m
  · rw [if_pos h0] at h
    by_cases h1 : m ≤ n
    · rw [if_pos ⟨h0, h1⟩]; exact h
    · rw [if_neg (fun z => h1 z.2)]
      rw [crow_none k.pos (by omega)] at h
      exact h
  · rw [if_neg h0] at h
    rw [if_neg (fun z => h0 z.1)]; exact h
theorem u_counts_of {n : Nat} (ha : H a = some (.lst ks)) (hk : KdL ks) (h1 : n ≤ 200) (h : ∀ x L H', Same H H' → H x = none → StockOf ks n L → Cnt (G.C "Counts") H' x L n → Q (.ref x) H') : sp_counts_of G [.ref a, .int n] H Q E := by
  refine ⟨rfl, ?_⟩
  unfold t_counts_of
  wtm_at "w"
  refine u_stock_to ha hk (by omega) (by omega) fun p L H1 s1 np e1 st => ?_
  wtm_at "w"
  refine u_Counts_make e1 (st.stkc hk h1) fun x H2 s2 nx c => ?_
  exact h x L H2 (s1.trans s2) (s1.free nx) st c
theorem ksum_list (g : Nat → Nat) : ∀ n, (((List.range n).map fun k => ((g k : Nat) : Int)).sum) = (ksum g n : Nat)
  | 0 => rfl
  | n + 1 => by
    rw [List.range_succ, List.map_append, List.sum_append, ksum_list g n]
    show ((ksum g n : Nat) : Int) + (((g n : Nat) : Int) + 0) = ((ksum g n + g n : Nat) : Int)
    omega
theorem u_count_sums {n : Nat} (ha : H a = some (.lst ks)) (hk : KdL ks) (h1 : n ≤ 200) (h : ∀ L H', Same H H' → StockOf ks n L → Q (.int (urow L n : Nat)) H') : sp_count_sums G [.ref a, .int n] H Q E := by
  refine ⟨rfl, ?_⟩
  unfold t_count_sums
  wtm_at "w"
  refine u_counts_of ha hk h1 fun x L H1 s1 nx hL c => ?_
  have k := hL.stkc hk h1
  wtm_at "w"
  refine i_rngA1 (by omega) ?_
  rw [show ((n : Int) + 1).toNat = n + 1 by omega]
  refine lck_pure walk_range (by omega) (fun i => some (.int (crow L n i : Nat))) (fun _ _ => trivial) (fun i y H3 H4 KK NN hi s yy hK hN => ?_) (fun p H2 np s2 e2 => ?_)
  · obtain ⟨rfl, rfl⟩ := yy
    wtm_at "w"
    refine ⟨rfl, ?_⟩
    wtm_at "w"
    refine u_just (c.same s) k ?_
    rw [if_pos (by omega), show ((0 : Int) + (i : Nat)).toNat = i by omega]
    exact hK _ _ rfl (fun _ _ z => z)
  · rw [given_tab, tab_ints (f := fun i => ((crow L n i : Nat) : Int))] at e2
    wtm_at "w"
    refine i_sumL (sq_of e2) ?_
    rw [ksum_list, crow_sum k.pos]
    exact h L H2 (s1.trans s2) hL
end
/-! ### all sums, listed -/
theorem up_filter : ∀ {S : List Int}, S.Pairwise (· < ·) → ∀ (x : Int) (i : Nat), i < S.length → (i < (S.filter fun p => decide (p ≤ x)).length ↔ S.getD i 0 ≤ x)
  | [], _, x, i, h => by simp at h
  | a :: r, up, x, i, h => by
    have hr := List.pairwise_cons.mp up
    by_cases z : a ≤ x
    · rw [List.filter_cons_of_pos (by simpa using z), List.length_cons]
      cases i with
      | zero => simpa using z
      | succ i =>
        have := up_filter hr.2 x i (by simpa using h)
        rw [Nat.add_lt_add_iff_right, this]; rfl
    · have e : (a :: r).filter (fun p => decide (p ≤ x)) = [] := by
        rw [List.filter_eq_nil_iff]
        intro b hb
        rcases List.mem_cons.mp hb with w | w
        · subst w; simpa using z
        · have := hr.1 b w; simp; omega
      rw [e]
      have hm := getD_mem (S := a :: r) h
      refine ⟨fun w => by simp at w, fun w => ?_⟩
      rcases List.mem_cons.mp hm with y | y
      · omega
      · have := hr.1 _ y; omega
/-- how many of the stock may come next -/
def al (S parts : List Int) : Nat := match parts.getLast? with
  | none => S.length
  | some x => (S.filter fun p => decide (p ≤ x)).length
theorem al_le (S parts : List Int) : al S parts ≤ S.length := by
  unfold al
  split
  · exact Nat.le_refl _
  · exact List.length_filter_le _ _
theorem al_snoc {S parts : List Int} (up : S.Pairwise (· < ·)) {i : Nat} (h : i < S.length) : al S (parts ++ [S.getD i 0]) = i + 1 := by
  unfold al
  rw [List.getLast?_concat]
  show (S.filter fun p => decide (p ≤ S.getD i 0)).length = i + 1
  have h1 := (up_filter up (S.getD i 0) i h).mpr (Int.le_refl _)
  have h2 := List.length_filter_le (fun p => decide (p ≤ S.getD i 0)) S
  by_cases z : i + 1 < S.length
  · have h3 := (up_filter up (S.getD i 0) (i + 1) z)
    have h4 : S.getD i 0 < S.getD (i + 1) 0 := by
      have := List.pairwise_iff_getElem.mp up i (i + 1) h z (by omega)
      rw [List.getD_eq_getElem?_getD, List.getD_eq_getElem?_getD, List.getElem?_eq_getElem h, List.getElem?_eq_getElem z]
      exact this
    have : ¬ i + 1 < (S.filter fun p => decide (p ≤ S.getD i 0)).length := fun w => by have := h3.mp w; omega
    omega
  · omega
theorem urow_step (S : List Int) (i t : Nat) : urow (S.take i) t ≤ urow (S.take (i + 1)) t := by
  by_cases h : i < S.length
  · rw [urow_snoc (getD_get h)]
    rw [ust]; omega
  · rw [List.take_of_length_le (by omega), List.take_of_length_le (by omega)]; exact Nat.le_refl _
theorem urow_one : ∀ t, urow [1] t = 1
  | 0 => by show ust 1 _ 0 = 1; rw [ust_lt (by omega)]; rfl
  | t + 1 => by
    show ust 1 _ (t + 1) = 1
    rw [ust_le (by omega) (by omega)]
    have := urow_one t
    show (if t + 1 = 0 then 1 else 0) + ust 1 _ t = 1
    rw [if_neg (by omega)]
    have e : ust 1 (fun t => if t = 0 then 1 else 0) t = urow [1] t := rfl
    rw [e, this]
theorem urow_pos {S : List Int} (k : Stk S) : ∀ (j t : Nat), 1 ≤ urow (S.take (j + 1)) t
  | 0, t => by
    have : S.take 1 = [1] := by
      have := k.one
      cases S with
      | nil => simp at this
      | cons x r => have e : x = 1 := by simpa using this
                    subst e; rfl
    rw [this, urow_one]; exact Nat.le_refl _
  | j + 1, t => Nat.le_trans (urow_pos k j t) (urow_step S (j + 1) t)
def uext (S : List Int) (t i : Nat) : Nat := if (S.getD i 0).toNat ≤ t then urow (S.take (i + 1)) (t - (S.getD i 0).toNat) else 0
theorem urow_exp {S : List Int} (hp : ∀ x ∈ S, 1 ≤ x) (t : Nat) : ∀ j, j ≤ S.length → urow (S.take j) t = (if t = 0 then 1 else 0) + ksum (uext S t) j
  | 0, _ => rfl
  | j + 1, h => by
    have hj : j < S.length := by omega
    have p1 := hp _ (getD_mem hj)
    show _ = _ + (ksum (uext S t) j + uext S t j)
    have ih := urow_exp hp t j (by omega)
    have e := urow_snoc (getD_get hj)
    unfold uext
    by_cases z : (S.getD j 0).toNat ≤ t
    · rw [if_pos z, e, ust_le (by omega) z, ih]
      unfold uext; omega
    · rw [if_neg z, e, ust_lt (by omega), ih]
      unfold uext; omega
def comp (S : List Int) (nd : List Int × Nat) : Nat := urow (S.take (al S nd.1)) nd.2
def total (S : List Int) (ns : List (List Int × Nat)) : Nat := (ns.map (comp S)).sum
theorem total_app (S : List Int) (a b : List (List Int × Nat)) : total S (a ++ b) = total S a + total S b := by
  unfold total; rw [List.map_append, List.sum_append]
theorem total_one (S : List Int) (nd : List Int × Nat) : total S [nd] = comp S nd := by
  unfold total; simp
/-- a node -/
structure NdOk (S : List Int) (n c : Nat) (nd : List Int × Nat) : Prop where
  mem : ∀ x ∈ nd.1, x ∈ S
  len : nd.1.length = c
  le : nd.2 + c ≤ n
theorem comp_pos {S : List Int} {n c : Nat} {nd : List Int × Nat} (k : 1 ≤ n → Stk S) (h : NdOk S n c nd) : 1 ≤ comp S nd := by
  unfold comp
  by_cases z : nd.2 = 0
  · rw [z]
    have : ∀ j, 1 ≤ urow (S.take j) 0 := by
      intro j
      induction j with
      | zero => exact Nat.le_refl _
      | succ j ih => exact Nat.le_trans ih (urow_step S j 0)
    exact this _
  · have st := k (by have := h.le; omega)
    have hal : 1 ≤ al S nd.1 := by
      unfold al
      cases e : nd.1.getLast? with
      | none => exact st.lt
      | some x =>
        have hx : x ∈ S := h.mem x (List.mem_of_getLast? e)
        have := st.pos x hx
        show 1 ≤ (S.filter fun p => decide (p ≤ x)).length
        exact List.length_pos_of_mem (a := 1) (List.mem_filter.mpr ⟨st.mem, decide_eq_true this⟩)
    obtain ⟨j, ej⟩ : ∃ j, al S nd.1 = j + 1 := ⟨al S nd.1 - 1, by omega⟩
    rw [ej]; exact urow_pos st j _
/-- nodes in a heap -/
structure NdL (R : Addr → Prop) (H : Hp) (qs : List Addr) (ns : List (List Int × Nat)) : Prop where
  len : qs.length = ns.length
  at_ : ∀ (j : Nat) (q : Addr) (nd : List Int × Nat), qs[j]? = some q → ns[j]? = some nd → ∃ pp, H q = some (.lst [.ref pp, .int (nd.2 : Nat)]) ∧ H pp = some (.lst (nd.1.map V.int)) ∧ ¬ R q ∧ ¬ R pp
theorem NdL.keep {R : Addr → Prop} {H H' : Hp} {qs : List Addr} {ns : List (List Int × Nat)} (x : NdL R H qs ns) (k : Keep R H H') : NdL R H' qs ns := ⟨x.len, fun j q nd h1 h2 => by
  obtain ⟨pp, a, b, c, d⟩ := x.at_ j q nd h1 h2
  exact ⟨pp, k _ _ c a, k _ _ d b, c, d⟩⟩
theorem NdL.snoc {R : Addr → Prop} {H : Hp} {qs : List Addr} {ns : List (List Int × Nat)} {q pp : Addr} {nd : List Int × Nat} (x : NdL R H qs ns) (a : H q = some (.lst [.ref pp, .int (nd.2 : Nat)])) (b : H pp = some (.lst (nd.1.map V.int))) (c : ¬ R q) (d : ¬ R pp) : NdL R H (qs ++ [q]) (ns ++ [nd]) := by
  refine ⟨by simp [x.len], fun j q' nd' h1 h2 => ?_⟩
  by_cases z : j < qs.length
  · rw [List.getElem?_append_left z] at h1
    rw [List.getElem?_append_left (by rw [← x.len]; exact z)] at h2
    exact x.at_ j q' nd' h1 h2
  · rw [List.getElem?_append_right (by omega)] at h1
    rw [List.getElem?_append_right (by rw [← x.len]; omega), ← x.len] at h2
    have z2 : j - qs.length = 0 := by
      by_cases y : j - qs.length = 0
      · exact y
      · rw [List.getElem?_eq_none (by simp; omega)] at h1; cases h1
    rw [z2] at h1 h2
    have e1 : q = q' := by simpa using h1
    have e2 : nd = nd' := by simpa using h2
    subst e1; subst e2
    exact ⟨pp, a, b, c, d⟩
theorem NdL.nil {R : Addr → Prop} {H : Hp} : NdL R H [] [] := ⟨rfl, fun j q nd h => by simp at h⟩
def dNd (nd : List Int × Nat) : PyData := .list [.list (nd.1.map PyData.int), .int (nd.2 : Nat)]
theorem NdL.dp {R : Addr → Prop} {K : Fg} {H : Hp} : ∀ {qs : List Addr} {ns : List (List Int × Nat)}, NdL R H qs ns → DpAll K H (qs.map V.ref) (ns.map dNd)
  | [], [], _ => .nil
  | [], _ :: _, x => by have := x.len; simp at this
  | _ :: _, [], x => by have := x.len; simp at this
  | q :: qs, nd :: ns, x => by
    obtain ⟨pp, a, b, _, _⟩ := x.at_ 0 q nd rfl rfl
    refine .cons (.lst (sq_of a) (.cons (dp_ints (sq_of b)) (.cons (.int _) .nil))) (NdL.dp (R := R) ⟨by have := x.len; simpa using this, fun j q' nd' h1 h2 => x.at_ (j + 1) q' nd' h1 h2⟩)
/-! ### joins -/
theorem j_seq {t u : TS} {D : Ends} {σ : L2.St} {H : Hp} (P : L2.St → Hp → Prop) (h2 : ∀ σ H, P σ H → u D σ H) (h1 : (∀ σ H, P σ H → u D σ H) → t { D with nx := u D } σ H) : tSeq t u D σ H := h1 h2
section
variable {G : Gx} {H : Hp} {Q : VK} {E : XK} {a : Addr} {ks : List V}
/-- what a part brings -/
def ubr (S : List Int) (nd : List Int × Nat) (i : Nat) : Nat := if i < al S nd.1 then uext S nd.2 i else 0
theorem comp_eq {S : List Int} (hp : ∀ x ∈ S, 1 ≤ x) (nd : List Int × Nat) : comp S nd = (if nd.2 = 0 then 1 else 0) + ksum (ubr S nd) S.length := by
  unfold comp
  rw [urow_exp hp nd.2 _ (al_le S nd.1)]
  congr 1
  rw [ksum_more (g := ubr S nd) (n := al S nd.1) (al_le S nd.1) fun k h1 h2 => by unfold ubr; rw [if_neg (by omega)]]
  exact ksum_ext fun k hk => by unfold ubr; rw [if_pos hk]
end
/-! ### what is a sum -/
structure SumOk (L : List Int) (n : Int) (xs : List Int) : Prop where
  mem : ∀ x ∈ xs, x ∈ L
  sum : xs.sum = n
  fall : xs.Pairwise (· ≥ ·)
theorem fall_iff : ∀ {xs : List Int}, xs.Pairwise (· ≥ ·) ↔ ∀ k, 1 ≤ k → k < xs.length → xs.getD k 0 ≤ xs.getD (k - 1) 0
  | [] => by simp
  | [x] => by
    constructor
    · intro _ k h1 h2; simp at h2; omega
    · intro _; simp
  | x :: y :: r => by
    rw [List.pairwise_cons]
    constructor
    · rintro ⟨h1, h2⟩ k hk hl
      have ih := (fall_iff (xs := y :: r)).mp h2
      cases k with
      | zero => omega
      | succ k =>
        cases k with
        | zero => exact h1 y (by simp)
        | succ k =>
          have := ih (k + 1) (by omega) (by simpa using hl)
          exact this
    · intro h
      have ih := (fall_iff (xs := y :: r)).mpr fun k h1 h2 => by
        have := h (k + 1) (by omega) (by simpa using h2)
        obtain ⟨k', rfl⟩ : ∃ k', k = k' + 1 := ⟨k - 1, by omega⟩
        exact this
      have hxy : y ≤ x := h 1 (by omega) (by simp)
      refine ⟨fun z hz => ?_, ih⟩
      rcases List.mem_cons.mp hz with rfl | w
      · exact hxy
      · have := (List.pairwise_cons.mp ih).1 z w
        show z ≤ x
        have : z ≤ y := this
        omega
theorem given_empty {f : Nat → Option V} : ∀ {n : Nat}, (∀ i < n, f i = none) → given f n = []
  | 0, _ => rfl
  | n + 1, h => by
    show given f n ++ _ = []
    rw [given_empty fun i hi => h i (by omega), h n (by omega)]; rfl
theorem given_some {f : Nat → Option V} : ∀ {n i : Nat} {y : V}, i < n → f i = some y → y ∈ given f n
  | n + 1, i, y, hi, e => by
    show y ∈ given f n ++ _
    by_cases z : i = n
    · subst z; rw [e]; simp
    · exact List.mem_append_left _ (given_some (by omega) e)
section
variable {G : Gx} {H : Hp} {Q : VK} {E : XK} {a t : Addr} {ks : List V}
theorem u_is_sum {n : Nat} {xs : List Int} (ha : H a = some (.lst ks)) (hk : KdL ks) (hn : n ≤ 200) (ht : SqL G.K H t (xs.map V.int)) (htl : H t = some (.lst (xs.map V.int))) (hl : xs.length ≤ 1000)
    (h : ∀ L b H', Same H H' → StockOf ks n L → (b = true ↔ SumOk L n xs) → Q (.bl b) H') : sp_is_sum G [.ref a, .int n, .ref t] H Q E := by
  refine ⟨rfl, ?_⟩
  unfold t_is_sum
  have hk5 := hk.hi
  wtm_at "w"
  refine u_need_kinds ha hk fun H1 s1 => ?_
  wtm_at "w"
  refine u_need_to_most (by omega) (by omega) ?_
  wtm_at "wa"
  have t1 := s1 _ _ htl
  refine i_isiLL t1 ?_
  wtm_at "wa"
  refine i_lstA (sq_of t1) ?_
  refine lck_pure walk_list (by rw [List.length_map]; omega) (fun _ => none) (fun H' s => sq_of (s _ _ t1)) (fun i x H5 H6 KK NN hi s y hK hN => ?_) (fun p H2 np s2 e2 => ?_)
  · obtain ⟨rfl, hx⟩ := y
    rw [List.getElem?_map] at hx
    obtain ⟨x0, _, rfl⟩ := Option.map_eq_some_iff.mp hx
    wtm_at "w"
    refine ⟨rfl, ?_⟩
    wtm_at "w"
    refine u_is_whole_int ?_
    wtm_at "w"
    exact hN _ rfl (fun _ _ z => z)
  · rw [given_none] at e2
    wtm_at "w"
    refine i_new (by simp) fun q nq => ?_
    refine i_neL (xs := []) (ys := []) (sq_of (upd_old nq e2)) (sq_of upd_same) rfl rfl ?_
    have s3 : Same H (upd H2 q (.lst [])) := (s1.trans s2).trans (same_new nq)
    generalize upd H2 q (.lst []) = H3 at s3 ⊢
    wtm_at "w"
    refine u_stock_of (sq_of (s3 _ _ ha)) hk.kd (by omega) (by omega) (by omega) fun sp L H4 s4 nsp e4 hL => ?_
    have s04 := s3.trans s4
    have t4 := s04 _ _ htl
    have no : ∀ H', Same H H' → ¬ SumOk L n xs → Q (.bl false) H' := fun H' s z => h L false H' s hL ⟨fun w => (by cases w), fun w => absurd w z⟩
    wtm_at "wa"
    refine i_lstA (sq_of t4) ?_
    refine lck_pure walk_list (by rw [List.length_map]; omega) (fun i => ((xs[i]?).bind fun x => if x ∈ L then none else some x).map V.int) (fun H' s => sq_of (s _ _ t4)) (fun i x H5 H6 KK NN hi s y hK hN => ?_) (fun p5 H5 np5 s5 e5 => ?_)
    · obtain ⟨rfl, hx⟩ := y
      rw [List.getElem?_map] at hx
      obtain ⟨x0, hx0, rfl⟩ := Option.map_eq_some_iff.mp hx
      wtm_at "w"
      refine ⟨rfl, ?_⟩
      wtm_at "w"
      refine i_ninL (sq_of (s _ _ e4)) rfl (ints_flat _) ?_
      rw [inV_int]
      wtm_at "w"
      refine i_iteN (fun hz => ?_) (fun hz => ?_)
      · exact hN _ (by rw [hx0]; show (if x0 ∈ L then none else some x0).map V.int = _; rw [if_pos hz]; rfl) (fun _ _ z => z)
      · wtm_at "w"
        exact hK _ _ (by rw [hx0]; show (if x0 ∈ L then none else some x0).map V.int = _; rw [if_neg hz]; rfl) (fun _ _ z => z)
    · rw [List.length_map, given_ints] at e5
      wtm_at "wa"
      refine i_new (by simp) fun q6 nq6 => ?_
      refine i_neL (ys := []) (sq_of (upd_old nq6 e5)) (sq_of upd_same) (ints_sV _) rfl ?_
      have s46 : Same H4 (upd H5 q6 (.lst [])) := s5.trans (same_new nq6)
      generalize upd H5 q6 (.lst []) = H6 at s46 ⊢
      have s06 := s04.trans s46
      wtm_at "wa"
      refine i_both (fun hz => ?_) (fun hz => ?_)
      · wtm_at "wa"
        refine no _ s06 fun z => ?_
        have hz' : ¬ xs.filterMap (fun x => if x ∈ L then none else some x) = [] := by
          intro w; rw [w] at hz; simp at hz
        refine hz' (List.filterMap_eq_nil_iff.mpr fun x hx => ?_)
        rw [if_pos (z.mem x hx)]
      · have hm : ∀ x ∈ xs, x ∈ L := fun x hx => by
          have hz' : xs.filterMap (fun x => if x ∈ L then none else some x) = [] := by simpa using hz
          have := List.filterMap_eq_nil_iff.mp hz' x hx
          by_cases w : x ∈ L
          · exact w
          · rw [if_neg w] at this; cases this
        wtm_at "wa"
        refine i_sumL (sq_of (s46 _ _ t4)) ?_
        wtm_at "wa"
        refine i_iteN (fun hs => ?_) (fun hs => ?_)
        · wtm_at "w"
          refine i_lenL (sq_of (s46 _ _ t4)) ?_
          rw [List.length_map]
          wtm_at "w"
          refine i_rngA2 (by omega) ?_
          refine lck_pure walk_range (by omega) (fun i => if xs.getD i 0 < xs.getD (i + 1) 0 then some (.int (1 + (i : Nat))) else none) (fun _ _ => trivial) (fun i x H7 H8 KK NN hi s y hK hN => ?_) (fun p7 H7 np7 s7 e7 => ?_)
          · obtain ⟨rfl, rfl⟩ := y
            have t7 := s _ _ (s46 _ _ t4)
            wtm_at "w"
            refine ⟨rfl, ?_⟩
            wtm_at "w"
            refine i_ixL (sq_of t7) (ints_at (S := xs) (j := i) (by omega) (by omega)) ?_
            wtm_at "w"
            refine i_ixL (sq_of t7) (ints_at (S := xs) (j := i + 1) (by omega) (by omega)) ?_
            wtm_at "w"
            refine i_ite (fun hlt => ?_) (fun hlt => ?_)
            · wtm_at "w"
              exact hK _ _ (if_pos hlt) (fun _ _ z => z)
            · exact hN _ (if_neg hlt) (fun _ _ z => z)
          · wtm_at "w"
            refine i_new (by simp) fun q8 nq8 => ?_
            have hall : (given (fun i => if xs.getD i 0 < xs.getD (i + 1) 0 then some (V.int (1 + (i : Nat))) else none) ((xs.length : Int) - 1).toNat).all sV = true := given_all fun i _ y e => by
              by_cases w : xs.getD i 0 < xs.getD (i + 1) 0
              · rw [if_pos w] at e; cases e; rfl
              · rw [if_neg w] at e; cases e
            refine i_eqL (ys := []) (sq_of (upd_old nq8 e7)) (sq_of upd_same) hall rfl ?_
            refine h L _ _ ((s06.trans s7).trans (same_new nq8)) hL ?_
            rw [decide_eq_true_iff]
            constructor
            · intro w
              refine ⟨hm, hs, fall_iff.mpr fun k h1 h2 => ?_⟩
              refine Int.not_lt.mp fun z => ?_
              have := given_some (f := fun i => if xs.getD i 0 < xs.getD (i + 1) 0 then some (V.int (1 + (i : Nat))) else none) (n := ((xs.length : Int) - 1).toNat) (i := k - 1) (by omega) (if_pos (by rw [show k - 1 + 1 = k by omega]; exact z))
              rw [w] at this; cases this
            · intro w
              refine given_empty fun i hi => if_neg ?_
              have := fall_iff.mp w.fall (i + 1) (by omega) (by omega)
              rw [Nat.add_sub_cancel] at this
              omega
        · wtm_at "w"
          exact no _ s06 fun z => hs z.sum
end
/-! ### the first sum is one -/
theorem up_getD {S : List Int} (up : S.Pairwise (· < ·)) {i j : Nat} (h : i ≤ j) (hj : j < S.length) : S.getD i 0 ≤ S.getD j 0 := by
  by_cases z : i = j
  · subst z; exact Int.le_refl _
  · have := List.pairwise_iff_getElem.mp up i j (by omega) hj (by omega)
    rw [List.getD_eq_getElem?_getD, List.getD_eq_getElem?_getD, List.getElem?_eq_getElem hj, List.getElem?_eq_getElem (show i < S.length by omega)]
    exact Int.le_of_lt this
/-! ### few are enough -/
/-! ### all sums, one by one -/
/-- nodes as tuples -/
structure NdT (R : Addr → Prop) (H : Hp) (qs : List Addr) (ns : List (List Int × Nat)) : Prop where
  len : qs.length = ns.length
  at_ : ∀ (j : Nat) (q : Addr) (nd : List Int × Nat), qs[j]? = some q → ns[j]? = some nd → ∃ pp, H q = some (.tup [.ref pp, .int (nd.2 : Nat)]) ∧ H pp = some (.lst (nd.1.map V.int)) ∧ ¬ R q ∧ ¬ R pp
theorem NdT.keep {R : Addr → Prop} {H H' : Hp} {qs : List Addr} {ns : List (List Int × Nat)} (x : NdT R H qs ns) (k : Keep R H H') : NdT R H' qs ns := ⟨x.len, fun j q nd h1 h2 => by
  obtain ⟨pp, a, b, c, d⟩ := x.at_ j q nd h1 h2
  exact ⟨pp, k _ _ c a, k _ _ d b, c, d⟩⟩
theorem NdT.nil {R : Addr → Prop} {H : Hp} : NdT R H [] [] := ⟨rfl, fun j q nd h => by simp at h⟩
theorem NdT.app {R : Addr → Prop} {H : Hp} {qs qs' : List Addr} {ns ns' : List (List Int × Nat)} (x : NdT R H qs ns) (y : NdT R H qs' ns') : NdT R H (qs ++ qs') (ns ++ ns') := by
  refine ⟨by simp [x.len, y.len], fun j q nd h1 h2 => ?_⟩
  by_cases z : j < qs.length
  · rw [List.getElem?_append_left z] at h1
    rw [List.getElem?_append_left (by rw [← x.len]; exact z)] at h2
    exact x.at_ j q nd h1 h2
  · rw [List.getElem?_append_right (by omega)] at h1
    rw [List.getElem?_append_right (by rw [← x.len]; omega), ← x.len] at h2
    exact y.at_ _ q nd h1 h2
theorem NdT.one {R : Addr → Prop} {H : Hp} {q pp : Addr} {nd : List Int × Nat} (a : H q = some (.tup [.ref pp, .int (nd.2 : Nat)])) (b : H pp = some (.lst (nd.1.map V.int))) (c : ¬ R q) (d : ¬ R pp) : NdT R H [q] [nd] := by
  refine ⟨rfl, fun j q' nd' h1 h2 => ?_⟩
  have z : j = 0 := by
    have := (List.getElem?_eq_some_iff.mp h1).1
    simpa using this
  subst z
  have e1 : q = q' := by simpa using h1
  have e2 : nd = nd' := by simpa using h2
  subst e1; subst e2
  exact ⟨pp, a, b, c, d⟩
def dNt (nd : List Int × Nat) : PyData := .tuple [.list (nd.1.map PyData.int), .int (nd.2 : Nat)]
theorem nodesT_shaped (ns : List (List Int × Nat)) : SeqAt.shaped (.list (ns.map dNt)) = true := by
  have h1 : ∀ nd : List Int × Nat, (dNt nd).canLay0 = true ∧ (dNt nd).depth = 2 := fun nd => by
    have := layAll_sV (ints_sV nd.1)
    rw [toD_ints] at this
    unfold dNt
    simp [PyData.canLay0, PyData.depth, PyData.canLayAll0, PyData.depthAll, this.1, this.2]
  have h2 : PyData.canLayAll0 (ns.map dNt) = true ∧ PyData.depthAll (ns.map dNt) ≤ 2 := by
    induction ns with
    | nil => simp [PyData.canLayAll0, PyData.depthAll]
    | cons r q ih =>
      have a := h1 r
      refine ⟨by simp only [List.map_cons, PyData.canLayAll0, a.1, ih.1, Bool.and_true], ?_⟩
      simp only [List.map_cons, PyData.depthAll, a.2]
      omega
  unfold SeqAt.shaped
  simp only [PyData.canLay0, PyData.depth, h2.1, Bool.true_and]
  simp
  omega
theorem NdT.dp {R : Addr → Prop} {K : Fg} {H : Hp} : ∀ {qs : List Addr} {ns : List (List Int × Nat)}, NdT R H qs ns → DpAll K H (qs.map V.ref) (ns.map dNt)
  | [], [], _ => .nil
  | [], _ :: _, x => by have := x.len; simp at this
  | _ :: _, [], x => by have := x.len; simp at this
  | q :: qs, nd :: ns, x => by
    obtain ⟨pp, a, b, _, _⟩ := x.at_ 0 q nd rfl rfl
    exact .cons (.tup (st_of a) (.cons (dp_ints (sq_of b)) (.cons (.int _) .nil))) (NdT.dp (R := R) ⟨by have := x.len; simpa using this, fun j q' nd' h1 h2 => x.at_ (j + 1) q' nd' h1 h2⟩)
theorem i_neNodesT {R : Addr → Prop} {K : Fg} {H : Hp} {Q : VK} {p e : Addr} {qs : List Addr} {ns : List (List Int × Nat)} (h1 : H p = some (.lst (qs.map V.ref))) (x : NdT R H qs ns) (h2 : H e = some (.lst [])) (h : Q (.bl (!decide (ns = []))) H) : uNe K (.ref p) (.ref e) H Q := by
  refine i_neG (.lst (sq_of h1) x.dp) (.lst (sq_of h2) .nil) (nodesT_shaped ns) (nodesT_shaped []) ?_
  have e : PyData.eqv (.list (ns.map dNt)) (.list []) = decide (ns = []) := by
    cases ns with
    | nil => simp [PyData.eqv, PyData.eqvAll]
    | cons r q => simp [PyData.eqv, PyData.eqvAll]
  rw [e]; exact h
/-- the nodes behind a node, by the first parts -/
def chn (S : List Int) (nd : List Int × Nat) : Nat → List (List Int × Nat)
  | 0 => []
  | j + 1 => chn S nd j ++ (if (S.getD j 0).toNat ≤ nd.2 ∧ j < al S nd.1 then [(nd.1 ++ [S.getD j 0], nd.2 - (S.getD j 0).toNat)] else [])
theorem chn_total {S : List Int} (up : S.Pairwise (· < ·)) (nd : List Int × Nat) : ∀ j, j ≤ S.length → total S (chn S nd j) = ksum (ubr S nd) j
  | 0, _ => rfl
  | j + 1, h => by
    show total S (chn S nd j ++ _) = ksum (ubr S nd) j + ubr S nd j
    rw [total_app, chn_total up nd j (by omega)]
    congr 1
    unfold ubr uext
    by_cases z : (S.getD j 0).toNat ≤ nd.2 ∧ j < al S nd.1
    · rw [if_pos z, if_pos z.2, if_pos z.1, total_one]
      unfold comp
      show urow (S.take (al S (nd.1 ++ [S.getD j 0]))) _ = _
      rw [al_snoc up (by omega)]
    · rw [if_neg z]
      by_cases w : j < al S nd.1
      · rw [if_pos w, if_neg (fun y => z ⟨y, w⟩)]; rfl
      · rw [if_neg w]; rfl
theorem chn_mem {S : List Int} {nd x : List Int × Nat} : ∀ {j : Nat}, x ∈ chn S nd j → ∃ i < j, (S.getD i 0).toNat ≤ nd.2 ∧ i < al S nd.1 ∧ x = (nd.1 ++ [S.getD i 0], nd.2 - (S.getD i 0).toNat)
  | 0, h => by cases h
  | j + 1, h => by
    rcases List.mem_append.mp h with z | z
    · obtain ⟨i, a, b⟩ := chn_mem z
      exact ⟨i, by omega, b⟩
    · by_cases w : (S.getD j 0).toNat ≤ nd.2 ∧ j < al S nd.1
      · rw [if_pos w] at z
        exact ⟨j, by omega, w.1, w.2, List.mem_singleton.mp z⟩
      · rw [if_neg w] at z; cases z
theorem chn_has {S : List Int} {nd : List Int × Nat} {i : Nat} (h1 : (S.getD i 0).toNat ≤ nd.2) (h2 : i < al S nd.1) : ∀ {j : Nat}, i < j → (nd.1 ++ [S.getD i 0], nd.2 - (S.getD i 0).toNat) ∈ chn S nd j
  | j + 1, h => by
    show _ ∈ chn S nd j ++ _
    by_cases z : i = j
    · subst z
      rw [if_pos ⟨h1, h2⟩]; simp
    · exact List.mem_append_left _ (chn_has h1 h2 (by omega))
theorem chn_len {S : List Int} {nd : List Int × Nat} : ∀ j, (chn S nd j).length ≤ j
  | 0 => Nat.le_refl _
  | j + 1 => by
    have := chn_len (S := S) (nd := nd) j
    show (chn S nd j ++ _).length ≤ _
    rw [List.length_append]
    split <;> simp <;> omega
/-- a beginning of a sum -/
structure Beg (S : List Int) (n : Nat) (nd : List Int × Nat) : Prop where
  mem : ∀ x ∈ nd.1, x ∈ S
  sum : nd.1.sum + (nd.2 : Int) = n
  fall : nd.1.Pairwise (· ≥ ·)
theorem Beg.ok {S : List Int} {n : Nat} {nd : List Int × Nat} (hp : ∀ x ∈ S, 1 ≤ x) (b : Beg S n nd) : NdOk S n nd.1.length nd := ⟨b.mem, rfl, by
  have := sum_nn (l := nd.1) fun x hx => hp x (b.mem x hx)
  have := b.sum
  omega⟩
theorem al_iff {S parts : List Int} (up : S.Pairwise (· < ·)) {i : Nat} (hi : i < S.length) : i < al S parts ↔ ∀ x, parts.getLast? = some x → S.getD i 0 ≤ x := by
  unfold al
  cases e : parts.getLast? with
  | none => exact ⟨fun _ x z => (by cases z), fun _ => hi⟩
  | some y =>
    show i < (S.filter fun p => decide (p ≤ y)).length ↔ _
    rw [up_filter up y i hi]
    exact ⟨fun z x w => by cases w; exact z, fun z => z y rfl⟩
theorem fall_snoc {xs : List Int} {p : Int} (h : xs.Pairwise (· ≥ ·)) (hl : ∀ x, xs.getLast? = some x → p ≤ x) : (xs ++ [p]).Pairwise (· ≥ ·) := by
  rw [List.pairwise_append]
  refine ⟨h, by simp, fun x hx y hy => ?_⟩
  rw [List.mem_singleton.mp hy]
  rcases List.eq_nil_or_concat xs with rfl | ⟨ys, z, rfl⟩
  · cases hx
  · rw [List.concat_eq_append] at *
    have hz := hl z (by rw [List.getLast?_concat])
    rcases List.mem_append.mp hx with w | w
    · have := (List.pairwise_append.mp h).2.2 x w z (by simp)
      show p ≤ x
      have : z ≤ x := this
      omega
    · rw [List.mem_singleton.mp w]; exact hz
theorem Beg.child {S : List Int} {n : Nat} {nd x : List Int × Nat} (up : S.Pairwise (· < ·)) (hp : ∀ x ∈ S, 1 ≤ x) (b : Beg S n nd) (h : x ∈ chn S nd S.length) : Beg S n x ∧ x.2 < nd.2 := by
  obtain ⟨i, hi, h1, h2, rfl⟩ := chn_mem h
  have hm := getD_mem hi
  have hpi := hp _ hm
  refine ⟨⟨fun x hx => ?_, ?_, fall_snoc b.fall ((al_iff up hi).mp h2)⟩, by show nd.2 - _ < nd.2; omega⟩
  · rcases List.mem_append.mp hx with z | z
    · exact b.mem x z
    · rw [List.mem_singleton.mp z]; exact hm
  · have := b.sum
    rw [List.sum_append]
    show nd.1.sum + (S.getD i 0 + 0) + ((nd.2 - (S.getD i 0).toNat : Nat) : Int) = n
    omega
/-- a sum that begins so is the beginning, or goes on -/
theorem Beg.goes {S : List Int} {n : Nat} {nd : List Int × Nat} (up : S.Pairwise (· < ·)) (hp : ∀ x ∈ S, 1 ≤ x) (b : Beg S n nd) {r : List Int} (hr : SumOk S n r) (hpre : nd.1 <+: r) : (r = nd.1 ∧ nd.2 = 0) ∨ ∃ x ∈ chn S nd S.length, x.1 <+: r := by
  obtain ⟨t, rfl⟩ := hpre
  cases t with
  | nil =>
    left
    have h1 := hr.sum
    have h2 := b.sum
    rw [List.append_nil] at h1
    exact ⟨by simp, by omega⟩
  | cons p t =>
    right
    have hpm := hr.mem p (by simp)
    obtain ⟨i, hi, ei⟩ := List.mem_iff_getElem.mp hpm
    have eg : S.getD i 0 = p := by rw [List.getD_eq_getElem?_getD, List.getElem?_eq_getElem hi]; exact ei
    have hs := hr.sum
    rw [List.sum_append, List.sum_cons] at hs
    have hb := b.sum
    have ht := sum_nn (l := t) fun x hx => hp x (hr.mem x (by simp [hx]))
    have hp1 := hp p hpm
    have hal : i < al S nd.1 := (al_iff up hi).mpr fun x hx => by
      have := (List.pairwise_append.mp hr.fall).2.2 x (List.mem_of_getLast? hx) p (by simp)
      rw [eg]; exact this
    refine ⟨(nd.1 ++ [S.getD i 0], nd.2 - (S.getD i 0).toNat), chn_has (by rw [eg]; omega) hal hi, ?_⟩
    show nd.1 ++ [S.getD i 0] <+: nd.1 ++ p :: t
    rw [eg]
    exact ⟨t, by simp⟩
def wgt (S : List Int) (ns : List (List Int × Nat)) : Nat := (ns.map fun nd => (S.length + 1) ^ (nd.2 + 1)).sum
theorem wgt_app (S : List Int) (a b : List (List Int × Nat)) : wgt S (a ++ b) = wgt S a + wgt S b := by unfold wgt; rw [List.map_append, List.sum_append]
theorem wgt_chn {S : List Int} {nd : List Int × Nat} (hp : ∀ x ∈ S, 1 ≤ x) : ∀ j, j ≤ S.length → wgt S (chn S nd j) ≤ j * (S.length + 1) ^ nd.2
  | 0, _ => by show 0 ≤ _; omega
  | j + 1, h => by
    show wgt S (chn S nd j ++ _) ≤ _
    rw [wgt_app, Nat.add_mul, Nat.one_mul]
    have := wgt_chn (nd := nd) hp j (by omega)
    have hpj := hp _ (getD_mem (S := S) (j := j) (by omega))
    refine Nat.add_le_add this ?_
    by_cases z : (S.getD j 0).toNat ≤ nd.2 ∧ j < al S nd.1
    · rw [if_pos z]
      unfold wgt
      simp only [List.map_cons, List.map_nil, List.sum_cons, List.sum_nil, Nat.add_zero]
      exact Nat.pow_le_pow_right (by omega) (by omega)
    · rw [if_neg z]; exact Nat.zero_le _
theorem wgt_less {S : List Int} (hp : ∀ x ∈ S, 1 ≤ x) (ns : List (List Int × Nat)) (nd : List Int × Nat) : wgt S (ns ++ chn S nd S.length) < wgt S (ns ++ [nd]) := by
  rw [wgt_app, wgt_app]
  have a := wgt_chn (nd := nd) hp S.length (Nat.le_refl _)
  have b : wgt S [nd] = (S.length + 1) ^ (nd.2 + 1) := by unfold wgt; simp
  rw [b, Nat.pow_succ, Nat.mul_comm _ (S.length + 1), Nat.add_mul, Nat.one_mul]
  have : 0 < (S.length + 1) ^ nd.2 := Nat.pow_pos (by omega)
  omega
theorem urow_24 {S : List Int} (up : S.Pairwise (· < ·)) (h : ∀ x ∈ S, 1 ≤ x ∧ x ≤ 24) {t : Nat} (ht : t ≤ 24) : urow S t < 16000000 :=
  bnd_at (urow_bnd 24 S up h) (by decide +kernel) ht
theorem Beg.total {S : List Int} {n : Nat} (hp : ∀ x ∈ S, 1 ≤ x) (k : 1 ≤ n → Stk S) : ∀ {ns : List (List Int × Nat)}, (∀ nd ∈ ns, Beg S n nd) → ns.length ≤ total S ns
  | [], _ => Nat.zero_le _
  | nd :: r, h => by
    have a := comp_pos k ((h nd (by simp)).ok hp)
    have b := Beg.total hp k (ns := r) fun x hx => h x (List.mem_cons_of_mem _ hx)
    show r.length + 1 ≤ ((nd :: r).map (comp S)).sum
    rw [List.map_cons, List.sum_cons]
    have : Fs.total S r = (r.map (comp S)).sum := rfl
    omega
theorem i_pop {H : Hp} {Q : VK} {l : Addr} {xs : List V} {y : V} (e : H l = some (.lst (xs ++ [y]))) (h : Q y (upd H l (.lst xs))) : rPop (.ref l) [] H Q := by
  refine ⟨l, xs ++ [y], y, rfl, rfl, e, by simp, ?_⟩
  rw [List.dropLast_concat]; exact h
theorem g_twoT {K : Fg} {H : Hp} {σ : L2.St} {R : L2.St → Hp → Prop} {i j : Nat} {q : Addr} {x y : V} (e : H q = some (.tup [x, y])) (h : R ((σ.set i (some x)).set j (some y)) H) : gTup K 2 (gCons (gName i) (gCons (gName j) gNil)) (.ref q) σ H R :=
  ⟨q, [x, y], rfl, st_of e, rfl, x, [y], rfl, y, [], rfl, rfl, h⟩
section
variable {G : Gx} {H : Hp} {Q : VK} {E : XK} {a : Addr} {ks : List V}
/-- what is found, what waits -/
structure AllI (H0 : Hp) (S : List Int) (n : Nat) (H : Hp) (f w : Addr) (fs : List Rw) (qs : List Addr) (ns : List (List Int × Nat)) : Prop where
  ef : H f = some (.lst (fs.map fun b => .ref b.1))
  ew : H w = some (.lst (qs.map V.ref))
  fw : f ≠ w
  nd : NdT (fun z => z = f ∨ z = w ∨ H0 z ≠ none) H qs ns
  fo : ∀ b ∈ fs, H b.1 = some (.lst (b.2.map V.int)) ∧ b.1 ≠ f ∧ b.1 ≠ w ∧ SumOk S n b.2 ∧ H0 b.1 = none
  bg : ∀ x ∈ ns, Beg S n x
  all : ∀ r, SumOk S n r → r ∈ fs.map (·.2) ∨ ∃ x ∈ ns, x.1 <+: r
  cnt : fs.length + total S ns = urow S n
end
/-! ### the first sum is the least -/
theorem up_idx {S : List Int} (up : S.Pairwise (· < ·)) {i : Nat} (hi : i < S.length) {y : Int} (hy : y ∈ S) (h : y ≤ S.getD i 0) : y ∈ S.take (i + 1) := by
  obtain ⟨k, hk, rfl⟩ := List.mem_iff_getElem.mp hy
  have hki : k ≤ i := Nat.le_of_not_lt fun z => by
    have := List.pairwise_iff_getElem.mp up i k hi hk z
    rw [List.getD_eq_getElem?_getD, List.getElem?_eq_getElem hi] at h
    have h' : S[k] ≤ S[i] := h
    omega
  rw [List.mem_take_iff_getElem]
  exact ⟨k, by omega, rfl⟩
theorem sorted_rw (bs : List Rw) : (bs.mergeSort leR).Pairwise fun a b => a.2 ≤ b.2 := by
  have := List.pairwise_mergeSort (le := leR) (fun a b c h1 h2 => by
      unfold leR at *
      exact decide_eq_true (List.le_trans (of_decide_eq_true h1) (of_decide_eq_true h2)))
    (fun a b => by
      unfold leR
      rcases List.le_total a.2 b.2 with h | h
      · rw [decide_eq_true h]; rfl
      · rw [decide_eq_true h, Bool.or_true]) bs
  exact this.imp fun h => of_decide_eq_true h
theorem mem_rw {bs : List Rw} {b : Rw} : b ∈ bs.mergeSort leR ↔ b ∈ bs := (List.mergeSort_perm bs leR).mem_iff
theorem eqv_rowI (a b : List Int) : PyData.eqv (.list (a.map PyData.int)) (.list (b.map PyData.int)) = decide (a = b) := by
  simp only [PyData.eqv]
  induction a generalizing b with
  | nil => cases b <;> simp [PyData.eqvAll]
  | cons x r ih =>
    cases b with
    | nil => simp [PyData.eqvAll]
    | cons y q =>
      simp only [List.map_cons, PyData.eqvAll, ih q, PyData.eqv]
      rw [Bool.eq_iff_iff]
      simp
theorem rows_dp {K : Fg} {H : Hp} : ∀ {bs : List Rw}, (∀ b ∈ bs, H b.1 = some (.lst (b.2.map V.int))) → DpAll K H (bs.map fun b => V.ref b.1) ((bs.map (·.2)).map fun r => PyData.list (r.map PyData.int))
  | [], _ => .nil
  | b :: bs, h => .cons (dp_ints (sq_of (h b (by simp)))) (rows_dp fun b' hb => h b' (List.mem_cons_of_mem _ hb))
theorem rows_any (rs : List (List Int)) (x : List Int) : ((rs.map fun r => PyData.list (r.map PyData.int)).any fun z => PyData.eqv z (.list (x.map PyData.int))) = decide (x ∈ rs) := by
  induction rs with
  | nil => simp
  | cons r q ih =>
    rw [List.map_cons, List.any_cons, ih, eqv_rowI]
    rw [Bool.eq_iff_iff]
    simp
    constructor
    · rintro (h | h)
      · exact .inl h.symm
      · exact .inr h
    · rintro (h | h)
      · exact .inl h.symm
      · exact .inr h
theorem i_inRows {K : Fg} {H : Hp} {Q : VK} {t p : Addr} {x : List Int} {bs : List Rw} (ht : H t = some (.lst (x.map V.int))) (hp : H p = some (.lst (bs.map fun b => .ref b.1))) (hb : ∀ b ∈ bs, H b.1 = some (.lst (b.2.map V.int))) (h : Q (.bl (decide (x ∈ bs.map (·.2)))) H) : uInDp K (.ref t) (.ref p) H Q := by
  refine i_inDp (dp_ints (sq_of ht)) (.lst (sq_of hp) (rows_dp hb)) ?_ (shaped_LL _) ?_
  · have := shaped_L (ints_sV x); rw [toD_ints] at this; exact this
  · rw [rows_any]; exact h
theorem k_neBB {K : Fg} {H : Hp} {Q : VK} {a b : Bool} (h : Q (.bl (!decide (a = b))) H) : uNe K (.bl a) (.bl b) H Q := .inl ⟨rfl, by
  have e : decide (V.bl a = V.bl b) = decide (a = b) := by rw [Bool.eq_iff_iff]; simp
  rw [e]; exact h⟩
section
variable {J : It} {g : TG} {tt : TT} {te : TE} {vs : List Nat} {σ : L2.St} {H : Hp} {Q : VK} {n : Nat}
theorem lck_pureB {G : Hp → Prop} {Y : Nat → Hp → V → Hp → Prop} (w : Walk J n G Y) (hn : n ≤ 16000000) (f : Nat → Option V) (hG : ∀ H', Same H H' → G H')
    (turn : ∀ i x H1 H2 (KK : V → Hp → Prop) (NN : Hp → Prop), i < n → Same H H1 → Y i H1 x H2 → (∀ y H4, f i = some y → Same H1 H4 → KK y H4) → (∀ H3, f i = none → Same H1 H3 → NN H3) →
      g x (wipe σ vs) H2 fun σ2 H2 => wipe σ2 vs = wipe σ vs ∧ tt σ2 H2 fun b H3 => if b = true then te σ2 H3 KK else NN H3)
    (fin : ∀ p H', H p = none → Same H H' → H' p = some (.lst (given f n)) → Q (.ref p) H') : LcK J g tt te vs σ H Q := by
  refine lck w (fun D i H' => H D = none ∧ Same H H' ∧ H' D = some (.lst (given f i))) (fun D hD => ⟨hD, same_new hD, upd_same⟩) (fun D i H' _ p => hG H' p.2.1) (fun D i x H1 H2 hi p y => ?_) (fun D H' hD p => fin D H' hD p.2.1 p.2.2)
  obtain ⟨p0, p1, p2⟩ := p
  refine turn i x H1 H2 _ _ hi p1 y (fun y H4 hf s4 => ?_) (fun H3 hf s3 => ?_)
  · refine ⟨given f i, s4 _ _ p2, by have := given_len f i; rw [sizeLine_eq]; omega, p0, same_mut (p1.trans s4) p0, ?_⟩
    rw [upd_same]
    show some (HO.lst (given f i ++ [y])) = some (HO.lst (given f i ++ (match f i with | some y => [y] | none => [])))
    rw [hf]
  · refine ⟨p0, p1.trans s3, ?_⟩
    rw [s3 _ _ p2]
    show some (HO.lst (given f i)) = some (HO.lst (given f i ++ (match f i with | some y => [y] | none => [])))
    rw [hf, List.append_nil]
end
/-! ### sums by their numbers -/
def fcnt (S : List Int) (n k j : Nat) : Nat := if (S.getD j 0).toNat ≤ n then crow (S.take (j + 1)) (n - (S.getD j 0).toNat) k else 0
theorem crow_nil (n k : Nat) : crow [] n k = if n = 0 ∧ k = 0 then 1 else 0 := rfl
theorem crow_split {S : List Int} (hp : ∀ x ∈ S, 1 ≤ x) (n k : Nat) : ∀ s, s ≤ S.length → crow (S.take s) n (k + 1) = ksum (fcnt S n k) s
  | 0, _ => by rw [List.take_zero, crow_nil, if_neg (by omega)]; rfl
  | s + 1, h => by
    have hs : s < S.length := by omega
    have p1 := hp _ (getD_mem hs)
    have ih := crow_split hp n k s (by omega)
    show _ = ksum (fcnt S n k) s + fcnt S n k s
    rw [← ih]
    unfold fcnt
    have e := crow_snoc (getD_get hs)
    by_cases z : (S.getD s 0).toNat ≤ n
    · rw [if_pos z, e, cst_le (by omega) z]
    · rw [if_neg z, e, cst_lt (by omega)]; rfl
theorem crow_pos_iff {S : List Int} (hp : ∀ x ∈ S, 1 ≤ x) : ∀ s, s ≤ S.length → ∀ n k : Nat, 0 < crow (S.take s) n k ↔ XS (S.take s) k n
  | 0, _, n, k => by
    rw [List.take_zero, crow_nil]
    constructor
    · intro h
      by_cases z : n = 0 ∧ k = 0
      · obtain ⟨rfl, rfl⟩ := z; exact XS.zero.mpr rfl
      · rw [if_neg z] at h; omega
    · rintro ⟨l, h1, h2, h3⟩
      have : l = [] := List.eq_nil_iff_forall_not_mem.mpr fun x hx => by cases h1 x hx
      subst this
      have e1 : n = 0 := by simp at h3; omega
      have e2 : k = 0 := by simpa using h2.symm
      rw [if_pos ⟨e1, e2⟩]; omega
  | s + 1, h, n, k => by
    have hs : s < S.length := by omega
    have p1 := hp _ (getD_mem hs)
    have hm := take_mem (getD_get hs)
    have hpt : ∀ x ∈ S.take (s + 1), 1 ≤ x := fun x hx => hp x (List.mem_of_mem_take hx)
    rw [crow_snoc (getD_get hs)]
    induction n using Nat.strongRecOn generalizing k with
    | ind n ihn =>
      cases k with
      | zero =>
        rw [cst_zero, crow_pos_iff hp s (by omega) n 0, XS.zero, XS.zero]
      | succ k =>
        have ih := crow_pos_iff hp s (by omega) n (k + 1)
        rw [XS.step hm, ← ih]
        by_cases z : (S.getD s 0).toNat ≤ n
        · rw [cst_le (by omega) z]
          have ih2 := ihn (n - (S.getD s 0).toNat) (by omega) k
          rw [show (n : Int) - S.getD s 0 = ((n - (S.getD s 0).toNat : Nat) : Int) by omega]
          constructor
          · intro w
            by_cases u : 0 < crow (S.take s) n (k + 1)
            · exact .inl u
            · exact .inr (ih2.mp (by omega))
          · rintro (w | w)
            · omega
            · have := ih2.mpr w; omega
        · rw [cst_lt (by omega)]
          constructor
          · exact .inl
          · rintro (w | w)
            · exact w
            · have := w.nn hpt; omega
theorem crow_posI {S : List Int} (hp : ∀ x ∈ S, 1 ≤ x) (n k : Nat) : 0 < crow S n k ↔ XS S k n := by
  have := crow_pos_iff hp S.length (Nat.le_refl _) n k
  rwa [List.take_length] at this
theorem crow_00 (S : List Int) : crow S 0 0 = 1 := by
  have : ∀ (S : List Int) (f : Nat → Nat → Nat), f 0 0 = 1 → (S.foldl (fun f p => cst p.toNat f) f) 0 0 = 1 := by
    intro S
    induction S with
    | nil => intro f h; exact h
    | cons p q ih => intro f h; exact ih _ (by show cst p.toNat f 0 0 = 1; rw [cst_zero]; exact h)
  exact this S _ rfl
/-- the sum of a number -/
noncomputable def nth (S : List Int) : Nat → Nat → Nat → List Int
  | 0, _, _ => []
  | k + 1, n, x => match firstP (fun j => decide (x < ksum (fcnt S n k) (j + 1))) S.length with
    | some j => S.getD j 0 :: nth S k (n - (S.getD j 0).toNat) (x - ksum (fcnt S n k) j)
    | none => []
/-- where its first part stands -/
theorem nth_at {S : List Int} (hp : ∀ x ∈ S, 1 ≤ x) {s n k x : Nat} (hs : s ≤ S.length) (hx : x < crow (S.take s) n (k + 1)) :
    ∃ j, j < s ∧ firstP (fun j => decide (x < ksum (fcnt S n k) (j + 1))) S.length = some j ∧ ksum (fcnt S n k) j ≤ x ∧ x < ksum (fcnt S n k) (j + 1) ∧ (∀ i < j, ksum (fcnt S n k) (i + 1) ≤ x) ∧
      (S.getD j 0).toNat ≤ n ∧ x - ksum (fcnt S n k) j < crow (S.take (j + 1)) (n - (S.getD j 0).toNat) k ∧ nth S (k + 1) n x = S.getD j 0 :: nth S k (n - (S.getD j 0).toNat) (x - ksum (fcnt S n k) j) := by
  rw [crow_split hp n k s hs] at hx
  have hs0 : s ≠ 0 := fun z => by subst z; exact Nat.not_lt_zero _ hx
  obtain ⟨j, ej⟩ := firstP_ex (P := fun j => decide (x < ksum (fcnt S n k) (j + 1))) (t := S.length) (a := s - 1) (by omega) (decide_eq_true (by rw [show s - 1 + 1 = s by omega]; exact hx))
  obtain ⟨hj, pj, nj⟩ := firstP_some ej
  have pj' : x < ksum (fcnt S n k) (j + 1) := of_decide_eq_true pj
  have nj' : ∀ i < j, ksum (fcnt S n k) (i + 1) ≤ x := fun i hi => by have := of_decide_eq_false (nj i hi); omega
  have hjs : j < s := Nat.lt_of_not_le fun z => by
    have := nj' (s - 1) (by omega)
    rw [show s - 1 + 1 = s by omega] at this; omega
  have hlo : ksum (fcnt S n k) j ≤ x := by
    cases j with
    | zero => exact Nat.zero_le _
    | succ i => exact nj' i (by omega)
  have hf : 0 < fcnt S n k j := by
    have e : ksum (fcnt S n k) (j + 1) = ksum (fcnt S n k) j + fcnt S n k j := rfl
    omega
  have hle : (S.getD j 0).toNat ≤ n := Nat.le_of_not_lt fun z => by
    unfold fcnt at hf; rw [if_neg (by omega)] at hf; omega
  refine ⟨j, hjs, ej, hlo, pj', nj', hle, ?_, ?_⟩
  · have e : ksum (fcnt S n k) (j + 1) = ksum (fcnt S n k) j + fcnt S n k j := rfl
    have e2 : fcnt S n k j = crow (S.take (j + 1)) (n - (S.getD j 0).toNat) k := if_pos hle
    omega
  · show (match firstP (fun j => decide (x < ksum (fcnt S n k) (j + 1))) S.length with
      | some j => S.getD j 0 :: nth S k (n - (S.getD j 0).toNat) (x - ksum (fcnt S n k) j)
      | none => []) = _
    rw [ej]
theorem nth_ok {S : List Int} (hp : ∀ x ∈ S, 1 ≤ x) (up : S.Pairwise (· < ·)) : ∀ {k s n x : Nat}, s ≤ S.length → x < crow (S.take s) n k → SumOk (S.take s) n (nth S k n x) ∧ (nth S k n x).length = k
  | 0, s, n, x, hs, hx => by
    have h0 : 0 < crow (S.take s) n 0 := by omega
    have := XS.zero.mp ((crow_pos_iff hp s hs n 0).mp h0)
    exact ⟨⟨fun x hx => (by cases hx), by show (0 : Int) = n; omega, List.Pairwise.nil⟩, rfl⟩
  | k + 1, s, n, x, hs, hx => by
    obtain ⟨j, hj, _, _, _, _, hle, hx', e⟩ := nth_at hp hs hx
    have hjl : j < S.length := by omega
    have p1 := hp _ (getD_mem hjl)
    obtain ⟨ih, il⟩ := nth_ok hp up (s := j + 1) (by omega) hx'
    rw [e]
    have mj : S.getD j 0 ∈ S.take s := by
      rw [List.mem_take_iff_getElem]
      refine ⟨j, by omega, ?_⟩
      rw [List.getD_eq_getElem?_getD, List.getElem?_eq_getElem hjl]; rfl
    refine ⟨⟨fun y hy => ?_, ?_, List.pairwise_cons.mpr ⟨fun y hy => ?_, ih.fall⟩⟩, by rw [List.length_cons, il]⟩
    · rcases List.mem_cons.mp hy with rfl | z
      · exact mj
      · have := ih.mem y z
        have hsub : S.take (j + 1) ⊆ S.take s := (List.take_prefix_take_left (by omega)).subset
        exact hsub this
    · rw [List.sum_cons, ih.sum]; omega
    · have hy' := ih.mem y hy
      rw [List.mem_take_iff_getElem] at hy'
      obtain ⟨i, hi, rfl⟩ := hy'
      have := up_getD up (i := i) (j := j) (by omega) hjl
      have e2 : S.getD i 0 = S[i]'(by omega) := by rw [List.getD_eq_getElem?_getD, List.getElem?_eq_getElem]; rfl
      show S[i] ≤ S.getD j 0
      omega
def rnk (S : List Int) : List Int → Nat → Nat
  | [], _ => 0
  | y :: r, n => ksum (fcnt S n r.length) (S.idxOf y) + rnk S r (n - y.toNat)
theorem up_idxOf {S : List Int} (up : S.Pairwise (· < ·)) {j : Nat} (hj : j < S.length) : S.idxOf (S.getD j 0) = j := by
  have e : S.getD j 0 = S[j] := by rw [List.getD_eq_getElem?_getD, List.getElem?_eq_getElem hj]; rfl
  rw [e]
  have nd : S.Nodup := up.imp fun h => by omega
  exact nd.idxOf_getElem j hj
theorem rnk_nth {S : List Int} (hp : ∀ x ∈ S, 1 ≤ x) (up : S.Pairwise (· < ·)) : ∀ {k s n x : Nat}, s ≤ S.length → x < crow (S.take s) n k → rnk S (nth S k n x) n = x
  | 0, s, n, x, hs, hx => by
    have h1 : crow (S.take s) n 0 ≤ 1 := by
      have h0 : 0 < crow (S.take s) n 0 := by omega
      have := XS.zero.mp ((crow_pos_iff hp s hs n 0).mp h0)
      have : n = 0 := by omega
      subst this; rw [crow_00]; omega
    show 0 = x; omega
  | k + 1, s, n, x, hs, hx => by
    obtain ⟨j, hj, _, hlo, _, _, hle, hx', e⟩ := nth_at hp hs hx
    have hjl : j < S.length := by omega
    rw [e]
    have il := (nth_ok hp up (s := j + 1) (by omega) hx').2
    show ksum (fcnt S n (nth S k (n - (S.getD j 0).toNat) (x - ksum (fcnt S n k) j)).length) (S.idxOf (S.getD j 0)) + rnk S (nth S k (n - (S.getD j 0).toNat) (x - ksum (fcnt S n k) j)) (n - (S.getD j 0).toNat) = x
    rw [il, up_idxOf up hjl, rnk_nth hp up (s := j + 1) (by omega) hx']
    omega
theorem nth_mono {S : List Int} (hp : ∀ x ∈ S, 1 ≤ x) (up : S.Pairwise (· < ·)) : ∀ {k s n x y : Nat}, s ≤ S.length → x ≤ y → y < crow (S.take s) n k → nth S k n x ≤ nth S k n y
  | 0, s, n, x, y, _, _, _ => List.le_refl _
  | k + 1, s, n, x, y, hs, hxy, hy => by
    obtain ⟨i, hi, _, ilo, ihi, ino, ile, ix, e1⟩ := nth_at hp hs (Nat.lt_of_le_of_lt hxy hy)
    obtain ⟨j, hj, _, jlo, jhi, jno, jle, jx, e2⟩ := nth_at hp hs hy
    have hij : i ≤ j := Nat.le_of_not_lt fun z => by have := ino j z; omega
    rw [e1, e2, List.cons_le_cons_iff]
    by_cases z : i = j
    · subst z
      exact .inr ⟨rfl, nth_mono hp up (s := i + 1) (by omega) (by omega) jx⟩
    · left
      have := List.pairwise_iff_getElem.mp up i j (by omega) (by omega) (by omega)
      have a1 : S.getD i 0 = S[i]'(by omega) := by rw [List.getD_eq_getElem?_getD, List.getElem?_eq_getElem]; rfl
      have a2 : S.getD j 0 = S[j]'(by omega) := by rw [List.getD_eq_getElem?_getD, List.getElem?_eq_getElem]; rfl
      omega
theorem nth_first {S : List Int} (k : Stk S) (up : S.Pairwise (· < ·)) : ∀ (m n : Nat), fewF S n = (m : Int) → nth S m n 0 = fsum S m n
  | 0, _, _ => rfl
  | m + 1, n, h => by
    obtain ⟨j, hj, f1, f2⟩ := first_xs k h (P := fun j => decide (0 < ksum (fcnt S n m) (j + 1))) (fun j hj => by
      rw [decide_eq_true_iff, ← crow_split k.pos n m (j + 1) (by omega), crow_pos_iff k.pos (j + 1) (by omega)])
    obtain ⟨_, ok, _⟩ := firstP_some f2
    rw [fsum_step f2]
    show (match firstP (fun j => decide (0 < ksum (fcnt S n m) (j + 1))) S.length with
      | some j => S.getD j 0 :: nth S m (n - (S.getD j 0).toNat) (0 - ksum (fcnt S n m) j)
      | none => []) = _
    rw [f1]
    show S.getD j 0 :: nth S m (n - (S.getD j 0).toNat) (0 - ksum (fcnt S n m) j) = _
    rw [Nat.zero_sub, nth_first k up m _ (fOk_left k hj h ok)]
/-! ### more kinds, more sums -/
/-! ### the parts that may stand first -/
structure Frs (H : Hp) (p : Addr) (S : List Int) (s n k t : Nat) (qs : List Addr) : Prop where
  h : H p = some (.lst (qs.map V.ref))
  len : qs.length = t
  le : t ≤ s
  at_ : ∀ i q, qs[i]? = some q → (S.getD i 0).toNat ≤ n ∧ H q = some (.tup [.int (S.getD i 0), .int ((i + 1 : Nat) : Int), .int (fcnt S n k i : Nat)])
  no : ∀ i, t ≤ i → i < s → n < (S.getD i 0).toNat
theorem Frs.sum {H : Hp} {p : Addr} {S : List Int} {s n k t : Nat} {qs : List Addr} (x : Frs H p S s n k t qs) : ksum (fcnt S n k) s = ksum (fcnt S n k) t := ksum_more x.le fun i h1 h2 => by
  unfold fcnt; rw [if_neg (by have := x.no i h1 h2; omega)]
theorem g_threeT {K : Fg} {H : Hp} {σ : L2.St} {R : L2.St → Hp → Prop} {i j l : Nat} {q : Addr} {x y z : V} (e : H q = some (.tup [x, y, z])) (h : R (((σ.set i (some x)).set j (some y)).set l (some z)) H) : gTup K 3 (gCons (gName i) (gCons (gName j) (gCons (gName l) gNil))) (.ref q) σ H R :=
  ⟨q, [x, y, z], rfl, st_of e, rfl, x, [y, z], rfl, y, [z], rfl, z, [], rfl, rfl, h⟩
section
variable {G : Gx} {H : Hp} {Q : VK} {E : XK} {a : Addr} {ks : List V}
theorem u_Counts_firsts {x : Addr} {S : List Int} {N s n k : Nat} (c : Cnt (G.C "Counts") H x S N) (kk : StkC S N) (hs : s ≤ S.length) (hn : n ≤ N)
    (h : ∀ p t qs H', Same H H' → H p = none → Frs H' p S s n k t qs → Q (.ref p) H') : sp_Counts_firsts_v2 G [.ref x, .int s, .int n, .int ((k + 1 : Nat) : Int)] H Q E := by
  refine ⟨rfl, ?_⟩
  unfold t_Counts_firsts_v2
  have hl := kk.len
  wtm_at "w"
  refine i_new (by simp) fun l nl => ?_
  have s1 : Same H (upd H l (.lst [])) := same_new nl
  have e1 : (upd H l (.lst [])) l = some (.lst (([] : List Addr).map V.ref)) := upd_same
  generalize upd H l (.lst []) = H1 at s1 e1 ⊢
  wtm_at "w"
  refine i_rngA1 (by omega) ?_
  rw [Int.toNat_natCast]
  refine lk_range (fun j σ H' => ∃ t qs y5 y6, σ = [some (.ref x), some (.int s), some (.int n), some (.int ((k + 1 : Nat) : Int)), some (.ref l), y5, y6] ∧ Same H H' ∧ Frs H' l S j n k t qs ∧ ∀ q ∈ qs, q ≠ l) ⟨0, [], _, _, rfl, s1, ⟨e1, rfl, Nat.le_refl _, fun i q hq => by simp at hq, fun i _ hi => by omega⟩, fun q hq => by cases hq⟩ ?_ ?_
  · rintro j σ H2 hj ⟨t, qs, y5, y6, rfl, s2, fr, hql⟩
    have c2 := c.same s2
    obtain ⟨dx, sp, rp, qq, o1, o2, o3, o4⟩ := c2.o
    have hjl : j < S.length := by omega
    have p1 := kk.pos _ (getD_mem hjl)
    have hjN : S.getD j 0 ≤ 200 := (kk.lim _ (getD_mem hjl)).2
    wtm_at "w"
    refine i_flA o1 (cfs_let _ _) ?_
    wtm_at "w"
    refine i_ixL (sq_of o2) (ints_at (S := S) (j := j) (by omega) hjl) ?_
    wtm_at "w"
    refine i_both (fun hz => ?_) (fun hz => ?_)
    · have hz' : S.getD j 0 ≤ (n : Int) := of_decide_eq_true hz
      have ht : t = j := by
        have := fr.le
        by_cases w : t = j
        · exact w
        · have h1 := fr.no (j - 1) (by omega) (by omega)
          have h2 := up_getD kk.up (i := j - 1) (j := j) (by omega) hjl
          omega
      subst ht
      wtm_at "w"
      refine i_tyL fr.h ?_
      wtm_at "w"
      refine i_mtA o1 (cfs_no _ _ (by decide +kernel) (by decide +kernel)) ?_
      wtm_at "w"
      rw [show (0 : Int) + (t : Nat) + 1 = ((t + 1 : Nat) : Int) by omega, show (n : Int) - S.getD t 0 = ((n - (S.getD t 0).toNat : Nat) : Int) by omega, show ((k + 1 : Nat) : Int) - 1 = (k : Int) by omega]
      refine u_Counts_many c2 kk (by omega) (by omega) ?_
      have ec : (if (0 : Int) ≤ (k : Int) ∧ (k : Int) ≤ ((n - (S.getD t 0).toNat : Nat) : Int) then crow (S.take (t + 1)) (n - (S.getD t 0).toNat) (k : Int).toNat else 0) = fcnt S n k t := by
        unfold fcnt
        rw [if_pos (show (S.getD t 0).toNat ≤ n by omega), Int.toNat_natCast]
        by_cases w : k ≤ n - (S.getD t 0).toNat
        · rw [if_pos ⟨by omega, by omega⟩]
        · rw [if_neg (fun z => w (by omega)), crow_none (fun x hx => kk.pos x (List.mem_of_mem_take hx)) (by omega)]
      rw [ec]
      wtm_at "w"
      refine i_new (by simp) fun q nq => ?_
      have s3 : Same H2 (upd H2 q (.tup [.int (S.getD t 0), .int ((t + 1 : Nat) : Int), .int (fcnt S n k t : Nat)])) := same_new nq
      have e3 : (upd H2 q (.tup [.int (S.getD t 0), .int ((t + 1 : Nat) : Int), .int (fcnt S n k t : Nat)])) q = some (.tup [.int (S.getD t 0), .int ((t + 1 : Nat) : Int), .int (fcnt S n k t : Nat)]) := upd_same
      have hq : q ≠ l := fun z => by rw [z, fr.h] at nq; cases nq
      generalize upd H2 q (.tup [.int (S.getD t 0), .int ((t + 1 : Nat) : Int), .int (fcnt S n k t : Nat)]) = H3 at s3 e3 ⊢
      wtm_at "w"
      refine i_app (s3 _ _ fr.h) (sz_le (by have := fr.len; rw [List.length_map]; omega)) ?_
      refine ⟨t + 1, qs ++ [q], _, _, rfl, same_mut (s2.trans s3) nl, ⟨by rw [upd_same, List.map_append]; rfl, by rw [List.length_append, fr.len]; rfl, Nat.le_refl _, fun i q' hq' => ?_, fun i h1 h2 => by omega⟩, fun q' hq' => ?_⟩
      · by_cases w : i < qs.length
        · rw [List.getElem?_append_left w] at hq'
          obtain ⟨b1, b2⟩ := fr.at_ i q' hq'
          exact ⟨b1, upd_oth (hql q' (List.mem_of_getElem? hq')) (s3 _ _ b2)⟩
        · rw [List.getElem?_append_right (by omega)] at hq'
          have hi : i - qs.length = 0 := by
            have := (List.getElem?_eq_some_iff.mp hq').1
            simp at this; omega
          rw [hi] at hq'
          have e : q = q' := by simpa using hq'
          subst e
          have hit : i = t := by have := fr.len; omega
          subst hit
          exact ⟨by omega, upd_oth hq e3⟩
      · rcases List.mem_append.mp hq' with w | w
        · exact hql q' w
        · rw [List.mem_singleton.mp w]; exact hq
    · have hz' : ¬ S.getD j 0 ≤ (n : Int) := of_decide_eq_false hz
      wtm_at "w"
      refine ⟨t, qs, _, _, rfl, s2, ⟨fr.h, fr.len, by have := fr.le; omega, fr.at_, fun i h1 h2 => ?_⟩, hql⟩
      by_cases w : i < j
      · exact fr.no i h1 w
      · have : i = j := by omega
        subst this; omega
  · rintro σ H2 ⟨t, qs, y5, y6, rfl, s2, fr, _⟩
    wtm_at "w"
    exact h l t qs H2 s2 nl fr
theorem u_count_just {n k : Nat} (ha : H a = some (.lst ks)) (hk : KdL ks) (h1 : n ≤ 200) (h : ∀ L H', Same H H' → StockOf ks n L → Q (.int (crow L n k : Nat)) H') : sp_count_just G [.ref a, .int n, .int k] H Q E := by
  refine ⟨rfl, ?_⟩
  unfold t_count_just
  wtm_at "w"
  refine u_counts_of ha hk h1 fun x L H1 s1 nx hL c => ?_
  wtm_at "w"
  refine u_need_from (by omega) ?_
  wtm_at "w"
  refine u_just c (hL.stkc hk h1) ?_
  rw [if_pos (by omega), Int.toNat_natCast]
  exact h L H1 s1 hL
theorem u_count_at_most {n k : Nat} (ha : H a = some (.lst ks)) (hk : KdL ks) (h1 : n ≤ 200) (h : ∀ L H', Same H H' → StockOf ks n L → Q (.int (ksum (crow L n) (k + 1) : Nat)) H') : sp_count_at_most G [.ref a, .int n, .int k] H Q E := by
  refine ⟨rfl, ?_⟩
  unfold t_count_at_most
  wtm_at "w"
  refine u_counts_of ha hk h1 fun x L H1 s1 nx hL c => ?_
  have kc := hL.stkc hk h1
  wtm_at "w"
  refine u_need_from (by omega) ?_
  wtm_at "w"
  obtain ⟨M, eM, hM⟩ : ∃ M : Nat, (if (k : Int) < (n : Int) then (k : Int) else (n : Int)) = (M : Int) ∧ M = min n k := by
    refine ⟨min n k, ?_, rfl⟩
    split <;> omega
  rw [eM]
  refine i_rngA1 (by omega) ?_
  rw [show ((M : Int) + 1).toNat = M + 1 by omega]
  refine lck_pure walk_range (by omega) (fun i => some (.int (crow L n i : Nat))) (fun _ _ => trivial) (fun i y H3 H4 KK NN hi s yy hK hN => ?_) (fun p H2 np s2 e2 => ?_)
  · obtain ⟨rfl, rfl⟩ := yy
    wtm_at "w"
    refine ⟨rfl, ?_⟩
    wtm_at "w"
    refine u_just (c.same s) kc ?_
    rw [if_pos (by omega), show ((0 : Int) + (i : Nat)).toNat = i by omega]
    exact hK _ _ rfl (fun _ _ z => z)
  · rw [given_tab, tab_ints (f := fun i => ((crow L n i : Nat) : Int))] at e2
    wtm_at "w"
    refine i_sumL (sq_of e2) ?_
    rw [ksum_list]
    have e : ksum (crow L n) (M + 1) = ksum (crow L n) (k + 1) := by
      rw [hM]
      by_cases w : k ≤ n
      · rw [show min n k = k by omega]
      · rw [show min n k = n by omega]
        exact (ksum_more (by omega) fun i h1 h2 => crow_none kc.pos (by omega)).symm
    rw [e]
    exact h L H2 (s1.trans s2) hL
end
section
variable {G : Gx} {H : Hp} {Q : VK} {E : XK} {a : Addr} {ks : List V}
theorem u_sum_by {n k x : Nat} {L : List Int} (ha : H a = some (.lst ks)) (hk : KdL ks) (h1 : n ≤ 200) (hL0 : StockOf ks n L) (hx : x < crow L n k) (h : ∀ p H', Same H H' → H p = none → H' p = some (.lst ((nth L k n x).map V.int)) → Q (.ref p) H') : sp_sum_by G [.ref a, .int n, .int k, .int x] H Q E := by
  refine ⟨rfl, ?_⟩
  unfold t_sum_by
  wtm_at "w"
  refine u_counts_of ha hk h1 fun c L1 H1 s1 nc hL cn => ?_
  have eL := hL0.uniq hL
  subst eL
  have kc := hL.stkc hk h1
  have hkn : k ≤ n := Nat.le_of_not_lt fun z => by rw [crow_none kc.pos z] at hx; omega
  wtm_at "w"
  refine u_need_from (by omega) ?_
  wtm_at "w"
  refine u_need_from (by omega) ?_
  wtm_at "w"
  refine u_just cn kc ?_
  rw [if_pos (by omega), Int.toNat_natCast]
  wtm_at "w"
  refine i_F (decide_eq_false (by omega)) ?_
  wtm_at "w"
  obtain ⟨dx, sp, rp, qq, o1, o2, o3, o4⟩ := cn.o
  refine i_flA o1 (cfs_let _ _) ?_
  wtm_at "w"
  refine i_lenL (sq_of o2) ?_
  rw [List.length_map]
  wtm_at "w"
  refine i_new (by simp) fun l nl => ?_
  have s2 : Same H1 (upd H1 l (.lst [])) := same_new nl
  have e2 : (upd H1 l (.lst [])) l = some (.lst (([] : List Int).map V.int)) := upd_same
  have nlH := s1.free nl
  generalize upd H1 l (.lst []) = H2 at s2 e2 ⊢
  wtm_at "w"
  refine i_while (fun m σ H' => ∃ (pre : List Int) (n' s' x' : Nat) (y7 y8 y9 y10 : Option V), σ = [some (.ref a), some (.int n'), some (.int k), some (.int x'), some (.ref c), some (.int s'), some (.ref l), y7, y8, y9, y10] ∧ m = k - pre.length ∧ pre.length ≤ k ∧ Same H1 H' ∧ H' l = some (.lst (pre.map V.int)) ∧ n' ≤ n ∧ s' ≤ L.length ∧ x' < crow (L.take s') n' (k - pre.length) ∧ pre ++ nth L (k - pre.length) n' x' = nth L k n x) k ⟨[], n, L.length, x, _, _, _, _, rfl, rfl, Nat.zero_le _, s2, e2, Nat.le_refl _, Nat.le_refl _, by rw [List.take_length]; exact hx, rfl⟩ ?_
  rintro m σ H3 ⟨pre, n', s', x', y7, y8, y9, y10, rfl, rfl, hpre, s3, e3, hn', hs', hx', enth⟩
  wtm_at "w"
  refine i_lenL (sq_of e3) ?_
  rw [List.length_map]
  wtm_at "w"
  refine i_both (fun hz => ?_) (fun hz => ?_)
  · have hz' : pre.length < k := by have := of_decide_eq_true hz; omega
    obtain ⟨k', ek⟩ : ∃ k', k - pre.length = k' + 1 := ⟨k - pre.length - 1, by omega⟩
    rw [ek] at hx' enth
    obtain ⟨j, hj, _, jlo, jhi, jno, jle, jx, ej⟩ := nth_at kc.pos hs' hx'
    have hjl : j < L.length := by omega
    have p1 := kc.pos _ (getD_mem hjl)
    refine i_turn ?_
    wtm_at "w"
    have cn3 := cn.same s3
    obtain ⟨dx, sp, rp, qq, o1, o2, o3, o4⟩ := cn3.o
    refine i_mtA o1 (cfs_no _ _ (by decide +kernel) (by decide +kernel)) ?_
    wtm_at "w"
    refine i_lenL (sq_of e3) ?_
    rw [List.length_map]
    wtm_at "w"
    rw [show (k : Int) - (pre.length : Nat) = ((k' + 1 : Nat) : Int) by omega]
    refine u_Counts_firsts cn3 kc hs' hn' fun p t qs H4 s4 np fr => ?_
    have htj : j < t := Nat.lt_of_not_le fun z => by have := fr.no j z hj; omega
    wtm_at "w"
    refine i_lstA (sq_of fr.h) ?_
    with_reducible refine lk_list (xs := qs.map V.ref) (fun i σ H' => ∃ (cv : V) (xv : Nat) (z8 z9 z10 : Option V), σ = [some (.ref a), some (.int n'), some (.int k), some (.int xv), some (.ref c), some (.int s'), some (.ref l), some cv, z8, z9, z10] ∧ Same H4 H' ∧ (i ≤ j → cv = .non ∧ xv = x' - ksum (fcnt L n' k') i) ∧ (j < i → xv = x' - ksum (fcnt L n' k') j ∧ ∃ q, cv = .ref q ∧ H' q = some (.tup [.int (L.getD j 0), .int ((j + 1 : Nat) : Int)]))) ?_ ?_ ?_ ?_
    · exact ⟨_, _, _, _, _, rfl, fun _ _ z => z, fun _ => ⟨rfl, rfl⟩, fun w => by omega⟩
    · rintro i σ H' _ ⟨_, _, _, _, _, _, s, _⟩
      exact sq_of (s _ _ fr.h)
    · rintro i v σ H5 hv ⟨cv, xv, z8, z9, z10, rfl, s5, b1, b2⟩
      rw [List.getElem?_map] at hv
      obtain ⟨q, hq, rfl⟩ := Option.map_eq_some_iff.mp hv
      obtain ⟨_, eq⟩ := fr.at_ i q hq
      refine g_threeT (s5 _ _ eq) ?_
      wtm_at "w"
      by_cases w : i ≤ j
      · obtain ⟨rfl, rfl⟩ := b1 w
        wtm_at "w"
        have elo : ksum (fcnt L n' k') i ≤ x' := by
          cases i with
          | zero => exact Nat.zero_le _
          | succ i => exact jno i (by omega)
        have estep : ksum (fcnt L n' k') (i + 1) = ksum (fcnt L n' k') i + fcnt L n' k' i := rfl
        refine i_both (fun hc => ?_) (fun hc => ?_)
        · have hc' := of_decide_eq_true hc
          have hij : i = j := by
            by_cases u : i = j
            · exact u
            · have := jno i (by omega); omega
          subst hij
          wtm_at "w"
          refine i_new (by simp) fun q2 nq2 => ?_
          refine ⟨_, _, _, _, _, rfl, s5.trans (same_new nq2), fun u => by omega, fun _ => ⟨rfl, q2, rfl, upd_same⟩⟩
        · have hc' := of_decide_eq_false hc
          have hij : i ≠ j := fun u => by subst u; omega
          wtm_at "w"
          refine ⟨_, x' - ksum (fcnt L n' k') (i + 1), some (.int (L.getD i 0)), some (.int ((i + 1 : Nat) : Int)), some (.int (fcnt L n' k' i : Nat)), ?_, s5, fun _ => ⟨rfl, rfl⟩, fun u => by omega⟩
          rw [show ((x' - ksum (fcnt L n' k') (i + 1) : Nat) : Int) = ((x' - ksum (fcnt L n' k') i : Nat) : Int) - (fcnt L n' k' i : Nat) by omega]
          rfl
      · obtain ⟨rfl, q2, rfl, eq2⟩ := b2 (by omega)
        wtm_at "w"
        exact ⟨_, _, _, _, _, rfl, s5, fun u => by omega, fun _ => ⟨rfl, q2, rfl, eq2⟩⟩
    · rintro σ H5 ⟨cv, xv, z8, z9, z10, rfl, s5, b1, b2⟩
      rw [List.length_map, fr.len] at b1 b2
      obtain ⟨rfl, q2, rfl, eq2⟩ := b2 htj
      have e5 := s5 _ _ (s4 _ _ e3)
      have s05 := (s3.trans s4).trans s5
      have q2l : q2 ≠ l := fun z => by rw [z, e5] at eq2; cases eq2
      wtm_at "w"
      refine i_tyL e5 ?_
      wtm_at "w"
      refine i_ixT (st_of eq2) (v := .int (L.getD j 0)) rfl ?_
      wtm_at "w"
      refine i_app e5 (sz_le (by rw [List.length_map]; omega)) ?_
      have eq6 : (upd H5 l (.lst (pre.map V.int ++ [.int (L.getD j 0)]))) q2 = some (.tup [.int (L.getD j 0), .int ((j + 1 : Nat) : Int)]) := upd_oth q2l eq2
      have s06 : Same H1 (upd H5 l (.lst (pre.map V.int ++ [.int (L.getD j 0)]))) := same_mut s05 nl
      have e6 : (upd H5 l (.lst (pre.map V.int ++ [.int (L.getD j 0)]))) l = some (.lst ((pre ++ [L.getD j 0]).map V.int)) := by rw [upd_same, List.map_append]; rfl
      generalize upd H5 l (.lst (pre.map V.int ++ [.int (L.getD j 0)])) = H6 at eq6 s06 e6 ⊢
      wtm_at "w"
      refine i_ixT (st_of eq6) (v := .int (L.getD j 0)) rfl ?_
      wtm_at "w"
      refine i_ixT (st_of eq6) (v := .int ((j + 1 : Nat) : Int)) rfl ?_
      wtm_at "w"
      refine ⟨k - (pre ++ [L.getD j 0]).length, by simp; omega, pre ++ [L.getD j 0], n' - (L.getD j 0).toNat, j + 1, x' - ksum (fcnt L n' k') j, some (.ref q2), z8, z9, z10, ?_, rfl, by simp; omega, s06, e6, by omega, by omega, ?_, ?_⟩
      · rw [show ((n' - (L.getD j 0).toNat : Nat) : Int) = (n' : Int) - L.getD j 0 by omega]; rfl
      · rw [show k - (pre ++ [L.getD j 0]).length = k' by simp; omega]; exact jx
      · rw [show k - (pre ++ [L.getD j 0]).length = k' by simp; omega, ← enth, ej, List.append_assoc]; rfl
  · have hz' : ¬ pre.length < k := by have := of_decide_eq_false hz; omega
    rw [show k - pre.length = 0 by omega] at enth
    have enth' : pre = nth L k n x := by rw [← enth]; exact (List.append_nil _).symm
    refine i_next ?_
    wtm_at "w"
    rw [enth'] at e3
    exact h l H3 (s1.trans s3) nlH e3
end
theorem up_ltI {S : List Int} (up : S.Pairwise (· < ·)) {i j : Nat} (hi : i < S.length) (hj : j < S.length) : S.getD i 0 < S.getD j 0 ↔ i < j := by
  constructor
  · intro h
    refine Nat.lt_of_not_le fun z => ?_
    have := up_getD up z hi; omega
  · intro h
    have := List.pairwise_iff_getElem.mp up i j hi hj h
    have a1 : S.getD i 0 = S[i] := by rw [List.getD_eq_getElem?_getD, List.getElem?_eq_getElem hi]; rfl
    have a2 : S.getD j 0 = S[j] := by rw [List.getD_eq_getElem?_getD, List.getElem?_eq_getElem hj]; rfl
    omega
section
variable {G : Gx} {H : Hp} {Q : VK} {E : XK} {a tp : Addr} {ks : List V}
theorem u_number_of {n : Nat} {xs L : List Int} (ha : H a = some (.lst ks)) (hk : KdL ks) (h1 : n ≤ 200) (hL0 : StockOf ks n L) (ht : H tp = some (.lst (xs.map V.int))) (ho : SumOk L n xs) (h : ∀ H', Same H H' → Q (.int (rnk L xs n : Nat)) H') : sp_number_of G [.ref a, .int n, .int xs.length, .ref tp] H Q E := by
  refine ⟨rfl, ?_⟩
  unfold t_number_of
  have hp : ∀ x ∈ L, 1 ≤ x := fun x hx => hL0.pos hk.kd hx
  have hxl : xs.length ≤ n := by
    have := sum_nn fun x hx => hp x (ho.mem x hx)
    have := ho.sum
    omega
  wtm_at "wa"
  refine u_counts_of ha hk h1 fun c L1 H1 s1 nc hL cn => ?_
  have eL := hL0.uniq hL
  subst eL
  have kc := hL.stkc hk h1
  have up := hL.up
  wtm_at "wa"
  refine u_need_from (by omega) ?_
  wtm_at "wa"
  refine u_is_sum (s1 _ _ ha) hk h1 (sq_of (s1 _ _ ht)) (s1 _ _ ht) (by omega) fun L2 b H2 s2 hL2 hb => ?_
  have eL := hL0.uniq hL2
  subst eL
  have hbt := hb.mpr ho
  subst hbt
  wtm_at "wa"
  refine i_lenL (sq_of (s2 _ _ (s1 _ _ ht))) ?_
  rw [List.length_map]
  wtm_at "wa"
  refine i_F (by simp) ?_
  wtm_at "w"
  have cn2 := cn.same s2
  obtain ⟨dx, sp, rp, qq, o1, o2, o3, o4⟩ := cn2.o
  refine i_flA o1 (cfs_let _ _) ?_
  wtm_at "w"
  refine i_lenL (sq_of o2) ?_
  rw [List.length_map]
  wtm_at "w"
  have s02 := s1.trans s2
  have t2 := s02 _ _ ht
  refine i_enumA (sq_of t2) ?_
  refine lk walk_enum (fun i σ H' => ∃ (n' s' T : Nat) (y7 y8 y9 y10 y11 : Option V), σ = [some (.ref a), some (.int n'), some (.int xs.length), some (.ref tp), some (.ref c), some (.int s'), some (.int T), y7, y8, y9, y10, y11] ∧ Same H2 H' ∧ n' ≤ n ∧ s' ≤ L.length ∧ (∀ x ∈ xs.drop i, x ∈ L.take s') ∧ (xs.drop i).sum = n' ∧ T + rnk L (xs.drop i) n' = rnk L xs n) ⟨n, L.length, 0, _, _, _, _, _, rfl, fun _ _ z => z, Nat.le_refl _, Nat.le_refl _, fun x hx => by rw [List.take_length]; exact ho.mem x hx, ho.sum, Nat.zero_add _⟩ (fun i σ H' _ p => by obtain ⟨_, _, _, _, _, _, _, _, _, s, _⟩ := p; exact sq_of (s _ _ t2)) ?_ ?_
  · rintro i v σ H3x H4x hi ⟨n', s', T, y7, y8, y9, y10, y11, rfl, s3, hn', hs', hm, hsum, hT⟩ y
    obtain ⟨tt, x1, x2, rfl, nT, rfl, h1', h2'⟩ := y
    cases h1'
    have hi2 : i < xs.length := by rw [List.length_map] at hi; exact hi
    have h3 : (xs.map V.int)[i]? = some x2 := h2'
    rw [List.getElem?_map, List.getElem?_eq_getElem hi2] at h3
    cases h3
    refine g_pair ?_
    have s4 : Same H2 (upd H3x tt (.tup [.int (i : Nat), .int xs[i]])) := s3.trans (same_new nT)
    generalize upd H3x tt (.tup [.int (i : Nat), .int xs[i]]) = H4 at s4 ⊢
    have ed : xs.drop i = xs[i] :: xs.drop (i + 1) := List.drop_eq_getElem_cons hi2
    have hfall : ∀ x ∈ xs.drop (i + 1), x ≤ xs[i] := by
      have := ho.fall.sublist (List.drop_sublist i xs)
      rw [ed] at this
      exact (List.pairwise_cons.mp this).1
    rw [ed] at hm hsum hT
    generalize xs[i] = own at hm hsum hT hfall ⊢
    have hown := hm own (by simp)
    rw [List.mem_take_iff_getElem] at hown
    obtain ⟨J, hJ, eJ⟩ := hown
    have hJl : J < L.length := by omega
    have hJs : J < s' := by omega
    have eJ' : L.getD J 0 = own := by rw [List.getD_eq_getElem?_getD, List.getElem?_eq_getElem hJl, ← eJ]; rfl
    have p1 := hp _ (getD_mem hJl)
    have hrest := sum_nn (l := xs.drop (i + 1)) fun x hx => hp x (List.mem_of_mem_take (hm x (List.mem_cons_of_mem _ hx)))
    rw [List.sum_cons] at hsum
    have hJn : (L.getD J 0).toNat ≤ n' := by omega
    have eid : L.idxOf own = J := by rw [← eJ']; exact up_idxOf up hJl
    have hT' : T + (ksum (fcnt L n' (xs.drop (i + 1)).length) J + rnk L (xs.drop (i + 1)) (n' - own.toNat)) = rnk L xs n := by
      rw [← hT, ← eid]; rfl
    have el : (xs.drop (i + 1)).length = xs.length - (i + 1) := List.length_drop
    generalize hk' : (xs.drop (i + 1)).length = k' at hT' el
    have cn4 := cn2.same s4
    obtain ⟨dx, sp, rp, qq, o1, o2, o3, o4⟩ := cn4.o
    wtm_at "w"
    refine i_mtA o1 (cfs_no _ _ (by decide +kernel) (by decide +kernel)) ?_
    wtm_at "w"
    rw [show (xs.length : Int) - (i : Nat) = ((k' + 1 : Nat) : Int) by omega]
    refine u_Counts_firsts cn4 kc hs' hn' fun p t qs H5 s5 np fr => ?_
    have hJt : J < t := Nat.lt_of_not_le fun z => by have := fr.no J z hJs; omega
    have htl := fr.le
    wtm_at "w"
    refine i_lstA (sq_of fr.h) ?_
    with_reducible refine lk_list (xs := qs.map V.ref) (fun u σ H' => ∃ (z9 z10 z11 : Option V), σ = [some (.ref a), some (.int n'), some (.int xs.length), some (.ref tp), some (.ref c), some (.int ((if J < u then J + 1 else s' : Nat) : Int)), some (.int ((T + ksum (fcnt L n' k') (min u J) : Nat) : Int)), some (.int (i : Nat)), some (.int own), z9, z10, z11] ∧ Same H5 H') ?_ ?_ ?_ ?_
    · exact ⟨_, _, _, by rw [if_neg (Nat.not_lt_zero _), Nat.zero_min]; rfl, fun _ _ z => z⟩
    · rintro u σ H' _ ⟨_, _, _, _, s⟩
      exact sq_of (s _ _ fr.h)
    · rintro u v σ H6 hv ⟨z9, z10, z11, rfl, s6⟩
      rw [List.getElem?_map] at hv
      obtain ⟨q, hq, rfl⟩ := Option.map_eq_some_iff.mp hv
      have hut : u < t := by have := (List.getElem?_eq_some_iff.mp hq).1; have := fr.len; omega
      obtain ⟨_, eq⟩ := fr.at_ u q hq
      refine g_threeT (s6 _ _ eq) ?_
      wtm_at "w"
      have hlt := up_ltI up (i := u) (j := J) (by omega) hJl
      rw [eJ'] at hlt
      refine i_both (fun hc => ?_) (fun hc => ?_)
      · have hc' : u < J := hlt.mp (of_decide_eq_true hc)
        wtm_at "w"
        refine i_F (decide_eq_false fun z => by have := of_decide_eq_true hc; omega) ?_
        wtm_at "w"
        refine ⟨some (.int (L.getD u 0)), some (.int ((u + 1 : Nat) : Int)), some (.int (fcnt L n' k' u : Nat)), ?_, s6⟩
        rw [if_neg (show ¬ J < u by omega), if_neg (show ¬ J < u + 1 by omega), show min u J = u by omega, show min (u + 1) J = u + 1 by omega]
        have es : ksum (fcnt L n' k') (u + 1) = ksum (fcnt L n' k') u + fcnt L n' k' u := rfl
        rw [es]
        rw [show ((T + (ksum (fcnt L n' k') u + fcnt L n' k' u) : Nat) : Int) = ((T + ksum (fcnt L n' k') u : Nat) : Int) + (fcnt L n' k' u : Nat) by omega]
        rfl
      · have hc' : ¬ u < J := fun z => of_decide_eq_false hc (hlt.mpr z)
        wtm_at "w"
        refine i_both (fun hw => ?_) (fun hw => ?_)
        · have w : u = J := by
            have e := of_decide_eq_true hw
            by_cases v : u = J
            · exact v
            · have := (up_ltI up (i := J) (j := u) hJl (by omega)).mpr (by omega)
              omega
          subst w
          wtm_at "w"
          refine ⟨some (.int (L.getD u 0)), some (.int ((u + 1 : Nat) : Int)), some (.int (fcnt L n' k' u : Nat)), ?_, s6⟩
          rw [if_neg (Nat.lt_irrefl u), if_pos (show u < u + 1 by omega), show min u u = u by omega, show min (u + 1) u = u by omega]
          rfl
        · have w : ¬ u = J := fun z => by subst z; exact of_decide_eq_false hw eJ'
          wtm_at "w"
          refine ⟨some (.int (L.getD u 0)), some (.int ((u + 1 : Nat) : Int)), some (.int (fcnt L n' k' u : Nat)), ?_, s6⟩
          rw [if_pos (show J < u by omega), if_pos (show J < u + 1 by omega), show min u J = J by omega, show min (u + 1) J = J by omega]
          rfl
    · rintro σ H6 ⟨z9, z10, z11, rfl, s6⟩
      rw [List.length_map, fr.len, if_pos hJt, show min t J = J by omega]
      wtm_at "w"
      refine ⟨n' - own.toNat, J + 1, T + ksum (fcnt L n' k') J, some (.int (i : Nat)), some (.int own), z9, z10, z11, ?_, (s4.trans s5).trans s6, by omega, by omega, fun x hx => ?_, by omega, by omega⟩
      · rw [show ((n' - own.toNat : Nat) : Int) = (n' : Int) - own by omega]; rfl
      · refine up_idx up hJl (List.mem_of_mem_take (hm x (List.mem_cons_of_mem _ hx))) ?_
        rw [eJ']; exact hfall x hx
  · rintro σ H3 ⟨n', s', T, y7, y8, y9, y10, y11, rfl, s3, hn', hs', hm, hsum, hT⟩
    have hd : xs.drop (xs.map V.int).length = [] := by rw [List.length_map]; exact List.drop_length
    rw [hd] at hT
    have hT' : T = rnk L xs n := hT
    wtm_at "w"
    rw [hT']
    exact h _ (s02.trans s3)
end
/-! ### sorted(set(..)) -/
section
variable {G : Gx} {H : Hp} {Q : VK} {E : XK}
theorem u_law_cell_v2 {a : Addr} {ns : List Int} {k : Int} (hs : SqL G.K H a (ns.map V.int)) (h0 : 0 ≤ k) (h1 : k < 1000) (h : ∀ c, Q (.int c) H) : sp_law_cell_v2 G [.ref a, .int k] H Q E := by
  refine ⟨rfl, ?_⟩
  unfold t_law_cell_v2
  wtm_at "w"
  refine i_lenL hs ?_
  wtm_at "w"
  refine i_ite (fun hlt => ?_) (fun hlt => ?_)
  · wtm_at "w"
    rw [List.length_map] at hlt
    have hlt' : k.toNat < ns.length := by omega
    refine i_ixL hs (at_nat (n := k.toNat) (by omega) (v := .int ns[k.toNat]) (by rw [List.getElem?_map, List.getElem?_eq_getElem hlt']; rfl)) ?_
    exact h _
  · wtm_at "w"
    exact h _
theorem u_law_mixed {c k : Int} (h0 : 0 ≤ k) (h1 : k < 1000) (h : ∀ r H', Same H H' → 0 ≤ r → Q (.int r) H') : sp_law_mixed G [.int c, .int k] H Q E := by
  refine ⟨rfl, ?_⟩
  unfold t_law_mixed
  wtm_at "w"
  refine i_new (by simp) fun l nl => ?_
  wtm_at "w"
  have s1 : Same H (upd H l (.lst ([2147483629, 2147483587, 2147483579, 2147483563, 2147483549, 2147483543, 2147483497].map V.int))) := same_new nl
  have e1 : (upd H l (.lst ([2147483629, 2147483587, 2147483579, 2147483563, 2147483549, 2147483543, 2147483497].map V.int))) l = some (.lst ([2147483629, 2147483587, 2147483579, 2147483563, 2147483549, 2147483543, 2147483497].map V.int)) := upd_same
  show uIx _ _ _ (upd H l (.lst ([2147483629, 2147483587, 2147483579, 2147483563, 2147483549, 2147483543, 2147483497].map V.int))) _
  generalize upd H l (.lst ([2147483629, 2147483587, 2147483579, 2147483563, 2147483549, 2147483543, 2147483497].map V.int)) = H1 at s1 e1 ⊢
  have m0 := Int.emod_nonneg (c * 48271 + 7919 * k * k + 104729 * k + 11) (show (2147483647 : Int) ≠ 0 by decide)
  have m1 := Int.emod_lt_of_pos (c * 48271 + 7919 * k * k + 104729 * k + 11) (show (0 : Int) < 2147483647 by decide)
  generalize (c * 48271 + 7919 * k * k + 104729 * k + 11) % 2147483647 = m at m0 m1
  have hj : (k % 7).toNat < 7 := by omega
  obtain ⟨d, ed, hd⟩ : ∃ d : Int, ([2147483629, 2147483587, 2147483579, 2147483563, 2147483549, 2147483543, 2147483497] : List Int)[(k % 7).toNat]? = some d ∧ 0 < d := by
    generalize (k % 7).toNat = j at hj
    match j, hj with
    | 0, _ => exact ⟨_, rfl, by decide⟩
    | 1, _ => exact ⟨_, rfl, by decide⟩
    | 2, _ => exact ⟨_, rfl, by decide⟩
    | 3, _ => exact ⟨_, rfl, by decide⟩
    | 4, _ => exact ⟨_, rfl, by decide⟩
    | 5, _ => exact ⟨_, rfl, by decide⟩
    | 6, _ => exact ⟨_, rfl, by decide⟩
  refine i_ixL (sq_of e1) (at_nat (n := (k % 7).toNat) (by omega) (v := .int d) (by rw [List.getElem?_map, ed]; rfl)) ?_
  refine i_mod hd ?_
  have z0 := Int.emod_nonneg (m * m) (show d ≠ 0 by omega)
  wtm_at "w"
  refine h _ _ s1 (Int.ediv_nonneg ?_ (by decide))
  have := Int.emod_nonneg c (show (5 : Int) ≠ 0 by decide)
  have := Int.mul_nonneg z0 (show (0 : Int) ≤ 16811 by decide)
  omega
theorem rg_kinds : rgV 3 13 ++ [V.str "cubes"] = kinds11 := by decide
theorem i_lstRg2 {σ : L2.St} {i j : Int} (ok : RgOk i j) (h : ∀ p, H p = none → Q (.ref p) (upd H p (.lst (rgV i j)))) : tLstRg (tRg2 (tC (.int i)) (tC (.int j))) σ H Q := ⟨i, j, rfl, rfl, ok, h⟩
theorem u_law_kinds_v3 {c : Int} (h : ∀ p ks H', Same H H' → H p = none → H' p = some (.lst ks) → KdL ks → Q (.ref p) H') : sp_law_kinds_v3 G [.int c] H Q E := by
  refine ⟨rfl, ?_⟩
  unfold t_law_kinds_v3
  wtm_at "w"
  refine i_lstRg2 (.of_le (by decide) (by decide) (by decide) (by decide)) fun q nq => ?_
  wtm_at "w"
  refine i_new (by simp) fun q2 nq2 => ?_
  refine i_addL (xs := rgV 3 13) (ys := [.str "cubes"]) (upd_old nq2 upd_same) upd_same (by decide) fun l nl => ?_
  rw [rg_kinds]
  have s1 : Same H (upd (upd (upd H q (.lst (rgV 3 13))) q2 (.lst [.str "cubes"])) l (.lst kinds11)) := ((same_new nq).trans (same_new nq2)).trans (same_new nl)
  have nlH : H l = none := (same_new nq).free ((same_new nq2).free nl)
  have e1 : (upd (upd (upd H q (.lst (rgV 3 13))) q2 (.lst [.str "cubes"])) l (.lst kinds11)) l = some (.lst kinds11) := upd_same
  generalize upd (upd (upd H q (.lst (rgV 3 13))) q2 (.lst [.str "cubes"])) l (.lst kinds11) = H1 at s1 e1 ⊢
  wtm_at "w"
  refine i_new (by simp) fun f nf => ?_
  have nlf : l ≠ f := ne_of_none e1 nf
  have nfH : H f = none := s1.free nf
  wtm_at "w"
  refine i_rngA1 (by omega) ?_
  have hm0 := Int.emod_nonneg c (show (5 : Int) ≠ 0 by decide)
  have hm5 := Int.emod_lt_of_pos c (show (0 : Int) < 5 by decide)
  refine lk_range (n := (1 + c % 5).toNat) (fun i σ H' => Same H H' ∧ ∃ ks rest y3, σ = [some (.int c), some (.ref l), some (.ref f), y3] ∧ H' f = some (.lst ks) ∧ H' l = some (.lst rest) ∧ ks.length = i ∧ rest.length = 11 - i ∧ (ks ++ rest).Perm kinds11) ⟨s1.trans (same_new nf), [], kinds11, none, rfl, upd_same, upd_old nf e1, rfl, rfl, List.Perm.refl _⟩ ?_ ?_
  · rintro i σ H2 hi ⟨s2, ks, rest, y3, rfl, ef, el, l1, l2, pm⟩
    wtm_at "w"
    refine i_tyL ef ?_
    wtm_at "w"
    refine i_tyL el ?_
    wtm_at "w"
    refine u_law_mixed (by omega) (by omega) fun r H3 s3 r0 => ?_
    wtm_at "w"
    refine i_lenL (sq_of (s3 _ _ el)) ?_
    have hlen : 0 < (rest.length : Int) := by omega
    refine i_mod hlen ?_
    have g0 := Int.emod_nonneg r (show (rest.length : Int) ≠ 0 by omega)
    have g1 := Int.emod_lt_of_pos r hlen
    wtm_at "w"
    have hk : (r % (rest.length : Int)).toNat < rest.length := by omega
    refine i_popAt (k := (r % (rest.length : Int)).toNat) (s3 _ _ el) (by omega) hk (by omega) ?_
    wtm_at "w"
    refine i_app (upd_oth nlf.symm (s3 _ _ ef)) (sz_lt (by omega)) ?_
    refine ⟨same_mut (same_mut (s2.trans s3) nlH) nfH, ks ++ [rest[(r % (rest.length : Int)).toNat]], rest.eraseIdx (r % (rest.length : Int)).toNat, some (.int (0 + i)), rfl, upd_same, upd_oth nlf upd_same, by simp [l1], by rw [List.length_eraseIdx_of_lt hk]; omega, (perm_pop hk).trans pm⟩
  · rintro σ H2 ⟨s2, ks, rest, y3, rfl, ef, el, l1, l2, pm⟩
    wtm_at "w"
    exact h f ks H2 s2 nfH ef (kdl_of pm (by omega) (by omega))
theorem u_law_dots_v3 {v : V} {k : Int} (hv : IsKd v) (h0 : 1 ≤ k) (h1 : k ≤ 1000) (h : Q (.int (dotsV v k)) H) : sp_law_dots_v3 G [v, .int k] H Q E := by
  refine ⟨rfl, ?_⟩
  unfold t_law_dots_v3
  rcases hv with ⟨s, rfl, s3, s12⟩ | rfl
  · wtm_at "w"
    refine i_rngA1 (by omega) ?_
    refine lk_range (n := (k - 1).toNat) (fun i σ H' => H' = H ∧ ∃ y4, σ = [some (.int s), some (.int k), some (.int (dotsV (.int s) ((i : Nat) + 1))), some (.int (1 + ((i : Nat) + 1) * (s - 2))), y4]) ⟨rfl, none, ?_⟩ ?_ ?_
    · rw [show (((0 : Nat) : Int) + 1) = 1 by rfl, dots_one (.inl ⟨s, rfl, s3, s12⟩), show 1 + 1 * (s - 2) = s - 1 by omega]
      rfl
    · rintro i σ H2 hi ⟨rfl, y4, rfl⟩
      wtm_at "w"
      refine ⟨rfl, some (.int (0 + i)), ?_⟩
      have e1 := dots_succ_int s ((i : Nat) + 1)
      show [_, _, _, _, _] = _
      rw [show (((i + 1 : Nat) : Int) + 1) = ((i : Nat) + 1) + 1 by omega, e1, show 1 + ((((i : Nat) : Int) + 1) + 1) * (s - 2) = 1 + (((i : Nat) : Int) + 1) * (s - 2) + s - 2 by rw [Int.add_mul _ 1]; omega]
    · rintro σ H2 ⟨rfl, y4, rfl⟩
      wtm_at "w"
      rw [show (((k - 1).toNat : Int) + 1) = k by omega]
      exact h
  · wtm_at "w"
    exact h
theorem u_law_stock_v4 {a : Addr} {ks : List V} {b : Int} (ha : SqL G.K H a ks) (hk : ∀ v ∈ ks, IsKd v) (hn : ks.length ≤ 100) (h0 : 0 ≤ b) (h1 : b ≤ 900) (h : ∀ p L H', Same H H' → H p = none → H' p = some (.lst (L.map V.int)) → StockOf ks b L → Q (.ref p) H') : sp_law_stock_v4 G [.ref a, .int b] H Q E := by
  refine ⟨rfl, ?_⟩
  unfold t_law_stock_v4
  wtm_at "w"
  intro f nf
  wtm_at "w"
  have s1 : Same H (upd H f (.dK [])) := same_new nf
  refine i_lstA (s1.seq ha) ?_
  refine lk_list (StkO H a f ks b) ⟨_, _, [], rfl, s1, ⟨[], upd_same, rfl⟩, List.nodup_nil, by simp, fun x => ?_⟩ (fun i σ H' _ ⟨_, _, _, _, s, _⟩ => s.seq ha) ?_ ?_
  · simp [IsDot]
  · rintro i v σ H2 hi ⟨y3, y4, keys, rfl, s, d, nd, hl, hm⟩
    have hv := hk v (List.mem_of_getElem? hi)
    have hi' : i < ks.length := (List.getElem?_eq_some_iff.mp hi).1
    wtm_at "w"
    refine i_while (StkI H a f ks b i v) b.toNat ⟨1, keys, rfl, by omega, by omega, by omega, s, d, nd, by omega, fun x => ?_⟩ ?_
    · rw [hm]
      unfold InSt
      constructor
      · rintro ⟨z1, z2⟩; exact ⟨z1, .inl z2⟩
      · rintro ⟨z1, z2 | ⟨j, z2, z3, _⟩⟩
        · exact ⟨z1, z2⟩
        · omega
    · rintro m σ H3 ⟨k, keys, rfl, k1, k2, em, s3, d3, nd3, hl3, hm3⟩
      have hge := dots_ge hv k1
      wtm_at "w"
      refine u_law_dots_v3 hv k1 (by omega) ?_
      wtm_at "w"
      refine i_ite (fun hle => ?_) (fun hle => ?_)
      · refine i_turn ?_
        wtm_at "w"
        refine u_law_dots_v3 hv k1 (by omega) ?_
        refine i_setD d3 (by omega) fun kvs d4 => ?_
        wtm_at "w"
        refine ⟨(b + 1 - (k + 1)).toNat, by omega, k + 1, insI keys (dotsV v k), rfl, by omega, by omega, rfl, same_mut s3 nf, d4, nd_insI nd3, by have := len_insI keys (dotsV v k); omega, fun x => ?_⟩
        rw [mem_insI, hm3]
        unfold InSt
        constructor
        · rintro (⟨z1, z2 | ⟨j, z2, z3, z4⟩⟩ | rfl)
          · exact ⟨z1, .inl z2⟩
          · exact ⟨z1, .inr ⟨j, z2, by omega, z4⟩⟩
          · exact ⟨hle, .inr ⟨k, k1, by omega, rfl⟩⟩
        · rintro ⟨z1, z2 | ⟨j, z2, z3, z4⟩⟩
          · exact .inl ⟨z1, .inl z2⟩
          · by_cases z : j = k
            · subst z; exact .inr z4.symm
            · exact .inl ⟨z1, .inr ⟨j, z2, by omega, z4⟩⟩
      · refine ⟨_, _, keys, rfl, s3, d3, nd3, by omega, fun x => ?_⟩
        rw [hm3, isDot_take hi]
        unfold InSt
        constructor
        · rintro ⟨z1, z2 | ⟨j, z2, z3, z4⟩⟩
          · exact ⟨z1, .inl z2⟩
          · exact ⟨z1, .inr ⟨j, z2, z4⟩⟩
        · rintro ⟨z1, z2 | ⟨j, z2, z4⟩⟩
          · exact ⟨z1, .inl z2⟩
          · refine ⟨z1, .inr ⟨j, z2, ?_, z4⟩⟩
            by_cases z : j < k
            · exact z
            · have := dots_le hv k1 (show k ≤ j by omega)
              omega
  · rintro σ H2 ⟨y3, y4, keys, rfl, s, d, nd, hl, hm⟩
    wtm_at "w"
    refine i_sortedD d fun ys p perm srt np => ?_
    refine h p ys _ (s.trans (same_new np)) (s.free np) upd_same ⟨lt_of_le_nd srt (perm.symm.nodup nd), fun x => ?_⟩
    rw [perm.mem_iff, hm, List.take_length]
end
section
variable {G : Gx} {H : Hp} {Q : VK} {E : XK} {a : Addr} {ks : List V}
theorem last_cut (l : List Int) : cutV (l.map V.int) (some (-1)) none = (l.getLast?.toList).map V.int := by
  rw [cut_last]
  rcases List.eq_nil_or_concat l with z | ⟨ys, y, z⟩
  · rw [z]; rfl
  · rw [List.concat_eq_append] at z
    rw [z, List.getLast?_concat]
    simp
theorem u_law_sums_v2 {S : List Int} {n : Nat} (ha : H a = some (.lst (S.map V.int))) (k : StkC S n) (st : 1 ≤ n → Stk S) (hn : n ≤ 24) (h24 : ∀ x ∈ S, x ≤ 24)
    (h : ∀ p (bs : List Rw) H', Same H H' → H p = none → H' p = some (.lst ((bs.mergeSort leR).map fun b => .ref b.1)) → (∀ b ∈ bs, H b.1 = none ∧ H' b.1 = some (.lst (b.2.map V.int))) → (∀ r, SumOk S n r ↔ r ∈ bs.map (·.2)) → bs.length = urow S n → Q (.ref p) H') : sp_law_sums_v2 G [.ref a, .int n] H Q E := by
  refine ⟨rfl, ?_⟩
  unfold t_law_sums_v2
  have hp := k.pos
  have up := k.up
  have hW : urow S n < 16000000 := urow_24 up (fun x hx => ⟨hp x hx, h24 x hx⟩) hn
  have hSl : S.length ≤ 200 := k.len
  wtm_at "w"
  refine i_new (by simp) fun f nf => ?_
  wtm_at "w"
  have s1 : Same H (upd H f (.lst [])) := same_new nf
  have ef1 : (upd H f (.lst [])) f = some (.lst []) := upd_same
  generalize upd H f (.lst []) = H1 at s1 ef1 ⊢
  refine i_new (by simp) fun p0 n0 => ?_
  wtm_at "w"
  refine i_new (by simp) fun q0 nq0 => ?_
  wtm_at "w"
  refine i_new (by simp) fun w nw => ?_
  have s2 : Same H1 (upd (upd H1 p0 (.lst [])) q0 (.tup [.ref p0, .int n])) := (same_new n0).trans (same_new nq0)
  have ep : (upd (upd H1 p0 (.lst [])) q0 (.tup [.ref p0, .int n])) p0 = some (.lst (([] : List Int).map V.int)) := upd_old nq0 upd_same
  have eq : (upd (upd H1 p0 (.lst [])) q0 (.tup [.ref p0, .int n])) q0 = some (.tup [.ref p0, .int (n : Nat)]) := upd_same
  have npf : p0 ≠ f := (ne_of_none ef1 n0).symm
  have nqf : q0 ≠ f := (ne_of_none (upd_old (u := .lst []) n0 ef1) nq0).symm
  generalize upd (upd H1 p0 (.lst [])) q0 (.tup [.ref p0, .int n]) = H2 at s2 ep eq nw ⊢
  have npw : p0 ≠ w := ne_of_none ep nw
  have nqw : q0 ≠ w := ne_of_none eq nw
  have s3 : Same H2 (upd H2 w (.lst [.ref q0])) := same_new nw
  have nwf : f ≠ w := ne_of_none (s2 _ _ ef1) nw
  have nwH : H w = none := s1.free (s2.free nw)
  have npH : H p0 = none := s1.free n0
  have nqH : H q0 = none := s1.free ((same_new n0).free nq0)
  have x3 : AllI H S n (upd H2 w (.lst [.ref q0])) f w [] [q0] [([], n)] := by
    refine ⟨s3 _ _ (s2 _ _ ef1), upd_same, nwf, NdT.one (nd := ([], n)) (s3 _ _ eq) (s3 _ _ ep) (fun z => z.elim nqf fun z => z.elim nqw fun z => z nqH) (fun z => z.elim npf fun z => z.elim npw fun z => z npH), fun b hb => (by cases hb), fun x hx => ?_, fun r hr => .inr ⟨([], n), by simp, ⟨r, by simp⟩⟩, ?_⟩
    · rw [List.mem_singleton.mp hx]
      exact ⟨fun x hx => (by cases hx), by simp, List.Pairwise.nil⟩
    · rw [total_one]
      show 0 + urow (S.take S.length) n = urow S n
      rw [List.take_length]; omega
  have s03 := (s1.trans s2).trans s3
  generalize upd H2 w (.lst [.ref q0]) = H3 at s3 x3 s03 ⊢
  wtm_at "w"
  refine i_while (fun m σ H' => ∃ (fs : List Rw) (qs : List Addr) (ns : List (List Int × Nat)) (y4 y5 y6 : Option V), σ = [some (.ref a), some (.int n), some (.ref f), some (.ref w), y4, y5, y6] ∧ m = wgt S ns ∧ Same H H' ∧ AllI H S n H' f w fs qs ns) (wgt S [([], n)]) ⟨[], [q0], [([], n)], _, _, _, rfl, rfl, s03, x3⟩ ?_
  rintro m σ H4 ⟨fs, qs, ns, y4, y5, y6, rfl, rfl, s4, x4⟩
  wtm_at "w"
  refine i_new (by simp) fun e0 ne0 => ?_
  have s45 : Same H4 (upd H4 e0 (.lst [])) := same_new ne0
  refine i_neNodesT (s45 _ _ x4.ew) (x4.nd.keep fun a o _ z => s45 a o z) upd_same ?_
  generalize upd H4 e0 (.lst []) = H5 at s45 ⊢
  have s5 := s4.trans s45
  have keepS : ∀ {H1 H2 : Hp} {fs qs ns}, AllI H S n H1 f w fs qs ns → Same H1 H2 → AllI H S n H2 f w fs qs ns := fun x s => ⟨s _ _ x.ef, s _ _ x.ew, x.fw, x.nd.keep fun a o _ z => s a o z, fun b hb => by obtain ⟨p1, p2⟩ := x.fo b hb; exact ⟨s _ _ p1, p2⟩, x.bg, x.all, x.cnt⟩
  have x5 := keepS x4 s45
  wtm_at "w"
  refine i_iteN (fun hem => ?_) (fun hne => ?_)
  · subst hem
    wtm_at "w"
    refine i_sortedLL (sq_of x5.ef) (fun b hb => sq_of (x5.fo b hb).1) fun p np => ?_
    have sN : Same H5 (upd H5 p (.lst ((fs.mergeSort leR).map fun b => .ref b.1))) := same_new np
    refine h p fs _ (s5.trans sN) (s5.free np) upd_same (fun b hb => ⟨(x5.fo b hb).2.2.2.2, sN _ _ (x5.fo b hb).1⟩) (fun r => ⟨fun hr => ?_, fun hr => ?_⟩) ?_
    · rcases x5.all r hr with z | ⟨x, hx, _⟩
      · exact z
      · cases hx
    · obtain ⟨b, hb, rfl⟩ := List.mem_map.mp hr
      exact (x5.fo b hb).2.2.2.1
    · have := x5.cnt; simpa [total] using this
  · obtain ⟨ns0, nd, rfl⟩ : ∃ ns0 nd, ns = ns0 ++ [nd] := by
      rcases List.eq_nil_or_concat ns with z | ⟨a, b, z⟩
      · exact absurd z hne
      · exact ⟨a, b, by rw [z, List.concat_eq_append]⟩
    have hlen := x5.nd.len
    obtain ⟨qs0, q, rfl⟩ : ∃ qs0 q, qs = qs0 ++ [q] := by
      rcases List.eq_nil_or_concat qs with z | ⟨a, b, z⟩
      · subst z; simp at hlen
      · exact ⟨a, b, by rw [z, List.concat_eq_append]⟩
    have hlen0 : qs0.length = ns0.length := by simpa using hlen
    obtain ⟨pp, ea, eb, nr1, nr2⟩ := x5.nd.at_ qs0.length q nd (by simp) (by rw [hlen0]; simp)
    have bnd := x5.bg nd (by simp)
    have nd0 : NdT (fun z => z = f ∨ z = w ∨ H z ≠ none) H5 qs0 ns0 := ⟨hlen0, fun j q' nd' h1 h2 => x5.nd.at_ j q' nd' (by rw [List.getElem?_append_left (List.getElem?_eq_some_iff.mp h1).1]; exact h1) (by rw [List.getElem?_append_left (List.getElem?_eq_some_iff.mp h2).1]; exact h2)⟩
    have htl := Beg.total hp st x5.bg
    have hcn := x5.cnt
    have hln : nd.2 ≤ n := by
      have h1 := sum_nn (l := nd.1) fun x hx => hp x (bnd.mem x hx)
      have h2 := bnd.sum
      omega
    refine i_turn ?_
    wtm_at "w"
    refine i_tyL x5.ew ?_
    refine i_pop (xs := qs0.map V.ref) (y := .ref q) (by rw [x5.ew, List.map_append]; rfl) ?_
    have k6 : Keep (fun z => z = w) H5 (upd H5 w (.lst (qs0.map V.ref))) := keep_in (Keep.refl _ _) rfl
    have ew6 : (upd H5 w (.lst (qs0.map V.ref))) w = some (.lst (qs0.map V.ref)) := upd_same
    have s6 : Same H (upd H5 w (.lst (qs0.map V.ref))) := same_mut s5 nwH
    generalize upd H5 w (.lst (qs0.map V.ref)) = H6 at k6 ew6 s6 ⊢
    refine g_twoT (k6 _ _ (fun z => nr1 (.inr (.inl z))) ea) ?_
    have eb6 := k6 _ _ (fun z => nr2 (.inr (.inl z))) eb
    have ef6 := k6 _ _ x4.fw x5.ef
    have nd6 := nd0.keep (H' := H6) fun a o hno z => k6 a o (fun w => hno (.inr (.inl w))) z
    -- what is found behind this node
    with_reducible refine j_seq (P := fun σ H' => ∃ fs' : List Rw, σ = [some (.ref a), some (.int n), some (.ref f), some (.ref w), some (.ref pp), some (.int (nd.2 : Nat)), y6] ∧ Same H H' ∧ Keep (fun z => z = f) H6 H' ∧ H' f = some (.lst (fs'.map fun b => .ref b.1)) ∧ (∀ b ∈ fs', H' b.1 = some (.lst (b.2.map V.int)) ∧ b.1 ≠ f ∧ b.1 ≠ w ∧ SumOk S n b.2 ∧ H b.1 = none) ∧ (∀ b ∈ fs, b ∈ fs') ∧ (nd.2 = 0 → nd.1 ∈ fs'.map (·.2)) ∧ fs'.length = fs.length + if nd.2 = 0 then 1 else 0) ?_ (fun hj => ?_)
    rotate_left
    · have fo6 : ∀ b ∈ fs, H6 b.1 = some (.lst (b.2.map V.int)) ∧ b.1 ≠ f ∧ b.1 ≠ w ∧ SumOk S n b.2 ∧ H b.1 = none := fun b hb => by
        obtain ⟨p1, p2, p3, p4⟩ := x5.fo b hb
        exact ⟨k6 _ _ p3 p1, p2, p3, p4⟩
      wtm_at "w"
      refine i_both (fun hz => ?_) (fun hz => ?_)
      · have hz' : nd.2 = 0 := by have := of_decide_eq_true hz; omega
        wtm_at "w"
        refine i_tyL ef6 ?_
        wtm_at "w"
        refine i_app ef6 (by rw [List.length_map, sizeLine_eq]; omega) ?_
        have hf : pp ≠ f := fun z => nr2 (.inl z)
        have hw : pp ≠ w := fun z => nr2 (.inr (.inl z))
        have hH : H pp = none := Classical.byContradiction fun z => nr2 (.inr (.inr z))
        refine hj _ _ ⟨fs ++ [(pp, nd.1)], rfl, same_mut s6 nf, keep_in (Keep.refl _ _) rfl, by rw [upd_same, List.map_append]; rfl, fun b hb => ?_, fun b hb => List.mem_append_left _ hb, fun _ => by simp, by rw [if_pos hz']; simp⟩
        rcases List.mem_append.mp hb with z | z
        · obtain ⟨p1, p2, p3, p4⟩ := fo6 b z
          exact ⟨upd_oth p2 p1, p2, p3, p4⟩
        · rw [List.mem_singleton.mp z]
          exact ⟨upd_oth hf eb6, hf, hw, ⟨bnd.mem, by have := bnd.sum; show nd.1.sum = n; omega, bnd.fall⟩, hH⟩
      · have hz' : ¬ nd.2 = 0 := by have := of_decide_eq_false hz; omega
        refine i_next ?_
        exact hj _ _ ⟨fs, rfl, s6, Keep.refl _ _, ef6, fo6, fun b hb => hb, fun z => absurd z hz', by rw [if_neg hz']; rfl⟩
    rintro σ H7 ⟨fs', rfl, s7, k7, ef7, fo7, sub7, z7, l7⟩
    have eb7 := k7 _ _ (fun z => nr2 (.inl z)) eb6
    have ew7 := k7 _ _ (fun z => x4.fw z.symm) ew6
    have nd7 := nd6.keep (H' := H7) fun a o hno z => k7 a o (fun w => hno (.inl w)) z
    have hnl := (bnd.ok hp).le
    have ha7 := s7 _ _ ha
    wtm_at "w"
    refine i_lstA (sq_of ha7) ?_
    have hct := chn_total up nd S.length (Nat.le_refl _)
    have hce := comp_eq hp nd
    rw [total_app, total_one] at hcn
    have hq0 : ns0.length ≤ 16000000 := by
      rw [List.length_append] at htl
      rw [total_app, total_one] at htl
      omega
    have haw : a ≠ w := ne_of_none ha nwH
    have hppw : pp ≠ w := fun z => nr2 (.inr (.inl z))
    refine lk_list (xs := S.map V.int) (fun j σ H' => Same H H' ∧ Keep (fun z => z = w) H7 H' ∧ ∃ (cs : List Addr) (y : Option V), σ = [some (.ref a), some (.int n), some (.ref f), some (.ref w), some (.ref pp), some (.int (nd.2 : Nat)), y] ∧ H' w = some (.lst ((qs0 ++ cs).map V.ref)) ∧ NdT (fun z => z = f ∨ z = w ∨ H z ≠ none) H' (qs0 ++ cs) (ns0 ++ chn S nd j)) ⟨s7, Keep.refl _ _, [], _, rfl, by rw [List.append_nil]; exact ew7, by rw [List.append_nil]; show NdT _ _ _ (ns0 ++ []); rw [List.append_nil]; exact nd7⟩ (fun i σ H' _ p => sq_of (p.1 _ _ ha)) ?_ ?_
    · rintro j x σ H8 hx ⟨s8, k8, cs, y, rfl, ew8, ndc⟩
      rw [List.getElem?_map] at hx
      obtain ⟨pv, hpj, rfl⟩ := Option.map_eq_some_iff.mp hx
      have hjl : j < S.length := (List.getElem?_eq_some_iff.mp hpj).1
      have hpe : pv = S.getD j 0 := by have := getD_get hjl; rw [hpj] at this; exact Option.some.inj this
      have hp1 := hp pv (List.mem_of_getElem? hpj)
      have hcl := chn_len (S := S) (nd := nd) j
      have hcs := ndc.len
      rw [List.length_append, List.length_append] at hcs
      have eb8 := k8 _ _ hppw eb7
      have ef8 := k8 _ _ x4.fw ef7
      wtm_at "w"
      refine i_new (by simp) fun z1 nz1 => ?_
      wtm_at "w"
      refine i_slL (sq_of (upd_old nz1 eb8)) fun z2 nz2 => ?_
      rw [last_cut]
      refine i_addL (xs := [.int (nd.2 : Nat)]) (ys := (nd.1.getLast?.toList).map V.int) (upd_old nz2 upd_same) upd_same (sz_le (by cases nd.1.getLast? <;> simp)) fun z3 nz3 => ?_
      have s89 : Same H8 (upd (upd (upd H8 z1 (.lst [.int (nd.2 : Nat)])) z2 (.lst ((nd.1.getLast?.toList).map V.int))) z3 (.lst ([.int (nd.2 : Nat)] ++ (nd.1.getLast?.toList).map V.int))) := ((same_new nz1).trans (same_new nz2)).trans (same_new nz3)
      have e9 : (upd (upd (upd H8 z1 (.lst [.int (nd.2 : Nat)])) z2 (.lst ((nd.1.getLast?.toList).map V.int))) z3 (.lst ([.int (nd.2 : Nat)] ++ (nd.1.getLast?.toList).map V.int))) z3 = some (.lst (((nd.2 : Int) :: nd.1.getLast?.toList).map V.int)) := upd_same
      generalize upd (upd (upd H8 z1 (.lst [.int (nd.2 : Nat)])) z2 (.lst ((nd.1.getLast?.toList).map V.int))) z3 (.lst ([.int (nd.2 : Nat)] ++ (nd.1.getLast?.toList).map V.int)) = H9 at s89 e9 ⊢
      wtm_at "w"
      refine i_minL (sq_of e9) (by simp) fun la hla1 hla2 => ?_
      wtm_at "w"
      have cond : pv ≤ la ↔ (S.getD j 0).toNat ≤ nd.2 ∧ j < al S nd.1 := by
        rw [al_iff up hjl, ← hpe]
        constructor
        · intro z
          refine ⟨by have := hla2 _ List.mem_cons_self; omega, fun x hx => ?_⟩
          have := hla2 x (List.mem_cons_of_mem _ (by rw [hx]; simp))
          omega
        · rintro ⟨z1, z2⟩
          rcases List.mem_cons.mp hla1 with z | z
          · omega
          · rw [Option.mem_toList] at z
            exact z2 la z
      refine i_both (fun hz => ?_) (fun hz => ?_)
      · have hc := cond.mp (of_decide_eq_true hz)
        wtm_at "w"
        refine i_tyL (s89 _ _ ew8) ?_
        wtm_at "w"
        refine i_new (by simp) fun v1 nv1 => ?_
        refine i_addL (xs := nd.1.map V.int) (ys := [.int pv]) (upd_old nv1 (s89 _ _ eb8)) upd_same (sz_le (by simp; omega)) fun v2 nv2 => ?_
        wtm_at "w"
        refine i_new (by simp) fun v3 nv3 => ?_
        have sA : Same H9 (upd (upd (upd H9 v1 (.lst [.int pv])) v2 (.lst (nd.1.map V.int ++ [.int pv]))) v3 (.tup [.ref v2, .int ((nd.2 : Nat) - pv)])) := ((same_new nv1).trans (same_new nv2)).trans (same_new nv3)
        have e3 : (upd (upd (upd H9 v1 (.lst [.int pv])) v2 (.lst (nd.1.map V.int ++ [.int pv]))) v3 (.tup [.ref v2, .int ((nd.2 : Nat) - pv)])) v3 = some (.tup [.ref v2, .int ((nd.2 - (S.getD j 0).toNat : Nat) : Int)]) := by
          rw [upd_same, ← hpe, show ((nd.2 - pv.toNat : Nat) : Int) = (nd.2 : Nat) - pv by omega]
        have e2 : (upd (upd (upd H9 v1 (.lst [.int pv])) v2 (.lst (nd.1.map V.int ++ [.int pv]))) v3 (.tup [.ref v2, .int ((nd.2 : Nat) - pv)])) v2 = some (.lst ((nd.1 ++ [S.getD j 0]).map V.int)) := by
          rw [upd_old nv3 upd_same, List.map_append, ← hpe]; rfl
        have ef9 := s89 _ _ ef8
        have ew9 := s89 _ _ ew8
        have r2 : ¬ (v2 = f ∨ v2 = w ∨ H v2 ≠ none) := fun z => by
          rcases z with rfl | rfl | z
          · rw [upd_old nv1 ef9] at nv2; cases nv2
          · rw [upd_old nv1 ew9] at nv2; cases nv2
          · exact z ((s8.trans s89).free ((same_new nv1).free nv2))
        have r3 : ¬ (v3 = f ∨ v3 = w ∨ H v3 ≠ none) := fun z => by
          rcases z with rfl | rfl | z
          · rw [upd_old nv2 (upd_old nv1 ef9)] at nv3; cases nv3
          · rw [upd_old nv2 (upd_old nv1 ew9)] at nv3; cases nv3
          · exact z ((s8.trans s89).free ((same_new nv1).free ((same_new nv2).free nv3)))
        generalize upd (upd (upd H9 v1 (.lst [.int pv])) v2 (.lst (nd.1.map V.int ++ [.int pv]))) v3 (.tup [.ref v2, .int ((nd.2 : Nat) - pv)]) = HA at sA e3 e2 ⊢
        have s8A := s89.trans sA
        wtm_at "w"
        refine i_app (s8A _ _ ew8) (by rw [List.length_map, List.length_append, sizeLine_eq]; omega) ?_
        refine ⟨same_mut (s8.trans s8A) nwH, ?_, cs ++ [v3], some (.int pv), rfl, by rw [upd_same, ← List.append_assoc, List.map_append (l₂ := [v3])]; rfl, ?_⟩
        · exact (k8.trans (Same.keep s8A)).trans (keep_in (Keep.refl _ _) rfl)
        · show NdT _ _ _ (ns0 ++ (chn S nd j ++ _))
          rw [if_pos hc, ← List.append_assoc, ← List.append_assoc]
          exact ((ndc.keep fun a o _ z => s8A a o z).app (NdT.one (nd := (nd.1 ++ [S.getD j 0], nd.2 - (S.getD j 0).toNat)) e3 e2 r3 r2)).keep (keep_in (Keep.refl _ _) (.inr (.inl rfl)))
      · have hc : ¬ ((S.getD j 0).toNat ≤ nd.2 ∧ j < al S nd.1) := fun z => by have := of_decide_eq_false hz; exact this (cond.mpr z)
        refine i_next ?_
        refine ⟨s8.trans s89, k8.trans (Same.keep s89), cs, some (.int pv), rfl, s89 _ _ ew8, ?_⟩
        show NdT _ _ _ (ns0 ++ (chn S nd j ++ _))
        rw [if_neg hc, List.append_nil]; exact ndc.keep fun a o _ z => s89 a o z
    · rintro σ H8 ⟨s8, k8, cs, y, rfl, ew8, ndc⟩
      rw [List.length_map] at ndc
      refine ⟨wgt S (ns0 ++ chn S nd S.length), wgt_less hp ns0 nd, fs', qs0 ++ cs, ns0 ++ chn S nd S.length, _, _, _, rfl, rfl, s8, ?_⟩
      refine ⟨k8 _ _ x4.fw ef7, ew8, x4.fw, ndc, fun b hb => ?_, fun x hx => ?_, fun r hr => ?_, ?_⟩
      · obtain ⟨p1, p2, p3, p4⟩ := fo7 b hb
        exact ⟨k8 _ _ p3 p1, p2, p3, p4⟩
      · rcases List.mem_append.mp hx with z | z
        · exact x5.bg x (List.mem_append_left _ z)
        · exact (bnd.child up hp z).1
      · rcases x5.all r hr with z | ⟨x, hx, hpre⟩
        · obtain ⟨b, hb, e⟩ := List.mem_map.mp z
          exact .inl (List.mem_map.mpr ⟨b, sub7 b hb, e⟩)
        · rcases List.mem_append.mp hx with z | z
          · exact .inr ⟨x, List.mem_append_left _ z, hpre⟩
          · rw [List.mem_singleton.mp z] at hpre
            rcases bnd.goes up hp hr hpre with ⟨e, z0⟩ | ⟨x', hx', hp'⟩
            · left; rw [e]; exact z7 z0
            · exact .inr ⟨x', List.mem_append_right _ hx', hp'⟩
      · rw [total_app, hct, l7]
        omega
end
/-! ### lists of sums, sorted -/
theorem sub_len : ∀ {D M : List (List Int)}, D.Nodup → (∀ x ∈ D, x ∈ M) → D.length ≤ M.length
  | [], _, _, _ => Nat.zero_le _
  | x :: D, M, h, hs => by
    obtain ⟨h1, h2⟩ := List.nodup_cons.mp h
    have hx := hs x List.mem_cons_self
    have ih := sub_len (M := M.erase x) h2 fun y hy => by
      have ne : y ≠ x := fun z => h1 (z ▸ hy)
      exact (List.mem_erase_of_ne ne).mpr (hs y (List.mem_cons_of_mem _ hy))
    have e := (List.perm_cons_erase hx).length_eq
    rw [List.length_cons] at e
    rw [List.length_cons]
    omega
theorem perm_sub : ∀ {D M : List (List Int)}, D.Nodup → (∀ x ∈ D, x ∈ M) → M.length ≤ D.length → M.Perm D
  | [], M, _, _, h => by
    have : M = [] := List.length_eq_zero_iff.mp (Nat.le_zero.mp h)
    rw [this]
  | x :: D, M, h, hs, hl => by
    obtain ⟨h1, h2⟩ := List.nodup_cons.mp h
    have hx := hs x List.mem_cons_self
    have p := List.perm_cons_erase hx
    have e := p.length_eq
    rw [List.length_cons] at e hl
    refine p.trans (List.Perm.cons x (perm_sub h2 (fun y hy => ?_) (by omega)))
    have ne : y ≠ x := fun z => h1 (z ▸ hy)
    exact (List.mem_erase_of_ne ne).mpr (hs y (List.mem_cons_of_mem _ hy))
theorem perm_nd {D M : List (List Int)} (h1 : D.Nodup) (h2 : M.Nodup) (h : ∀ x, x ∈ D ↔ x ∈ M) : M.Perm D := perm_sub h1 (fun x hx => (h x).mp hx) (sub_len h2 fun x hx => (h x).mpr hx)
theorem eq_srt {D M : List (List Int)} (h1 : D.Pairwise (· ≤ ·)) (h2 : M.Pairwise (· ≤ ·)) (p : M.Perm D) : M = D := p.eq_of_pairwise (fun _ _ _ _ a b => List.le_antisymm a b) h2 h1
noncomputable def nths (S : List Int) (n k : Nat) : List (List Int) := (List.range (crow S n k)).map (nth S k n)
noncomputable def nall (S : List Int) (n : Nat) : Nat → List (List Int)
  | 0 => []
  | k + 1 => nall S n k ++ nths S n k
section
variable {S : List Int} (hp : ∀ x ∈ S, 1 ≤ x) (up : S.Pairwise (· < ·))
include hp up
theorem nth_okA {k n x : Nat} (h : x < crow S n k) : SumOk S n (nth S k n x) ∧ (nth S k n x).length = k := by
  have := nth_ok hp up (k := k) (s := S.length) (n := n) (x := x) (Nat.le_refl _) (by rw [List.take_length]; exact h)
  rwa [List.take_length] at this
theorem rnk_nthA {k n x : Nat} (h : x < crow S n k) : rnk S (nth S k n x) n = x := rnk_nth hp up (Nat.le_refl S.length) (by rw [List.take_length]; exact h)
theorem nths_mem {n k : Nat} {r : List Int} (h : r ∈ nths S n k) : SumOk S n r ∧ r.length = k := by
  obtain ⟨x, hx, rfl⟩ := List.mem_map.mp h
  exact nth_okA hp up (List.mem_range.mp hx)
theorem nths_nd (n k : Nat) : (nths S n k).Nodup := by
  unfold nths List.Nodup
  rw [List.pairwise_map]
  refine List.Pairwise.imp_of_mem (fun {a b} ha hb hne z => hne ?_) List.nodup_range
  rw [← rnk_nthA hp up (List.mem_range.mp ha), ← rnk_nthA hp up (List.mem_range.mp hb), z]
theorem nths_srt (n k : Nat) : (nths S n k).Pairwise (· ≤ ·) := by
  unfold nths
  rw [List.pairwise_map]
  refine List.Pairwise.imp_of_mem (fun {a b} ha hb hlt => ?_) List.pairwise_lt_range
  exact nth_mono hp up (Nat.le_refl S.length) (Nat.le_of_lt hlt) (by rw [List.take_length]; exact List.mem_range.mp hb)
omit hp up in
theorem nths_len (n k : Nat) : (nths S n k).length = crow S n k := by unfold nths; rw [List.length_map, List.length_range]
omit hp up in
theorem nall_len (n : Nat) : ∀ k, (nall S n k).length = ksum (crow S n) k
  | 0 => rfl
  | k + 1 => by
    show (nall S n k ++ nths S n k).length = _
    rw [List.length_append, nall_len n k, nths_len]; rfl
theorem nall_mem {n : Nat} {r : List Int} : ∀ {k : Nat}, r ∈ nall S n k → SumOk S n r ∧ r.length < k
  | 0, h => by cases h
  | k + 1, h => by
    rcases List.mem_append.mp h with z | z
    · have := nall_mem z
      exact ⟨this.1, by omega⟩
    · have := nths_mem hp up z
      exact ⟨this.1, by omega⟩
theorem nall_nd (n : Nat) : ∀ k, (nall S n k).Nodup
  | 0 => List.nodup_nil
  | k + 1 => by
    refine List.nodup_append.mpr ⟨nall_nd n k, nths_nd hp up n k, fun a ha b hb z => ?_⟩
    have h1 := (nall_mem hp up ha).2
    have h2 := (nths_mem hp up hb).2
    rw [z] at h1
    omega
theorem nall_k (n k : Nat) : ∀ m, (nall S n m).filter (fun r => decide (r.length = k)) = if k < m then nths S n k else []
  | 0 => by rw [if_neg (by omega)]; rfl
  | m + 1 => by
    show (nall S n m ++ nths S n m).filter _ = _
    rw [List.filter_append, nall_k n k m]
    by_cases h : k = m
    · subst h
      rw [if_neg (by omega), if_pos (by omega), List.nil_append, List.filter_eq_self]
      intro r hr
      exact decide_eq_true (nths_mem hp up hr).2
    · have e : (nths S n m).filter (fun r => decide (r.length = k)) = [] := by
        rw [List.filter_eq_nil_iff]
        intro r hr z
        have := (nths_mem hp up hr).2
        have := of_decide_eq_true z
        omega
      rw [e, List.append_nil]
      by_cases h2 : k < m
      · rw [if_pos h2, if_pos (by omega)]
      · rw [if_neg h2, if_neg (by omega)]
end
structure SmR (S : List Int) (t : Nat) (M : List (List Int)) : Prop where
  mem : ∀ r, SumOk S t r ↔ r ∈ M
  srt : M.Pairwise (· ≤ ·)
  len : M.length = urow S t
section
variable {S : List Int} {t : Nat} {M : List (List Int)} (R : SmR S t M) (hp : ∀ x ∈ S, 1 ≤ x) (up : S.Pairwise (· < ·))
include R hp up
theorem SmR.perm : M.Perm (nall S t (t + 1)) := perm_sub (nall_nd hp up t (t + 1)) (fun x hx => (R.mem x).mp (nall_mem hp up hx).1) (by rw [R.len, nall_len, crow_sum hp]; exact Nat.le_refl _)
theorem SmR.nd : M.Nodup := (R.perm hp up).nodup_iff.mpr (nall_nd hp up t (t + 1))
theorem SmR.k (k : Nat) : M.filter (fun r => decide (r.length = k)) = nths S t k := by
  refine eq_srt (nths_srt hp up t k) (R.srt.filter _) ?_
  have p := (R.perm hp up).filter (fun r => decide (r.length = k))
  rw [nall_k hp up] at p
  by_cases h : k < t + 1
  · rwa [if_pos h] at p
  · rw [if_neg h] at p
    have e : nths S t k = [] := by
      unfold nths
      rw [crow_none hp (by omega)]; rfl
    rw [e]; exact p
theorem SmR.kl (k : Nat) : (M.filter (fun r => decide (r.length = k))).length = crow S t k := by rw [R.k hp up, nths_len]
theorem SmR.le : ∀ k : Nat, (M.filter (fun r => decide (r.length ≤ k))).length = ksum (crow S t) (k + 1)
  | 0 => by
    have e : (fun r : List Int => decide (r.length ≤ 0)) = fun r => decide (r.length = 0) := by
      funext r; rw [Bool.eq_iff_iff, decide_eq_true_iff, decide_eq_true_iff]; omega
    rw [e, R.kl hp up]
    exact (Nat.zero_add _).symm
  | k + 1 => by
    have ih := SmR.le k
    have h2 := R.kl hp up (k + 1)
    have e : ∀ M : List (List Int), (M.filter (fun r => decide (r.length ≤ k + 1))).length = (M.filter (fun r => decide (r.length ≤ k))).length + (M.filter (fun r => decide (r.length = k + 1))).length := by
      intro M
      induction M with
      | nil => rfl
      | cons r M ih =>
        simp only [List.filter_cons]
        by_cases c1 : r.length ≤ k
        · rw [if_pos (by simp; omega), if_pos (by simp; omega), if_neg (by simp; omega)]
          simp only [List.length_cons]; omega
        · by_cases c2 : r.length = k + 1
          · rw [if_pos (by simp; omega), if_neg (by simp; omega), if_pos (by simp; omega)]
            simp only [List.length_cons]; omega
          · rw [if_neg (by simp; omega), if_neg (by simp; omega), if_neg (by simp; omega)]
            exact ih
    rw [e, ih, h2]; rfl
theorem SmR.few (h1 : 1 ≤ t → 1 ∈ S) : (∃ r ∈ M, (r.length : Int) = fewF S t) ∧ ∀ r ∈ M, fewF S t ≤ (r.length : Int) := by
  have hx := few_xs hp t h1
  have hnn : 0 ≤ fewF S t := by
    by_cases z : t = 0
    · subst z; exact Int.le_of_eq (fewF_zero S).symm
    · exact fewF_nn hp (h1 (by omega)) t
  have hc := (crow_posI hp t (fewF S t).toNat).mpr hx
  have ho := nth_okA hp up hc
  refine ⟨⟨_, (R.mem _).mp ho.1, by rw [ho.2]; omega⟩, fun r hr => ?_⟩
  have hs := (R.mem r).mpr hr
  exact few_min hp r.length t ⟨r, hs.mem, rfl, hs.sum⟩
end
/-! ### sums of unlike parts, listed -/
def ul (S : List Int) : Nat → Nat → List (List Int)
  | 0, t => if t = 0 then [[]] else []
  | i + 1, t => ul S i t ++ (if (S.getD i 0).toNat ≤ t then (ul S i (t - (S.getD i 0).toNat)).map (S.getD i 0 :: ·) else [])
theorem ul_len (S : List Int) : ∀ i, i ≤ S.length → ∀ t, ((ul S i t).length : Int) = wrow (S.take i) t
  | 0, _, t => by
    show (((if t = 0 then [[]] else [] : List (List Int)).length : Nat) : Int) = (if t = 0 then 1 else 0)
    split <;> rfl
  | i + 1, hi, t => by
    have hi' : i < S.length := hi
    rw [wrow_snoc (getD_get hi')]
    show (((ul S i t ++ _).length : Nat) : Int) = wstep _ _ t
    unfold wstep
    rw [List.length_append]
    have h1 := ul_len S i (by omega) t
    split
    · have h2 := ul_len S i (by omega) (t - (S.getD i 0).toNat)
      rw [List.length_map]
      omega
    · rw [List.length_nil]; omega
section
variable {S : List Int} (hp : ∀ x ∈ S, 1 ≤ x) (up : S.Pairwise (· < ·))
include up
theorem take_lt {i : Nat} (hi : i < S.length) {x : Int} (hx : x ∈ S.take i) : x < S.getD i 0 := by
  rw [List.mem_take_iff_getElem] at hx
  obtain ⟨j, hj, rfl⟩ := hx
  have e := getD_get hi
  rw [List.getElem?_eq_getElem hi] at e
  rw [← Option.some.inj e]
  exact List.pairwise_iff_getElem.mp up j i (by omega) hi (by omega)
include hp
theorem ul_mem : ∀ i, i ≤ S.length → ∀ (t : Nat) (r : List Int), r ∈ ul S i t ↔ SumOk (S.take i) t r ∧ r.Nodup
  | 0, _, t, r => by
    show r ∈ (if t = 0 then [[]] else [] : List (List Int)) ↔ _
    constructor
    · intro h
      split at h
      · rename_i z
        subst z
        rw [List.mem_singleton.mp h]
        exact ⟨⟨fun x hx => (by cases hx), rfl, List.Pairwise.nil⟩, List.nodup_nil⟩
      · cases h
    · rintro ⟨h, _⟩
      have e : r = [] := by
        cases r with
        | nil => rfl
        | cons y r => exact absurd (h.mem y List.mem_cons_self) (by simp)
      subst e
      have hz : (0 : Int) = t := h.sum
      rw [if_pos (by omega)]
      exact List.mem_singleton.mpr rfl
  | i + 1, hi, t, r => by
    have hi' : i < S.length := hi
    have hg := getD_get hi'
    have hP : 1 ≤ S.getD i 0 := hp _ (getD_mem hi')
    have tm := take_mem hg
    show r ∈ ul S i t ++ _ ↔ _
    rw [List.mem_append, ul_mem i (by omega)]
    constructor
    · rintro (⟨h1, h2⟩ | h)
      · exact ⟨⟨fun x hx => (tm x).mpr (.inl (h1.mem x hx)), h1.sum, h1.fall⟩, h2⟩
      · split at h
        · rename_i hle
          obtain ⟨r', hr', rfl⟩ := List.mem_map.mp h
          obtain ⟨h1, h2⟩ := (ul_mem i (by omega) _ _).mp hr'
          refine ⟨⟨fun x hx => ?_, ?_, ?_⟩, ?_⟩
          · rcases List.mem_cons.mp hx with z | z
            · exact (tm x).mpr (.inr z)
            · exact (tm x).mpr (.inl (h1.mem x z))
          · rw [List.sum_cons, h1.sum]; omega
          · exact List.pairwise_cons.mpr ⟨fun x hx => Int.le_of_lt (take_lt up hi' (h1.mem x hx)), h1.fall⟩
          · exact List.nodup_cons.mpr ⟨fun z => Int.lt_irrefl _ (take_lt up hi' (h1.mem _ z)), h2⟩
        · cases h
    · rintro ⟨h1, h2⟩
      cases r with
      | nil =>
        have hz : (0 : Int) = t := h1.sum
        exact .inl ⟨⟨fun x hx => (by cases hx), hz, List.Pairwise.nil⟩, List.nodup_nil⟩
      | cons y r =>
        obtain ⟨f1, f2⟩ := List.pairwise_cons.mp h1.fall
        obtain ⟨d1, d2⟩ := List.nodup_cons.mp h2
        have hsum : y + r.sum = t := by have := h1.sum; rwa [List.sum_cons] at this
        have hge : (r.length : Int) ≤ r.sum := sum_nn fun x hx => hp x (List.mem_of_mem_take (h1.mem x (List.mem_cons_of_mem _ hx)))
        by_cases hy : y = S.getD i 0
        · right
          rw [if_pos (by omega), List.mem_map]
          refine ⟨r, (ul_mem i (by omega) _ _).mpr ⟨⟨fun x hx => ?_, by omega, f2⟩, d2⟩, by rw [hy]⟩
          rcases (tm x).mp (h1.mem x (List.mem_cons_of_mem _ hx)) with z | z
          · exact z
          · exact absurd hx (by rw [z, ← hy]; exact d1)
        · left
          have hyi : y ∈ S.take i := by
            rcases (tm y).mp (h1.mem y List.mem_cons_self) with z | z
            · exact z
            · exact absurd z hy
          have hlt := take_lt up hi' hyi
          refine ⟨⟨fun x hx => ?_, h1.sum, h1.fall⟩, h2⟩
          rcases (tm x).mp (h1.mem x hx) with z | z
          · exact z
          · rcases List.mem_cons.mp hx with w | w
            · rw [w]; exact hyi
            · have := f1 x w
              omega
theorem ul_lt : ∀ i, i ≤ S.length → ∀ t : Nat, (ul S i t).Pairwise (· < ·)
  | 0, _, t => by
    show (if t = 0 then [[]] else [] : List (List Int)).Pairwise _
    split
    · exact List.pairwise_singleton _ _
    · exact List.Pairwise.nil
  | i + 1, hi, t => by
    have hi' : i < S.length := hi
    show (ul S i t ++ _).Pairwise _
    refine List.pairwise_append.mpr ⟨ul_lt i (by omega) t, ?_, fun a ha b hb => ?_⟩
    · split
      · rw [List.pairwise_map]
        exact (ul_lt i (by omega) _).imp fun h => List.cons_lt_cons_iff.mpr (.inr ⟨rfl, h⟩)
      · exact List.Pairwise.nil
    · split at hb
      · obtain ⟨r', _, rfl⟩ := List.mem_map.mp hb
        have h1 := ((ul_mem hp up i (by omega) _ _).mp ha).1
        cases a with
        | nil => exact List.nil_lt_cons _ _
        | cons y a => exact List.cons_lt_cons_iff.mpr (.inl (take_lt up hi' (h1.mem y List.mem_cons_self)))
      · cases hb
theorem SmR.ul {t : Nat} {M : List (List Int)} (R : SmR S t M) : M.filter (fun r => decide r.Nodup) = ul S S.length t := by
  have hl := ul_lt hp up S.length (Nat.le_refl _) t
  refine eq_srt (hl.imp fun h => List.le_of_lt h) (R.srt.filter _) (perm_nd (hl.imp fun {a b} h z => ?_) ((R.nd hp up).sublist List.filter_sublist) fun x => ?_)
  · rw [z] at h
    exact List.lt_irrefl _ h
  · rw [ul_mem hp up S.length (Nat.le_refl _), List.take_length, List.mem_filter, ← R.mem, decide_eq_true_iff]
end
def IsMin (l : List (List Int)) : Option Int → Prop
  | none => l = []
  | some m => (∃ r ∈ l, (r.length : Int) = m) ∧ ∀ r ∈ l, m ≤ (r.length : Int)
theorem IsMin.best {l1 l2 : List (List Int)} {x c : Option Int} {p : Int} (h1 : IsMin l1 x) (h2 : IsMin l2 c) : IsMin (l2 ++ l1.map (p :: ·)) (lbest x c) := by
  have up : ∀ {r : List Int}, r ∈ l1 → (p :: r) ∈ l2 ++ l1.map (p :: ·) := fun h => List.mem_append_right _ (List.mem_map.mpr ⟨_, h, rfl⟩)
  have dn : ∀ {r : List Int}, r ∈ l2 ++ l1.map (p :: ·) → r ∈ l2 ∨ ∃ r' ∈ l1, r = p :: r' := fun h => by
    rcases List.mem_append.mp h with z | z
    · exact .inl z
    · obtain ⟨r', a, b⟩ := List.mem_map.mp z
      exact .inr ⟨r', a, b.symm⟩
  cases x with
  | none =>
    have e : l1 = [] := h1
    subst e
    show IsMin (l2 ++ []) c
    rw [List.append_nil]; exact h2
  | some a =>
    obtain ⟨⟨r1, m1, e1⟩, g1⟩ := h1
    cases c with
    | none =>
      have e : l2 = [] := h2
      subst e
      refine ⟨⟨p :: r1, up m1, by rw [List.length_cons]; omega⟩, fun r hr => ?_⟩
      rcases dn hr with z | ⟨r', z, rfl⟩
      · cases z
      · have := g1 r' z
        rw [List.length_cons]; omega
    | some b =>
      obtain ⟨⟨r2, m2, e2⟩, g2⟩ := h2
      show IsMin _ (if a + 1 < b then some (a + 1) else some b)
      split
      · refine ⟨⟨p :: r1, up m1, by rw [List.length_cons]; omega⟩, fun r hr => ?_⟩
        rcases dn hr with z | ⟨r', z, rfl⟩
        · have := g2 r z; omega
        · have := g1 r' z
          rw [List.length_cons]; omega
      · refine ⟨⟨r2, List.mem_append_left _ m2, e2⟩, fun r hr => ?_⟩
        rcases dn hr with z | ⟨r', z, rfl⟩
        · exact g2 r z
        · have := g1 r' z
          rw [List.length_cons]; omega
theorem ul_min (S : List Int) : ∀ i, i ≤ S.length → ∀ t : Nat, IsMin (ul S i t) (lrow (S.take i) t)
  | 0, _, t => by
    show IsMin (if t = 0 then [[]] else []) (if t = 0 then some 0 else none)
    split
    · exact ⟨⟨[], by simp, rfl⟩, fun r hr => by rw [List.mem_singleton.mp hr]; exact Int.le_refl _⟩
    · rfl
  | i + 1, hi, t => by
    have hi' : i < S.length := hi
    rw [lrow_snoc (getD_get hi')]
    show IsMin (ul S i t ++ _) (lstep _ _ t)
    unfold lstep
    split
    · exact IsMin.best (ul_min S i (by omega) _) (ul_min S i (by omega) t)
    · rw [List.append_nil]; exact ul_min S i (by omega) t
theorem IsMin.is {l : List (List Int)} {o : Option Int} (h : IsMin l o) {r : List Int} {m : Nat} (hr : r ∈ l) (hl : r.length = m) (hge : ∀ r ∈ l, m ≤ r.length) : o = some (m : Int) := by
  cases o with
  | none => rw [show l = [] from h] at hr; cases hr
  | some a =>
    obtain ⟨⟨r1, m1, e1⟩, g1⟩ := h
    have h1 := g1 r hr
    have h2 := hge r1 m1
    congr 1
    omega
/-- the first with so few parts -/
theorem ul_find {S : List Int} {m : Nat} (ih : ∀ top n : Nat, top ≤ S.length → lrow (S.take top) n = some (m : Int) → (ul S top n).find? (fun r => decide (r.length = m)) = some (greedy S m top n)) :
    ∀ top n : Nat, top ≤ S.length → (∀ r ∈ ul S top n, m + 1 ≤ r.length) → (ul S top n).find? (fun r => decide (r.length = m + 1)) = (firstP (uOk S n (m : Int)) top).map fun j => S.getD j 0 :: greedy S m j (n - (S.getD j 0).toNat)
  | 0, n, _, _ => by
    show (if n = 0 then [[]] else [] : List (List Int)).find? _ = none
    split
    · rfl
    · rfl
  | i + 1, n, hi, hge => by
    have hi' : i < S.length := hi
    have hge1 : ∀ r ∈ ul S i n, m + 1 ≤ r.length := fun r hr => hge r (List.mem_append_left _ hr)
    have ih1 := ul_find ih i n (by omega) hge1
    show (ul S i n ++ _).find? _ = Option.map _ (match firstP (uOk S n (m : Int)) i with | some a => some a | none => if uOk S n m i then some i else none)
    rw [List.find?_append, ih1]
    cases hf : firstP (uOk S n (m : Int)) i with
    | some a => rfl
    | none =>
      show Option.or none _ = Option.map _ (if uOk S n m i then some i else none)
      rw [Option.none_or]
      by_cases hle : (S.getD i 0).toNat ≤ n
      · have hge2 : ∀ r ∈ ul S i (n - (S.getD i 0).toNat), m ≤ r.length := fun r hr => by
          have := hge (S.getD i 0 :: r) (List.mem_append_right _ (by rw [if_pos hle]; exact List.mem_map.mpr ⟨r, hr, rfl⟩))
          rw [List.length_cons] at this
          omega
        rw [if_pos hle, List.find?_map]
        have ec : ((fun r : List Int => decide (r.length = m + 1)) ∘ fun x => S.getD i 0 :: x) = fun r => decide (r.length = m) := by
          funext r
          show decide ((S.getD i 0 :: r).length = m + 1) = _
          rw [List.length_cons, Bool.eq_iff_iff, decide_eq_true_iff, decide_eq_true_iff]; omega
        rw [ec]
        by_cases hl : lrow (S.take i) (n - (S.getD i 0).toNat) = some (m : Int)
        · have hu : uOk S n m i = true := by
            unfold uOk
            rw [decide_eq_true hl, decide_eq_true (show S.getD i 0 ≤ (n : Int) by omega)]; rfl
          rw [hu, ih i _ (by omega) hl]; rfl
        · have hu : uOk S n m i = false := by
            unfold uOk
            rw [decide_eq_false hl, Bool.and_false]
          rw [hu]
          have hn : (ul S i (n - (S.getD i 0).toNat)).find? (fun r => decide (r.length = m)) = none := by
            rw [List.find?_eq_none]
            intro r hr z
            exact hl ((ul_min S i (by omega) _).is hr (of_decide_eq_true z) hge2)
          rw [hn]; rfl
      · have hu : uOk S n m i = false := by
          unfold uOk
          rw [decide_eq_false (show ¬ S.getD i 0 ≤ (n : Int) by omega)]; rfl
        rw [if_neg hle, hu]; rfl
theorem ul_first {S : List Int} (hp : ∀ x ∈ S, 1 ≤ x) : ∀ m top n : Nat, top ≤ S.length → lrow (S.take top) n = some (m : Int) → (ul S top n).find? (fun r => decide (r.length = m)) = some (greedy S m top n)
  | 0, top, n, ht, h => by
    have hm := ul_min S top ht n
    rw [h] at hm
    obtain ⟨⟨r1, m1, e1⟩, _⟩ := hm
    cases hf : (ul S top n).find? (fun r => decide (r.length = 0)) with
    | none =>
      rw [List.find?_eq_none] at hf
      exact absurd (decide_eq_true (show r1.length = 0 by omega)) (hf r1 m1)
    | some r =>
      have hz := List.find?_some hf
      rw [List.length_eq_zero_iff.mp (of_decide_eq_true hz)]; rfl
  | m + 1, top, n, ht, h => by
    have hm := ul_min S top ht n
    rw [h] at hm
    rw [ul_find (ul_first hp m) top n ht fun r hr => by have := hm.2 r hr; omega]
    obtain ⟨j, hj, hu⟩ := lrow_last hp ht h
    obtain ⟨b, hb⟩ := firstP_ex hj hu
    rw [hb, greedy_step hb]; rfl
structure SmI (H : Hp) (q : Addr) (S : List Int) (t : Nat) (Bs : List Rw) : Prop where
  h : H q = some (.lst (Bs.map fun b => .ref b.1))
  b : ∀ b ∈ Bs, H b.1 = some (.lst (b.2.map V.int))
  r : SmR S t (Bs.map (·.2))
  lim : Bs.length < 16000000
theorem SmI.same {H H' : Hp} {q : Addr} {S : List Int} {t : Nat} {Bs : List Rw} (x : SmI H q S t Bs) (s : Same H H') : SmI H' q S t Bs := ⟨s _ _ x.h, fun b hb => s _ _ (x.b b hb), x.r, x.lim⟩
theorem given_gen {α : Type} {S : List α} {g : α → Option V} : given (fun j => (S[j]?).bind g) S.length = S.filterMap g := by
  have h : ∀ n ≤ S.length, given (fun j => (S[j]?).bind g) n = (S.take n).filterMap g := by
    intro n
    induction n with
    | zero => intro _; rfl
    | succ n ih =>
      intro hn
      show given _ n ++ (match (S[n]?).bind g with | some y => [y] | none => []) = _
      rw [ih (by omega), List.take_add_one, List.getElem?_eq_getElem (by omega), List.filterMap_append]
      congr 1
      show (match (some S[n]).bind g with | some y => [y] | none => []) = List.filterMap g [S[n]]
      cases e : g S[n] <;> simp [e]
  rw [h _ (Nat.le_refl _), List.take_length]
theorem fm_filter {α : Type} (P : α → Bool) (f : α → V) : ∀ l : List α, (l.filterMap fun b => if P b then some (f b) else none) = (l.filter P).map f
  | [] => rfl
  | b :: l => by
    rw [List.filterMap_cons, List.filter_cons]
    cases h : P b
    · simp only [Bool.false_eq_true, if_false]; exact fm_filter P f l
    · simp only [if_true]; rw [List.map_cons, fm_filter P f l]
section
variable {G : Gx} {H : Hp} {Q : VK} {E : XK} {q : Addr} {Bs : List Rw} {σ : L2.St} {iv : Nat}
theorem lc_rows {P : List Int → Bool} {tt : TT} (h2 : ∀ x, ((wipe σ [iv]).set iv (some x))[iv]? = some (some x)) (h3 : ∀ x, wipe ((wipe σ [iv]).set iv (some x)) [iv] = wipe σ [iv])
    (e : H q = some (.lst (Bs.map fun b => .ref b.1))) (hl : Bs.length < 16000000)
    (ht : ∀ b ∈ Bs, ∀ (H1 : Hp) (QB : Bool → Hp → Prop), Same H H1 → (∀ H2, Same H1 H2 → QB (P b.2) H2) → tt ((wipe σ [iv]).set iv (some (.ref b.1))) H1 QB)
    (fin : ∀ p H', H p = none → Same H H' → H' p = some (.lst ((Bs.filter fun b => P b.2).map fun b => .ref b.1)) → Q (.ref p) H') :
    LcK (Itl G.K q) (gName iv) tt (tVar iv) [iv] σ H Q := by
  refine lck_pureB walk_list (by rw [List.length_map]; omega) (fun j => (Bs[j]?).bind fun b => if P b.2 then some (.ref b.1) else none) (fun H' s => sq_of (s _ _ e)) (fun j x H5 H6 KK NN hj s y hK hN => ?_) (fun q3 H3 nq3 s3 e3 => ?_)
  · obtain ⟨rfl, hx⟩ := y
    rw [List.getElem?_map] at hx
    obtain ⟨b, hb, rfl⟩ := Option.map_eq_some_iff.mp hx
    wtm_at "w"
    refine ⟨h3 _, ?_⟩
    refine ht b (List.mem_of_getElem? hb) _ _ s fun H7 s7 => ?_
    cases hP : P b.2
    · refine i_F rfl ?_
      exact hN _ (by rw [hb]; show (if P b.2 = true then _ else _) = _; rw [hP]; rfl) s7
    · refine i_T rfl ?_
      refine i_var (h2 _) ?_
      exact hK _ _ (by rw [hb]; show (if P b.2 = true then _ else _) = _; rw [hP]; rfl) s7
  · rw [List.length_map, given_gen, fm_filter (fun b : Rw => P b.2) (fun b => V.ref b.1)] at e3
    exact fin q3 H3 nq3 s3 e3
theorem lc_lens (h2 : ∀ x, ((wipe σ [iv]).set iv (some x))[iv]? = some (some x)) (h3 : ∀ x, wipe ((wipe σ [iv]).set iv (some x)) [iv] = wipe σ [iv])
    (e : H q = some (.lst (Bs.map fun b => .ref b.1))) (eb : ∀ b ∈ Bs, H b.1 = some (.lst (b.2.map V.int))) (hl : Bs.length < 16000000)
    (fin : ∀ p H', H p = none → Same H H' → H' p = some (.lst ((Bs.map fun b => (b.2.length : Int)).map V.int)) → Q (.ref p) H') :
    LcK (Itl G.K q) (gName iv) tYes (tCB (uLen G.K) (tCons (tVar iv) tNil)) [iv] σ H Q := by
  refine lck_pureB walk_list (by rw [List.length_map]; omega) (fun j => ((Bs[j]?).bind fun b => some (b.2.length : Int)).map V.int) (fun H' s => sq_of (s _ _ e)) (fun j x H5 H6 KK NN hj s y hK hN => ?_) (fun q3 H3 nq3 s3 e3 => ?_)
  · obtain ⟨rfl, hx⟩ := y
    rw [List.getElem?_map] at hx
    obtain ⟨b, hb, rfl⟩ := Option.map_eq_some_iff.mp hx
    wtm_at "w"
    refine ⟨h3 _, ?_⟩
    wtm_at "w"
    refine i_var (h2 _) ?_
    wtm_at "w"
    refine i_lenL (sq_of (s _ _ (eb b (List.mem_of_getElem? hb)))) ?_
    rw [List.length_map]
    exact hK _ _ (by rw [hb]; rfl) (fun _ _ z => z)
  · rw [List.length_map, given_ints] at e3
    have e3' : Bs.filterMap (fun b => some (b.2.length : Int)) = Bs.map fun b => (b.2.length : Int) := by rw [← List.filterMap_eq_map]; rfl
    rw [e3'] at e3
    exact fin q3 H3 nq3 s3 e3
/-- the least of the lengths -/
theorem i_minLens {K : Fg} {p : Addr} {S : List Int} {t : Nat} (hp : ∀ x ∈ S, 1 ≤ x) (up : S.Pairwise (· < ·)) (h1 : 1 ≤ t → 1 ∈ S) (R : SmR S t (Bs.map (·.2)))
    (e : H p = some (.lst ((Bs.map fun b => (b.2.length : Int)).map V.int))) (h : Q (.int (fewF S t)) H) : uMin K [.ref p] H Q := by
  obtain ⟨⟨r, hr, er⟩, hge⟩ := R.few hp up h1
  obtain ⟨bf, hbf, rfl⟩ := List.mem_map.mp hr
  refine i_minL (sq_of e) (by rw [List.length_map]; exact List.length_pos_of_mem hbf) fun m hm1 hm2 => ?_
  have em : m = fewF S t := by
    obtain ⟨b, hb, rfl⟩ := List.mem_map.mp hm1
    have a1 := hm2 _ (List.mem_map.mpr ⟨bf, hbf, rfl⟩)
    have a2 := hge b.2 (List.mem_map.mpr ⟨b, hb, rfl⟩)
    omega
  rw [em]; exact h
theorem SmR.rl {S : List Int} {t : Nat} {M : List (List Int)} (hp : ∀ x ∈ S, 1 ≤ x) (R : SmR S t M) {r : List Int} (hr : r ∈ M) : r.length ≤ t := by
  have ho := (R.mem r).mpr hr
  have h1 := sum_nn fun x hx => hp x (ho.mem x hx)
  have h2 := ho.sum
  omega
theorem rows_f (Bs : List Rw) (P : List Int → Bool) : (Bs.filter fun b => P b.2).map (·.2) = (Bs.map (·.2)).filter P := by
  rw [List.filter_map]; rfl
end
section
variable {G : Gx} {H : Hp} {Q : VK} {E : XK} {a q ev : Addr} {ks : List V} {L : List Int} {n : Nat} {Bs : List Rw} {es : List V}
theorem u_law_sums_good (ha : H a = some (.lst ks)) (hk : KdL ks) (hn : n ≤ 24) (hL : StockOf ks n L) (he : H ev = some (.lst es)) (hq : es[n]? = some (.ref q)) (x : SmI H q L n Bs)
    (h : ∀ H', Same H H' → Q (.bl true) H') : sp_law_sums_good G [.ref a, .int n, .ref ev] H Q E := by
  refine ⟨rfl, ?_⟩
  unfold t_law_sums_good
  have hp : ∀ x ∈ L, 1 ≤ x := fun x hx => hL.pos hk.kd hx
  have up := hL.up
  have h1 : 1 ≤ n → 1 ∈ L := fun z => stock_one hL hk (by omega)
  have hlim := x.lim
  wtm_at "w"
  refine i_ixL (sq_of he) (at_nat (n := n) rfl hq) ?_
  wtm_at "w"
  refine i_lstA (sq_of x.h) ?_
  refine lc_lens (fun _ => rfl) (fun _ => rfl) x.h x.b x.lim fun p1 H1 np1 s1 e1 => ?_
  wtm_at "w"
  refine i_minLens hp up h1 x.r e1 ?_
  have hfew := hL.few hk
  obtain ⟨m, em⟩ : ∃ m : Nat, fewF L n = (m : Int) := ⟨(fewF L n).toNat, by omega⟩
  have emN : (fewF L n).toNat = m := by omega
  rw [em]
  wtm_at "w"
  have x1 := x.same s1
  refine i_lstA (sq_of x1.h) ?_
  refine lc_rows (P := fun r => decide (r.length = m)) (fun _ => rfl) (fun _ => rfl) x1.h x1.lim (fun b hb H5 QB s5 hQ => ?_) fun p2 H2 np2 s2 e2 => ?_
  · wtm_at "w"
    refine i_lenL (sq_of (s5 _ _ (x1.b b hb))) ?_
    rw [List.length_map]
    wtm_at "w"
    have ed : decide ((b.2.length : Int) = (m : Int)) = decide (b.2.length = m) := by rw [Bool.eq_iff_iff, decide_eq_true_iff, decide_eq_true_iff]; omega
    rw [ed]
    exact hQ _ (fun _ _ z => z)
  have s02 := s1.trans s2
  have x2 := x.same s02
  wtm_at "wa"
  refine u_fewest_parts (s02 _ _ ha) hk (by omega) fun L3 H3 s3 hL3 => ?_
  have eL := hL.uniq hL3
  subst eL
  rw [em]
  wtm_at "wa"
  refine i_F (by simp) ?_
  wtm_at "wa"
  have s03 := s02.trans s3
  refine u_first_sum (s03 _ _ ha) hk (by omega) fun f4 L4 H4 s4 nf4 hL4 e4 hfl => ?_
  have eL := hL.uniq hL4
  subst eL
  rw [emN] at e4
  have s24 := s3.trans s4
  have s04 := s02.trans s24
  wtm_at "wa"
  -- the first of the best
  have hxm : XS L m n := by have := few_xs hp n h1; rwa [emN] at this
  have hcm := (crow_posI hp n m).mpr hxm
  have hbest : (Bs.filter fun b => decide (b.2.length = m)).map (·.2) = nths L n m := by rw [rows_f Bs (fun r => decide (r.length = m))]; exact x.r.k hp up m
  have hb0 : ∃ b0, (Bs.filter fun b => decide (b.2.length = m))[0]? = some b0 ∧ b0.2 = fsum L m n := by
    have hz : ((Bs.filter fun b => decide (b.2.length = m)).map (·.2))[0]? = some (nth L m n 0) := by
      rw [hbest]; unfold nths
      rw [List.getElem?_map, List.getElem?_range hcm]; rfl
    rw [List.getElem?_map] at hz
    obtain ⟨b0, g1, g2⟩ := Option.map_eq_some_iff.mp hz
    refine ⟨b0, g1, ?_⟩
    rw [g2]
    by_cases z : n = 0
    · subst z; rw [fewF_zero] at em; have : m = 0 := by omega
      subst this; rfl
    · exact nth_first (Stk.of hL hk (by omega)) up m n em
  obtain ⟨b0, g0, eb0⟩ := hb0
  have mb0 : b0 ∈ Bs := (List.mem_filter.mp (List.mem_of_getElem? g0)).1
  refine i_ixL (sq_of (s24 _ _ e2)) (at_nat (n := 0) rfl (by rw [List.getElem?_map, g0]; rfl)) ?_
  refine i_neL (sq_of e4) (sq_of (s24 _ _ (x2.b b0 mb0))) (ints_sV _) (ints_sV _) ?_
  rw [eb0]
  wtm_at "wa"
  refine i_F (by simp) ?_
  wtm_at "wa"
  refine u_count_sums (s04 _ _ ha) hk (by omega) fun L5 H5 s5 hL5 => ?_
  have eL := hL.uniq hL5
  subst eL
  have s05 := s04.trans s5
  have x5 := x.same s05
  wtm_at "wa"
  refine i_lenL (sq_of x5.h) ?_
  rw [List.length_map, show Bs.length = urow L n by have := x.r.len; rwa [List.length_map] at this]
  wtm_at "wa"
  refine i_F (by simp) ?_
  wtm_at "w"
  refine i_rngA1 (by omega) ?_
  refine lk_range (n := ((n : Int) + 2).toNat) (fun i σ H' => Same H H' ∧ ∃ y6 y7 y8 y9 y10 : Option V, σ = [some (.ref a), some (.int n), some (.ref ev), some (.ref q), some (.int m), some (.ref p2), y6, y7, y8, y9, y10]) ⟨s05, _, _, _, _, _, rfl⟩ ?_ ?_
  · rintro k σ H6 hk6 ⟨s6, y6, y7, y8, y9, y10, rfl⟩
    have x6 := x.same s6
    rw [Int.zero_add]
    wtm_at "w"
    refine i_lstA (sq_of x6.h) ?_
    refine lc_rows (P := fun r => decide (r.length = k)) (fun _ => rfl) (fun _ => rfl) x6.h x6.lim (fun b hb H5 QB s5 hQ => ?_) fun p7 H7 np7 s7 e7 => ?_
    · wtm_at "w"
      refine i_lenL (sq_of (s5 _ _ (x6.b b hb))) ?_
      rw [List.length_map]
      wtm_at "w"
      have ed : decide ((b.2.length : Int) = (k : Int)) = decide (b.2.length = k) := by rw [Bool.eq_iff_iff, decide_eq_true_iff, decide_eq_true_iff]; omega
      rw [ed]
      exact hQ _ (fun _ _ z => z)
    have hsome : (Bs.filter fun b => decide (b.2.length = k)).map (·.2) = nths L n k := by rw [rows_f Bs (fun r => decide (r.length = k))]; exact x.r.k hp up k
    have hsl : (Bs.filter fun b => decide (b.2.length = k)).length = crow L n k := by have := congrArg List.length hsome; rwa [List.length_map, nths_len] at this
    have s07 := s6.trans s7
    wtm_at "wa"
    refine u_count_just (s07 _ _ ha) hk (by omega) fun L8 H8 s8 hL8 => ?_
    have eL := hL.uniq hL8
    subst eL
    wtm_at "wa"
    refine i_lenL (sq_of (s8 _ _ e7)) ?_
    rw [List.length_map, hsl]
    wtm_at "wa"
    refine i_F (by simp) ?_
    wtm_at "w"
    have s08 := s07.trans s8
    have x8 := x.same s08
    refine i_lstA (sq_of x8.h) ?_
    refine lc_rows (P := fun r => decide (r.length ≤ k)) (fun _ => rfl) (fun _ => rfl) x8.h x8.lim (fun b hb H5 QB s5 hQ => ?_) fun p9 H9 np9 s9 e9 => ?_
    · wtm_at "w"
      refine i_lenL (sq_of (s5 _ _ (x8.b b hb))) ?_
      rw [List.length_map]
      wtm_at "w"
      have ed : decide ((b.2.length : Int) ≤ (k : Int)) = decide (b.2.length ≤ k) := by rw [Bool.eq_iff_iff, decide_eq_true_iff, decide_eq_true_iff]; omega
      rw [ed]
      exact hQ _ (fun _ _ z => z)
    have hless : (Bs.filter fun b => decide (b.2.length ≤ k)).length = ksum (crow L n) (k + 1) := by
      rw [← x.r.le hp up k, ← rows_f Bs (fun r => decide (r.length ≤ k)), List.length_map]
    have s09 := s08.trans s9
    wtm_at "wa"
    refine u_count_at_most (s09 _ _ ha) hk (by omega) fun L10 H10 s10 hL10 => ?_
    have eL := hL.uniq hL10
    subst eL
    wtm_at "wa"
    refine i_lenL (sq_of (s10 _ _ e9)) ?_
    rw [List.length_map, hless]
    wtm_at "wa"
    refine i_F (by simp) ?_
    have s010 := s09.trans s10
    have e10 := (s8.trans (s9.trans s10)) _ _ e7
    wtm_at "w"
    refine i_lenL (sq_of e10) ?_
    rw [List.length_map, hsl]
    wtm_at "w"
    refine i_lenL (sq_of e10) ?_
    rw [List.length_map, hsl]
    wtm_at "w"
    have hcl : crow L n k < 16000000 := by rw [← hsl]; exact Nat.lt_of_le_of_lt (List.length_filter_le _ _) hlim
    obtain ⟨M, rg, hM⟩ := rg_up (n := (crow L n k : Nat)) (c := 1 + ((crow L n k : Nat) : Int) / 4) (by omega) (by omega) (by omega) (by omega)
    refine ⟨_, _, _, M, rfl, rg, ?_⟩
    refine lk walk_rangeC (fun i σ H' => Same H10 H' ∧ ∃ y9 : Option V, σ = [some (.ref a), some (.int n), some (.ref ev), some (.ref q), some (.int m), some (.ref p2), some (.int k), some (.ref p7), some (.ref p9), y9, y10]) ⟨fun _ _ z => z, _, rfl⟩ (fun _ _ _ _ _ => trivial) ?_ ?_
    · rintro i x σ H11x H11 hi ⟨s11, y9, rfl⟩ yy
      obtain ⟨rfl, rfl⟩ := yy
      have hj' := hM i hi
      have hjn : 0 ≤ (i : Int) * (1 + ((crow L n k : Nat) : Int) / 4) := Int.mul_nonneg (by omega) (by omega)
      obtain ⟨J, eJ⟩ : ∃ J : Nat, (0 : Int) + (i : Nat) * (1 + ((crow L n k : Nat) : Int) / 4) = (J : Int) := ⟨((0 : Int) + (i : Nat) * (1 + ((crow L n k : Nat) : Int) / 4)).toNat, by omega⟩
      have hJ : J < crow L n k := by omega
      have eJ' : (fun i : Nat => V.int (0 + (i : Nat) * (1 + ((crow L n k : Nat) : Int) / 4))) i = V.int (J : Nat) := by
        show V.int (0 + (i : Nat) * (1 + ((crow L n k : Nat) : Int) / 4)) = _
        rw [eJ]
      rw [eJ']
      have hbJ : ∃ bJ, (Bs.filter fun b => decide (b.2.length = k))[J]? = some bJ ∧ bJ.2 = nth L k n J := by
        have hz : ((Bs.filter fun b => decide (b.2.length = k)).map (·.2))[J]? = some (nth L k n J) := by
          rw [hsome]; unfold nths
          rw [List.getElem?_map, List.getElem?_range hJ]; rfl
        rw [List.getElem?_map] at hz
        obtain ⟨b0, g1, g2⟩ := Option.map_eq_some_iff.mp hz
        exact ⟨b0, g1, g2⟩
      obtain ⟨bJ, gJ, ebJ⟩ := hbJ
      have mbJ : bJ ∈ Bs := (List.mem_filter.mp (List.mem_of_getElem? gJ)).1
      have hoJ := nth_okA hp up hJ
      have s011 := s010.trans s11
      wtm_at "w"
      refine u_sum_by (s011 _ _ ha) hk (by omega) hL hJ fun p12 H12 s12 np12 e12 => ?_
      wtm_at "w"
      have e12b := (s11.trans s12) _ _ e10
      have s012 := s011.trans s12
      have x12 := x.same s012
      have eix : atI ((Bs.filter fun b => decide (b.2.length = k)).map fun b => V.ref b.1) (J : Nat) = some (.ref bJ.1) := at_nat (n := J) rfl (by rw [List.getElem?_map, gJ]; rfl)
      refine i_ixL (sq_of e12b) eix ?_
      refine i_neL (sq_of e12) (sq_of (x12.b bJ mbJ)) (ints_sV _) (ints_sV _) ?_
      rw [ebJ]
      wtm_at "w"
      refine i_F (by simp) ?_
      wtm_at "w"
      refine i_ixL (sq_of e12b) eix ?_
      wtm_at "w"
      refine i_ulist (sq_of (x12.b bJ mbJ)) fun p13 np13 => ?_
      wtm_at "w"
      rw [ebJ]
      have s13 : Same H12 (upd H12 p13 (.lst ((nth L k n J).map V.int))) := same_new np13
      have eargs : ([.ref a, .int n, .int (k : Nat), .ref p13] : List V) = [.ref a, .int n, .int (nth L k n J).length, .ref p13] := by rw [hoJ.2]
      show sp_number_of G [.ref a, .int n, .int (k : Nat), .ref p13] _ _ _
      rw [eargs]
      refine u_number_of (s13 _ _ (s012 _ _ ha)) hk (by omega) hL upd_same hoJ.1 fun H14 s14 => ?_
      rw [rnk_nthA hp up hJ]
      wtm_at "w"
      refine i_F (by simp) ?_
      wtm_at "w"
      exact ⟨((s11.trans s12).trans s13).trans s14, _, rfl⟩
    · rintro σ H11 ⟨s11, y9, rfl⟩
      exact ⟨s010.trans s11, _, _, _, _, _, rfl⟩
  · rintro σ H6 ⟨s6, y6, y7, y8, y9, y10, rfl⟩
    wtm_at "w"
    exact h _ s6
theorem u_law_near_good {c : Int} (ha : H a = some (.lst ks)) (hk : KdL ks) (hn : n ≤ 24) (hL : StockOf ks n L) (x : SmI H q L n Bs)
    (h : ∀ H', Same H H' → Q (.bl true) H') : sp_law_near_good_v2 G [.ref a, .int n, .ref q, .int c] H Q E := by
  refine ⟨rfl, ?_⟩
  unfold t_law_near_good_v2
  have hp : ∀ x ∈ L, 1 ≤ x := fun x hx => hL.pos hk.kd hx
  have hlim := x.lim
  have hpos : 0 < Bs.length := by
    obtain ⟨⟨r, hr, _⟩, _⟩ := x.r.few hp hL.up fun z => stock_one hL hk (by omega)
    obtain ⟨b, hb, _⟩ := List.mem_map.mp hr
    exact List.length_pos_of_mem hb
  wtm_at "w"
  refine i_rngA1 (by omega) ?_
  refine lk_range (n := (8 : Int).toNat) (fun i σ H' => Same H H' ∧ ∃ y4 y5 y6 y7 y8 : Option V, σ = [some (.ref a), some (.int n), some (.ref q), some (.int c), y4, y5, y6, y7, y8]) ⟨fun _ _ z => z, _, _, _, _, _, rfl⟩ ?_ ?_
  · rintro k σ H1 hk1 ⟨s1, y4, y5, y6, y7, y8, rfl⟩
    have hk8 : k < 8 := hk1
    rw [Int.zero_add]
    wtm_at "w"
    refine u_law_mixed (by omega) (by omega) fun r H2 s2 r0 => ?_
    have x2 := x.same (s1.trans s2)
    wtm_at "w"
    refine i_lenL (sq_of x2.h) ?_
    rw [List.length_map]
    refine i_mod (by omega) ?_
    have g0 := Int.emod_nonneg r (show (Bs.length : Int) ≠ 0 by omega)
    have g1 := Int.emod_lt_of_pos r (show 0 < (Bs.length : Int) by omega)
    obtain ⟨J, eJ⟩ : ∃ J : Nat, r % (Bs.length : Int) = (J : Int) := ⟨(r % (Bs.length : Int)).toNat, by omega⟩
    have hJ : J < Bs.length := by omega
    rw [eJ]
    wtm_at "w"
    refine i_ixL (v := .ref (Bs[J]).1) (sq_of x2.h) (at_nat (n := J) rfl (by rw [List.getElem?_map, List.getElem?_eq_getElem hJ]; rfl)) ?_
    have hbJ : Bs[J] ∈ Bs := List.getElem_mem _
    have hrl : (Bs[J]).2.length ≤ n := x.r.rl hp (List.mem_map.mpr ⟨_, hbJ, rfl⟩)
    wtm_at "w"
    refine i_ulist (sq_of (x2.b _ hbJ)) fun p3 np3 => ?_
    generalize (Bs[J]).2 = ps at hrl ⊢
    have s23 : Same H2 (upd H2 p3 (.lst (ps.map V.int))) := same_new np3
    have e3 : (upd H2 p3 (.lst (ps.map V.int))) p3 = some (.lst (ps.map V.int)) := upd_same
    generalize upd H2 p3 (.lst (ps.map V.int)) = H3 at s23 e3 ⊢
    wtm_at "w"
    refine u_law_mixed (by omega) (by omega) fun r2 H4 s4 r20 => ?_
    wtm_at "w"
    refine i_lenL (sq_of (s4 _ _ e3)) ?_
    rw [List.length_map]
    wtm_at "w"
    have g2 := Int.emod_nonneg r2 (show (ps.length : Int) + 1 ≠ 0 by omega)
    have g3 := Int.emod_lt_of_pos r2 (show 0 < (ps.length : Int) + 1 by omega)
    obtain ⟨at_, eat⟩ : ∃ at_ : Nat, r2 % ((ps.length : Int) + 1) = (at_ : Int) := ⟨(r2 % ((ps.length : Int) + 1)).toNat, by omega⟩
    rw [eat]
    wtm_at "w"
    refine u_law_mixed (by omega) (by omega) fun r3 H5 s5 r30 => ?_
    wtm_at "w"
    generalize r3 % ((n : Int) + 2) = part
    have e5 := s5 _ _ (s4 _ _ e3)
    refine i_slL (sq_of e5) fun z1 nz1 => ?_
    rw [cut_takeA]
    wtm_at "w"
    refine i_new (by simp) fun z2 nz2 => ?_
    refine i_addL (xs := (ps.map V.int).take at_) (ys := [.int part]) (upd_old nz2 upd_same) upd_same (sz_le (by simp; omega)) fun z3 nz3 => ?_
    wtm_at "w"
    have s56 : Same H5 (upd (upd (upd H5 z1 (.lst ((ps.map V.int).take at_))) z2 (.lst [.int part])) z3 (.lst ((ps.map V.int).take at_ ++ [.int part]))) := ((same_new nz1).trans (same_new nz2)).trans (same_new nz3)
    have e6 : (upd (upd (upd H5 z1 (.lst ((ps.map V.int).take at_))) z2 (.lst [.int part])) z3 (.lst ((ps.map V.int).take at_ ++ [.int part]))) z3 = some (.lst ((ps.map V.int).take at_ ++ [.int part])) := upd_same
    generalize upd (upd (upd H5 z1 (.lst ((ps.map V.int).take at_))) z2 (.lst [.int part])) z3 (.lst ((ps.map V.int).take at_ ++ [.int part])) = H6 at s56 e6 ⊢
    obtain ⟨to, eto⟩ : ∃ to : Nat, (at_ : Int) + (k : Int) % 2 = (to : Int) := ⟨((at_ : Int) + (k : Int) % 2).toNat, by omega⟩
    rw [eto]
    refine i_slL (sq_of (s56 _ _ e5)) fun z4 nz4 => ?_
    rw [cut_dropA]
    refine i_addL (xs := (ps.map V.int).take at_ ++ [.int part]) (ys := (ps.map V.int).drop to) (upd_old nz4 e6) upd_same (sz_le (by simp; omega)) fun z5 nz5 => ?_
    have s67 : Same H6 (upd (upd H6 z4 (.lst ((ps.map V.int).drop to))) z5 (.lst ((ps.map V.int).take at_ ++ [.int part] ++ (ps.map V.int).drop to))) := (same_new nz4).trans (same_new nz5)
    have e7 : (upd (upd H6 z4 (.lst ((ps.map V.int).drop to))) z5 (.lst ((ps.map V.int).take at_ ++ [.int part] ++ (ps.map V.int).drop to))) z5 = some (.lst ((ps.take at_ ++ [part] ++ ps.drop to).map V.int)) := by
      rw [upd_same]; simp [List.map_take, List.map_drop]
    generalize upd (upd H6 z4 (.lst ((ps.map V.int).drop to))) z5 (.lst ((ps.map V.int).take at_ ++ [.int part] ++ (ps.map V.int).drop to)) = H7 at s67 e7 ⊢
    have s37 := ((s4.trans s5).trans s56).trans s67
    have s07 := ((s1.trans s2).trans s23).trans s37
    have hnl : (ps.take at_ ++ [part] ++ ps.drop to).length ≤ 1000 := by simp; omega
    generalize ps.take at_ ++ [part] ++ ps.drop to = near at e7 hnl
    have tail : ∀ (D : Ends), (∀ σ H', (Same H H' ∧ ∃ y4 y5 y6 y7 y8 : Option V, σ = [some (.ref a), some (.int n), some (.ref q), some (.int c), y4, y5, y6, y7, y8]) → D.nx σ H') → ∀ (nr : List Int) (z : Addr) (σ : L2.St) (H8 : Hp), Same H H8 → H8 z = some (.lst (nr.map V.int)) → nr.length ≤ 1000 → (∃ y5 y6 y7, σ = [some (.ref a), some (.int n), some (.ref q), some (.int c), some (.int k), y5, y6, y7, some (.ref z)]) →
        tIfS (tTest (tOp (uNe G.K) (tCall (sp_is_sum G) [] E (tCons (tVar 0) (tCons (tVar 1) (tCons (tVar 8) tNil)))) (tOp (uInDp G.K) (tVar 8) (tVar 2)))) (tRet (tC (.bl false))) tNext D σ H8 := by
      rintro D hD nr z σ H8 s8 e8 hl8 ⟨y5, y6, y7, rfl⟩
      wtm_at "w"
      refine u_is_sum (s8 _ _ ha) hk (by omega) (sq_of e8) e8 hl8 fun L9 b H9 s9 hL9 hb => ?_
      have eL := hL.uniq hL9
      subst eL
      wtm_at "w"
      have x9 := x.same (s8.trans s9)
      refine i_inRows (s9 _ _ e8) x9.h x9.b ?_
      refine k_neBB ?_
      wtm_at "w"
      have e : b = decide (nr ∈ Bs.map (·.2)) := by rw [Bool.eq_iff_iff, hb, decide_eq_true_iff, x.r.mem]
      refine i_F (by rw [e]; simp) ?_
      wtm_at "w"
      exact hD _ _ ⟨s8.trans s9, _, _, _, _, _, rfl⟩
    wtm_at "w"
    refine i_both (fun _ => ?_) (fun _ => ?_)
    · refine i_asg (i_revL ?_)
      wtm_at "w"
      refine i_revA (sq_of (s37 _ _ e3)) fun z nz => ?_
      refine i_gname ?_
      exact tail _ (fun _ _ z => z) ps.reverse z _ _ (s07.trans (same_new nz)) (by rw [upd_same, List.map_reverse]) (by rw [List.length_reverse]; omega) ⟨_, _, _, rfl⟩
    · refine i_next ?_
      exact tail _ (fun _ _ z => z) near z5 _ _ s07 e7 hnl ⟨_, _, _, rfl⟩
  · rintro σ H1 ⟨s1, y4, y5, y6, y7, y8, rfl⟩
    wtm_at "w"
    exact h _ s1
end
structure EvI (H : Hp) (ev : Addr) (L : List Int) (n : Nat) (es : List V) : Prop where
  h : H ev = some (.lst es)
  len : es.length = n + 1
  at_ : ∀ t, t ≤ n → ∃ q Bs, es[t]? = some (.ref q) ∧ SmI H q L t Bs
theorem EvI.same {H H' : Hp} {ev : Addr} {L : List Int} {n : Nat} {es : List V} (x : EvI H ev L n es) (s : Same H H') : EvI H' ev L n es := ⟨s _ _ x.h, x.len, fun t ht => by
  obtain ⟨q, Bs, h1, h2⟩ := x.at_ t ht
  exact ⟨q, Bs, h1, h2.same s⟩⟩
theorem rows_nil (rs : List (List Int)) : PyData.eqv (dLL rs) (.list []) = decide (rs = []) := by
  cases rs with
  | nil => rfl
  | cons r rs => rw [decide_eq_false (by simp)]; rfl
theorem i_eqRowsE {K : Fg} {H : Hp} {Q : VK} {p e : Addr} {bs : List Rw} (h1 : H p = some (.lst (bs.map fun b => .ref b.1))) (hb : ∀ b ∈ bs, H b.1 = some (.lst (b.2.map V.int))) (h2 : H e = some (.lst [])) (h : Q (.bl (decide (bs.map (·.2) = []))) H) : uEq K (.ref p) (.ref e) H Q := by
  refine i_eqG (d := dLL (bs.map (·.2))) (.lst (sq_of h1) (rows_dp hb)) (.lst (sq_of h2) .nil) (shaped_LL _) (shaped_LL []) ?_
  rw [rows_nil]; exact h
theorem i_neRowsE {K : Fg} {H : Hp} {Q : VK} {p e : Addr} {bs : List Rw} (h1 : H p = some (.lst (bs.map fun b => .ref b.1))) (hb : ∀ b ∈ bs, H b.1 = some (.lst (b.2.map V.int))) (h2 : H e = some (.lst [])) (h : Q (.bl (!decide (bs.map (·.2) = []))) H) : uNe K (.ref p) (.ref e) H Q := by
  refine i_neG (d := dLL (bs.map (·.2))) (.lst (sq_of h1) (rows_dp hb)) (.lst (sq_of h2) .nil) (shaped_LL _) (shaped_LL []) ?_
  rw [rows_nil]; exact h
theorem sub_lenI : ∀ {D M : List Int}, D.Nodup → (∀ x ∈ D, x ∈ M) → D.length ≤ M.length
  | [], _, _, _ => Nat.zero_le _
  | x :: D, M, h, hs => by
    obtain ⟨h1, h2⟩ := List.nodup_cons.mp h
    have hx := hs x List.mem_cons_self
    have ih := sub_lenI (M := M.erase x) h2 fun y hy => by
      have ne : y ≠ x := fun z => h1 (z ▸ hy)
      exact (List.mem_erase_of_ne ne).mpr (hs y (List.mem_cons_of_mem _ hy))
    have e := (List.perm_cons_erase hx).length_eq
    rw [List.length_cons] at e
    rw [List.length_cons]
    omega
theorem nd_of_len : ∀ {D M : List Int}, D.Nodup → (∀ x ∈ D, x ∈ M) → M.length ≤ D.length → M.Perm D
  | [], M, _, _, h => by
    have : M = [] := List.length_eq_zero_iff.mp (Nat.le_zero.mp h)
    rw [this]
  | x :: D, M, h, hs, hl => by
    obtain ⟨h1, h2⟩ := List.nodup_cons.mp h
    have hx := hs x List.mem_cons_self
    have p := List.perm_cons_erase hx
    have e := p.length_eq
    rw [List.length_cons] at e hl
    refine p.trans (List.Perm.cons x (nd_of_len h2 (fun y hy => ?_) (by omega)))
    have ne : y ≠ x := fun z => h1 (z ▸ hy)
    exact (List.mem_erase_of_ne ne).mpr (hs y (List.mem_cons_of_mem _ hy))
theorem set_nd {ys ns : List Int} (h : ys.Nodup) (hm : ∀ k, k ∈ ys ↔ k ∈ ns) : decide ((ys.length : Int) = (ns.length : Int)) = decide ns.Nodup := by
  rw [Bool.eq_iff_iff, decide_eq_true_iff, decide_eq_true_iff]
  have h1 := sub_lenI h fun x hx => (hm x).mp hx
  constructor
  · intro z
    exact (nd_of_len h (fun x hx => (hm x).mp hx) (by omega)).nodup_iff.mpr h
  · intro z
    have h2 := sub_lenI z fun x hx => (hm x).mpr hx
    omega
section
variable {G : Gx} {H : Hp} {Q : VK} {E : XK} {a q ev : Addr} {ks : List V} {L : List Int} {n t : Nat} {Bs : List Rw} {es : List V} {σ : L2.St} {iv : Nat}
theorem i_lenSet {K : Fg} {te : TE} (h : te σ H fun x H1 => LsA K x H1 Q) : tLenSet K te σ H Q := h
/-- those of unlike parts -/
theorem lc_unlike (h2 : ∀ x, ((wipe σ [iv]).set iv (some x))[iv]? = some (some x)) (h3 : ∀ x, wipe ((wipe σ [iv]).set iv (some x)) [iv] = wipe σ [iv])
    (hp : ∀ x ∈ L, 1 ≤ x) (ht : t ≤ 50) (x : SmI H q L t Bs)
    (fin : ∀ p H', H p = none → Same H H' → H' p = some (.lst ((Bs.filter fun b => decide b.2.Nodup).map fun b => .ref b.1)) → Q (.ref p) H') :
    LcK (Itl G.K q) (gName iv) (tTest (tOp (uEq G.K) (tLenSet G.K (tVar iv)) (tCB (uLen G.K) (tCons (tVar iv) tNil)))) (tVar iv) [iv] σ H Q := by
  refine lc_rows (P := fun r => decide r.Nodup) h2 h3 x.h x.lim (fun b hb H5 QB s5 hQ => ?_) fin
  have hrl := x.r.rl hp (List.mem_map.mpr ⟨b, hb, rfl⟩)
  wtm_at "w"
  refine i_lenSet ?_
  refine i_var (h2 _) ?_
  refine ⟨b.1, b.2, rfl, sq_of (s5 _ _ (x.b b hb)), by omega, fun ys hnd hm => ?_⟩
  wtm_at "w"
  refine i_var (h2 _) ?_
  wtm_at "w"
  refine i_lenL (sq_of (s5 _ _ (x.b b hb))) ?_
  rw [List.length_map]
  wtm_at "w"
  rw [set_nd hnd hm]
  exact hQ _ (fun _ _ z => z)
theorem find_get {α : Type} (P : α → Bool) : ∀ l : List α, (l.filter P)[0]? = l.find? P
  | [] => rfl
  | x :: l => by
    rw [List.filter_cons, List.find?_cons]
    cases P x
    · simp only [Bool.false_eq_true, if_false]; exact find_get P l
    · rfl
theorem u_law_unlike_good (ha : H a = some (.lst ks)) (hk : KdL ks) (hn : n ≤ 24) (hL : StockOf ks n L) (x : EvI H ev L n es)
    (h : ∀ H', Same H H' → Q (.bl true) H') : sp_law_unlike_good G [.ref a, .int n, .ref ev] H Q E := by
  refine ⟨rfl, ?_⟩
  unfold t_law_unlike_good
  have hp : ∀ x ∈ L, 1 ≤ x := fun x hx => hL.pos hk.kd hx
  have up := hL.up
  obtain ⟨q, Bs, hq, xn⟩ := x.at_ n (Nat.le_refl _)
  have hlim := xn.lim
  wtm_at "w"
  refine i_ixL (sq_of x.h) (at_nat (n := n) rfl hq) ?_
  refine i_lstA (sq_of xn.h) ?_
  refine lc_unlike (fun _ => rfl) (fun _ => rfl) hp (by omega) xn fun p1 H1 np1 s1 e1 => ?_
  have hU : (Bs.filter fun b => decide b.2.Nodup).map (·.2) = ul L L.length n := by rw [rows_f Bs (fun r => decide r.Nodup)]; exact xn.r.ul hp up
  have hUb : ∀ b ∈ (Bs.filter fun b => decide b.2.Nodup), H b.1 = some (.lst (b.2.map V.int)) := fun b hb => xn.b b (List.mem_filter.mp hb).1
  have hUl : (Bs.filter fun b => decide b.2.Nodup).length ≤ Bs.length := List.length_filter_le _ _
  generalize (Bs.filter fun b => decide b.2.Nodup) = Us at hU hUb hUl e1
  have hmin := ul_min L L.length (Nat.le_refl _) n
  rw [List.take_length] at hmin
  wtm_at "w"
  -- behind the two names
  have tail : ∀ (D : Ends) (fv : V) (σ : L2.St) (H2 : Hp), (∀ H', Same H H' → D.rt (.bl true) H') → Same H1 H2 → ((lrow L n = none ∧ fv = .non) ∨ ∃ (m : Nat) (z : Addr), lrow L n = some (m : Int) ∧ fv = .ref z ∧ H2 z = some (.lst ((greedy L m L.length n).map V.int))) →
      (∃ y6 y7 y8 : Option V, σ = [some (.ref a), some (.int n), some (.ref ev), some (.ref p1), some (optV (lrow L n)), some fv, y6, y7, y8]) →
      (tSeq (tIfS (tOr (tTest (tOp (uNe G.K) (tCall (sp_fewest_unlike G) [] E (tCons (tVar 0) (tCons (tVar 1) tNil))) (tVar 4))) (tTest (tOp (uNe G.K) (tCall (sp_first_unlike G) [] E (tCons (tVar 0) (tCons (tVar 1) tNil))) (tVar 5)))) (tRet (tC (.bl false))) tNext)
      (tSeq (tIfS (tTest (tOp (uNe G.K) (tCall (sp_count_unlike G) [] E (tCons (tVar 0) (tCons (tVar 1) tNil))) (tCB (uLen G.K) (tCons (tVar 3) tNil)))) (tRet (tC (.bl false))) tNext)
      (tSeq (tAsg (tLst tNil) (gName 6))
      (tSeq (tFor (iRng1 (tCons (tOp uAdd (tVar 1) (tC (.int 1))) tNil)) (gName 7) (tIfS (tTest (tOp (uEq G.K) (tLc (iList G.K (tOp (uIx G.K) (tVar 2) (tVar 7))) (gName 8) (tTest (tOp (uEq G.K) (tLenSet G.K (tVar 8)) (tCB (uLen G.K) (tCons (tVar 8) tNil)))) (tVar 8) [8]) (tLst tNil))) (tDrop (tBM G.K "list" rAppend (tVar 6) (tCons (tVar 7) tNil))) tNext))
      (tRet (tOp (uEq G.K) (tCall (sp_without_unlike G) [] E (tCons (tVar 0) (tCons (tVar 1) tNil))) (tVar 6))))))) D σ H2 := by
    rintro D fv σ H2 hD s2 hfv ⟨y6, y7, y8, rfl⟩
    have s02 := s1.trans s2
    have tail2 : ∀ (D : Ends) (H3 : Hp), (∀ H', Same H H' → D.rt (.bl true) H') → Same H2 H3 →
      (tSeq (tIfS (tTest (tOp (uNe G.K) (tCall (sp_count_unlike G) [] E (tCons (tVar 0) (tCons (tVar 1) tNil))) (tCB (uLen G.K) (tCons (tVar 3) tNil)))) (tRet (tC (.bl false))) tNext)
      (tSeq (tAsg (tLst tNil) (gName 6))
      (tSeq (tFor (iRng1 (tCons (tOp uAdd (tVar 1) (tC (.int 1))) tNil)) (gName 7) (tIfS (tTest (tOp (uEq G.K) (tLc (iList G.K (tOp (uIx G.K) (tVar 2) (tVar 7))) (gName 8) (tTest (tOp (uEq G.K) (tLenSet G.K (tVar 8)) (tCB (uLen G.K) (tCons (tVar 8) tNil)))) (tVar 8) [8]) (tLst tNil))) (tDrop (tBM G.K "list" rAppend (tVar 6) (tCons (tVar 7) tNil))) tNext))
      (tRet (tOp (uEq G.K) (tCall (sp_without_unlike G) [] E (tCons (tVar 0) (tCons (tVar 1) tNil))) (tVar 6)))))) D [some (.ref a), some (.int n), some (.ref ev), some (.ref p1), some (optV (lrow L n)), some fv, y6, y7, y8] H3 := by
      intro D H3 hD s3
      have s03 := s02.trans s3
      wtm_at "w"
      refine u_count_unlike (s03 _ _ ha) hk (by omega) fun L4 H4 s4 hL4 => ?_
      have eL := hL.uniq hL4
      subst eL
      wtm_at "w"
      refine i_lenL (sq_of ((s2.trans (s3.trans s4)) _ _ e1)) ?_
      have hcnt : ((Us.map fun b : Rw => V.ref b.1).length : Int) = wrow L n := by
        have h1 := ul_len L L.length (Nat.le_refl _) n
        rw [List.take_length, ← hU, List.length_map] at h1
        rw [List.length_map]; exact h1
      rw [hcnt]
      wtm_at "w"
      refine i_F (by simp) ?_
      wtm_at "w"
      refine i_new (by simp) fun f nf => ?_
      have s04 := s03.trans s4
      have nfH := s04.free nf
      wtm_at "w"
      refine i_rngA1 (by omega) ?_
      refine lk_range (n := ((n : Int) + 1).toNat) (fun i σ H' => Same H H' ∧ H' f = some (.lst (given (zeroAt (wrow L)) i)) ∧ ∃ y7 y8 : Option V, σ = [some (.ref a), some (.int n), some (.ref ev), some (.ref p1), some (optV (lrow L n)), some fv, some (.ref f), y7, y8]) ⟨s04.trans (same_new nf), upd_same, _, _, rfl⟩ ?_ ?_
      · rintro i σ H5 hi ⟨s5, ef, y7, y8, rfl⟩
        rw [Int.zero_add]
        have hin : i ≤ n := by omega
        obtain ⟨q6, Bs6, hq6, x6⟩ := (x.same s5).at_ i hin
        wtm_at "w"
        refine i_ixL (sq_of (s5 _ _ x.h)) (at_nat (n := i) rfl hq6) ?_
        refine i_lstA (sq_of x6.h) ?_
        refine lc_unlike (fun _ => rfl) (fun _ => rfl) hp (by omega) x6 fun p7 H7 np7 s7 e7 => ?_
        have hU6 : (Bs6.filter fun b => decide b.2.Nodup).map (·.2) = ul L L.length i := by rw [rows_f Bs6 (fun r => decide r.Nodup)]; exact x6.r.ul hp up
        have hz6 : (ul L L.length i = []) ↔ wrow L i = 0 := by
          have h1 := ul_len L L.length (Nat.le_refl _) i
          rw [List.take_length] at h1
          rw [← h1, ← List.length_eq_zero_iff]; omega
        have x7 := x6.same s7
        wtm_at "w"
        refine i_new (by simp) fun e8 ne8 => ?_
        have s78 : Same H7 (upd H7 e8 (.lst [])) := same_new ne8
        refine i_eqRowsE (s78 _ _ e7) (fun b hb => s78 _ _ (x7.b b (List.mem_filter.mp hb).1)) upd_same ?_
        generalize upd H7 e8 (.lst []) = H8 at s78 ⊢
        rw [hU6]
        have s58 := s7.trans s78
        have gsucc : given (zeroAt (wrow L)) (i + 1) = given (zeroAt (wrow L)) i ++ (if wrow L i = 0 then [V.int (i : Nat)] else []) := by
          show given (zeroAt (wrow L)) i ++ (match zeroAt (wrow L) i with | some y => [y] | none => []) = _
          by_cases z : wrow L i = 0
          · rw [show zeroAt (wrow L) i = some (V.int (i : Nat)) from if_pos z, if_pos z]
          · rw [show zeroAt (wrow L) i = none from if_neg z, if_neg z]
        wtm_at "w"
        refine i_ite (fun hz => ?_) (fun hz => ?_)
        · wtm_at "w"
          refine i_tyL (s58 _ _ ef) ?_
          wtm_at "w"
          refine i_app (s58 _ _ ef) (sz_lt (by have := given_len (zeroAt (wrow L)) i; omega)) ?_
          refine ⟨same_mut (s5.trans s58) nfH, ?_, _, _, rfl⟩
          rw [upd_same, gsucc, if_pos (hz6.mp hz)]
        · wtm_at "w"
          refine ⟨s5.trans s58, ?_, _, _, rfl⟩
          rw [s58 _ _ ef, gsucc, if_neg (fun z => hz (hz6.mpr z)), List.append_nil]
      · rintro σ H5 ⟨s5, ef, y7, y8, rfl⟩
        wtm_at "w"
        refine u_without_unlike (s5 _ _ ha) hk (by omega) fun p6 L6 H6 s6 np6 hL6 e6 => ?_
        have eL := hL.uniq hL6
        subst eL
        rw [show ((n : Int) + 1).toNat = n + 1 by omega] at ef
        have hsv : (given (zeroAt (wrow L)) (n + 1)).all sV = true := given_all fun i _ y hy => by
          unfold zeroAt at hy
          split at hy
          · rw [← Option.some.inj hy]; rfl
          · cases hy
        wtm_at "w"
        refine i_eqL (sq_of e6) (sq_of (s6 _ _ ef)) hsv hsv ?_
        rw [decide_eq_true rfl]
        exact hD _ (s5.trans s6)
    wtm_at "wa"
    refine u_fewest_unlike (s02 _ _ ha) hk (by omega) fun L3 H3 s3 hL3 => ?_
    have eL := hL.uniq hL3
    subst eL
    wtm_at "wa"
    refine i_neO ?_
    wtm_at "wa"
    have s03 := s02.trans s3
    refine u_first_unlike (s03 _ _ ha) hk (by omega) (fun L4 H4 s4 hL4 hN => ?_) (fun p4 L4 m4 H4 s4 np4 hL4 hm4 e4 hl4 => ?_)
    · have eL := hL.uniq hL4
      subst eL
      rcases hfv with ⟨_, rfl⟩ | ⟨m, z, hm, _⟩
      · refine i_var rfl ?_
        refine i_neNN ?_
        refine i_exbl ?_
        refine i_F rfl ?_
        refine i_next ?_
        exact tail2 _ _ hD (s3.trans s4)
      · rw [hm] at hN; cases hN
    · have eL := hL.uniq hL4
      subst eL
      rcases hfv with ⟨hN, _⟩ | ⟨m, z, hm, rfl, ez⟩
      · rw [hm4] at hN; cases hN
      · have em : m = m4 := by rw [hm] at hm4; have := Option.some.inj hm4; omega
        subst em
        refine i_var rfl ?_
        refine i_neL (sq_of e4) (sq_of ((s3.trans s4) _ _ ez)) (ints_sV _) (ints_sV _) ?_
        refine i_exbl ?_
        refine i_F (by simp) ?_
        refine i_next ?_
        exact tail2 _ _ hD (s3.trans s4)
  refine i_new (by simp) fun e2 ne2 => ?_
  have s12 : Same H1 (upd H1 e2 (.lst [])) := same_new ne2
  refine i_neRowsE (s12 _ _ e1) (fun b hb => s12 _ _ (s1 _ _ (hUb b hb))) upd_same ?_
  generalize upd H1 e2 (.lst []) = H2 at s12 ⊢
  rw [hU]
  wtm_at "w"
  refine i_iteN (fun hz => ?_) (fun hz => ?_)
  · refine i_next ?_
    have hno : lrow L n = none := by
      cases hl : lrow L n with
      | none => rfl
      | some m =>
        rw [hl, hz] at hmin
        obtain ⟨⟨r, hr, _⟩, _⟩ := hmin
        cases hr
    refine tail _ .non _ _ h s12 (.inl ⟨hno, rfl⟩) ⟨none, none, none, ?_⟩
    rw [hno]; rfl
  · obtain ⟨m, hm⟩ : ∃ m : Nat, lrow L n = some (m : Int) := by
      cases hl : lrow L n with
      | none => rw [hl] at hmin; exact absurd hmin hz
      | some m =>
        have := lrow_nn L n m hl
        exact ⟨m.toNat, by congr 1; omega⟩
    rw [hm] at hmin
    obtain ⟨⟨r1, hr1, er1⟩, hge⟩ := hmin
    rw [← hU] at hr1
    obtain ⟨b1, hb1, rfl⟩ := List.mem_map.mp hr1
    wtm_at "w"
    refine i_lstA (sq_of (s12 _ _ e1)) ?_
    refine lc_lens (fun _ => rfl) (fun _ => rfl) (s12 _ _ e1) (fun b hb => s12 _ _ (s1 _ _ (hUb b hb))) (by omega) fun p3 H3 np3 s3 e3 => ?_
    wtm_at "w"
    refine i_minL (sq_of e3) (by rw [List.length_map]; exact List.length_pos_of_mem hb1) fun mm hm1 hm2 => ?_
    have emm : mm = (m : Int) := by
      obtain ⟨b, hb, rfl⟩ := List.mem_map.mp hm1
      have a1 := hm2 _ (List.mem_map.mpr ⟨b1, hb1, rfl⟩)
      have a2 := hge b.2 (by rw [← hU]; exact List.mem_map.mpr ⟨b, hb, rfl⟩)
      omega
    subst emm
    wtm_at "w"
    have s13 := s12.trans s3
    refine i_lstA (sq_of (s13 _ _ e1)) ?_
    refine lc_rows (P := fun r => decide (r.length = m)) (fun _ => rfl) (fun _ => rfl) (s13 _ _ e1) (by omega) (fun b hb H5 QB s5 hQ => ?_) fun p4 H4 np4 s4 e4 => ?_
    · wtm_at "w"
      refine i_lenL (sq_of (s5 _ _ (s13 _ _ (s1 _ _ (hUb b hb))))) ?_
      rw [List.length_map]
      wtm_at "w"
      have ed : decide ((b.2.length : Int) = (m : Int)) = decide (b.2.length = m) := by rw [Bool.eq_iff_iff, decide_eq_true_iff, decide_eq_true_iff]; omega
      rw [ed]
      exact hQ _ (fun _ _ z => z)
    have hb0 : ∃ b0, (Us.filter fun b => decide (b.2.length = m))[0]? = some b0 ∧ b0.2 = greedy L m L.length n := by
      have hz0 : ((Us.filter fun b => decide (b.2.length = m)).map (·.2))[0]? = some (greedy L m L.length n) := by
        rw [rows_f Us (fun r => decide (r.length = m)), hU, find_get]
        exact ul_first hp m L.length n (Nat.le_refl _) (by rw [List.take_length]; exact hm)
      rw [List.getElem?_map] at hz0
      obtain ⟨b0, g1, g2⟩ := Option.map_eq_some_iff.mp hz0
      exact ⟨b0, g1, g2⟩
    obtain ⟨b0, g0, eb0⟩ := hb0
    have mb0 : b0 ∈ Us := (List.mem_filter.mp (List.mem_of_getElem? g0)).1
    wtm_at "w"
    refine i_ixL (sq_of e4) (at_nat (n := 0) rfl (by rw [List.getElem?_map, g0]; rfl)) ?_
    refine i_gname ?_
    refine tail _ (.ref b0.1) _ _ h (s13.trans s4) (.inr ⟨m, b0.1, hm, rfl, ?_⟩) ⟨none, none, none, ?_⟩
    · rw [(s13.trans s4) _ _ (s1 _ _ (hUb b0 mb0)), eb0]
    · rw [hm]; rfl
end
section
variable {G : Gx} {H : Hp} {Q : VK} {E : XK} {a t nd : Addr} {ks : List V} {L : List Int} {n : Nat}
theorem lastV_cons (xs : List V) : atI ([V.non] ++ xs) (-1) = some (lastV xs) := by
  refine at_last ?_
  unfold lastV
  rw [List.length_append]
  show ([V.non] ++ xs)[1 + xs.length - 1]? = _
  cases xs with
  | nil => rfl
  | cons y ys =>
    rw [show 1 + (y :: ys).length - 1 = (y :: ys).length by omega, List.getElem?_append_right (by simp)]
    show (y :: ys)[(y :: ys).length - 1]? = _
    rw [List.getElem?_eq_getElem (by simp)]; rfl
theorem u_law_needs_good (ha : H a = some (.lst ks)) (hk : KdL ks) (hn : n ≤ 200) (hL : StockOf ks n L) (en : H nd = some (.lst (tab (n + 1) fun u => .int (fewF L u))))
    (h : ∀ H', Same H H' → Q (.bl true) H') : sp_law_needs_good G [.ref a, .int n, .ref nd] H Q E := by
  refine ⟨rfl, ?_⟩
  unfold t_law_needs_good
  wtm_at "wa"
  refine u_fewest_to ha hk hn fun p1 L1 H1 s1 np1 hL1 e1 => ?_
  have eL := hL.uniq hL1
  subst eL
  wtm_at "wa"
  refine i_neL (sq_of e1) (sq_of (s1 _ _ en)) tabI_sV tabI_sV ?_
  wtm_at "wa"
  refine i_F (by simp) ?_
  wtm_at "wa"
  refine u_most_needed (s1 _ _ ha) hk hn fun L2 m H2 s2 hL2 hm => ?_
  have eL := hL.uniq hL2
  subst eL
  have s02 := s1.trans s2
  have hmb := mostOf hL hk hm
  have tmax : ∀ {H' : Hp} {Q' : VK}, Same H H' → Q' (.int m) H' → uMax G.K [.ref nd] H' Q' := fun s q => i_maxTab (f := fewF L) (s _ _ en) fun m2 hm2 => by rw [← hm.uniq hm2]; exact q
  wtm_at "wa"
  refine tmax s02 ?_
  wtm_at "wa"
  refine i_F (by simp) ?_
  wtm_at "w"
  refine tmax s02 ?_
  wtm_at "w"
  refine i_rngA1 (by omega) ?_
  refine lk_range (n := (m + 2).toNat) (fun i σ H' => Same H H' ∧ ∃ y3 y4 y5 : Option V, σ = [some (.ref a), some (.int n), some (.ref nd), y3, y4, y5]) ⟨s02, _, _, _, rfl⟩ ?_ ?_
  · rintro k σ H3 hk3 ⟨s3, y3, y4, y5, rfl⟩
    rw [Int.zero_add]
    have e3 := s3 _ _ en
    wtm_at "w"
    refine i_rngA1 (by omega) ?_
    refine lck_pure walk_range (by omega) (needAt (fewF L) (k : Nat)) (fun _ _ => trivial) (fun i x H5 H6 KK NN hi s y hK hN => ?_) (fun p4 H4 np4 s4 e4 => ?_)
    · obtain ⟨rfl, rfl⟩ := y
      wtm_at "w"
      refine ⟨rfl, ?_⟩
      wtm_at "w"
      have ei : (fun i : Nat => V.int (0 + (i : Nat))) i = V.int (i : Nat) := by
        show V.int (0 + (i : Nat)) = _
        rw [Int.zero_add]
      rw [ei]
      refine i_ixL (sq_of (s _ _ e3)) (tab_at (i := i) rfl (by omega)) ?_
      wtm_at "w"
      refine i_ite (fun hz => ?_) (fun hz => ?_)
      · wtm_at "w"
        exact hK _ _ (by unfold needAt; rw [if_pos hz]) (fun _ _ z => z)
      · exact hN _ (by unfold needAt; rw [if_neg hz]) (fun _ _ z => z)
    rw [show ((n : Int) + 1).toNat = n + 1 by omega] at e4
    have s04 := s3.trans s4
    wtm_at "w"
    refine u_needing (s04 _ _ ha) hk hn (by omega) fun p5 L5 H5 s5 np5 hL5 e5 => ?_
    have eL := hL.uniq hL5
    subst eL
    wtm_at "w"
    refine i_neL (sq_of e5) (sq_of (s5 _ _ e4)) need_sV need_sV ?_
    wtm_at "w"
    refine i_F (by simp) ?_
    have s05 := s04.trans s5
    wtm_at "w"
    refine u_greatest_needing (s05 _ _ ha) hk hn (by omega) fun L6 H6 s6 hL6 => ?_
    have eL := hL.uniq hL6
    subst eL
    wtm_at "w"
    refine i_new (by simp) fun q7 nq7 => ?_
    wtm_at "w"
    have e6 := (s5.trans s6) _ _ e4
    have hgl := given_len (needAt (fewF L) (k : Nat)) (n + 1)
    refine i_addL (xs := [.non]) (ys := given (needAt (fewF L) (k : Nat)) (n + 1)) upd_same (upd_old nq7 e6) (sz_le (by simp; omega)) fun q8 nq8 => ?_
    have s68 : Same H6 (upd (upd H6 q7 (.lst [.non])) q8 (.lst ([.non] ++ given (needAt (fewF L) (k : Nat)) (n + 1)))) := (same_new nq7).trans (same_new nq8)
    wtm_at "w"
    refine i_ixL (sq_of upd_same) (lastV_cons _) ?_
    generalize upd (upd H6 q7 (.lst [.non])) q8 (.lst ([.non] ++ given (needAt (fewF L) (k : Nat)) (n + 1))) = H8 at s68 ⊢
    obtain ⟨o, eo⟩ := lastV_need (f := fewF L) (k := (k : Nat)) (n := n + 1)
    rw [eo]
    refine i_neO ?_
    wtm_at "w"
    exact ⟨(s05.trans s6).trans s68, _, _, _, rfl⟩
  · rintro σ H3 ⟨s3, y3, y4, y5, rfl⟩
    wtm_at "w"
    refine u_counts_by_need (s3 _ _ ha) hk hn fun p4 L4 M H4 s4 np4 hL4 hM hMb e4 => ?_
    have eL := hL.uniq hL4
    subst eL
    have eM : m = (M : Int) := hm.uniq hM
    subst eM
    have s04 := s3.trans s4
    have en4 := s04 _ _ en
    wtm_at "w"
    refine tmax s04 ?_
    wtm_at "w"
    refine i_rngA1 (by omega) ?_
    rw [show ((M : Int) + 1).toNat = M + 1 by omega]
    refine lck_pure walk_range (by omega) (fun c => some (.int (cntF L n (c : Nat)))) (fun _ _ => trivial) (fun i x H5 H6 KK NN hi s y hK hN => ?_) (fun q5 H5 nq5 s5 e5 => ?_)
    · obtain ⟨rfl, rfl⟩ := y
      wtm_at "w"
      refine ⟨rfl, ?_⟩
      wtm_at "w"
      refine i_tyL (s _ _ en4) ?_
      wtm_at "w"
      have ei : (fun i : Nat => V.int (0 + (i : Nat))) i = V.int (i : Nat) := by
        show V.int (0 + (i : Nat)) = _
        rw [Int.zero_add]
      rw [ei]
      refine i_cntV (sq_of (s _ _ en4)) rfl tabI_flat ?_
      rw [cnt_tab]
      exact hK _ _ rfl (fun _ _ z => z)
    rw [given_tab] at e5
    wtm_at "w"
    refine i_eqL (sq_of (s5 _ _ e4)) (sq_of e5) tabI_sV tabI_sV ?_
    rw [decide_eq_true rfl]
    exact h _ (s04.trans s5)
/-- a paper that is too long -/
theorem u_paper_len {m : Int} {xs : List V} (ha : H a = some (.lst ks)) (hk : KdL ks) (hn : n ≤ 200) (ht : H t = some (.lst xs)) (hl : xs.length ≠ n + 1)
    (h : ∀ H', Same H H' → Q (.bl false) H') : sp_paper_shows G [.ref a, .int n, .int m, .ref t] H Q E := by
  refine ⟨rfl, ?_⟩
  unfold t_paper_shows
  wtm_at "w"
  refine u_stock_to ha hk (by omega) (by omega) fun sp L H1 s1 nsp e1 hL => ?_
  have ht1 := s1 _ _ ht
  wtm_at "wa"
  refine u_is_whole_int ?_
  wtm_at "wa"
  refine i_both (fun _ => ?_) (fun _ => ?_)
  · wtm_at "wa"
    exact h _ s1
  · wtm_at "wa"
    refine i_isiLL ht1 ?_
    wtm_at "wa"
    refine i_lenL (sq_of ht1) ?_
    wtm_at "wa"
    refine i_T (by rw [decide_eq_false (by omega)]; rfl) ?_
    wtm_at "wa"
    exact h _ s1
theorem u_law_shows_len {sp : Addr} {m : Int} {xs : List V} (ht : H t = some (.lst xs)) (hl : xs.length ≠ n + 1)
    (h : Q (.bl false) H) : sp_law_shows_v2 G [.ref sp, .int n, .int m, .ref t] H Q E := by
  refine ⟨rfl, ?_⟩
  unfold t_law_shows_v2
  wtm_at "wa"
  refine i_lenL (sq_of ht) ?_
  wtm_at "wa"
  refine i_T (by rw [decide_eq_false (by omega)]; rfl) ?_
  wtm_at "wa"
  exact h
theorem u_law_shows_v2 {sp : Addr} {m : Int} {f : Nat → Int} (e1 : H sp = some (.lst (L.map V.int))) (hp : ∀ x ∈ L, 1 ≤ x) (hn : n ≤ 200) (ht : H t = some (.lst (tab (n + 1) fun u => .int (f u)))) (hm : 0 ≤ m)
    (h : ∀ b, (b = true ↔ Pap L n m f) → Q (.bl b) H) : sp_law_shows_v2 G [.ref sp, .int n, .int m, .ref t] H Q E := by
  refine ⟨rfl, ?_⟩
  unfold t_law_shows_v2
  have no : ¬ Pap L n m f → Q (.bl false) H := fun hn => h false ⟨fun z => (by cases z), fun z => absurd z hn⟩
  wtm_at "wa"
  refine i_lenL (sq_of ht) ?_
  rw [tab_len]
  wtm_at "wa"
  refine i_F (by simp) ?_
  wtm_at "wa"
  refine i_ixL (sq_of ht) (tab_at (i := 0) rfl (by omega)) ?_
  wtm_at "wa"
  refine i_iteN (fun h0 => ?_) (fun h0 => ?_)
  · wtm_at "wa"
    refine i_ixL (sq_of ht) (at_last (by rw [tab_len]; exact tab_get (i := n) (by omega))) ?_
    wtm_at "wa"
    refine i_ite (fun hlt => ?_) (fun hlt => ?_)
    · wtm_at "wa"
      exact no fun z => by have := z.2.2.1; omega
    · wtm_at "wa"
      refine i_rngA2 (by omega) ?_
      rw [show ((n : Int) + 1 - 1).toNat = n by omega]
      refine lk_range (fun i σ H' => ∃ y4 y5, σ = [some (.ref sp), some (.int n), some (.int m), some (.ref t), y4, y5] ∧ H' = H ∧ ∀ i' j : Nat, 1 ≤ i' → i' ≤ i → (j : Int) ∈ L → j ≤ i' → f i' ≤ f (i' - j) + 1) ⟨_, _, rfl, rfl, fun i' j z1 z2 => by omega⟩ ?_ ?_
      · rintro i σ H4 hi ⟨y4, y5, rfl, rfl, hok⟩
        wtm_at "w"
        refine i_lstA (sq_of e1) ?_
        refine lk_list (fun j σ H' => ∃ y5, σ = [some (.ref sp), some (.int n), some (.int m), some (.ref t), some (.int (1 + (i : Nat))), y5] ∧ H' = H4 ∧ ∀ p ∈ L.take j, p ≤ ((i + 1 : Nat) : Int) → f (i + 1) ≤ f (i + 1 - p.toNat) + 1) ⟨_, rfl, rfl, fun p hp => by simp at hp⟩ (fun i σ H' _ ⟨_, _, e, _⟩ => by rw [e]; exact sq_of e1) ?_ ?_
        · rintro j x σ H5 hj ⟨y5, rfl, rfl, hok2⟩
          rw [List.getElem?_map] at hj
          obtain ⟨p, hpj, rfl⟩ := Option.map_eq_some_iff.mp hj
          have hpm := List.mem_of_getElem? hpj
          have hp1 := hp p hpm
          wtm_at "wa"
          refine i_ite (fun hle => ?_) (fun hle => ?_)
          · wtm_at "wa"
            refine i_ixL (sq_of ht) (tab_at (i := i + 1) (by omega) (by omega)) ?_
            wtm_at "wa"
            refine i_ixL (sq_of ht) (tab_at (i := i + 1 - p.toNat) (by omega) (by omega)) ?_
            wtm_at "wa"
            refine i_ite (fun hgt => ?_) (fun hgt => ?_)
            · wtm_at "wa"
              exact no fun z => by
                have := z.2.2.2 (i + 1) p.toNat (by omega) (by omega) (by rw [show (p.toNat : Int) = p by omega]; exact hpm) (by omega)
                omega
            · wtm_at "wa"
              refine ⟨_, rfl, rfl, fun p' hp' hle' => ?_⟩
              rcases (take_mem hpj p').mp hp' with z | z
              · exact hok2 p' z hle'
              · subst z; omega
          · wtm_at "wa"
            refine ⟨_, rfl, rfl, fun p' hp' hle' => ?_⟩
            rcases (take_mem hpj p').mp hp' with z | z
            · exact hok2 p' z hle'
            · subst z; omega
        · rintro σ H5 ⟨y5, rfl, rfl, hok2⟩
          rw [List.length_map, List.take_length] at hok2
          refine ⟨_, _, rfl, rfl, fun i' j z1 z2 z3 z4 => ?_⟩
          by_cases z : i' = i + 1
          · subst z
            have := hok2 j z3 (by omega)
            rw [Int.toNat_natCast] at this
            exact this
          · exact hok i' j z1 (by omega) z3 z4
      · rintro σ H4 ⟨y4, y5, rfl, rfl, hok⟩
        wtm_at "w"
        exact h true ⟨fun _ => ⟨hm, by omega, by omega, hok⟩, fun _ => rfl⟩
  · wtm_at "wa"
    exact no fun z => h0 z.2.1
theorem u_law_papers_good {sp : Addr} {c : Int} (ha : H a = some (.lst ks)) (hk : KdL ks) (hn : n ≤ 200) (hL : StockOf ks n L) (es : H sp = some (.lst (L.map V.int))) (en : H nd = some (.lst (tab (n + 1) fun u => .int (fewF L u))))
    (h : ∀ H', Same H H' → Q (.bl true) H') : sp_law_papers_good G [.ref a, .int n, .ref sp, .ref nd, .int c] H Q E := by
  refine ⟨rfl, ?_⟩
  unfold t_law_papers_good
  have hp : ∀ x ∈ L, 1 ≤ x := fun x hx => hL.pos hk.kd hx
  have hfew := hL.few hk
  wtm_at "w"
  refine u_need_paperA ha hk hn fun p1 L1 H1 s1 np1 hL1 e1 => ?_
  have eL := hL.uniq hL1
  subst eL
  wtm_at "w"
  refine i_ixL (sq_of (s1 _ _ en)) (tab_at (i := n) rfl (by omega)) ?_
  wtm_at "w"
  refine u_paper_shows (s1 _ _ ha) hk hn e1 hfew.1 fun L2 b H2 s2 hL2 hb => ?_
  have eL := hL.uniq hL2
  subst eL
  have hbt := hb.mpr (Pap.few hp hfew.1 (Int.le_refl _))
  subst hbt
  have s02 := s1.trans s2
  wtm_at "w"
  refine i_ixL (sq_of (s02 _ _ en)) (tab_at (i := n) rfl (by omega)) ?_
  wtm_at "w"
  refine u_paper_shows (s02 _ _ ha) hk hn (s2 _ _ e1) (by omega) fun L3 b H3 s3 hL3 hb3 => ?_
  have eL := hL.uniq hL3
  subst eL
  have hbf : b = false := by
    cases b with
    | false => rfl
    | true => have := hL.pap hk (hb3.mp rfl); omega
  subst hbf
  have s03 := s02.trans s3
  have e3 := (s2.trans s3) _ _ e1
  wtm_at "w"
  refine i_rngA1 (by omega) ?_
  refine lk_range (n := (8 : Int).toNat) (fun i σ H' => Same H3 H' ∧ ∃ y6 y7 y8 y9 : Option V, σ = [some (.ref a), some (.int n), some (.ref sp), some (.ref nd), some (.int c), some (.ref p1), y6, y7, y8, y9]) ⟨fun _ _ z => z, _, _, _, _, rfl⟩ ?_ ?_
  · rintro k σ H4 hk4 ⟨s4, y6, y7, y8, y9, rfl⟩
    have hk8 : k < 8 := hk4
    have s04 := s03.trans s4
    rw [Int.zero_add]
    wtm_at "w"
    refine i_new (by simp) fun q1 nq1 => ?_
    wtm_at "w"
    have s45 : Same H4 (upd H4 q1 (.lst [.ref p1, .ref nd])) := same_new nq1
    have e5 : (upd H4 q1 (.lst [.ref p1, .ref nd])) q1 = some (.lst [.ref p1, .ref nd]) := upd_same
    generalize upd H4 q1 (.lst [.ref p1, .ref nd]) = H5 at s45 e5 ⊢
    obtain ⟨z5, az5, ez5⟩ : ∃ z5, atI [V.ref p1, V.ref nd] ((k : Int) % 2) = some (.ref z5) ∧ H5 z5 = some (.lst (tab (n + 1) fun u => .int (fewF L u))) := by
      have : (k : Int) % 2 = 0 ∨ (k : Int) % 2 = 1 := by omega
      rcases this with z | z
      · rw [z]; exact ⟨p1, rfl, (s4.trans s45) _ _ e3⟩
      · rw [z]; exact ⟨nd, rfl, (s04.trans s45) _ _ en⟩
    refine i_ixL (sq_of e5) az5 ?_
    wtm_at "w"
    refine i_ulist (sq_of ez5) fun pp npp => ?_
    have s56 : Same H5 (upd H5 pp (.lst (tab (n + 1) fun u => .int (fewF L u)))) := same_new npp
    have e6 : (upd H5 pp (.lst (tab (n + 1) fun u => .int (fewF L u)))) pp = some (.lst (tab (n + 1) fun u => .int (fewF L u))) := upd_same
    have nppH : H pp = none := (s04.trans s45).free npp
    have npp3 : H3 pp = none := (s4.trans s45).free npp
    generalize upd H5 pp (.lst (tab (n + 1) fun u => .int (fewF L u))) = H6 at s56 e6 ⊢
    have s36 := (s4.trans s45).trans s56
    wtm_at "w"
    refine u_law_mixed (by omega) (by omega) fun r H7 s7 r0 => ?_
    wtm_at "w"
    have g0 := Int.emod_nonneg r (show (n : Int) + 1 ≠ 0 by omega)
    have g1 := Int.emod_lt_of_pos r (show 0 < (n : Int) + 1 by omega)
    obtain ⟨at_, eat⟩ : ∃ at_ : Nat, r % ((n : Int) + 1) = (at_ : Int) := ⟨(r % ((n : Int) + 1)).toNat, by omega⟩
    have hat : at_ < n + 1 := by omega
    rw [eat]
    refine i_ixL (sq_of (s7 _ _ e6)) (tab_at (i := at_) rfl hat) ?_
    wtm_at "w"
    refine i_new (by simp) fun q2 nq2 => ?_
    wtm_at "w"
    have s78 : Same H7 (upd H7 q2 (.lst [.int (-1), .int 1, .int (-2), .int 0])) := same_new nq2
    have e8 : (upd H7 q2 (.lst [.int (-1), .int 1, .int (-2), .int 0])) q2 = some (.lst [.int (-1), .int 1, .int (-2), .int 0]) := upd_same
    show sp_law_mixed _ _ (upd H7 q2 (.lst [.int (-1), .int 1, .int (-2), .int 0])) _ _
    generalize upd H7 q2 (.lst [.int (-1), .int 1, .int (-2), .int 0]) = H8 at s78 e8 ⊢
    refine u_law_mixed (by omega) (by omega) fun r2 H9 s9 r20 => ?_
    wtm_at "w"
    obtain ⟨d, ed⟩ : ∃ d : Int, atI [V.int (-1), V.int 1, V.int (-2), V.int 0] (r2 % 4) = some (.int d) := by
      have : r2 % 4 = 0 ∨ r2 % 4 = 1 ∨ r2 % 4 = 2 ∨ r2 % 4 = 3 := by omega
      rcases this with z | z | z | z
      all_goals rw [z]; exact ⟨_, rfl⟩
    refine i_ixL (sq_of (s9 _ _ e8)) ed ?_
    wtm_at "w"
    have s69 := (s7.trans s78).trans s9
    refine i_setLe (s69 _ _ e6) (ixN_nat (k := at_) rfl (by rw [tab_len]; exact hat)) tab_set ?_
    obtain ⟨f, ef⟩ : ∃ f : Nat → Int, (tab (n + 1) fun u => if u = at_ then V.int (fewF L at_ + d) else V.int (fewF L u)) = tab (n + 1) fun u => V.int (f u) := ⟨fun u => if u = at_ then fewF L at_ + d else fewF L u, tab_ext fun i _ => by by_cases z : i = at_ <;> simp [z]⟩
    rw [ef]
    have s3A : Same H3 (upd H9 pp (.lst (tab (n + 1) fun u => .int (f u)))) := same_mut (s36.trans s69) npp3
    have eA : (upd H9 pp (.lst (tab (n + 1) fun u => .int (f u)))) pp = some (.lst (tab (n + 1) fun u => .int (f u))) := upd_same
    generalize upd H9 pp (.lst (tab (n + 1) fun u => .int (f u))) = HA at s3A eA ⊢
    have s0A := s03.trans s3A
    wtm_at "w"
    refine i_ixL (sq_of (s0A _ _ en)) (tab_at (i := n) rfl (by omega)) ?_
    wtm_at "w"
    refine u_law_mixed (by omega) (by omega) fun r3 HB sB r30 => ?_
    wtm_at "w"
    obtain ⟨m, em, hm0⟩ : ∃ m : Int, (if fewF L n + r3 % 3 - 1 > 0 then fewF L n + r3 % 3 - 1 else 0) = m ∧ 0 ≤ m := ⟨_, rfl, by split <;> omega⟩
    rw [em]
    have s0B := s0A.trans sB
    have s3B := s3A.trans sB
    have eB := sB _ _ eA
    refine i_both (fun _ => ?_) (fun _ => ?_)
    · wtm_at "w"
      refine i_tyL eB ?_
      wtm_at "w"
      refine i_app eB (sz_lt (by rw [tab_len]; omega)) ?_
      have s3C : Same H3 (upd HB pp (.lst ((tab (n + 1) fun u => .int (f u)) ++ [.int 0]))) := same_mut s3B npp3
      have eC : (upd HB pp (.lst ((tab (n + 1) fun u => .int (f u)) ++ [.int 0]))) pp = some (.lst ((tab (n + 1) fun u => .int (f u)) ++ [.int 0])) := upd_same
      generalize upd HB pp (.lst ((tab (n + 1) fun u => .int (f u)) ++ [.int 0])) = HC at s3C eC ⊢
      have hlc : ((tab (n + 1) fun u => V.int (f u)) ++ [V.int 0]).length ≠ n + 1 := by rw [List.length_append, tab_len]; simp
      wtm_at "w"
      refine u_paper_len ((s03.trans s3C) _ _ ha) hk hn eC hlc fun HD sD => ?_
      wtm_at "w"
      refine u_law_shows_len (sD _ _ eC) hlc ?_
      refine k_neBB ?_
      wtm_at "w"
      exact ⟨s3C.trans sD, _, _, _, _, rfl⟩
    · wtm_at "w"
      refine u_paper_shows (s0B _ _ ha) hk hn eB hm0 fun LD b HD sD hLD hbD => ?_
      have eL := hL.uniq hLD
      subst eL
      wtm_at "w"
      refine u_law_shows_v2 ((s0B.trans sD) _ _ es) hp hn (sD _ _ eB) hm0 fun b2 hb2 => ?_
      have ebb : b = b2 := by rw [Bool.eq_iff_iff, hbD, hb2]
      subst ebb
      refine k_neBB ?_
      wtm_at "w"
      refine i_F (by simp) ?_
      wtm_at "w"
      exact ⟨s3B.trans sD, _, _, _, _, rfl⟩
  · rintro σ H4 ⟨s4, y6, y7, y8, y9, rfl⟩
    wtm_at "w"
    exact h _ (s03.trans s4)
end
section
variable {G : Gx} {H : Hp} {Q : VK} {E : XK} {a t nd : Addr} {ks : List V} {L : List Int} {n : Nat}
theorem i_neT2 {K : Fg} {p q : Addr} {m m' : Int} (h1 : H p = some (.tup [.int m, .int m'])) (h2 : H q = some (.tup [.int m, .int m'])) (h : Q (.bl false) H) : uNe K (.ref p) (.ref q) H Q := by
  refine i_neG (d := .tuple [.int m, .int m']) (e := .tuple [.int m, .int m']) (.tup (st_of h1) (dpAll_sV (xs := [.int m, .int m']) rfl)) (.tup (st_of h2) (dpAll_sV (xs := [.int m, .int m']) rfl)) rfl rfl ?_
  have e : PyData.eqv (.tuple [.int m, .int m']) (.tuple [.int m, .int m']) = true := by simp [PyData.eqv, PyData.eqvAll]
  rw [e]; exact h
theorem u_law_most_v2 (ha : H a = some (.lst ks)) (hk : KdL ks) (h1 : n ≤ 200) (h : ∀ p L H', Same H H' → H p = none → StockOf ks n L → H' p = some (.lst (tab (n + 1) fun u => .int (fewF L u))) → Q (.ref p) H') : sp_law_most_v2 G [.ref a, .int n] H Q E := by
  refine ⟨rfl, ?_⟩
  unfold t_law_most_v2
  have hk5 := hk.hi
  wtm_at "w"
  refine u_law_stock_v4 (sq_of ha) hk.kd (by omega) (by omega) (by omega) fun sp S H0 s0 nsp e0 hS => ?_
  have hp : ∀ x ∈ S, 1 ≤ x := fun x hx => hS.pos hk.kd hx
  have hlS := hS.len hk.kd (by omega)
  wtm_at "w"
  refine i_new (by simp) fun f nf => ?_
  wtm_at "w"
  refine i_rngA2 (by omega) ?_
  rw [show ((n : Int) + 1 - 1).toNat = n by omega]
  refine lk_range (fun i σ H' => ∃ y4 y5 y6, σ = [some (.ref a), some (.int n), some (.ref sp), some (.ref f), y4, y5, y6] ∧ Same H0 H' ∧ H' f = some (.lst (tab (i + 1) fun u => .int (fewF S u)))) ⟨_, _, _, rfl, same_new nf, by rw [upd_same]; rfl⟩ ?_ ?_
  · rintro i σ H1 hi ⟨y4, y5, y6, rfl, s1, e1⟩
    wtm_at "w"
    refine i_lstA (sq_of (s1 _ _ e0)) ?_
    refine lck_pure walk_list (by rw [List.length_map]; omega) (fun j => ((S[j]?).bind fun p => if p ≤ ((i + 1 : Nat) : Int) then some (fewF S (((i + 1 : Nat) : Int) - p).toNat) else none).map V.int) (fun H' s => sq_of (s _ _ (s1 _ _ e0))) (fun j x H5 H6 KK NN hj s y hK hN => ?_) (fun p H5 np s5 e5 => ?_)
    · obtain ⟨rfl, hx⟩ := y
      rw [List.getElem?_map] at hx
      obtain ⟨x0, hx0, rfl⟩ := Option.map_eq_some_iff.mp hx
      have hx1 := hp x0 (List.mem_of_getElem? hx0)
      wtm_at "w"
      refine ⟨rfl, ?_⟩
      wtm_at "w"
      refine i_ite (fun hle => ?_) (fun hle => ?_)
      · wtm_at "w"
        refine i_ixL (sq_of (s _ _ e1)) (tab_at (i := (((i + 1 : Nat) : Int) - x0).toNat) (by omega) (by omega)) ?_
        exact hK _ _ (by rw [hx0]; show Option.map V.int (if _ then _ else _) = _; rw [if_pos (by omega)]; rfl) (fun _ _ z => z)
      · exact hN _ (by rw [hx0]; show Option.map V.int (if _ then _ else _) = _; rw [if_neg (by omega)]; rfl) (fun _ _ z => z)
    · rw [List.length_map, given_ints] at e5
      wtm_at "w"
      refine i_tyL (s5 _ _ e1) ?_
      wtm_at "w"
      refine i_minL (sq_of e5) (List.length_pos_iff.mpr (befores_ne (S := S) (f := fewF S) (n := i + 1) (stock_one hS hk (by omega)) (by omega))) fun m hm1 hm2 => ?_
      wtm_at "w"
      refine i_app (s5 _ _ e1) (sz_lt (by rw [tab_len]; omega)) ?_
      refine ⟨_, _, _, rfl, same_mut (s1.trans s5) nf, ?_⟩
      rw [upd_same, tab_snoc]
      rw [fewF_succ hp]
      exact congrArg V.int (congrArg (1 + ·) (minI_eq hm1 hm2))
  · rintro σ H1 ⟨y4, y5, y6, rfl, s1, e1⟩
    wtm_at "w"
    exact h f S H1 (s0.trans s1) (s0.free nf) hS e1
theorem u_law_keeper_good {c : Int} (ha : H a = some (.lst ks)) (hk : KdL ks) (hn : n ≤ 200) (h : ∀ H', Same H H' → Q (.bl true) H') : sp_law_keeper_good G [.ref a, .int n, .int c] H Q E := by
  refine ⟨rfl, ?_⟩
  unfold t_law_keeper_good
  have hk5 := hk.hi
  wtm_at "w"
  refine i_lstRg2 (.of_le (by decide) (by decide) (by decide) (by decide)) fun q nq => ?_
  wtm_at "w"
  refine i_new (by simp) fun q2 nq2 => ?_
  refine i_addL (xs := rgV 3 13) (ys := [.str "cubes"]) (upd_old nq2 upd_same) upd_same (by decide) fun l nl => ?_
  rw [rg_kinds]
  have s1 : Same H (upd (upd (upd H q (.lst (rgV 3 13))) q2 (.lst [.str "cubes"])) l (.lst kinds11)) := ((same_new nq).trans (same_new nq2)).trans (same_new nl)
  have e1 : (upd (upd (upd H q (.lst (rgV 3 13))) q2 (.lst [.str "cubes"])) l (.lst kinds11)) l = some (.lst kinds11) := upd_same
  generalize upd (upd (upd H q (.lst (rgV 3 13))) q2 (.lst [.str "cubes"])) l (.lst kinds11) = H1 at s1 e1 ⊢
  refine i_lstA (sq_of e1) ?_
  refine lc_rest (fun _ => rfl) (fun _ => rfl) (fun _ => rfl) e1 (s1 _ _ ha) hk.kd fun p2 H2 s2 np2 e2 => ?_
  have hne := rest_ne (ks := ks) (by omega)
  generalize hO : (kinds11.filter fun v => decide (v ∉ ks)) = O at e2 hne
  have hOl : 0 < O.length := List.length_pos_iff.mpr hne
  have s02 := s1.trans s2
  wtm_at "w"
  refine i_lenL (sq_of e2) ?_
  refine i_mod (by omega) ?_
  have g0 := Int.emod_nonneg c (show (O.length : Int) ≠ 0 by omega)
  have g1 := Int.emod_lt_of_pos c (show 0 < (O.length : Int) by omega)
  obtain ⟨J, eJ⟩ : ∃ J : Nat, c % (O.length : Int) = (J : Int) := ⟨(c % (O.length : Int)).toNat, by omega⟩
  have hJ : J < O.length := by omega
  rw [eJ]
  refine i_ixL (sq_of e2) (at_nat (n := J) rfl (List.getElem?_eq_getElem hJ)) ?_
  have hvO : O[J] ∈ kinds11.filter fun v => decide (v ∉ ks) := by rw [hO]; exact List.getElem_mem hJ
  have hvk : IsKd O[J] := kinds11_kd (List.mem_filter.mp hvO).1
  generalize O[J] = v at hvO hvk ⊢
  wtm_at "w"
  refine i_ulist (sq_of (s02 _ _ ha)) fun hd nhd => ?_
  have s23 : Same H2 (upd H2 hd (.lst ks)) := same_new nhd
  have e3 : (upd H2 hd (.lst ks)) hd = some (.lst ks) := upd_same
  generalize upd H2 hd (.lst ks) = H3 at s23 e3 ⊢
  wtm_at "w"
  refine u_Keeper_make e3 hk hn fun kk ol H4 s4 nkk nol kr4 => ?_
  have s03 := s02.trans s23
  have s04 := s03.trans s4
  have nolH : H ol = none := s03.free nol
  have nkkH : H kk = none := s03.free nkk
  wtm_at "w"
  refine u_law_most_v2 (s04 _ _ ha) hk hn fun p5 L H5 s5 np5 hL e5 => ?_
  wtm_at "w"
  refine i_maxTab (f := fewF L) e5 fun m0 hm0 => ?_
  have s05 := s04.trans s5
  have kr5 := kr4.same s5
  -- the end
  have tail : ∀ (D : Ends) (σ : L2.St) (H6 : Hp), (∀ H', Same H H' → D.rt (.bl true) H') → Same H H6 → Kpr (G.C "Keeper") H6 kk ol n ks → (∃ y6 y7 y8 y9 y10 y11 : Option V, σ = [some (.ref a), some (.int n), some (.int c), some (.ref p2), some v, some (.ref kk), y6, y7, y8, y9, y10, y11]) →
      (tSeq (tAsg (tCall (sp_law_most_v2 G) [] E (tCons (tVar 0) (tCons (tVar 1) tNil))) (gName 9))
      (tRet (tAndV (tOp (uEq G.K) (tMeth (G.C "Keeper") "kinds" (sp_Keeper_kinds G) [] E (tVar 5) tNil) (tVar 0)) (tOp (uEq G.K) (tMeth (G.C "Keeper") "fewest" (sp_Keeper_fewest G) [] E (tVar 5) (tCons (tVar 1) tNil)) (tOp (uIx G.K) (tVar 9) (tVar 1)))))) D σ H6 := by
    rintro D σ H6 hD s6 kr6 ⟨y6, y7, y8, y9, y10, y11, rfl⟩
    wtm_at "w"
    refine u_law_most_v2 (s6 _ _ ha) hk hn fun p7 L7 H7 s7 np7 hL7 e7 => ?_
    have eL := hL.uniq hL7
    subst eL
    have kr7 := kr6.same s7
    obtain ⟨dx7, eo7⟩ := kr7.o
    wtm_at "w"
    refine i_mtA eo7 (kfs_no _ _ (by decide +kernel) (by decide +kernel)) ?_
    wtm_at "w"
    refine u_Keeper_kinds kr7 fun p8 np8 => ?_
    wtm_at "w"
    have s78 : Same H7 (upd H7 p8 (.lst ks)) := same_new np8
    have s08 := (s6.trans s7).trans s78
    refine i_eqL (sq_of upd_same) (sq_of (s08 _ _ ha)) (kds_sV hk.kd) (kds_sV hk.kd) ?_
    generalize upd H7 p8 (.lst ks) = H8 at s78 s08 ⊢
    rw [decide_eq_true rfl]
    have kr8 := kr7.same s78
    obtain ⟨dx8, eo8⟩ := kr8.o
    wtm_at "w"
    refine i_mtA eo8 (kfs_no _ _ (by decide +kernel) (by decide +kernel)) ?_
    wtm_at "w"
    refine u_Keeper_fewest kr8 hk hn (Nat.le_refl _) fun L9 H9 s9 hL9 => ?_
    have eL := hL.uniq hL9
    subst eL
    wtm_at "w"
    refine i_ixL (sq_of ((s78.trans s9) _ _ e7)) (tab_at (i := n) rfl (by omega)) ?_
    wtm_at "w"
    rw [decide_eq_true rfl]
    exact hD _ (s08.trans s9)
  wtm_at "w"
  refine i_lenL (sq_of (s05 _ _ ha)) ?_
  wtm_at "w"
  refine i_ite (fun hlt => ?_) (fun hlt => ?_)
  · have h4 : ks.length ≤ 4 := by omega
    have hkv : KdL (ks ++ [v]) := hk.more h4 hvO
    wtm_at "w"
    refine i_new (by simp) fun z1 nz1 => ?_
    refine i_addL (xs := ks) (ys := [v]) (upd_old nz1 (s05 _ _ ha)) upd_same (sz_le (by simp; omega)) fun z2 nz2 => ?_
    have s56 : Same H5 (upd (upd H5 z1 (.lst [v])) z2 (.lst (ks ++ [v]))) := (same_new nz1).trans (same_new nz2)
    have e6 : (upd (upd H5 z1 (.lst [v])) z2 (.lst (ks ++ [v]))) z2 = some (.lst (ks ++ [v])) := upd_same
    generalize upd (upd H5 z1 (.lst [v])) z2 (.lst (ks ++ [v])) = H6 at s56 e6 ⊢
    wtm_at "w"
    refine u_law_most_v2 e6 hkv hn fun p7 L' H7 s7 np7 hL' e7 => ?_
    have s57 := s56.trans s7
    have s07 := s05.trans s57
    wtm_at "w"
    refine i_new (by simp) fun z3 nz3 => ?_
    refine i_addL (xs := ks) (ys := [v]) (upd_old nz3 (s07 _ _ ha)) upd_same (sz_le (by simp; omega)) fun bo nbo => ?_
    have s78 : Same H7 (upd (upd H7 z3 (.lst [v])) bo (.lst (ks ++ [v]))) := (same_new nz3).trans (same_new nbo)
    have e8 : (upd (upd H7 z3 (.lst [v])) bo (.lst (ks ++ [v]))) bo = some (.lst (ks ++ [v])) := upd_same
    generalize upd (upd H7 z3 (.lst [v])) bo (.lst (ks ++ [v])) = H8 at s78 e8 ⊢
    have s58 := s57.trans s78
    have kr8 := kr5.same s58
    have s08 := s05.trans s58
    obtain ⟨dx8, eo8⟩ := kr8.o
    wtm_at "wa"
    refine i_mtA eo8 (kfs_no _ _ (by decide +kernel) (by decide +kernel)) ?_
    wtm_at "wa"
    refine u_Keeper_come kr8 hk hn h4 hvk hkv fun T9 L9 L9' m m' H9 kp9 kr9 nT9 eT9 hL9 hm9 hL9' hm9' => ?_
    have eL := hL.uniq hL9
    subst eL
    have eL := hL'.uniq hL9'
    subst eL
    have em := hm0.uniq hm9
    subst em
    have ol8 : H8 ol = some (.lst ks) := kr8.l
    have k0 : ∀ {x : Addr} {o : HO}, H8 x = some o → x ≠ ol → H9 x = some o := fun e ne => kp9 _ _ ne e
    have eolH : ∀ {x : Addr} {o : HO}, H x = some o → x ≠ ol := fun e => ne_of_none e nolH
    have sH9 : Same H H9 := fun x o e => k0 (s08 _ _ e) (eolH e)
    have p7ol : p7 ≠ ol := (ne_of_none ((kr5.same s56).l) np7).symm
    have bool' : bo ≠ ol := (ne_of_none (upd_old nz3 ((kr5.same s57).l)) nbo).symm
    have e79 : H9 p7 = some (.lst (tab (n + 1) fun u => .int (fewF L' u))) := k0 (s78 _ _ e7) p7ol
    have eb9 : H9 bo = some (.lst (ks ++ [v])) := k0 e8 bool'
    have hsub : ∀ x ∈ L, x ∈ L' := hL.sub hL' fun w hw => List.mem_append_left _ hw
    have tmax : ∀ {H' : Hp} {Q' : VK}, H' p7 = some (.lst (tab (n + 1) fun u => .int (fewF L' u))) → Q' (.int m') H' → uMax G.K [.ref p7] H' Q' := fun e q => i_maxTab (f := fewF L') e fun m2 hm2 => by rw [← hm9'.uniq hm2]; exact q
    wtm_at "wa"
    refine tmax e79 ?_
    wtm_at "wa"
    refine i_new (by simp) fun T10 nT10 => ?_
    have s9A : Same H9 (upd H9 T10 (.tup [.int m0, .int m'])) := same_new nT10
    refine i_neT2 (s9A _ _ eT9) upd_same ?_
    generalize upd H9 T10 (.tup [.int m0, .int m']) = H10 at s9A ⊢
    have kr10 := kr9.same s9A
    obtain ⟨dx10, eo10⟩ := kr10.o
    wtm_at "wa"
    refine i_mtA eo10 (kfs_no _ _ (by decide +kernel) (by decide +kernel)) ?_
    wtm_at "wa"
    refine u_Keeper_kinds kr10 fun p11 np11 => ?_
    have s1011 : Same H10 (upd H10 p11 (.lst (ks ++ [v]))) := same_new np11
    wtm_at "wa"
    refine i_neL (sq_of upd_same) (sq_of (s1011 _ _ (s9A _ _ eb9))) (kds_sV hkv.kd) (kds_sV hkv.kd) ?_
    generalize upd H10 p11 (.lst (ks ++ [v])) = H11 at s1011 ⊢
    wtm_at "wa"
    refine i_F (by simp) ?_
    have s911 := s9A.trans s1011
    have kr11 := kr9.same s911
    obtain ⟨dx11, eo11⟩ := kr11.o
    wtm_at "wa"
    refine i_mtA eo11 (kfs_no _ _ (by decide +kernel) (by decide +kernel)) ?_
    wtm_at "wa"
    refine u_Keeper_fewest kr11 hkv hn (Nat.le_refl _) fun L12 H12 s12 hL12 => ?_
    have eL := hL'.uniq hL12
    subst eL
    have s912 := s911.trans s12
    wtm_at "wa"
    refine i_ixL (sq_of (s912 _ _ e79)) (tab_at (i := n) rfl (by omega)) ?_
    wtm_at "wa"
    refine i_F (by simp) ?_
    have kr12 := kr9.same s912
    obtain ⟨dx12, eo12⟩ := kr12.o
    wtm_at "wa"
    refine i_mtA eo12 (kfs_no _ _ (by decide +kernel) (by decide +kernel)) ?_
    wtm_at "wa"
    refine u_Keeper_stock kr12 hkv hn fun p13 L13 H13 s13 np13 e13 hL13 => ?_
    have eL := hL'.uniq hL13
    subst eL
    have s913 := s912.trans s13
    wtm_at "wa"
    refine u_law_stock_v4 (sq_of (s913 _ _ eb9)) hkv.kd (by simp; omega) (by omega) (by omega) fun p14 L14 H14 s14 np14 e14 hL14 => ?_
    have eL := hL'.uniq hL14
    subst eL
    refine i_neL (sq_of (s14 _ _ e13)) (sq_of e14) (ints_sV _) (ints_sV _) ?_
    have s914 := s913.trans s14
    wtm_at "wa"
    refine i_F (by simp) ?_
    wtm_at "w"
    refine i_rngA1 (by omega) ?_
    have sH14 := sH9.trans s914
    refine lck_pure walk_range (by omega) (fun _ => none) (fun _ _ => trivial) (fun i x H5 H6 KK NN hi s y hK hN => ?_) (fun p15 H15 np15 s15 e15 => ?_)
    · obtain ⟨rfl, rfl⟩ := y
      wtm_at "w"
      refine ⟨rfl, ?_⟩
      wtm_at "w"
      have ei : (fun i : Nat => V.int (0 + (i : Nat))) i = V.int (i : Nat) := by
        show V.int (0 + (i : Nat)) = _
        rw [Int.zero_add]
      rw [ei]
      refine i_ixL (sq_of (s _ _ (s914 _ _ e79))) (tab_at (i := i) rfl (by omega)) ?_
      wtm_at "w"
      refine u_law_most_v2 ((sH14.trans s) _ _ ha) hk hn fun p7 L7 H7 s7 np7 hL7 e7 => ?_
      have eL := hL.uniq hL7
      subst eL
      wtm_at "w"
      refine i_ixL (sq_of e7) (tab_at (i := i) rfl (by omega)) ?_
      have hle : fewF L' i ≤ fewF L i := few_sub (fun x hx => hL'.pos hkv.kd hx) hsub (fun z => stock_one hL hk (by omega))
      wtm_at "w"
      refine i_F (decide_eq_false (by omega)) ?_
      exact hN _ rfl s7
    rw [given_none] at e15
    wtm_at "w"
    refine i_new (by simp) fun z16 nz16 => ?_
    have s1516 : Same H15 (upd H15 z16 (.lst [])) := same_new nz16
    refine i_neL (xs := []) (ys := []) (sq_of (s1516 _ _ e15)) (sq_of upd_same) rfl rfl ?_
    generalize upd H15 z16 (.lst []) = H16 at s1516 ⊢
    have s916 := (s914.trans s15).trans s1516
    have kr16 := kr9.same s916
    obtain ⟨dx16, eo16⟩ := kr16.o
    wtm_at "w"
    refine i_mtA eo16 (kfs_no _ _ (by decide +kernel) (by decide +kernel)) ?_
    wtm_at "w"
    have hjv : (ks ++ [v])[ks.length]? = some v := by simp
    have eer : (ks ++ [v]).eraseIdx ks.length = ks := by rw [List.eraseIdx_append_of_length_le (Nat.le_refl _)]; simp
    refine u_Keeper_go kr16 hkv hn (by have := hk.lo; simp; omega) hjv (by rw [eer]; exact hk) fun T17 L17 L17' w w' H17 kp17 kr17 nT17 eT17 hL17 hm17 hL17' hm17' => ?_
    rw [eer] at kr17 hL17'
    have eL := hL'.uniq hL17
    subst eL
    have eL := hL.uniq hL17'
    subst eL
    have ew := hm9'.uniq hm17
    subst ew
    have ew := hm0.uniq hm17'
    subst ew
    have sH17 : Same H H17 := fun x o e => kp17 _ _ (eolH e) ((sH9.trans s916) _ _ e)
    have e717 : H17 p7 = some (.lst (tab (n + 1) fun u => .int (fewF L' u))) := kp17 _ _ p7ol (s916 _ _ e79)
    wtm_at "w"
    refine tmax e717 ?_
    wtm_at "w"
    refine i_new (by simp) fun T18 nT18 => ?_
    have s1718 : Same H17 (upd H17 T18 (.tup [.int m', .int m0])) := same_new nT18
    refine i_neT2 (s1718 _ _ eT17) upd_same ?_
    generalize upd H17 T18 (.tup [.int m', .int m0]) = H18 at s1718 ⊢
    refine i_exbl ?_
    refine i_F rfl ?_
    refine i_next ?_
    exact tail _ _ _ (by exact h) (sH17.trans s1718) (kr17.same s1718) ⟨_, _, _, _, _, _, rfl⟩
  · refine i_next ?_
    exact tail _ _ _ (by exact h) s05 kr5 ⟨_, _, _, _, _, _, rfl⟩
end
section
variable {G : Gx} {H : Hp} {Q : VK} {E : XK} {a sp : Addr} {ks : List V} {L : List Int} {n : Nat}
theorem tab_dots (v : V) (m : Nat) : (tab m fun j => V.int (dotsV v (1 + (j : Nat)))) = (dotsN v m).map V.int := by
  unfold tab dotsN
  rw [List.map_map]
  refine List.map_congr_left fun j _ => ?_
  show V.int (dotsV v (1 + (j : Nat))) = V.int (dotsV v ((j : Nat) + 1))
  rw [Int.add_comm]
theorem eqV_ints (x y : Int) : eqV (.int x) (.int y) = decide (x = y) := by
  rw [Bool.eq_iff_iff, decide_eq_true_iff]; simp [eqV]
theorem u_law_stock_good (ha : H a = some (.lst ks)) (hk : KdL ks) (hn : n ≤ 200) (hL : StockOf ks n L) (es : H sp = some (.lst (L.map V.int)))
    (h : ∀ H', Same H H' → Q (.bl true) H') : sp_law_stock_good G [.ref a, .int n, .ref sp] H Q E := by
  refine ⟨rfl, ?_⟩
  unfold t_law_stock_good
  have hk5 := hk.hi
  wtm_at "w"
  refine u_stock_to ha hk (by omega) (by omega) fun p1 L1 H1 s1 np1 e1 hL1 => ?_
  have eL := hL.uniq hL1
  subst eL
  wtm_at "w"
  refine i_neL (sq_of e1) (sq_of (s1 _ _ es)) (ints_sV _) (ints_sV _) ?_
  wtm_at "w"
  refine i_F (by simp) ?_
  wtm_at "w"
  refine i_lstA (sq_of (s1 _ _ ha)) ?_
  refine lk_list (xs := ks) (fun i σ H' => Same H H' ∧ ∃ y3 y4 y5 y6 y7 : Option V, σ = [some (.ref a), some (.int n), some (.ref sp), y3, y4, y5, y6, y7]) ⟨s1, _, _, _, _, _, rfl⟩ (fun i σ H' _ p => sq_of (p.1 _ _ ha)) ?_ ?_
  · rintro i v σ H2 hi ⟨s2, y3, y4, y5, y6, y7, rfl⟩
    have hv := hk.kd v (List.mem_of_getElem? hi)
    wtm_at "w"
    refine i_rngA2 (by omega) ?_
    refine lck_pure walk_range (by decide) (fun j => some (.int (dotsV v (1 + (j : Nat))))) (fun _ _ => trivial) (fun j x H5 H6 KK NN hj s y hK hN => ?_) (fun p3 H3 np3 s3 e3 => ?_)
    · have hj7 : j < 7 := hj
      obtain ⟨rfl, rfl⟩ := y
      wtm_at "w"
      refine ⟨rfl, ?_⟩
      wtm_at "w"
      show sp_law_dots_v3 G [v, .int (1 + (j : Nat))] _ _ _
      refine u_law_dots_v3 hv (by omega) (by omega) ?_
      exact hK _ _ rfl (fun _ _ z => z)
    rw [given_tab] at e3
    rw [show ((8 : Int) - 1).toNat = 7 by rfl, tab_dots] at e3
    wtm_at "w"
    refine i_rngA2 (by omega) ?_
    refine lck_pure walk_range (by decide) (fun j => some (.int (dotsV v (1 + (j : Nat))))) (fun _ _ => trivial) (fun j x H5 H6 KK NN hj s y hK hN => ?_) (fun p4 H4 np4 s4 e4 => ?_)
    · have hj7 : j < 7 := hj
      obtain ⟨rfl, rfl⟩ := y
      wtm_at "w"
      refine ⟨rfl, ?_⟩
      wtm_at "w"
      show sp_number_of_dots G [v, .int (1 + (j : Nat))] _ _ _
      refine u_number_of_dots hv (by omega) (by omega) ?_
      exact hK _ _ rfl (fun _ _ z => z)
    rw [given_tab] at e4
    rw [show ((8 : Int) - 1).toNat = 7 by rfl, tab_dots] at e4
    wtm_at "w"
    have e34 := s4 _ _ e3
    refine i_neL (sq_of e4) (sq_of e34) (ints_sV _) (ints_sV _) ?_
    wtm_at "w"
    refine i_F (by simp) ?_
    have s04 := (s2.trans s3).trans s4
    wtm_at "w"
    refine i_rngA2 (by omega) ?_
    refine lk_range (n := ((n : Int) + 2 - 1).toNat) (fun i σ H' => H' = H4 ∧ ∃ y5 y6 y7 : Option V, σ = [some (.ref a), some (.int n), some (.ref sp), some v, some (.ref p3), y5, y6, y7]) ⟨rfl, _, _, _, rfl⟩ ?_ ?_
    · rintro k σ H5 hk5' ⟨rfl, y5, y6, y7, rfl⟩
      obtain ⟨T, eT, hT⟩ : ∃ T : Int, (1 : Int) + (k : Nat) = T ∧ 1 ≤ T ∧ T ≤ 300 := ⟨_, rfl, by omega, by omega⟩
      rw [eT]
      have hlast : atI ((dotsN v 7).map V.int) (-1) = some (.int (dotsV v 7)) := by
        refine at_last ?_
        rw [List.length_map, dotsN_len, List.getElem?_map, dotsN_get (by decide)]; rfl
      wtm_at "w"
      refine i_inL (sq_of e34) rfl (ints_flat _) ?_
      rw [inV_int]
      wtm_at "w"
      refine i_both (fun hz => ?_) (fun hz => ?_)
      · obtain ⟨j, hj, ej⟩ := mem_dotsN.mp (of_decide_eq_true hz)
        wtm_at "w"
        refine i_tyL e34 ?_
        wtm_at "w"
        refine ⟨p3, (dotsN v 7).map V.int, .int T, j, .int T, rfl, rfl, sq_of e34, rfl, ints_flat _, by rw [List.getElem?_map, dotsN_get hj, ej]; rfl, by rw [eqV_ints]; simp, fun m z' hm hz' => ?_, ?_⟩
        · rw [List.getElem?_map, dotsN_get (show m < 7 by omega)] at hz'
          rw [← Option.some.inj hz']
          show eqV (.int _) (.int _) = false
          rw [eqV_ints]
          have := dots_le hv (show (1 : Int) ≤ (m : Int) + 1 by omega) (show (m : Int) + 1 ≤ (j : Int) + 1 by omega)
          exact decide_eq_false (by omega)
        · wtm_at "wa"
          refine i_ixL (sq_of e34) hlast ?_
          wtm_at "wa"
          refine i_ite (fun hle => ?_) (fun hle => ?_)
          · wtm_at "wa"
            refine u_place_in hv hT.1 (by omega) fun kk hkk => ?_
            have ek : kk = (j : Int) + 1 := hkk.uniq hv (IsPl.of hv (by omega) ej)
            subst ek
            unfold plV
            rw [if_pos ej]
            wtm_at "wa"
            refine i_F (by simp) ?_
            wtm_at "wa"
            exact ⟨rfl, _, _, _, rfl⟩
          · wtm_at "wa"
            exact ⟨rfl, _, _, _, rfl⟩
      · have hno := of_decide_eq_false hz
        refine i_next ?_
        wtm_at "wa"
        refine i_ixL (sq_of e34) hlast ?_
        wtm_at "wa"
        refine i_ite (fun hle => ?_) (fun hle => ?_)
        · wtm_at "wa"
          refine u_place_in hv hT.1 (by omega) fun kk hkk => ?_
          have hnd : ¬ dotsV v kk = T := fun z => by
            have k1 := hkk.one
            have k7 : kk ≤ 7 := by
              by_cases c : kk ≤ 7
              · exact c
              · have := dots_le hv (show (1 : Int) ≤ 7 by decide) (show (7 : Int) ≤ kk by omega)
                omega
            exact hno (mem_dotsN.mpr ⟨(kk - 1).toNat, by omega, by rw [show (((kk - 1).toNat : Nat) : Int) + 1 = kk by omega]; exact z⟩)
          unfold plV
          rw [if_neg hnd]
          wtm_at "wa"
          exact ⟨rfl, _, _, _, rfl⟩
        · wtm_at "wa"
          exact ⟨rfl, _, _, _, rfl⟩
    · rintro σ H5 ⟨rfl, y5, y6, y7, rfl⟩
      exact ⟨s04, _, _, _, _, _, rfl⟩
  · rintro σ H2 ⟨s2, y3, y4, y5, y6, y7, rfl⟩
    wtm_at "w"
    exact h _ s2
theorem SmI.mut {H : Hp} {q D : Addr} {t : Nat} {Bs : List Rw} {o : HO} (x : SmI H q L t Bs) (h1 : q ≠ D) (h2 : ∀ b ∈ Bs, b.1 ≠ D) : SmI (upd H D o) q L t Bs := ⟨upd_oth h1 x.h, fun b hb => upd_oth (h2 b hb) (x.b b hb), x.r, x.lim⟩
theorem law_k45_ok {ns : List Int} (hs : SqL G.K H a (ns.map V.int)) (hl : ns.length ≤ 63) (hq : ∀ H', Q (.bl true) H') : sp_law_k45 G [.ref a] H Q E := by
  refine ⟨rfl, ?_⟩
  unfold t_law_k45
  wtm_at "w"
  refine i_lenL hs ?_
  wtm_at "w"
  obtain ⟨W, eW, hW⟩ : ∃ W : Int, (if (if (7 : Int) < ((ns.map V.int).length : Int) then (7 : Int) else ((ns.map V.int).length : Int)) > 2 then (if (7 : Int) < ((ns.map V.int).length : Int) then (7 : Int) else ((ns.map V.int).length : Int)) else 2) = W ∧ 0 ≤ W ∧ W ≤ 7 := ⟨_, rfl, by split <;> split <;> omega, by split <;> split <;> omega⟩
  rw [eW]
  refine i_rngA1 (by omega) ?_
  refine lk_range (n := W.toNat) (fun i σ H' => Same H H' ∧ ∃ y1 y2 y3 y4 y5 y6 y7 y8 y9 y10 y11 : Option V, σ = [some (.ref a), y1, y2, y3, y4, y5, y6, y7, y8, y9, y10, y11]) ⟨fun _ _ z => z, _, _, _, _, _, _, _, _, _, _, _, rfl⟩ ?_ ?_
  · rintro k σ H1 hk1 ⟨s1, y1, y2, y3, y4, y5, y6, y7, y8, y9, y10, y11, rfl⟩
    have hk7 : k < 7 := by omega
    rw [Int.zero_add]
    wtm_at "w"
    refine u_law_cell_v2 (s1.seq hs) (by omega) (by omega) fun c0 => ?_
    wtm_at "w"
    generalize (if c0 < 0 then -c0 else c0) = c
    refine u_law_mixed (by omega) (by omega) fun r1 H2 s2 r10 => ?_
    wtm_at "w"
    refine u_law_kinds_v3 fun kp ks H3 s3 nkp ek hk => ?_
    have hk5 := hk.hi
    wtm_at "w"
    obtain ⟨n, en, hn⟩ : ∃ n : Nat, c / 3 % 19 = (n : Int) ∧ n ≤ 18 := ⟨(c / 3 % 19).toNat, by omega, by omega⟩
    rw [en]
    refine u_law_stock_v4 (sq_of ek) hk.kd (by omega) (by omega) (by omega) fun sp L H4 s4 nsp es hL => ?_
    have hp : ∀ x ∈ L, 1 ≤ x := fun x hx => hL.pos hk.kd hx
    have up := hL.up
    have hL18 : ∀ x ∈ L, x ≤ 18 := fun x hx => by have := ((hL.mem x).mp hx).1; omega
    have h1 : 1 ≤ n → 1 ∈ L := fun z => stock_one hL hk (by omega)
    have ek4 := s4 _ _ ek
    wtm_at "w"
    refine i_rngA1 (by omega) ?_
    -- all sums of each number
    refine lck walk_range (fun D i H' => H4 D = none ∧ Same H4 H' ∧ ∃ es : List V, H' D = some (.lst es) ∧ es.length = i ∧ ∀ t, t < i → ∃ q Bs, es[t]? = some (.ref q) ∧ SmI H' q L t Bs ∧ q ≠ D ∧ ∀ b ∈ Bs, b.1 ≠ D) (fun D hD => ⟨hD, same_new hD, [], upd_same, rfl, fun t ht => absurd ht (Nat.not_lt_zero _)⟩) (fun _ _ _ _ _ => trivial) (fun D i x H5 H6 hi p y => ?_) (fun ev H5 hD p => ?_)
    · obtain ⟨nD, s5, es5, eD, l5, at5⟩ := p
      obtain ⟨rfl, rfl⟩ := y
      wtm_at "w"
      refine ⟨rfl, ?_⟩
      wtm_at "w"
      have ei : (fun i : Nat => V.int (0 + (i : Nat))) i = V.int (i : Nat) := by
        show V.int (0 + (i : Nat)) = _
        rw [Int.zero_add]
      rw [ei]
      refine u_law_sums_v2 (s5 _ _ es) ⟨up, fun x hx => ⟨hp x hx, by have := hL18 x hx; omega⟩, by omega⟩ (fun z => Stk.of hL hk (by omega)) (by omega) (fun x hx => by have := hL18 x hx; omega) fun q bs H7 s7 nq eq eb hall hlen => ?_
      have hW2 : urow L i < 16000000 := urow_24 up (fun x hx => ⟨hp x hx, by have := hL18 x hx; omega⟩) (by omega)
      have x7 : SmI H7 q L i (bs.mergeSort leR) := ⟨eq, fun b hb => (eb b (mem_rw.mp hb)).2, ⟨fun r => by
          rw [hall, List.mem_map, List.mem_map]
          exact ⟨fun ⟨b, z1, z2⟩ => ⟨b, mem_rw.mpr z1, z2⟩, fun ⟨b, z1, z2⟩ => ⟨b, mem_rw.mp z1, z2⟩⟩, List.pairwise_map.mpr (sorted_rw bs), by rw [List.length_map, List.length_mergeSort, hlen]⟩, by rw [List.length_mergeSort]; omega⟩
      refine ⟨es5, s7 _ _ eD, sz_lt (by omega), nD, same_mut (s5.trans s7) nD, es5 ++ [.ref q], upd_same, by simp [l5], fun t ht => ?_⟩
      by_cases z : t = i
      · subst z
        have hqD : q ≠ D := (ne_of_none eD nq).symm
        have hbD : ∀ b ∈ bs.mergeSort leR, b.1 ≠ D := fun b hb => (ne_of_none eD (eb b (mem_rw.mp hb)).1).symm
        exact ⟨q, _, by rw [← l5]; simp, x7.mut hqD hbD, hqD, hbD⟩
      · obtain ⟨q', Bs', h1', h2', h3', h4'⟩ := at5 t (by omega)
        exact ⟨q', Bs', by rw [List.getElem?_append_left (by omega)]; exact h1', (h2'.same s7).mut h3' h4', h3', h4'⟩
    obtain ⟨nD, s5, evs, eD, l5, at5⟩ := p
    rw [show ((n : Int) + 1).toNat = n + 1 by omega] at l5 at5
    have x5 : EvI H5 ev L n evs := ⟨eD, l5, fun t ht => by
      obtain ⟨q, Bs, z1, z2, _⟩ := at5 t (by omega)
      exact ⟨q, Bs, z1, z2⟩⟩
    clear at5
    wtm_at "w"
    refine i_lstA (sq_of x5.h) ?_
    refine lck_pure walk_list (by omega) (fun t => some (.int (fewF L t))) (fun H' s => sq_of (s _ _ x5.h)) (fun t x H6 H7 KK NN ht s y hK hN => ?_) (fun nd H6 nnd s6 e6 => ?_)
    · obtain ⟨rfl, hx⟩ := y
      obtain ⟨q, Bs, z1, z2⟩ := (x5.same s).at_ t (by omega)
      rw [z1] at hx
      cases hx
      wtm_at "w"
      refine ⟨rfl, ?_⟩
      wtm_at "w"
      refine i_lstA (sq_of z2.h) ?_
      refine lc_lens (fun _ => rfl) (fun _ => rfl) z2.h z2.b z2.lim fun p8 H8 np8 s8 e8 => ?_
      wtm_at "w"
      refine i_minLens hp up (fun z => h1 (by omega)) z2.r e8 ?_
      exact hK _ _ rfl s8
    rw [given_tab, l5] at e6
    have s46 := s5.trans s6
    have ek6 := s46 _ _ ek4
    have es6 := s46 _ _ es
    have x6 := x5.same s6
    obtain ⟨q, Bs, hqn, xn⟩ := x6.at_ n (Nat.le_refl _)
    wtm_at "wa"
    refine u_law_stock_good ek6 hk (by omega) hL es6 fun H7 s7 => ?_
    wtm_at "wa"
    refine u_law_sums_good (s7 _ _ ek6) hk (by omega) hL (s7 _ _ x6.h) hqn (xn.same s7) fun H8 s8 => ?_
    have s68 := s7.trans s8
    wtm_at "wa"
    refine i_ixL (sq_of (s68 _ _ x6.h)) (at_nat (n := n) rfl hqn) ?_
    wtm_at "wa"
    refine u_law_mixed (by omega) (by omega) fun r9 H9 s9 r90 => ?_
    have s69 := s68.trans s9
    wtm_at "wa"
    refine u_law_near_good (s69 _ _ ek6) hk (by omega) hL (xn.same s69) fun H10 s10 => ?_
    have s610 := s69.trans s10
    wtm_at "wa"
    refine u_law_unlike_good (s610 _ _ ek6) hk (by omega) hL (x6.same s610) fun H11 s11 => ?_
    have s611 := s610.trans s11
    wtm_at "wa"
    refine u_law_needs_good (s611 _ _ ek6) hk (by omega) hL (s611 _ _ e6) fun H12 s12 => ?_
    have s612 := s611.trans s12
    wtm_at "wa"
    refine u_law_mixed (by omega) (by omega) fun r13 H13 s13 r130 => ?_
    have s613 := s612.trans s13
    wtm_at "wa"
    refine u_law_papers_good (s613 _ _ ek6) hk (by omega) hL (s613 _ _ es6) (s613 _ _ e6) fun H14 s14 => ?_
    have s614 := s613.trans s14
    wtm_at "wa"
    refine u_law_mixed (by omega) (by omega) fun r15 H15 s15 r150 => ?_
    have s615 := s614.trans s15
    wtm_at "wa"
    refine u_law_keeper_good (s615 _ _ ek6) hk (by omega) fun H16 s16 => ?_
    have s616 := s615.trans s16
    wtm_at "wa"
    refine i_revL ?_
    wtm_at "wa"
    refine i_revA (sq_of (s616 _ _ ek6)) fun op nop => ?_
    have s617 := s616.trans (same_new (o := .lst ks.reverse) nop)
    have eo17 : (upd H16 op (.lst ks.reverse)) op = some (.lst ks.reverse) := upd_same
    generalize upd H16 op (.lst ks.reverse) = H17 at s617 eo17 ⊢
    have hLr : StockOf ks.reverse n L := hL.cong fun v => by rw [List.mem_reverse]
    wtm_at "wa"
    refine u_count_sums eo17 hk.rv (by omega) fun L18 H18 s18 hL18' => ?_
    have eL := hLr.uniq hL18'
    subst eL
    have s618 := s617.trans s18
    wtm_at "wa"
    refine i_ixL (sq_of (s618 _ _ x6.h)) (at_nat (n := n) rfl hqn) ?_
    wtm_at "wa"
    refine i_lenL (sq_of (s618 _ _ xn.h)) ?_
    rw [List.length_map, show Bs.length = urow L n by have := xn.r.len; rwa [List.length_map] at this]
    wtm_at "wa"
    refine i_F (by simp) ?_
    wtm_at "wa"
    refine u_first_sum (s18 _ _ eo17) hk.rv (by omega) fun f19 L19 H19 s19 nf19 hL19 e19 _ => ?_
    have eL := hLr.uniq hL19
    subst eL
    have s619 := s618.trans s19
    wtm_at "wa"
    refine u_first_sum (s619 _ _ ek6) hk (by omega) fun f20 L20 H20 s20 nf20 hL20 e20 _ => ?_
    have eL := hL.uniq hL20
    subst eL
    refine i_neL (sq_of (s20 _ _ e19)) (sq_of e20) (ints_sV _) (ints_sV _) ?_
    wtm_at "wa"
    refine i_F (by simp) ?_
    wtm_at "wa"
    exact ⟨(((s1.trans s2).trans s3).trans s4).trans (s46.trans (s619.trans s20)), _, _, _, _, _, _, _, _, _, _, _, rfl⟩
  · rintro σ H1 ⟨s1, y1, y2, y3, y4, y5, y6, y7, y8, y9, y10, y11, rfl⟩
    wtm_at "w"
    exact hq _
end
/-! ### the text of the row -/
def topS (i : Nat) : Stmt := PySem.Challenge.pw_fewshapes_k45_whole_all_sums_listed.main.body.getD i (.Pass ⟨0, 0, 0, 0⟩)
abbrev s_is_whole : Stmt := topS 13
theorem sc_is_whole : FnScope ["thing"] ["thing"] (defScope s_is_whole) := ⟨rfl, rfl, rfl, by decide +kernel, rfl, by decide +kernel, by decide +kernel⟩
abbrev s_is_kind : Stmt := topS 15
theorem sc_is_kind : FnScope ["thing"] ["thing"] (defScope s_is_kind) := ⟨rfl, rfl, rfl, by decide +kernel, rfl, by decide +kernel, by decide +kernel⟩
abbrev s_are_kinds : Stmt := topS 16
theorem sc_are_kinds : FnScope ["thing", "kind", "k"] ["thing"] (defScope s_are_kinds) := ⟨rfl, rfl, rfl, by decide +kernel, rfl, by decide +kernel, by decide +kernel⟩
abbrev s_need_kind : Stmt := topS 17
theorem sc_need_kind : FnScope ["thing"] ["thing"] (defScope s_need_kind) := ⟨rfl, rfl, rfl, by decide +kernel, rfl, by decide +kernel, by decide +kernel⟩
abbrev s_need_kinds : Stmt := topS 18
theorem sc_need_kinds : FnScope ["thing"] ["thing"] (defScope s_need_kinds) := ⟨rfl, rfl, rfl, by decide +kernel, rfl, by decide +kernel, by decide +kernel⟩
abbrev s_need_from : Stmt := topS 19
theorem sc_need_from : FnScope ["thing", "least"] ["thing", "least"] (defScope s_need_from) := ⟨rfl, rfl, rfl, by decide +kernel, rfl, by decide +kernel, by decide +kernel⟩
abbrev s_need_to_most : Stmt := topS 20
theorem sc_need_to_most : FnScope ["thing"] ["thing"] (defScope s_need_to_most) := ⟨rfl, rfl, rfl, by decide +kernel, rfl, by decide +kernel, by decide +kernel⟩
abbrev s_dots : Stmt := topS 21
theorem sc_dots : FnScope ["kind", "k"] ["kind", "k"] (defScope s_dots) := ⟨rfl, rfl, rfl, by decide +kernel, rfl, by decide +kernel, by decide +kernel⟩
abbrev s_number_of_dots : Stmt := topS 22
theorem sc_number_of_dots : FnScope ["kind", "k"] ["kind", "k"] (defScope s_number_of_dots) := ⟨rfl, rfl, rfl, by decide +kernel, rfl, by decide +kernel, by decide +kernel⟩
abbrev s_place_in : Stmt := topS 23
theorem sc_place_in : FnScope ["kind", "n", "low", "high", "between"] ["kind", "n"] (defScope s_place_in) := ⟨rfl, rfl, rfl, by decide +kernel, rfl, by decide +kernel, by decide +kernel⟩
abbrev s_stock_of : Stmt := topS 24
theorem sc_stock_of : FnScope ["kinds", "b", "found", "kind", "k"] ["kinds", "b"] (defScope s_stock_of) := ⟨rfl, rfl, rfl, by decide +kernel, rfl, by decide +kernel, by decide +kernel⟩
abbrev s_stock_to : Stmt := topS 25
theorem sc_stock_to : FnScope ["kinds", "b"] ["kinds", "b"] (defScope s_stock_to) := ⟨rfl, rfl, rfl, by decide +kernel, rfl, by decide +kernel, by decide +kernel⟩
abbrev s_is_sum : Stmt := topS 27
theorem sc_is_sum : FnScope ["kinds", "n", "thing", "stock", "part", "k"] ["kinds", "n", "thing"] (defScope s_is_sum) := ⟨rfl, rfl, rfl, by decide +kernel, rfl, by decide +kernel, by decide +kernel⟩
abbrev s_fewest_by : Stmt := topS 28
theorem sc_fewest_by : FnScope ["stock", "b", "found", "n", "part"] ["stock", "b"] (defScope s_fewest_by) := ⟨rfl, rfl, rfl, by decide +kernel, rfl, by decide +kernel, by decide +kernel⟩
abbrev s_fewest_parts : Stmt := topS 29
theorem sc_fewest_parts : FnScope ["kinds", "n"] ["kinds", "n"] (defScope s_fewest_parts) := ⟨rfl, rfl, rfl, by decide +kernel, rfl, by decide +kernel, by decide +kernel⟩
abbrev s_fewest_to : Stmt := topS 30
theorem sc_fewest_to : FnScope ["kinds", "b"] ["kinds", "b"] (defScope s_fewest_to) := ⟨rfl, rfl, rfl, by decide +kernel, rfl, by decide +kernel, by decide +kernel⟩
abbrev s_tables_of : Stmt := topS 31
theorem sc_tables_of : FnScope ["stock", "n", "found", "part", "number"] ["stock", "n"] (defScope s_tables_of) := ⟨rfl, rfl, rfl, by decide +kernel, rfl, by decide +kernel, by decide +kernel⟩
abbrev s_first_sum : Stmt := topS 32
theorem sc_first_sum : FnScope ["kinds", "n", "stock", "tables", "found", "left", "wanted", "at"] ["kinds", "n"] (defScope s_first_sum) := ⟨rfl, rfl, rfl, by decide +kernel, rfl, by decide +kernel, by decide +kernel⟩
abbrev s_Counts___init__ : Stmt := inClass (topS 36) 0
theorem sc_Counts___init__ : FnScope ["self", "some", "n", "row", "part", "total"] ["self", "some", "n"] (defScope s_Counts___init__) := ⟨rfl, rfl, rfl, by decide +kernel, rfl, by decide +kernel, by decide +kernel⟩
abbrev s_Counts_many : Stmt := inClass (topS 36) 1
theorem sc_Counts_many : FnScope ["self", "size", "total", "k"] ["self", "size", "total", "k"] (defScope s_Counts_many) := ⟨rfl, rfl, rfl, by decide +kernel, rfl, by decide +kernel, by decide +kernel⟩
abbrev s_Counts_firsts_v2 : Stmt := inClass (topS 36) 2
theorem sc_Counts_firsts_v2 : FnScope ["self", "size", "total", "k", "found", "at", "part"] ["self", "size", "total", "k"] (defScope s_Counts_firsts_v2) := ⟨rfl, rfl, rfl, by decide +kernel, rfl, by decide +kernel, by decide +kernel⟩
abbrev s_counts_of : Stmt := topS 37
theorem sc_counts_of : FnScope ["kinds", "n"] ["kinds", "n"] (defScope s_counts_of) := ⟨rfl, rfl, rfl, by decide +kernel, rfl, by decide +kernel, by decide +kernel⟩
abbrev s_just : Stmt := topS 38
theorem sc_just : FnScope ["counts", "n", "k"] ["counts", "n", "k"] (defScope s_just) := ⟨rfl, rfl, rfl, by decide +kernel, rfl, by decide +kernel, by decide +kernel⟩
abbrev s_count_sums : Stmt := topS 39
theorem sc_count_sums : FnScope ["kinds", "n", "counts", "k"] ["kinds", "n"] (defScope s_count_sums) := ⟨rfl, rfl, rfl, by decide +kernel, rfl, by decide +kernel, by decide +kernel⟩
abbrev s_count_just : Stmt := topS 40
theorem sc_count_just : FnScope ["kinds", "n", "k", "counts"] ["kinds", "n", "k"] (defScope s_count_just) := ⟨rfl, rfl, rfl, by decide +kernel, rfl, by decide +kernel, by decide +kernel⟩
abbrev s_count_at_most : Stmt := topS 41
theorem sc_count_at_most : FnScope ["kinds", "n", "k", "counts", "fewer"] ["kinds", "n", "k"] (defScope s_count_at_most) := ⟨rfl, rfl, rfl, by decide +kernel, rfl, by decide +kernel, by decide +kernel⟩
abbrev s_sum_by : Stmt := topS 42
theorem sc_sum_by : FnScope ["kinds", "n", "k", "number", "counts", "size", "parts", "chosen", "part", "further", "many"] ["kinds", "n", "k", "number"] (defScope s_sum_by) := ⟨rfl, rfl, rfl, by decide +kernel, rfl, by decide +kernel, by decide +kernel⟩
abbrev s_number_of : Stmt := topS 43
theorem sc_number_of : FnScope ["kinds", "n", "k", "thing", "counts", "size", "total", "at", "own", "part", "further", "many"] ["kinds", "n", "k", "thing"] (defScope s_number_of) := ⟨rfl, rfl, rfl, by decide +kernel, rfl, by decide +kernel, by decide +kernel⟩
abbrev s_Keeper___init__ : Stmt := inClass (topS 45) 0
theorem sc_Keeper___init__ : FnScope ["self", "kinds", "b"] ["self", "kinds", "b"] (defScope s_Keeper___init__) := ⟨rfl, rfl, rfl, by decide +kernel, rfl, by decide +kernel, by decide +kernel⟩
abbrev s_Keeper_needs : Stmt := inClass (topS 45) 1
theorem sc_Keeper_needs : FnScope ["self"] ["self"] (defScope s_Keeper_needs) := ⟨rfl, rfl, rfl, by decide +kernel, rfl, by decide +kernel, by decide +kernel⟩
abbrev s_Keeper_come : Stmt := inClass (topS 45) 2
theorem sc_Keeper_come : FnScope ["self", "kind", "before"] ["self", "kind"] (defScope s_Keeper_come) := ⟨rfl, rfl, rfl, by decide +kernel, rfl, by decide +kernel, by decide +kernel⟩
abbrev s_Keeper_go : Stmt := inClass (topS 45) 3
theorem sc_Keeper_go : FnScope ["self", "kind", "before"] ["self", "kind"] (defScope s_Keeper_go) := ⟨rfl, rfl, rfl, by decide +kernel, rfl, by decide +kernel, by decide +kernel⟩
abbrev s_Keeper_kinds : Stmt := inClass (topS 45) 4
theorem sc_Keeper_kinds : FnScope ["self"] ["self"] (defScope s_Keeper_kinds) := ⟨rfl, rfl, rfl, by decide +kernel, rfl, by decide +kernel, by decide +kernel⟩
abbrev s_Keeper_stock : Stmt := inClass (topS 45) 5
theorem sc_Keeper_stock : FnScope ["self"] ["self"] (defScope s_Keeper_stock) := ⟨rfl, rfl, rfl, by decide +kernel, rfl, by decide +kernel, by decide +kernel⟩
abbrev s_Keeper_fewest : Stmt := inClass (topS 45) 6
theorem sc_Keeper_fewest : FnScope ["self", "n"] ["self", "n"] (defScope s_Keeper_fewest) := ⟨rfl, rfl, rfl, by decide +kernel, rfl, by decide +kernel, by decide +kernel⟩
abbrev s_needing : Stmt := topS 47
theorem sc_needing : FnScope ["kinds", "k", "b", "fewest", "n", "parts"] ["kinds", "k", "b"] (defScope s_needing) := ⟨rfl, rfl, rfl, by decide +kernel, rfl, by decide +kernel, by decide +kernel⟩
abbrev s_greatest_needing : Stmt := topS 48
theorem sc_greatest_needing : FnScope ["kinds", "k", "b", "found"] ["kinds", "k", "b"] (defScope s_greatest_needing) := ⟨rfl, rfl, rfl, by decide +kernel, rfl, by decide +kernel, by decide +kernel⟩
abbrev s_most_needed : Stmt := topS 49
theorem sc_most_needed : FnScope ["kinds", "b"] ["kinds", "b"] (defScope s_most_needed) := ⟨rfl, rfl, rfl, by decide +kernel, rfl, by decide +kernel, by decide +kernel⟩
abbrev s_counts_by_need : Stmt := topS 50
theorem sc_counts_by_need : FnScope ["kinds", "b", "fewest", "k"] ["kinds", "b"] (defScope s_counts_by_need) := ⟨rfl, rfl, rfl, by decide +kernel, rfl, by decide +kernel, by decide +kernel⟩
abbrev s_is_whole_b : Stmt := topS 52
theorem sc_is_whole_b : FnScope ["thing"] ["thing"] (defScope s_is_whole_b) := ⟨rfl, rfl, rfl, by decide +kernel, rfl, by decide +kernel, by decide +kernel⟩
abbrev s_paper_shows : Stmt := topS 54
theorem sc_paper_shows : FnScope ["kinds", "n", "m", "thing", "stock", "i", "j", "number"] ["kinds", "n", "m", "thing"] (defScope s_paper_shows) := ⟨rfl, rfl, rfl, by decide +kernel, rfl, by decide +kernel, by decide +kernel⟩
abbrev s_need_paper : Stmt := topS 55
theorem sc_need_paper : FnScope ["kinds", "n"] ["kinds", "n"] (defScope s_need_paper) := ⟨rfl, rfl, rfl, by decide +kernel, rfl, by decide +kernel, by decide +kernel⟩
abbrev s_least_rows : Stmt := topS 57
theorem sc_least_rows : FnScope ["stock", "n", "row", "rows", "part", "total", "ahead"] ["stock", "n"] (defScope s_least_rows) := ⟨rfl, rfl, rfl, by decide +kernel, rfl, by decide +kernel, by decide +kernel⟩
abbrev s_ways_to : Stmt := topS 58
theorem sc_ways_to : FnScope ["stock", "n", "ways", "part", "total"] ["stock", "n"] (defScope s_ways_to) := ⟨rfl, rfl, rfl, by decide +kernel, rfl, by decide +kernel, by decide +kernel⟩
abbrev s_fewest_unlike : Stmt := topS 59
theorem sc_fewest_unlike : FnScope ["kinds", "n"] ["kinds", "n"] (defScope s_fewest_unlike) := ⟨rfl, rfl, rfl, by decide +kernel, rfl, by decide +kernel, by decide +kernel⟩
abbrev s_first_unlike : Stmt := topS 60
theorem sc_first_unlike : FnScope ["kinds", "n", "stock", "rows", "many", "found", "top", "at"] ["kinds", "n"] (defScope s_first_unlike) := ⟨rfl, rfl, rfl, by decide +kernel, rfl, by decide +kernel, by decide +kernel⟩
abbrev s_count_unlike : Stmt := topS 61
theorem sc_count_unlike : FnScope ["kinds", "n"] ["kinds", "n"] (defScope s_count_unlike) := ⟨rfl, rfl, rfl, by decide +kernel, rfl, by decide +kernel, by decide +kernel⟩
abbrev s_without_unlike : Stmt := topS 62
theorem sc_without_unlike : FnScope ["kinds", "b", "n", "ways"] ["kinds", "b"] (defScope s_without_unlike) := ⟨rfl, rfl, rfl, by decide +kernel, rfl, by decide +kernel, by decide +kernel⟩
abbrev s_law_cell_v2 : Stmt := topS 64
theorem sc_law_cell_v2 : FnScope ["script", "k"] ["script", "k"] (defScope s_law_cell_v2) := ⟨rfl, rfl, rfl, by decide +kernel, rfl, by decide +kernel, by decide +kernel⟩
abbrev s_law_mixed : Stmt := topS 65
theorem sc_law_mixed : FnScope ["cell", "k", "number", "some"] ["cell", "k"] (defScope s_law_mixed) := ⟨rfl, rfl, rfl, by decide +kernel, rfl, by decide +kernel, by decide +kernel⟩
abbrev s_law_kinds_v3 : Stmt := topS 66
theorem sc_law_kinds_v3 : FnScope ["cell", "left", "found", "k"] ["cell"] (defScope s_law_kinds_v3) := ⟨rfl, rfl, rfl, by decide +kernel, rfl, by decide +kernel, by decide +kernel⟩
abbrev s_law_dots_v3 : Stmt := topS 67
theorem sc_law_dots_v3 : FnScope ["kind", "k", "total", "put", "turn"] ["kind", "k"] (defScope s_law_dots_v3) := ⟨rfl, rfl, rfl, by decide +kernel, rfl, by decide +kernel, by decide +kernel⟩
abbrev s_law_stock_v4 : Stmt := topS 68
theorem sc_law_stock_v4 : FnScope ["kinds", "b", "found", "kind", "k"] ["kinds", "b"] (defScope s_law_stock_v4) := ⟨rfl, rfl, rfl, by decide +kernel, rfl, by decide +kernel, by decide +kernel⟩
abbrev s_law_sums_v2 : Stmt := topS 69
theorem sc_law_sums_v2 : FnScope ["stock", "n", "found", "waiting", "parts", "left", "part"] ["stock", "n"] (defScope s_law_sums_v2) := ⟨rfl, rfl, rfl, by decide +kernel, rfl, by decide +kernel, by decide +kernel⟩
abbrev s_law_stock_good : Stmt := topS 70
theorem sc_law_stock_good : FnScope ["kinds", "n", "stock", "kind", "first", "total", "due", "k"] ["kinds", "n", "stock"] (defScope s_law_stock_good) := ⟨rfl, rfl, rfl, by decide +kernel, rfl, by decide +kernel, by decide +kernel⟩
abbrev s_law_sums_good : Stmt := topS 71
theorem sc_law_sums_good : FnScope ["kinds", "n", "every", "sums", "few", "best", "k", "some", "less", "j", "parts"] ["kinds", "n", "every"] (defScope s_law_sums_good) := ⟨rfl, rfl, rfl, by decide +kernel, rfl, by decide +kernel, by decide +kernel⟩
abbrev s_law_near_good_v2 : Stmt := topS 72
theorem sc_law_near_good_v2 : FnScope ["kinds", "n", "sums", "cell", "k", "parts", "at", "part", "near"] ["kinds", "n", "sums", "cell"] (defScope s_law_near_good_v2) := ⟨rfl, rfl, rfl, by decide +kernel, rfl, by decide +kernel, by decide +kernel⟩
abbrev s_law_unlike_good : Stmt := topS 73
theorem sc_law_unlike_good : FnScope ["kinds", "n", "every", "some", "few", "first", "none", "total", "parts"] ["kinds", "n", "every"] (defScope s_law_unlike_good) := ⟨rfl, rfl, rfl, by decide +kernel, rfl, by decide +kernel, by decide +kernel⟩
abbrev s_law_needs_good : Stmt := topS 74
theorem sc_law_needs_good : FnScope ["kinds", "n", "needs", "k", "some", "total"] ["kinds", "n", "needs"] (defScope s_law_needs_good) := ⟨rfl, rfl, rfl, by decide +kernel, rfl, by decide +kernel, by decide +kernel⟩
abbrev s_law_shows_v2 : Stmt := topS 75
theorem sc_law_shows_v2 : FnScope ["stock", "n", "m", "paper", "total", "part"] ["stock", "n", "m", "paper"] (defScope s_law_shows_v2) := ⟨rfl, rfl, rfl, by decide +kernel, rfl, by decide +kernel, by decide +kernel⟩
abbrev s_law_papers_good : Stmt := topS 76
theorem sc_law_papers_good : FnScope ["kinds", "n", "stock", "needs", "cell", "told", "k", "paper", "at", "m"] ["kinds", "n", "stock", "needs", "cell"] (defScope s_law_papers_good) := ⟨rfl, rfl, rfl, by decide +kernel, rfl, by decide +kernel, by decide +kernel⟩
abbrev s_law_most_v2 : Stmt := topS 77
theorem sc_law_most_v2 : FnScope ["kinds", "n", "stock", "needs", "total", "below", "part"] ["kinds", "n"] (defScope s_law_most_v2) := ⟨rfl, rfl, rfl, by decide +kernel, rfl, by decide +kernel, by decide +kernel⟩
abbrev s_law_keeper_good : Stmt := topS 78
theorem sc_law_keeper_good : FnScope ["kinds", "n", "cell", "left", "one", "keeper", "before", "more", "both", "needs", "kind", "k"] ["kinds", "n", "cell"] (defScope s_law_keeper_good) := ⟨rfl, rfl, rfl, by decide +kernel, rfl, by decide +kernel, by decide +kernel⟩
abbrev s_law_k45 : Stmt := topS 79
theorem sc_law_k45 : FnScope ["script", "k", "cell", "kinds", "n", "stock", "every", "needs", "other", "total", "sums", "parts"] ["script"] (defScope s_law_k45) := ⟨rfl, rfl, rfl, by decide +kernel, rfl, by decide +kernel, by decide +kernel⟩
/-- what the top has left -/
structure Txt (G : Gx) (mg : Str → Option Value) where
  a_is_whole : Addr
  d_is_whole : FuncData
  F_is_whole : Fun G.K "is_whole" "is_whole" s_is_whole a_is_whole d_is_whole
  b_is_whole : Binds G.K d_is_whole ["thing"] []
  g_is_whole_shapes : mg "is_whole_shapes" = some (.ref a_is_whole)
  a_is_kind : Addr
  d_is_kind : FuncData
  F_is_kind : Fun G.K "is_kind" "is_kind" s_is_kind a_is_kind d_is_kind
  b_is_kind : Binds G.K d_is_kind ["thing"] []
  g_is_kind : mg "is_kind" = some (.ref a_is_kind)
  a_are_kinds : Addr
  d_are_kinds : FuncData
  F_are_kinds : Fun G.K "are_kinds" "are_kinds" s_are_kinds a_are_kinds d_are_kinds
  b_are_kinds : Binds G.K d_are_kinds ["thing"] []
  g_are_kinds : mg "are_kinds" = some (.ref a_are_kinds)
  a_need_kind : Addr
  d_need_kind : FuncData
  F_need_kind : Fun G.K "need_kind" "need_kind" s_need_kind a_need_kind d_need_kind
  b_need_kind : Binds G.K d_need_kind ["thing"] []
  g_need_kind : mg "need_kind" = some (.ref a_need_kind)
  a_need_kinds : Addr
  d_need_kinds : FuncData
  F_need_kinds : Fun G.K "need_kinds" "need_kinds" s_need_kinds a_need_kinds d_need_kinds
  b_need_kinds : Binds G.K d_need_kinds ["thing"] []
  g_need_kinds : mg "need_kinds" = some (.ref a_need_kinds)
  a_need_from : Addr
  d_need_from : FuncData
  F_need_from : Fun G.K "need_from" "need_from" s_need_from a_need_from d_need_from
  b_need_from : Binds G.K d_need_from ["thing", "least"] []
  g_need_from : mg "need_from" = some (.ref a_need_from)
  a_need_to_most : Addr
  d_need_to_most : FuncData
  F_need_to_most : Fun G.K "need_to_most" "need_to_most" s_need_to_most a_need_to_most d_need_to_most
  b_need_to_most : Binds G.K d_need_to_most ["thing"] []
  g_need_to_most : mg "need_to_most" = some (.ref a_need_to_most)
  a_dots : Addr
  d_dots : FuncData
  F_dots : Fun G.K "dots" "dots" s_dots a_dots d_dots
  b_dots : Binds G.K d_dots ["kind", "k"] []
  g_dots : mg "dots" = some (.ref a_dots)
  a_number_of_dots : Addr
  d_number_of_dots : FuncData
  F_number_of_dots : Fun G.K "number_of_dots" "number_of_dots" s_number_of_dots a_number_of_dots d_number_of_dots
  b_number_of_dots : Binds G.K d_number_of_dots ["kind", "k"] []
  g_number_of_dots : mg "number_of_dots" = some (.ref a_number_of_dots)
  a_place_in : Addr
  d_place_in : FuncData
  F_place_in : Fun G.K "place_in" "place_in" s_place_in a_place_in d_place_in
  b_place_in : Binds G.K d_place_in ["kind", "n"] []
  g_place_in : mg "place_in" = some (.ref a_place_in)
  a_stock_of : Addr
  d_stock_of : FuncData
  F_stock_of : Fun G.K "stock_of" "stock_of" s_stock_of a_stock_of d_stock_of
  b_stock_of : Binds G.K d_stock_of ["kinds", "b"] []
  g_stock_of : mg "stock_of" = some (.ref a_stock_of)
  a_stock_to : Addr
  d_stock_to : FuncData
  F_stock_to : Fun G.K "stock_to" "stock_to" s_stock_to a_stock_to d_stock_to
  b_stock_to : Binds G.K d_stock_to ["kinds", "b"] []
  g_stock_to : mg "stock_to" = some (.ref a_stock_to)
  a_is_sum : Addr
  d_is_sum : FuncData
  F_is_sum : Fun G.K "is_sum" "is_sum" s_is_sum a_is_sum d_is_sum
  b_is_sum : Binds G.K d_is_sum ["kinds", "n", "thing"] []
  g_is_sum : mg "is_sum" = some (.ref a_is_sum)
  a_fewest_by : Addr
  d_fewest_by : FuncData
  F_fewest_by : Fun G.K "fewest_by" "fewest_by" s_fewest_by a_fewest_by d_fewest_by
  b_fewest_by : Binds G.K d_fewest_by ["stock", "b"] []
  g_fewest_by : mg "fewest_by" = some (.ref a_fewest_by)
  a_fewest_parts : Addr
  d_fewest_parts : FuncData
  F_fewest_parts : Fun G.K "fewest_parts" "fewest_parts" s_fewest_parts a_fewest_parts d_fewest_parts
  b_fewest_parts : Binds G.K d_fewest_parts ["kinds", "n"] []
  g_fewest_parts : mg "fewest_parts" = some (.ref a_fewest_parts)
  a_fewest_to : Addr
  d_fewest_to : FuncData
  F_fewest_to : Fun G.K "fewest_to" "fewest_to" s_fewest_to a_fewest_to d_fewest_to
  b_fewest_to : Binds G.K d_fewest_to ["kinds", "b"] []
  g_fewest_to : mg "fewest_to" = some (.ref a_fewest_to)
  a_tables_of : Addr
  d_tables_of : FuncData
  F_tables_of : Fun G.K "tables_of" "tables_of" s_tables_of a_tables_of d_tables_of
  b_tables_of : Binds G.K d_tables_of ["stock", "n"] []
  g_tables_of : mg "tables_of" = some (.ref a_tables_of)
  a_first_sum : Addr
  d_first_sum : FuncData
  F_first_sum : Fun G.K "first_sum" "first_sum" s_first_sum a_first_sum d_first_sum
  b_first_sum : Binds G.K d_first_sum ["kinds", "n"] []
  g_first_sum : mg "first_sum" = some (.ref a_first_sum)
  a_Counts___init__ : Addr
  d_Counts___init__ : FuncData
  F_Counts___init__ : Fun G.K "__init__" "Counts.__init__" s_Counts___init__ a_Counts___init__ d_Counts___init__
  b_Counts___init__ : Binds G.K d_Counts___init__ ["self", "some", "n"] []
  a_Counts_many : Addr
  d_Counts_many : FuncData
  F_Counts_many : Fun G.K "many" "Counts.many" s_Counts_many a_Counts_many d_Counts_many
  b_Counts_many : Binds G.K d_Counts_many ["self", "size", "total", "k"] []
  mm_Counts_many : Meth G.K (G.C "Counts") "many" a_Counts_many
  a_Counts_firsts_v2 : Addr
  d_Counts_firsts_v2 : FuncData
  F_Counts_firsts_v2 : Fun G.K "firsts" "Counts.firsts" s_Counts_firsts_v2 a_Counts_firsts_v2 d_Counts_firsts_v2
  b_Counts_firsts_v2 : Binds G.K d_Counts_firsts_v2 ["self", "size", "total", "k"] []
  mm_Counts_firsts_v2 : Meth G.K (G.C "Counts") "firsts" a_Counts_firsts_v2
  a_counts_of : Addr
  d_counts_of : FuncData
  F_counts_of : Fun G.K "counts_of" "counts_of" s_counts_of a_counts_of d_counts_of
  b_counts_of : Binds G.K d_counts_of ["kinds", "n"] []
  g_counts_of : mg "counts_of" = some (.ref a_counts_of)
  a_just : Addr
  d_just : FuncData
  F_just : Fun G.K "just" "just" s_just a_just d_just
  b_just : Binds G.K d_just ["counts", "n", "k"] []
  g_just : mg "just" = some (.ref a_just)
  a_count_sums : Addr
  d_count_sums : FuncData
  F_count_sums : Fun G.K "count_sums" "count_sums" s_count_sums a_count_sums d_count_sums
  b_count_sums : Binds G.K d_count_sums ["kinds", "n"] []
  g_count_sums : mg "count_sums" = some (.ref a_count_sums)
  a_count_just : Addr
  d_count_just : FuncData
  F_count_just : Fun G.K "count_just" "count_just" s_count_just a_count_just d_count_just
  b_count_just : Binds G.K d_count_just ["kinds", "n", "k"] []
  g_count_just : mg "count_just" = some (.ref a_count_just)
  a_count_at_most : Addr
  d_count_at_most : FuncData
  F_count_at_most : Fun G.K "count_at_most" "count_at_most" s_count_at_most a_count_at_most d_count_at_most
  b_count_at_most : Binds G.K d_count_at_most ["kinds", "n", "k"] []
  g_count_at_most : mg "count_at_most" = some (.ref a_count_at_most)
  a_sum_by : Addr
  d_sum_by : FuncData
  F_sum_by : Fun G.K "sum_by" "sum_by" s_sum_by a_sum_by d_sum_by
  b_sum_by : Binds G.K d_sum_by ["kinds", "n", "k", "number"] []
  g_sum_by : mg "sum_by" = some (.ref a_sum_by)
  a_number_of : Addr
  d_number_of : FuncData
  F_number_of : Fun G.K "number_of" "number_of" s_number_of a_number_of d_number_of
  b_number_of : Binds G.K d_number_of ["kinds", "n", "k", "thing"] []
  g_number_of : mg "number_of" = some (.ref a_number_of)
  a_Keeper___init__ : Addr
  d_Keeper___init__ : FuncData
  F_Keeper___init__ : Fun G.K "__init__" "Keeper.__init__" s_Keeper___init__ a_Keeper___init__ d_Keeper___init__
  b_Keeper___init__ : Binds G.K d_Keeper___init__ ["self", "kinds", "b"] []
  a_Keeper_needs : Addr
  d_Keeper_needs : FuncData
  F_Keeper_needs : Fun G.K "needs" "Keeper.needs" s_Keeper_needs a_Keeper_needs d_Keeper_needs
  b_Keeper_needs : Binds G.K d_Keeper_needs ["self"] []
  mm_Keeper_needs : Meth G.K (G.C "Keeper") "needs" a_Keeper_needs
  a_Keeper_come : Addr
  d_Keeper_come : FuncData
  F_Keeper_come : Fun G.K "come" "Keeper.come" s_Keeper_come a_Keeper_come d_Keeper_come
  b_Keeper_come : Binds G.K d_Keeper_come ["self", "kind"] []
  mm_Keeper_come : Meth G.K (G.C "Keeper") "come" a_Keeper_come
  a_Keeper_go : Addr
  d_Keeper_go : FuncData
  F_Keeper_go : Fun G.K "go" "Keeper.go" s_Keeper_go a_Keeper_go d_Keeper_go
  b_Keeper_go : Binds G.K d_Keeper_go ["self", "kind"] []
  mm_Keeper_go : Meth G.K (G.C "Keeper") "go" a_Keeper_go
  a_Keeper_kinds : Addr
  d_Keeper_kinds : FuncData
  F_Keeper_kinds : Fun G.K "kinds" "Keeper.kinds" s_Keeper_kinds a_Keeper_kinds d_Keeper_kinds
  b_Keeper_kinds : Binds G.K d_Keeper_kinds ["self"] []
  mm_Keeper_kinds : Meth G.K (G.C "Keeper") "kinds" a_Keeper_kinds
  a_Keeper_stock : Addr
  d_Keeper_stock : FuncData
  F_Keeper_stock : Fun G.K "stock" "Keeper.stock" s_Keeper_stock a_Keeper_stock d_Keeper_stock
  b_Keeper_stock : Binds G.K d_Keeper_stock ["self"] []
  mm_Keeper_stock : Meth G.K (G.C "Keeper") "stock" a_Keeper_stock
  a_Keeper_fewest : Addr
  d_Keeper_fewest : FuncData
  F_Keeper_fewest : Fun G.K "fewest" "Keeper.fewest" s_Keeper_fewest a_Keeper_fewest d_Keeper_fewest
  b_Keeper_fewest : Binds G.K d_Keeper_fewest ["self", "n"] []
  mm_Keeper_fewest : Meth G.K (G.C "Keeper") "fewest" a_Keeper_fewest
  a_needing : Addr
  d_needing : FuncData
  F_needing : Fun G.K "needing" "needing" s_needing a_needing d_needing
  b_needing : Binds G.K d_needing ["kinds", "k", "b"] []
  g_needing : mg "needing" = some (.ref a_needing)
  a_greatest_needing : Addr
  d_greatest_needing : FuncData
  F_greatest_needing : Fun G.K "greatest_needing" "greatest_needing" s_greatest_needing a_greatest_needing d_greatest_needing
  b_greatest_needing : Binds G.K d_greatest_needing ["kinds", "k", "b"] []
  g_greatest_needing : mg "greatest_needing" = some (.ref a_greatest_needing)
  a_most_needed : Addr
  d_most_needed : FuncData
  F_most_needed : Fun G.K "most_needed" "most_needed" s_most_needed a_most_needed d_most_needed
  b_most_needed : Binds G.K d_most_needed ["kinds", "b"] []
  g_most_needed : mg "most_needed" = some (.ref a_most_needed)
  a_counts_by_need : Addr
  d_counts_by_need : FuncData
  F_counts_by_need : Fun G.K "counts_by_need" "counts_by_need" s_counts_by_need a_counts_by_need d_counts_by_need
  b_counts_by_need : Binds G.K d_counts_by_need ["kinds", "b"] []
  g_counts_by_need : mg "counts_by_need" = some (.ref a_counts_by_need)
  a_is_whole_b : Addr
  d_is_whole_b : FuncData
  F_is_whole_b : Fun G.K "is_whole" "is_whole" s_is_whole_b a_is_whole_b d_is_whole_b
  b_is_whole_b : Binds G.K d_is_whole_b ["thing"] []
  g_is_whole : mg "is_whole" = some (.ref a_is_whole_b)
  g_is_whole_papers : mg "is_whole_papers" = some (.ref a_is_whole_b)
  a_paper_shows : Addr
  d_paper_shows : FuncData
  F_paper_shows : Fun G.K "paper_shows" "paper_shows" s_paper_shows a_paper_shows d_paper_shows
  b_paper_shows : Binds G.K d_paper_shows ["kinds", "n", "m", "thing"] []
  g_paper_shows : mg "paper_shows" = some (.ref a_paper_shows)
  a_need_paper : Addr
  d_need_paper : FuncData
  F_need_paper : Fun G.K "need_paper" "need_paper" s_need_paper a_need_paper d_need_paper
  b_need_paper : Binds G.K d_need_paper ["kinds", "n"] []
  g_need_paper : mg "need_paper" = some (.ref a_need_paper)
  a_least_rows : Addr
  d_least_rows : FuncData
  F_least_rows : Fun G.K "least_rows" "least_rows" s_least_rows a_least_rows d_least_rows
  b_least_rows : Binds G.K d_least_rows ["stock", "n"] []
  g_least_rows : mg "least_rows" = some (.ref a_least_rows)
  a_ways_to : Addr
  d_ways_to : FuncData
  F_ways_to : Fun G.K "ways_to" "ways_to" s_ways_to a_ways_to d_ways_to
  b_ways_to : Binds G.K d_ways_to ["stock", "n"] []
  g_ways_to : mg "ways_to" = some (.ref a_ways_to)
  a_fewest_unlike : Addr
  d_fewest_unlike : FuncData
  F_fewest_unlike : Fun G.K "fewest_unlike" "fewest_unlike" s_fewest_unlike a_fewest_unlike d_fewest_unlike
  b_fewest_unlike : Binds G.K d_fewest_unlike ["kinds", "n"] []
  g_fewest_unlike : mg "fewest_unlike" = some (.ref a_fewest_unlike)
  a_first_unlike : Addr
  d_first_unlike : FuncData
  F_first_unlike : Fun G.K "first_unlike" "first_unlike" s_first_unlike a_first_unlike d_first_unlike
  b_first_unlike : Binds G.K d_first_unlike ["kinds", "n"] []
  g_first_unlike : mg "first_unlike" = some (.ref a_first_unlike)
  a_count_unlike : Addr
  d_count_unlike : FuncData
  F_count_unlike : Fun G.K "count_unlike" "count_unlike" s_count_unlike a_count_unlike d_count_unlike
  b_count_unlike : Binds G.K d_count_unlike ["kinds", "n"] []
  g_count_unlike : mg "count_unlike" = some (.ref a_count_unlike)
  a_without_unlike : Addr
  d_without_unlike : FuncData
  F_without_unlike : Fun G.K "without_unlike" "without_unlike" s_without_unlike a_without_unlike d_without_unlike
  b_without_unlike : Binds G.K d_without_unlike ["kinds", "b"] []
  g_without_unlike : mg "without_unlike" = some (.ref a_without_unlike)
  a_law_cell_v2 : Addr
  d_law_cell_v2 : FuncData
  F_law_cell_v2 : Fun G.K "_law_cell" "_law_cell" s_law_cell_v2 a_law_cell_v2 d_law_cell_v2
  b_law_cell_v2 : Binds G.K d_law_cell_v2 ["script", "k"] []
  g_law_cell : mg "_law_cell" = some (.ref a_law_cell_v2)
  a_law_mixed : Addr
  d_law_mixed : FuncData
  F_law_mixed : Fun G.K "_law_mixed" "_law_mixed" s_law_mixed a_law_mixed d_law_mixed
  b_law_mixed : Binds G.K d_law_mixed ["cell", "k"] []
  g_law_mixed : mg "_law_mixed" = some (.ref a_law_mixed)
  a_law_kinds_v3 : Addr
  d_law_kinds_v3 : FuncData
  F_law_kinds_v3 : Fun G.K "_law_kinds" "_law_kinds" s_law_kinds_v3 a_law_kinds_v3 d_law_kinds_v3
  b_law_kinds_v3 : Binds G.K d_law_kinds_v3 ["cell"] []
  g_law_kinds : mg "_law_kinds" = some (.ref a_law_kinds_v3)
  a_law_dots_v3 : Addr
  d_law_dots_v3 : FuncData
  F_law_dots_v3 : Fun G.K "_law_dots" "_law_dots" s_law_dots_v3 a_law_dots_v3 d_law_dots_v3
  b_law_dots_v3 : Binds G.K d_law_dots_v3 ["kind", "k"] []
  g_law_dots : mg "_law_dots" = some (.ref a_law_dots_v3)
  a_law_stock_v4 : Addr
  d_law_stock_v4 : FuncData
  F_law_stock_v4 : Fun G.K "_law_stock" "_law_stock" s_law_stock_v4 a_law_stock_v4 d_law_stock_v4
  b_law_stock_v4 : Binds G.K d_law_stock_v4 ["kinds", "b"] []
  g_law_stock : mg "_law_stock" = some (.ref a_law_stock_v4)
  a_law_sums_v2 : Addr
  d_law_sums_v2 : FuncData
  F_law_sums_v2 : Fun G.K "_law_sums" "_law_sums" s_law_sums_v2 a_law_sums_v2 d_law_sums_v2
  b_law_sums_v2 : Binds G.K d_law_sums_v2 ["stock", "n"] []
  g_law_sums : mg "_law_sums" = some (.ref a_law_sums_v2)
  a_law_stock_good : Addr
  d_law_stock_good : FuncData
  F_law_stock_good : Fun G.K "_law_stock_good" "_law_stock_good" s_law_stock_good a_law_stock_good d_law_stock_good
  b_law_stock_good : Binds G.K d_law_stock_good ["kinds", "n", "stock"] []
  g_law_stock_good : mg "_law_stock_good" = some (.ref a_law_stock_good)
  a_law_sums_good : Addr
  d_law_sums_good : FuncData
  F_law_sums_good : Fun G.K "_law_sums_good" "_law_sums_good" s_law_sums_good a_law_sums_good d_law_sums_good
  b_law_sums_good : Binds G.K d_law_sums_good ["kinds", "n", "every"] []
  g_law_sums_good : mg "_law_sums_good" = some (.ref a_law_sums_good)
  a_law_near_good_v2 : Addr
  d_law_near_good_v2 : FuncData
  F_law_near_good_v2 : Fun G.K "_law_near_good" "_law_near_good" s_law_near_good_v2 a_law_near_good_v2 d_law_near_good_v2
  b_law_near_good_v2 : Binds G.K d_law_near_good_v2 ["kinds", "n", "sums", "cell"] []
  g_law_near_good : mg "_law_near_good" = some (.ref a_law_near_good_v2)
  a_law_unlike_good : Addr
  d_law_unlike_good : FuncData
  F_law_unlike_good : Fun G.K "_law_unlike_good" "_law_unlike_good" s_law_unlike_good a_law_unlike_good d_law_unlike_good
  b_law_unlike_good : Binds G.K d_law_unlike_good ["kinds", "n", "every"] []
  g_law_unlike_good : mg "_law_unlike_good" = some (.ref a_law_unlike_good)
  a_law_needs_good : Addr
  d_law_needs_good : FuncData
  F_law_needs_good : Fun G.K "_law_needs_good" "_law_needs_good" s_law_needs_good a_law_needs_good d_law_needs_good
  b_law_needs_good : Binds G.K d_law_needs_good ["kinds", "n", "needs"] []
  g_law_needs_good : mg "_law_needs_good" = some (.ref a_law_needs_good)
  a_law_shows_v2 : Addr
  d_law_shows_v2 : FuncData
  F_law_shows_v2 : Fun G.K "_law_shows" "_law_shows" s_law_shows_v2 a_law_shows_v2 d_law_shows_v2
  b_law_shows_v2 : Binds G.K d_law_shows_v2 ["stock", "n", "m", "paper"] []
  g_law_shows : mg "_law_shows" = some (.ref a_law_shows_v2)
  a_law_papers_good : Addr
  d_law_papers_good : FuncData
  F_law_papers_good : Fun G.K "_law_papers_good" "_law_papers_good" s_law_papers_good a_law_papers_good d_law_papers_good
  b_law_papers_good : Binds G.K d_law_papers_good ["kinds", "n", "stock", "needs", "cell"] []
  g_law_papers_good : mg "_law_papers_good" = some (.ref a_law_papers_good)
  a_law_most_v2 : Addr
  d_law_most_v2 : FuncData
  F_law_most_v2 : Fun G.K "_law_most" "_law_most" s_law_most_v2 a_law_most_v2 d_law_most_v2
  b_law_most_v2 : Binds G.K d_law_most_v2 ["kinds", "n"] []
  g_law_most : mg "_law_most" = some (.ref a_law_most_v2)
  a_law_keeper_good : Addr
  d_law_keeper_good : FuncData
  F_law_keeper_good : Fun G.K "_law_keeper_good" "_law_keeper_good" s_law_keeper_good a_law_keeper_good d_law_keeper_good
  b_law_keeper_good : Binds G.K d_law_keeper_good ["kinds", "n", "cell"] []
  g_law_keeper_good : mg "_law_keeper_good" = some (.ref a_law_keeper_good)
  a_law_k45 : Addr
  d_law_k45 : FuncData
  F_law_k45 : Fun G.K "law" "law" s_law_k45 a_law_k45 d_law_k45
  b_law_k45 : Binds G.K d_law_k45 ["script"] []
  g_law : mg "law" = some (.ref a_law_k45)
  cl_Counts : Cls G.K (G.C "Counts")
  g_Counts : mg "Counts" = some (.ref (G.C "Counts"))
  mk_Counts : Mk G.K (G.C "Counts") a_Counts___init__
  nf_Counts_rows : NoAttr G.K (G.C "Counts") "rows"
  nf_Counts_values_let : NoAttr G.K (G.C "Counts") "values_let"
  cl_Keeper : Cls G.K (G.C "Keeper")
  g_Keeper : mg "Keeper" = some (.ref (G.C "Keeper"))
  mk_Keeper : Mk G.K (G.C "Keeper") a_Keeper___init__
  nf_Keeper_bound : NoAttr G.K (G.C "Keeper") "bound"
  nf_Keeper_own : NoAttr G.K (G.C "Keeper") "own"
  n_abs : mg "abs" = none
  n_bool : mg "bool" = none
  n_enumerate : mg "enumerate" = none
  n_int : mg "int" = none
  n_isinstance : mg "isinstance" = none
  n_len : mg "len" = none
  n_list : mg "list" = none
  n_max : mg "max" = none
  n_min : mg "min" = none
  n_range : mg "range" = none
  n_set : mg "set" = none
  n_sorted : mg "sorted" = none
  n_str : mg "str" = none
  n_sum : mg "sum" = none
  k_CUBES : Tok
  c_CUBES : mg "CUBES" = some (.str "cubes" k_CUBES)
  k_FEWEST_CORNERS : Tok
  c_FEWEST_CORNERS : mg "FEWEST_CORNERS" = some (.int 3 k_FEWEST_CORNERS)
  k_FULL : Tok
  c_FULL : mg "FULL" = some (.int 18446744073709551615 k_FULL)
  k_MOST : Tok
  c_MOST : mg "MOST" = some (.int 200 k_MOST)
  k_MOST_CORNERS : Tok
  c_MOST_CORNERS : mg "MOST_CORNERS" = some (.int 12 k_MOST_CORNERS)
  k_MOST_KINDS : Tok
  c_MOST_KINDS : mg "MOST_KINDS" = some (.int 5 k_MOST_KINDS)
  k_WIDE : Tok
  c_WIDE : mg "WIDE" = some (.int 64 k_WIDE)
section
variable {P : Program} {w : World} {G : Gx} {mg : Str → Option Value} {base : Heap}
theorem ok_is_whole (T : Txt G mg) : FnOk P w G.K mg base CX0 1 T.a_is_whole T.d_is_whole ["thing"] (sp0 (sp_is_whole G)) := by
  refine T.F_is_whole.ok sc_is_whole (fun vs H Q E h => h.1) (fun cdv A outer s H vs Q E hr h => ⟨t_is_whole G E0, ?_, h.2⟩)
  exact (pss_one (ps_ret (pe_and (pe_callB k_isi (by rfl) T.n_isinstance (by decide +kernel) (pa_cons (pv 0) (pa_cons (pe_bltn (by rfl) T.n_int (by decide +kernel) rfl) pa_nil))) (pe_one (pe_not (pe_callB k_isi (by rfl) T.n_isinstance (by decide +kernel) (pa_cons (pv 0) (pa_cons (pe_bltn (by rfl) T.n_bool (by decide +kernel) rfl) pa_nil))))))))
theorem ok_is_kind (T : Txt G mg) : FnOk P w G.K mg base CX0 2 T.a_is_kind T.d_is_kind ["thing"] (sp0 (sp_is_kind G)) := by
  refine T.F_is_kind.ok sc_is_kind (fun vs H Q E h => h.1) (fun cdv A outer s H vs Q E hr h => ⟨t_is_kind G E0, ?_, h.2⟩)
  exact (pss_cons (ps_if (pt_val (pe_callB k_isi (by rfl) T.n_isinstance (by decide +kernel) (pa_cons (pv 0) (pa_cons (pe_bltn (by rfl) T.n_str (by decide +kernel) rfl) pa_nil)))) (pss_one (ps_ret (pe_cmpR (o_eq hr.units) (pv 0) (pe_glob (by rfl) T.c_CUBES ⟨_, rfl⟩) (nomark _)))) pss_nil)
      (pss_one (ps_ret (pe_and (pcall (ok_is_whole T) (hr.mono (by decide)) (by rfl) T.g_is_whole_shapes T.F_is_whole.kp T.b_is_whole (pa_cons (pv 0) pa_nil)) (pe_one (pe_chain o_le o_le (pe_glob (by rfl) T.c_FEWEST_CORNERS ⟨_, rfl⟩) (pv 0) (pe_glob (by rfl) T.c_MOST_CORNERS ⟨_, rfl⟩)))))))
theorem ok_are_kinds (T : Txt G mg) : FnOk P w G.K mg base CX0 3 T.a_are_kinds T.d_are_kinds ["thing"] (sp0 (sp_are_kinds G)) := by
  refine T.F_are_kinds.ok sc_are_kinds (fun vs H Q E h => h.1) (fun cdv A outer s H vs Q E hr h => ⟨t_are_kinds G E0, ?_, h.2⟩)
  exact (pss_cons (ps_if (PW.pt (pw_or (pt_not (pt_val (pe_callB k_isi (by rfl) T.n_isinstance (by decide +kernel) (pa_cons (pv 0) (pa_cons (pe_bltn (by rfl) T.n_list (by decide +kernel) rfl) pa_nil))))) (pw_or1 (pt_not (pt_chain o_le o_le pe_int (pe_callB k_len (by rfl) T.n_len (by decide +kernel) (pa_cons (pv 0) pa_nil)) (pe_glob (by rfl) T.c_MOST_KINDS ⟨_, rfl⟩)))))) (pss_one (ps_ret pe_bl)) pss_nil)
      (pss_cons (ps_if (pt_cmpR (o_ne hr.units) (pe_lc (own := [("kind", 1)]) (g := (gName 1)) (tt := (tNot (tB (tCall (sp_is_kind G) [] E0 (tCons (tVar 1) tNil))))) (by rfl) sc_are_kinds.nd  (pi_list (pv 0)) (blkOk_by (own := [("kind", 1)]) (N := ["thing", "kind", "k"]) (sc := defScope s_are_kinds) (by decide +kernel)) (fun _ _ _ _ _ => (pgn 1 sc_are_kinds.nd)) (fun _ _ _ _ _ => (pts_one (pt_not (pt_val (pcall (ok_is_kind T) (hr.mono (by decide)) (by rfl) T.g_is_kind T.F_is_kind.kp T.b_is_kind (pa_cons (pv 1) pa_nil)))))) (fun _ _ _ _ _ => (pv 1))) (pe_lst pa_nil) (nomark _)) (pss_one (ps_ret pe_bl)) pss_nil)
      (pss_one (ps_ret (pe_cmpR (o_eq hr.units) (pe_lc (own := [("k", 2), ("kind", 1)]) (g := (gTup G.K 2 (gCons (gName 2) (gCons (gName 1) gNil)))) (tt := (tTest (tOp (uIn G.K) (tVar 1) (tSl (uSl G.K) (tVar 0) tNoPart (tPart (tVar 2)))))) (by rfl) sc_are_kinds.nd  (pi_enum (by rfl) T.n_enumerate (pa_cons (pv 0) pa_nil)) (blkOk_by (own := [("k", 2), ("kind", 1)]) (N := ["thing", "kind", "k"]) (sc := defScope s_are_kinds) (by decide +kernel)) (fun _ _ _ _ _ => (pg_tup (by rfl) (pgs_cons (pgn 2 sc_are_kinds.nd) (pgs_cons (pgn 1 sc_are_kinds.nd) pgs_nil)))) (fun _ _ _ _ _ => (pts_one (pt_cmpR o_in (pv 1) (pe_slice o_sl (pv 0) po_none (po_some (pv 2))) (by rfl)))) (fun _ _ _ _ _ => (pv 2))) (pe_lst pa_nil) (nomark _))))))
theorem ok_need_kind (T : Txt G mg) : FnOk P w G.K mg base CX0 3 T.a_need_kind T.d_need_kind ["thing"] (sp0 (sp_need_kind G)) := by
  refine T.F_need_kind.ok sc_need_kind (fun vs H Q E h => h.1) (fun cdv A outer s H vs Q E hr h => ⟨t_need_kind G E0, ?_, h.2⟩)
  exact (pss_one (ps_if (pt_not (pt_val (pcall (ok_is_kind T) (hr.mono (by decide)) (by rfl) T.g_is_kind T.F_is_kind.kp T.b_is_kind (pa_cons (pv 0) pa_nil)))) (pss_one prz0) pss_nil))
theorem ok_need_kinds (T : Txt G mg) : FnOk P w G.K mg base CX0 4 T.a_need_kinds T.d_need_kinds ["thing"] (sp0 (sp_need_kinds G)) := by
  refine T.F_need_kinds.ok sc_need_kinds (fun vs H Q E h => h.1) (fun cdv A outer s H vs Q E hr h => ⟨t_need_kinds G E0, ?_, h.2⟩)
  exact (pss_one (ps_if (pt_not (pt_val (pcall (ok_are_kinds T) (hr.mono (by decide)) (by rfl) T.g_are_kinds T.F_are_kinds.kp T.b_are_kinds (pa_cons (pv 0) pa_nil)))) (pss_one prz0) pss_nil))
theorem ok_need_from (T : Txt G mg) : FnOk P w G.K mg base CX0 2 T.a_need_from T.d_need_from ["thing", "least"] (sp0 (sp_need_from G)) := by
  refine T.F_need_from.ok sc_need_from (fun vs H Q E h => h.1) (fun cdv A outer s H vs Q E hr h => ⟨t_need_from G E0, ?_, h.2⟩)
  exact (pss_one (ps_if (PW.pt (pw_or (pt_not (pt_val (pcall (ok_is_whole T) (hr.mono (by decide)) (by rfl) T.g_is_whole_shapes T.F_is_whole.kp T.b_is_whole (pa_cons (pv 0) pa_nil)))) (pw_or1 (pt_cmpR o_lt (pv 0) (pv 1) (nomark _))))) (pss_one prz0) pss_nil))
theorem ok_need_to_most (T : Txt G mg) : FnOk P w G.K mg base CX0 2 T.a_need_to_most T.d_need_to_most ["thing"] (sp0 (sp_need_to_most G)) := by
  refine T.F_need_to_most.ok sc_need_to_most (fun vs H Q E h => h.1) (fun cdv A outer s H vs Q E hr h => ⟨t_need_to_most G E0, ?_, h.2⟩)
  exact (pss_one (ps_if (PW.pt (pw_or (pt_not (pt_val (pcall (ok_is_whole T) (hr.mono (by decide)) (by rfl) T.g_is_whole_shapes T.F_is_whole.kp T.b_is_whole (pa_cons (pv 0) pa_nil)))) (pw_or1 (pt_not (pt_chain o_le o_le pe_int (pv 0) (pe_glob (by rfl) T.c_MOST ⟨_, rfl⟩)))))) (pss_one prz0) pss_nil))
theorem ok_dots (T : Txt G mg) : FnOk P w G.K mg base CX0 1 T.a_dots T.d_dots ["kind", "k"] (sp0 (sp_dots G)) := by
  refine T.F_dots.ok sc_dots (fun vs H Q E h => h.1) (fun cdv A outer s H vs Q E hr h => ⟨t_dots G E0, ?_, h.2⟩)
  exact (pss_cons (ps_if (pt_cmpR (o_eq hr.units) (pv 0) (pe_glob (by rfl) T.c_CUBES ⟨_, rfl⟩) (nomark _)) (pss_one (ps_ret (pe_op o_mul (pe_op o_mul (pv 1) (pv 1)) (pv 1)))) pss_nil)
      (pss_one (ps_ret (pe_op o_add (pv 1) (pe_op o_mul (pe_op o_sub (pv 0) pe_int) (pe_op o_div (pe_op o_mul (pv 1) (pe_op o_sub (pv 1) pe_int)) pe_int))))))
theorem ok_number_of_dots (T : Txt G mg) : FnOk P w G.K mg base CX0 4 T.a_number_of_dots T.d_number_of_dots ["kind", "k"] (sp0 (sp_number_of_dots G)) := by
  refine T.F_number_of_dots.ok sc_number_of_dots (fun vs H Q E h => h.1) (fun cdv A outer s H vs Q E hr h => ⟨t_number_of_dots G E0, ?_, h.2⟩)
  exact (pss_cons (ps_expr (pcall (ok_need_kind T) (hr.mono (by decide)) (by rfl) T.g_need_kind T.F_need_kind.kp T.b_need_kind (pa_cons (pv 0) pa_nil)))
      (pss_cons (ps_expr (pcall (ok_need_from T) (hr.mono (by decide)) (by rfl) T.g_need_from T.F_need_from.kp T.b_need_from (pa_cons (pv 1) (pa_cons pe_int pa_nil))))
      (pss_one (ps_ret (pcall (ok_dots T) (hr.mono (by decide)) (by rfl) T.g_dots T.F_dots.kp T.b_dots (pa_cons (pv 0) (pa_cons (pv 1) pa_nil)))))))
theorem ok_place_in (T : Txt G mg) : FnOk P w G.K mg base CX0 4 T.a_place_in T.d_place_in ["kind", "n"] (sp0 (sp_place_in G)) := by
  refine T.F_place_in.ok sc_place_in (fun vs H Q E h => h.1) (fun cdv A outer s H vs Q E hr h => ⟨t_place_in G E0, ?_, h.2⟩)
  exact (pss_cons (ps_expr (pcall (ok_need_kind T) (hr.mono (by decide)) (by rfl) T.g_need_kind T.F_need_kind.kp T.b_need_kind (pa_cons (pv 0) pa_nil)))
      (pss_cons (ps_expr (pcall (ok_need_from T) (hr.mono (by decide)) (by rfl) T.g_need_from T.F_need_from.kp T.b_need_from (pa_cons (pv 1) (pa_cons pe_int pa_nil))))
      (pss_cons (pst 2 sc_place_in.nd pe_int)
      (pss_cons (pst 3 sc_place_in.nd pe_int)
      (pss_cons (ps_while PassesOwn.never (pt_cmpR o_lt (pcall (ok_dots T) (hr.mono (by decide)) (by rfl) T.g_dots T.F_dots.kp T.b_dots (pa_cons (pv 0) (pa_cons (pv 3) pa_nil))) (pv 1) (nomark _)) (pss_cons (pst 2 sc_place_in.nd (pv 3))
      (pss_one (pst 3 sc_place_in.nd (pe_op o_mul pe_int (pv 3))))))
      (pss_cons (ps_while PassesOwn.never (pt_cmpR o_gt (pe_op o_sub (pv 3) (pv 2)) pe_int (nomark _)) (pss_cons (pst 4 sc_place_in.nd (pe_op o_div (pe_op o_add (pv 2) (pv 3)) pe_int))
      (pss_one (ps_if (pt_cmpR o_lt (pcall (ok_dots T) (hr.mono (by decide)) (by rfl) T.g_dots T.F_dots.kp T.b_dots (pa_cons (pv 0) (pa_cons (pv 4) pa_nil))) (pv 1) (nomark _)) (pss_one (pst 2 sc_place_in.nd (pv 4))) (pss_one (pst 3 sc_place_in.nd (pv 4)))))))
      (pss_one (ps_ret (pe_ifExp (pt_cmpR (o_eq hr.units) (pcall (ok_dots T) (hr.mono (by decide)) (by rfl) T.g_dots T.F_dots.kp T.b_dots (pa_cons (pv 0) (pa_cons (pv 3) pa_nil))) (pv 1) (nomark _)) (pv 3) pe_non)))))))))
theorem ok_stock_of (T : Txt G mg) : FnOk P w G.K mg base CX0 2 T.a_stock_of T.d_stock_of ["kinds", "b"] (sp0 (sp_stock_of G)) := by
  refine T.F_stock_of.ok sc_stock_of (fun vs H Q E h => h.1) (fun cdv A outer s H vs Q E hr h => ⟨t_stock_of G E0, ?_, h.2⟩)
  exact (pss_cons (pst 2 sc_stock_of.nd pe_dnewK)
      (pss_cons (ps_for PassesOwn.never (by rfl) (pi_list (pv 0)) (pgn 3 sc_stock_of.nd) (pss_cons (pst 4 sc_stock_of.nd pe_int)
      (pss_one (ps_while PassesOwn.never (pt_cmpR o_le (pcall (ok_dots T) (hr.mono (by decide)) (by rfl) T.g_dots T.F_dots.kp T.b_dots (pa_cons (pv 3) (pa_cons (pv 4) pa_nil))) (pv 1) (nomark _)) (pss_cons (ps_asg pe_bl (pg_sub (pv 2) (pcall (ok_dots T) (hr.mono (by decide)) (by rfl) T.g_dots T.F_dots.kp T.b_dots (pa_cons (pv 3) (pa_cons (pv 4) pa_nil))) (s_any (hu_of hr))))
      (pss_one (pau 4 sc_stock_of.nd pe_int ip_add)))))))
      (pss_one (ps_ret (pe_callB (k_sorted (by rfl)) (by rfl) T.n_sorted (by decide +kernel) (pa_cons (pv 2) pa_nil))))))
theorem ok_stock_to (T : Txt G mg) : FnOk P w G.K mg base CX0 5 T.a_stock_to T.d_stock_to ["kinds", "b"] (sp0 (sp_stock_to G)) := by
  refine T.F_stock_to.ok sc_stock_to (fun vs H Q E h => h.1) (fun cdv A outer s H vs Q E hr h => ⟨t_stock_to G E0, ?_, h.2⟩)
  exact (pss_cons (ps_expr (pcall (ok_need_kinds T) (hr.mono (by decide)) (by rfl) T.g_need_kinds T.F_need_kinds.kp T.b_need_kinds (pa_cons (pv 0) pa_nil)))
      (pss_cons (ps_expr (pcall (ok_need_to_most T) (hr.mono (by decide)) (by rfl) T.g_need_to_most T.F_need_to_most.kp T.b_need_to_most (pa_cons (pv 1) pa_nil)))
      (pss_one (ps_ret (pcall (ok_stock_of T) (hr.mono (by decide)) (by rfl) T.g_stock_of T.F_stock_of.kp T.b_stock_of (pa_cons (pv 0) (pa_cons (pv 1) pa_nil)))))))
theorem ok_is_sum (T : Txt G mg) : FnOk P w G.K mg base CX0 5 T.a_is_sum T.d_is_sum ["kinds", "n", "thing"] (sp0 (sp_is_sum G)) := by
  refine T.F_is_sum.ok sc_is_sum (fun vs H Q E h => h.1) (fun cdv A outer s H vs Q E hr h => ⟨t_is_sum G E0, ?_, h.2⟩)
  exact (pss_cons (ps_expr (pcall (ok_need_kinds T) (hr.mono (by decide)) (by rfl) T.g_need_kinds T.F_need_kinds.kp T.b_need_kinds (pa_cons (pv 0) pa_nil)))
      (pss_cons (ps_expr (pcall (ok_need_to_most T) (hr.mono (by decide)) (by rfl) T.g_need_to_most T.F_need_to_most.kp T.b_need_to_most (pa_cons (pv 1) pa_nil)))
      (pss_cons (ps_if (PW.pt (pw_or (pt_not (pt_val (pe_callB k_isi (by rfl) T.n_isinstance (by decide +kernel) (pa_cons (pv 2) (pa_cons (pe_bltn (by rfl) T.n_list (by decide +kernel) rfl) pa_nil))))) (pw_or1 (pt_cmpR (o_ne hr.units) (pe_lc (own := [("part", 4)]) (g := (gName 4)) (tt := (tNot (tB (tCall (sp_is_whole G) [] E0 (tCons (tVar 4) tNil))))) (by rfl) sc_is_sum.nd  (pi_list (pv 2)) (blkOk_by (own := [("part", 4)]) (N := ["kinds", "n", "thing", "stock", "part", "k"]) (sc := defScope s_is_sum) (by decide +kernel)) (fun _ _ _ _ _ => (pgn 4 sc_is_sum.nd)) (fun _ _ _ _ _ => (pts_one (pt_not (pt_val (pcall (ok_is_whole T) (hr.mono (by decide)) (by rfl) T.g_is_whole_shapes T.F_is_whole.kp T.b_is_whole (pa_cons (pv 4) pa_nil)))))) (fun _ _ _ _ _ => (pv 4))) (pe_lst pa_nil) (nomark _))))) (pss_one (ps_ret pe_bl)) pss_nil)
      (pss_cons (pst 3 sc_is_sum.nd (pcall (ok_stock_of T) (hr.mono (by decide)) (by rfl) T.g_stock_of T.F_stock_of.kp T.b_stock_of (pa_cons (pv 0) (pa_cons (pv 1) pa_nil))))
      (pss_cons (ps_if (PW.pt (pw_or (pt_cmpR (o_ne hr.units) (pe_lc (own := [("part", 4)]) (g := (gName 4)) (tt := (tTest (tOp (uNotIn G.K) (tVar 4) (tVar 3)))) (by rfl) sc_is_sum.nd  (pi_list (pv 2)) (blkOk_by (own := [("part", 4)]) (N := ["kinds", "n", "thing", "stock", "part", "k"]) (sc := defScope s_is_sum) (by decide +kernel)) (fun _ _ _ _ _ => (pgn 4 sc_is_sum.nd)) (fun _ _ _ _ _ => (pts_one (pt_cmpR o_notIn (pv 4) (pv 3) (by rfl)))) (fun _ _ _ _ _ => (pv 4))) (pe_lst pa_nil) (nomark _)) (pw_or1 (pt_cmpR (o_ne hr.units) (pe_callB (k_sum (by rfl)) (by rfl) T.n_sum (by decide +kernel) (pa_cons (pv 2) pa_nil)) (pv 1) (nomark _))))) (pss_one (ps_ret pe_bl)) pss_nil)
      (pss_one (ps_ret (pe_cmpR (o_eq hr.units) (pe_lc (own := [("k", 5)]) (g := (gName 5)) (tt := (tTest (tOp uLt (tOp (uIx G.K) (tVar 2) (tOp uSub (tVar 5) (tC (.int 1)))) (tOp (uIx G.K) (tVar 2) (tVar 5))))) (by rfl) sc_is_sum.nd  (pi_range2 (by rfl) T.n_range (pa_cons pe_int (pa_cons (pe_callB k_len (by rfl) T.n_len (by decide +kernel) (pa_cons (pv 2) pa_nil)) pa_nil))) (blkOk_by (own := [("k", 5)]) (N := ["kinds", "n", "thing", "stock", "part", "k"]) (sc := defScope s_is_sum) (by decide +kernel)) (fun _ _ _ _ _ => (pgn 5 sc_is_sum.nd)) (fun _ _ _ _ _ => (pts_one (pt_cmpR o_lt (pe_ix o_ix (pv 2) (pe_op o_sub (pv 5) pe_int) (fun _ _ => rfl)) (pe_ix o_ix (pv 2) (pv 5) (fun _ _ => rfl)) (nomark _)))) (fun _ _ _ _ _ => (pv 5))) (pe_lst pa_nil) (nomark _)))))))))
theorem ok_fewest_by (T : Txt G mg) : FnOk P w G.K mg base CX0 1 T.a_fewest_by T.d_fewest_by ["stock", "b"] (sp0 (sp_fewest_by G)) := by
  refine T.F_fewest_by.ok sc_fewest_by (fun vs H Q E h => h.1) (fun cdv A outer s H vs Q E hr h => ⟨t_fewest_by G E0, ?_, h.2⟩)
  exact (pss_cons (pst 2 sc_fewest_by.nd (pe_lst (pa_cons pe_int pa_nil)))
      (pss_cons (ps_for PassesOwn.never (by rfl) (pi_range2 (by rfl) T.n_range (pa_cons pe_int (pa_cons (pe_op o_add (pv 1) pe_int) pa_nil))) (pgn 3 sc_fewest_by.nd) (pss_one (ps_expr (pe_bm PySem.F.plainAttrs_list PySem.F.slot_list_append PySem.F.type_list_append mt_append (pv 2) (pa_cons (pe_op o_add pe_int (pe_callB (k_min (by rfl)) (by rfl) T.n_min (by decide +kernel) (pa_cons (pe_lc (own := [("part", 4)]) (g := (gName 4)) (tt := (tTest (tOp uLe (tVar 4) (tVar 3)))) (by rfl) sc_fewest_by.nd  (pi_list (pv 0)) (blkOk_by (own := [("part", 4)]) (N := ["stock", "b", "found", "n", "part"]) (sc := defScope s_fewest_by) (by decide +kernel)) (fun _ _ _ _ _ => (pgn 4 sc_fewest_by.nd)) (fun _ _ _ _ _ => (pts_one (pt_cmpR o_le (pv 4) (pv 3) (nomark _)))) (fun _ _ _ _ _ => (pe_ix o_ix (pv 2) (pe_op o_sub (pv 3) (pv 4)) (fun _ _ => rfl)))) pa_nil))) pa_nil)))))
      (pss_one (ps_ret (pv 2)))))
theorem ok_fewest_parts (T : Txt G mg) : FnOk P w G.K mg base CX0 5 T.a_fewest_parts T.d_fewest_parts ["kinds", "n"] (sp0 (sp_fewest_parts G)) := by
  refine T.F_fewest_parts.ok sc_fewest_parts (fun vs H Q E h => h.1) (fun cdv A outer s H vs Q E hr h => ⟨t_fewest_parts G E0, ?_, h.2⟩)
  exact (pss_cons (ps_expr (pcall (ok_need_kinds T) (hr.mono (by decide)) (by rfl) T.g_need_kinds T.F_need_kinds.kp T.b_need_kinds (pa_cons (pv 0) pa_nil)))
      (pss_cons (ps_expr (pcall (ok_need_to_most T) (hr.mono (by decide)) (by rfl) T.g_need_to_most T.F_need_to_most.kp T.b_need_to_most (pa_cons (pv 1) pa_nil)))
      (pss_one (ps_ret (pe_ix o_ix (pcall (ok_fewest_by T) (hr.mono (by decide)) (by rfl) T.g_fewest_by T.F_fewest_by.kp T.b_fewest_by (pa_cons (pcall (ok_stock_of T) (hr.mono (by decide)) (by rfl) T.g_stock_of T.F_stock_of.kp T.b_stock_of (pa_cons (pv 0) (pa_cons (pv 1) pa_nil))) (pa_cons (pv 1) pa_nil))) (pv 1) (fun _ _ => rfl))))))
theorem ok_fewest_to (T : Txt G mg) : FnOk P w G.K mg base CX0 5 T.a_fewest_to T.d_fewest_to ["kinds", "b"] (sp0 (sp_fewest_to G)) := by
  refine T.F_fewest_to.ok sc_fewest_to (fun vs H Q E h => h.1) (fun cdv A outer s H vs Q E hr h => ⟨t_fewest_to G E0, ?_, h.2⟩)
  exact (pss_cons (ps_expr (pcall (ok_need_kinds T) (hr.mono (by decide)) (by rfl) T.g_need_kinds T.F_need_kinds.kp T.b_need_kinds (pa_cons (pv 0) pa_nil)))
      (pss_cons (ps_expr (pcall (ok_need_to_most T) (hr.mono (by decide)) (by rfl) T.g_need_to_most T.F_need_to_most.kp T.b_need_to_most (pa_cons (pv 1) pa_nil)))
      (pss_one (ps_ret (pcall (ok_fewest_by T) (hr.mono (by decide)) (by rfl) T.g_fewest_by T.F_fewest_by.kp T.b_fewest_by (pa_cons (pcall (ok_stock_of T) (hr.mono (by decide)) (by rfl) T.g_stock_of T.F_stock_of.kp T.b_stock_of (pa_cons (pv 0) (pa_cons (pv 1) pa_nil))) (pa_cons (pv 1) pa_nil)))))))
theorem ok_tables_of (T : Txt G mg) : FnOk P w G.K mg base CX0 1 T.a_tables_of T.d_tables_of ["stock", "n"] (sp0 (sp_tables_of G)) := by
  refine T.F_tables_of.ok sc_tables_of (fun vs H Q E h => h.1) (fun cdv A outer s H vs Q E hr h => ⟨t_tables_of G E0, ?_, h.2⟩)
  exact (pss_cons (pst 2 sc_tables_of.nd (pe_lst pa_nil))
      (pss_cons (ps_for PassesOwn.never (by rfl) (pi_list (pv 0)) (pgn 3 sc_tables_of.nd) (pss_one (ps_if (pt_cmpR (o_eq hr.units) (pv 2) (pe_lst pa_nil) (nomark _)) (pss_one (ps_expr (pe_bm PySem.F.plainAttrs_list PySem.F.slot_list_append PySem.F.type_list_append mt_append (pv 2) (pa_cons (pe_listRg (by rfl) (by rfl) T.n_list (prg_1 (by rfl) T.n_range (pe_op o_add (pv 1) pe_int))) pa_nil)))) (pss_cons (ps_expr (pe_bm PySem.F.plainAttrs_list PySem.F.slot_list_append PySem.F.type_list_append mt_append (pv 2) (pa_cons (pe_callTy (k_list (by rfl)) (by rfl) T.n_list (by decide +kernel) (pa_cons (pe_ix o_ix (pv 2) (pe_un o_neg pe_int) (fun _ _ => rfl)) pa_nil)) pa_nil)))
      (pss_one (ps_for PassesOwn.never (by rfl) (pi_range2 (by rfl) T.n_range (pa_cons (pv 3) (pa_cons (pe_op o_add (pv 1) pe_int) pa_nil))) (pgn 4 sc_tables_of.nd) (pss_one (ps_asg (pe_callB (k_min (by rfl)) (by rfl) T.n_min (by decide +kernel) (pa_cons (pe_ix o_ix (pe_ix o_ix (pv 2) (pe_un o_neg pe_int) (fun _ _ => rfl)) (pv 4) (fun _ _ => rfl)) (pa_cons (pe_op o_add pe_int (pe_ix o_ix (pe_ix o_ix (pv 2) (pe_un o_neg pe_int) (fun _ _ => rfl)) (pe_op o_sub (pv 4) (pv 3)) (fun _ _ => rfl))) pa_nil))) (pg_sub (pe_ix o_ix (pv 2) (pe_un o_neg pe_int) (fun _ _ => rfl)) (pv 4) (s_any (hu_of hr)))))))))))
      (pss_one (ps_ret (pv 2)))))
theorem ok_first_sum (T : Txt G mg) : FnOk P w G.K mg base CX0 5 T.a_first_sum T.d_first_sum ["kinds", "n"] (sp0 (sp_first_sum G)) := by
  refine T.F_first_sum.ok sc_first_sum (fun vs H Q E h => h.1) (fun cdv A outer s H vs Q E hr h => ⟨t_first_sum G E0, ?_, h.2⟩)
  exact (pss_cons (ps_expr (pcall (ok_need_kinds T) (hr.mono (by decide)) (by rfl) T.g_need_kinds T.F_need_kinds.kp T.b_need_kinds (pa_cons (pv 0) pa_nil)))
      (pss_cons (ps_expr (pcall (ok_need_to_most T) (hr.mono (by decide)) (by rfl) T.g_need_to_most T.F_need_to_most.kp T.b_need_to_most (pa_cons (pv 1) pa_nil)))
      (pss_cons (pst 2 sc_first_sum.nd (pcall (ok_stock_of T) (hr.mono (by decide)) (by rfl) T.g_stock_of T.F_stock_of.kp T.b_stock_of (pa_cons (pv 0) (pa_cons (pv 1) pa_nil))))
      (pss_cons (pst 3 sc_first_sum.nd (pcall (ok_tables_of T) (hr.mono (by decide)) (by rfl) T.g_tables_of T.F_tables_of.kp T.b_tables_of (pa_cons (pv 2) (pa_cons (pv 1) pa_nil))))
      (pss_cons (pst 4 sc_first_sum.nd (pe_lst pa_nil))
      (pss_cons (pst 5 sc_first_sum.nd (pv 1))
      (pss_cons (pst 6 sc_first_sum.nd (pe_ifExp (pt_cmpR o_gt (pv 1) pe_int (nomark _)) (pe_ix o_ix (pe_ix o_ix (pv 3) (pe_un o_neg pe_int) (fun _ _ => rfl)) (pv 1) (fun _ _ => rfl)) pe_int))
      (pss_cons (ps_while PassesOwn.never (pt_cmpR o_gt (pv 5) pe_int (nomark _)) (pss_cons (pau 6 sc_first_sum.nd pe_int ip_sub)
      (pss_cons (pst 7 sc_first_sum.nd pe_int)
      (pss_cons (ps_while PassesOwn.never (PW.pt (pw_or (pt_cmpR o_gt (pe_ix o_ix (pv 2) (pv 7) (fun _ _ => rfl)) (pv 5) (nomark _)) (pw_or1 (pt_cmpR (o_ne hr.units) (pe_ix o_ix (pe_ix o_ix (pv 3) (pv 7) (fun _ _ => rfl)) (pe_op o_sub (pv 5) (pe_ix o_ix (pv 2) (pv 7) (fun _ _ => rfl))) (fun _ _ => rfl)) (pv 6) (nomark _))))) (pss_one (pau 7 sc_first_sum.nd pe_int ip_add)))
      (pss_cons (ps_expr (pe_bm PySem.F.plainAttrs_list PySem.F.slot_list_append PySem.F.type_list_append mt_append (pv 4) (pa_cons (pe_ix o_ix (pv 2) (pv 7) (fun _ _ => rfl)) pa_nil)))
      (pss_one (pau 5 sc_first_sum.nd (pe_ix o_ix (pv 2) (pv 7) (fun _ _ => rfl)) ip_sub)))))))
      (pss_one (ps_ret (pv 4)))))))))))
theorem ok_Counts___init__ (T : Txt G mg) : FnOk P w G.K mg base CX0 1 T.a_Counts___init__ T.d_Counts___init__ ["self", "some", "n"] (sp0 (sp_Counts___init__ G)) := by
  refine T.F_Counts___init__.ok sc_Counts___init__ (fun vs H Q E h => h.1) (fun cdv A outer s H vs Q E hr h => ⟨t_Counts___init__ G E0, ?_, h.2⟩)
  exact (pss_cons (pfls T.cl_Counts T.nf_Counts_values_let (pv 0) (pv 1) rfl)
      (pss_cons (pst 3 sc_Counts___init__.nd (pe_op o_add (pe_lst (pa_cons pe_int pa_nil)) (pe_op o_mul (pe_lst (pa_cons pe_int pa_nil)) (pv 2))))
      (pss_cons (pfls T.cl_Counts T.nf_Counts_rows (pv 0) (pe_lst (pa_cons (pv 3) pa_nil)) rfl)
      (pss_one (ps_for PassesOwn.never (by rfl) (pi_list (pv 1)) (pgn 4 sc_Counts___init__.nd) (pss_cons (pst 3 sc_Counts___init__.nd (pe_callTy (k_list (by rfl)) (by rfl) T.n_list (by decide +kernel) (pa_cons (pv 3) pa_nil)))
      (pss_cons (ps_for PassesOwn.never (by rfl) (pi_range2 (by rfl) T.n_range (pa_cons (pv 4) (pa_cons (pe_op o_add (pv 2) pe_int) pa_nil))) (pgn 5 sc_Counts___init__.nd) (pss_one (ps_augS (pv 3) (pv 5) g_list (pe_op o_shl (pe_ix o_ix (pv 3) (pe_op o_sub (pv 5) (pv 4)) (fun _ _ => rfl)) (pe_glob (by rfl) T.c_WIDE ⟨_, rfl⟩)) ip_add (s_any (hu_of hr)))))
      (pss_one (ps_expr (pe_bm PySem.F.plainAttrs_list PySem.F.slot_list_append PySem.F.type_list_append mt_append (pfl T.cl_Counts T.nf_Counts_rows (pv 0) rfl) (pa_cons (pv 3) pa_nil)))))))))))
theorem ok_Counts_many (T : Txt G mg) : FnOk P w G.K mg base CX0 1 T.a_Counts_many T.d_Counts_many ["self", "size", "total", "k"] (sp0 (sp_Counts_many G)) := by
  refine T.F_Counts_many.ok sc_Counts_many (fun vs H Q E h => h.1) (fun cdv A outer s H vs Q E hr h => ⟨t_Counts_many G E0, ?_, h.2⟩)
  exact (pss_cons (ps_if (pt_not (pt_chain o_le o_le pe_int (pv 3) (pv 2))) (pss_one (ps_ret pe_int)) pss_nil)
      (pss_one (ps_ret (pe_op o_and (pe_op o_shr (pe_ix o_ix (pe_ix o_ix (pfl T.cl_Counts T.nf_Counts_rows (pv 0) rfl) (pv 1) (fun _ _ => rfl)) (pv 2) (fun _ _ => rfl)) (pe_op o_mul (pe_glob (by rfl) T.c_WIDE ⟨_, rfl⟩) (pv 3))) (pe_glob (by rfl) T.c_FULL ⟨_, rfl⟩)))))
theorem ok_Counts_firsts_v2 (T : Txt G mg) : FnOk P w G.K mg base CX0 2 T.a_Counts_firsts_v2 T.d_Counts_firsts_v2 ["self", "size", "total", "k"] (sp0 (sp_Counts_firsts_v2 G)) := by
  refine T.F_Counts_firsts_v2.ok sc_Counts_firsts_v2 (fun vs H Q E h => h.1) (fun cdv A outer s H vs Q E hr h => ⟨t_Counts_firsts_v2 G E0, ?_, h.2⟩)
  exact (pss_cons (pst 4 sc_Counts_firsts_v2.nd (pe_lst pa_nil))
      (pss_cons (ps_for PassesOwn.never (by rfl) (pi_range1 (by rfl) T.n_range (pa_cons (pv 1) pa_nil)) (pgn 5 sc_Counts_firsts_v2.nd) (pss_cons (pst 6 sc_Counts_firsts_v2.nd (pe_ix o_ix (pfl T.cl_Counts T.nf_Counts_values_let (pv 0) rfl) (pv 5) (fun _ _ => rfl)))
      (pss_one (ps_if (pt_cmpR o_le (pv 6) (pv 2) (nomark _)) (pss_one (ps_expr (pe_bm PySem.F.plainAttrs_list PySem.F.slot_list_append PySem.F.type_list_append mt_append (pv 4) (pa_cons (pe_tup (pa_cons (pv 6) (pa_cons (pe_op o_add (pv 5) pe_int) (pa_cons (pmt (pv 0) T.cl_Counts T.mm_Counts_many (ok_Counts_many T) (hr.mono (by decide)) T.b_Counts_many (pa_cons (pe_op o_add (pv 5) pe_int) (pa_cons (pe_op o_sub (pv 2) (pv 6)) (pa_cons (pe_op o_sub (pv 3) pe_int) pa_nil)))) pa_nil)))) pa_nil)))) pss_nil))))
      (pss_one (ps_ret (pv 4)))))
theorem ok_counts_of (T : Txt G mg) : FnOk P w G.K mg base CX0 6 T.a_counts_of T.d_counts_of ["kinds", "n"] (sp0 (sp_counts_of G)) := by
  refine T.F_counts_of.ok sc_counts_of (fun vs H Q E h => h.1) (fun cdv A outer s H vs Q E hr h => ⟨t_counts_of G E0, ?_, h.2⟩)
  exact (pss_one (ps_ret (pmk T.mk_Counts (ok_Counts___init__ T) (hr.mono (by decide)) (by rfl) T.g_Counts T.b_Counts___init__ (pa_cons (pcall (ok_stock_to T) (hr.mono (by decide)) (by rfl) T.g_stock_to T.F_stock_to.kp T.b_stock_to (pa_cons (pv 0) (pa_cons (pv 1) pa_nil))) (pa_cons (pv 1) pa_nil)))))
theorem ok_just (T : Txt G mg) : FnOk P w G.K mg base CX0 2 T.a_just T.d_just ["counts", "n", "k"] (sp0 (sp_just G)) := by
  refine T.F_just.ok sc_just (fun vs H Q E h => h.1) (fun cdv A outer s H vs Q E hr h => ⟨t_just G E0, ?_, h.2⟩)
  exact (pss_one (ps_ret (pmt (pv 0) T.cl_Counts T.mm_Counts_many (ok_Counts_many T) (hr.mono (by decide)) T.b_Counts_many (pa_cons (pe_callB k_len (by rfl) T.n_len (by decide +kernel) (pa_cons (pfl T.cl_Counts T.nf_Counts_values_let (pv 0) rfl) pa_nil)) (pa_cons (pv 1) (pa_cons (pv 2) pa_nil))))))
theorem ok_count_sums (T : Txt G mg) : FnOk P w G.K mg base CX0 7 T.a_count_sums T.d_count_sums ["kinds", "n"] (sp0 (sp_count_sums G)) := by
  refine T.F_count_sums.ok sc_count_sums (fun vs H Q E h => h.1) (fun cdv A outer s H vs Q E hr h => ⟨t_count_sums G E0, ?_, h.2⟩)
  exact (pss_cons (pst 2 sc_count_sums.nd (pcall (ok_counts_of T) (hr.mono (by decide)) (by rfl) T.g_counts_of T.F_counts_of.kp T.b_counts_of (pa_cons (pv 0) (pa_cons (pv 1) pa_nil))))
      (pss_one (ps_ret (pe_callB (k_sum (by rfl)) (by rfl) T.n_sum (by decide +kernel) (pa_cons (pe_lc (own := [("k", 3)]) (g := (gName 3)) (tt := tYes) (by rfl) sc_count_sums.nd  (pi_range1 (by rfl) T.n_range (pa_cons (pe_op o_add (pv 1) pe_int) pa_nil)) (blkOk_by (own := [("k", 3)]) (N := ["kinds", "n", "counts", "k"]) (sc := defScope s_count_sums) (by decide +kernel)) (fun _ _ _ _ _ => (pgn 3 sc_count_sums.nd)) (fun _ _ _ _ _ => pts_nil) (fun _ _ _ _ _ => (pcall (ok_just T) (hr.mono (by decide)) (by rfl) T.g_just T.F_just.kp T.b_just (pa_cons (pv 2) (pa_cons (pv 1) (pa_cons (pv 3) pa_nil)))))) pa_nil)))))
theorem ok_count_just (T : Txt G mg) : FnOk P w G.K mg base CX0 7 T.a_count_just T.d_count_just ["kinds", "n", "k"] (sp0 (sp_count_just G)) := by
  refine T.F_count_just.ok sc_count_just (fun vs H Q E h => h.1) (fun cdv A outer s H vs Q E hr h => ⟨t_count_just G E0, ?_, h.2⟩)
  exact (pss_cons (pst 3 sc_count_just.nd (pcall (ok_counts_of T) (hr.mono (by decide)) (by rfl) T.g_counts_of T.F_counts_of.kp T.b_counts_of (pa_cons (pv 0) (pa_cons (pv 1) pa_nil))))
      (pss_cons (ps_expr (pcall (ok_need_from T) (hr.mono (by decide)) (by rfl) T.g_need_from T.F_need_from.kp T.b_need_from (pa_cons (pv 2) (pa_cons pe_int pa_nil))))
      (pss_one (ps_ret (pcall (ok_just T) (hr.mono (by decide)) (by rfl) T.g_just T.F_just.kp T.b_just (pa_cons (pv 3) (pa_cons (pv 1) (pa_cons (pv 2) pa_nil))))))))
theorem ok_count_at_most (T : Txt G mg) : FnOk P w G.K mg base CX0 7 T.a_count_at_most T.d_count_at_most ["kinds", "n", "k"] (sp0 (sp_count_at_most G)) := by
  refine T.F_count_at_most.ok sc_count_at_most (fun vs H Q E h => h.1) (fun cdv A outer s H vs Q E hr h => ⟨t_count_at_most G E0, ?_, h.2⟩)
  exact (pss_cons (pst 3 sc_count_at_most.nd (pcall (ok_counts_of T) (hr.mono (by decide)) (by rfl) T.g_counts_of T.F_counts_of.kp T.b_counts_of (pa_cons (pv 0) (pa_cons (pv 1) pa_nil))))
      (pss_cons (ps_expr (pcall (ok_need_from T) (hr.mono (by decide)) (by rfl) T.g_need_from T.F_need_from.kp T.b_need_from (pa_cons (pv 2) (pa_cons pe_int pa_nil))))
      (pss_one (ps_ret (pe_callB (k_sum (by rfl)) (by rfl) T.n_sum (by decide +kernel) (pa_cons (pe_lc (own := [("fewer", 4)]) (g := (gName 4)) (tt := tYes) (by rfl) sc_count_at_most.nd  (pi_range1 (by rfl) T.n_range (pa_cons (pe_op o_add (pe_callB (k_min (by rfl)) (by rfl) T.n_min (by decide +kernel) (pa_cons (pv 1) (pa_cons (pv 2) pa_nil))) pe_int) pa_nil)) (blkOk_by (own := [("fewer", 4)]) (N := ["kinds", "n", "k", "counts", "fewer"]) (sc := defScope s_count_at_most) (by decide +kernel)) (fun _ _ _ _ _ => (pgn 4 sc_count_at_most.nd)) (fun _ _ _ _ _ => pts_nil) (fun _ _ _ _ _ => (pcall (ok_just T) (hr.mono (by decide)) (by rfl) T.g_just T.F_just.kp T.b_just (pa_cons (pv 3) (pa_cons (pv 1) (pa_cons (pv 4) pa_nil)))))) pa_nil))))))
theorem ok_sum_by (T : Txt G mg) : FnOk P w G.K mg base CX0 7 T.a_sum_by T.d_sum_by ["kinds", "n", "k", "number"] (sp0 (sp_sum_by G)) := by
  refine T.F_sum_by.ok sc_sum_by (fun vs H Q E h => h.1) (fun cdv A outer s H vs Q E hr h => ⟨t_sum_by G E0, ?_, h.2⟩)
  exact (pss_cons (pst 4 sc_sum_by.nd (pcall (ok_counts_of T) (hr.mono (by decide)) (by rfl) T.g_counts_of T.F_counts_of.kp T.b_counts_of (pa_cons (pv 0) (pa_cons (pv 1) pa_nil))))
      (pss_cons (ps_expr (pcall (ok_need_from T) (hr.mono (by decide)) (by rfl) T.g_need_from T.F_need_from.kp T.b_need_from (pa_cons (pv 2) (pa_cons pe_int pa_nil))))
      (pss_cons (ps_expr (pcall (ok_need_from T) (hr.mono (by decide)) (by rfl) T.g_need_from T.F_need_from.kp T.b_need_from (pa_cons (pv 3) (pa_cons pe_int pa_nil))))
      (pss_cons (ps_if (pt_cmpR o_ge (pv 3) (pcall (ok_just T) (hr.mono (by decide)) (by rfl) T.g_just T.F_just.kp T.b_just (pa_cons (pv 4) (pa_cons (pv 1) (pa_cons (pv 2) pa_nil)))) (nomark _)) (pss_one prz0) pss_nil)
      (pss_cons (pst 5 sc_sum_by.nd (pe_callB k_len (by rfl) T.n_len (by decide +kernel) (pa_cons (pfl T.cl_Counts T.nf_Counts_values_let (pv 4) rfl) pa_nil)))
      (pss_cons (pst 6 sc_sum_by.nd (pe_lst pa_nil))
      (pss_cons (ps_while PassesOwn.never (pt_cmpR o_lt (pe_callB k_len (by rfl) T.n_len (by decide +kernel) (pa_cons (pv 6) pa_nil)) (pv 2) (nomark _)) (pss_cons (pst 7 sc_sum_by.nd pe_non)
      (pss_cons (ps_for PassesOwn.never (by rfl) (pi_list (pmt (pv 4) T.cl_Counts T.mm_Counts_firsts_v2 (ok_Counts_firsts_v2 T) (hr.mono (by decide)) T.b_Counts_firsts_v2 (pa_cons (pv 5) (pa_cons (pv 1) (pa_cons (pe_op o_sub (pv 2) (pe_callB k_len (by rfl) T.n_len (by decide +kernel) (pa_cons (pv 6) pa_nil))) pa_nil))))) (pg_tup (by rfl) (pgs_cons (pgn 8 sc_sum_by.nd) (pgs_cons (pgn 9 sc_sum_by.nd) (pgs_cons (pgn 10 sc_sum_by.nd) pgs_nil)))) (pss_one (ps_if (pt_cmpR o_is (pv 7) pe_non (nomark _)) (pss_one (ps_if (pt_cmpR o_lt (pv 3) (pv 10) (nomark _)) (pss_one (pst 7 sc_sum_by.nd (pe_tup (pa_cons (pv 8) (pa_cons (pv 9) pa_nil))))) (pss_one (pau 3 sc_sum_by.nd (pv 10) ip_sub)))) pss_nil)))
      (pss_cons (ps_expr (pe_bm PySem.F.plainAttrs_list PySem.F.slot_list_append PySem.F.type_list_append mt_append (pv 6) (pa_cons (pe_ix o_ix (pv 7) pe_int (fun _ _ => rfl)) pa_nil)))
      (pss_cons (pau 1 sc_sum_by.nd (pe_ix o_ix (pv 7) pe_int (fun _ _ => rfl)) ip_sub)
      (pss_one (pst 5 sc_sum_by.nd (pe_ix o_ix (pv 7) pe_int (fun _ _ => rfl)))))))))
      (pss_one (ps_ret (pv 6))))))))))
theorem ok_number_of (T : Txt G mg) : FnOk P w G.K mg base CX0 7 T.a_number_of T.d_number_of ["kinds", "n", "k", "thing"] (sp0 (sp_number_of G)) := by
  refine T.F_number_of.ok sc_number_of (fun vs H Q E h => h.1) (fun cdv A outer s H vs Q E hr h => ⟨t_number_of G E0, ?_, h.2⟩)
  exact (pss_cons (pst 4 sc_number_of.nd (pcall (ok_counts_of T) (hr.mono (by decide)) (by rfl) T.g_counts_of T.F_counts_of.kp T.b_counts_of (pa_cons (pv 0) (pa_cons (pv 1) pa_nil))))
      (pss_cons (ps_expr (pcall (ok_need_from T) (hr.mono (by decide)) (by rfl) T.g_need_from T.F_need_from.kp T.b_need_from (pa_cons (pv 2) (pa_cons pe_int pa_nil))))
      (pss_cons (ps_if (PW.pt (pw_or (pt_not (pt_val (pcall (ok_is_sum T) (hr.mono (by decide)) (by rfl) T.g_is_sum T.F_is_sum.kp T.b_is_sum (pa_cons (pv 0) (pa_cons (pv 1) (pa_cons (pv 3) pa_nil)))))) (pw_or1 (pt_cmpR (o_ne hr.units) (pe_callB k_len (by rfl) T.n_len (by decide +kernel) (pa_cons (pv 3) pa_nil)) (pv 2) (nomark _))))) (pss_one prz0) pss_nil)
      (pss_cons (pst 5 sc_number_of.nd (pe_callB k_len (by rfl) T.n_len (by decide +kernel) (pa_cons (pfl T.cl_Counts T.nf_Counts_values_let (pv 4) rfl) pa_nil)))
      (pss_cons (pst 6 sc_number_of.nd pe_int)
      (pss_cons (ps_for PassesOwn.never (by rfl) (pi_enum (by rfl) T.n_enumerate (pa_cons (pv 3) pa_nil)) (pg_tup (by rfl) (pgs_cons (pgn 7 sc_number_of.nd) (pgs_cons (pgn 8 sc_number_of.nd) pgs_nil))) (pss_cons (ps_for PassesOwn.never (by rfl) (pi_list (pmt (pv 4) T.cl_Counts T.mm_Counts_firsts_v2 (ok_Counts_firsts_v2 T) (hr.mono (by decide)) T.b_Counts_firsts_v2 (pa_cons (pv 5) (pa_cons (pv 1) (pa_cons (pe_op o_sub (pv 2) (pv 7)) pa_nil))))) (pg_tup (by rfl) (pgs_cons (pgn 9 sc_number_of.nd) (pgs_cons (pgn 10 sc_number_of.nd) (pgs_cons (pgn 11 sc_number_of.nd) pgs_nil)))) (pss_cons (ps_if (pt_cmpR o_lt (pv 9) (pv 8) (nomark _)) (pss_one (pau 6 sc_number_of.nd (pv 11) ip_add)) pss_nil)
      (pss_one (ps_if (pt_cmpR (o_eq hr.units) (pv 9) (pv 8) (nomark _)) (pss_one (pst 5 sc_number_of.nd (pv 10))) pss_nil))))
      (pss_one (pau 1 sc_number_of.nd (pv 8) ip_sub))))
      (pss_one (ps_ret (pv 6)))))))))
theorem ok_Keeper___init__ (T : Txt G mg) : FnOk P w G.K mg base CX0 5 T.a_Keeper___init__ T.d_Keeper___init__ ["self", "kinds", "b"] (sp0 (sp_Keeper___init__ G)) := by
  refine T.F_Keeper___init__.ok sc_Keeper___init__ (fun vs H Q E h => h.1) (fun cdv A outer s H vs Q E hr h => ⟨t_Keeper___init__ G E0, ?_, h.2⟩)
  exact (pss_cons (ps_expr (pcall (ok_need_kinds T) (hr.mono (by decide)) (by rfl) T.g_need_kinds T.F_need_kinds.kp T.b_need_kinds (pa_cons (pv 1) pa_nil)))
      (pss_cons (ps_expr (pcall (ok_need_to_most T) (hr.mono (by decide)) (by rfl) T.g_need_to_most T.F_need_to_most.kp T.b_need_to_most (pa_cons (pv 2) pa_nil)))
      (pss_cons (pfls T.cl_Keeper T.nf_Keeper_own (pv 0) (pe_callTy (k_list (by rfl)) (by rfl) T.n_list (by decide +kernel) (pa_cons (pv 1) pa_nil)) rfl)
      (pss_one (pfls T.cl_Keeper T.nf_Keeper_bound (pv 0) (pv 2) rfl)))))
theorem ok_Keeper_needs (T : Txt G mg) : FnOk P w G.K mg base CX0 3 T.a_Keeper_needs T.d_Keeper_needs ["self"] (sp0 (sp_Keeper_needs G)) := by
  refine T.F_Keeper_needs.ok sc_Keeper_needs (fun vs H Q E h => h.1) (fun cdv A outer s H vs Q E hr h => ⟨t_Keeper_needs G E0, ?_, h.2⟩)
  exact (pss_one (ps_ret (pcall (ok_fewest_by T) (hr.mono (by decide)) (by rfl) T.g_fewest_by T.F_fewest_by.kp T.b_fewest_by (pa_cons (pcall (ok_stock_of T) (hr.mono (by decide)) (by rfl) T.g_stock_of T.F_stock_of.kp T.b_stock_of (pa_cons (pfl T.cl_Keeper T.nf_Keeper_own (pv 0) rfl) (pa_cons (pfl T.cl_Keeper T.nf_Keeper_bound (pv 0) rfl) pa_nil))) (pa_cons (pfl T.cl_Keeper T.nf_Keeper_bound (pv 0) rfl) pa_nil)))))
theorem ok_Keeper_come (T : Txt G mg) : FnOk P w G.K mg base CX0 4 T.a_Keeper_come T.d_Keeper_come ["self", "kind"] (sp0 (sp_Keeper_come G)) := by
  refine T.F_Keeper_come.ok sc_Keeper_come (fun vs H Q E h => h.1) (fun cdv A outer s H vs Q E hr h => ⟨t_Keeper_come G E0, ?_, h.2⟩)
  exact (pss_cons (ps_if (pt_cmpR (o_eq hr.units) (pe_callB k_len (by rfl) T.n_len (by decide +kernel) (pa_cons (pfl T.cl_Keeper T.nf_Keeper_own (pv 0) rfl) pa_nil)) (pe_glob (by rfl) T.c_MOST_KINDS ⟨_, rfl⟩) (nomark _)) (pss_one prz0) pss_nil)
      (pss_cons (ps_if (PW.pt (pw_or (pt_not (pt_val (pcall (ok_is_kind T) (hr.mono (by decide)) (by rfl) T.g_is_kind T.F_is_kind.kp T.b_is_kind (pa_cons (pv 1) pa_nil)))) (pw_or1 (pt_cmpR o_in (pv 1) (pfl T.cl_Keeper T.nf_Keeper_own (pv 0) rfl) (by rfl))))) (pss_one prz0) pss_nil)
      (pss_cons (pst 2 sc_Keeper_come.nd (pe_callB (k_max (by rfl)) (by rfl) T.n_max (by decide +kernel) (pa_cons (pmt0 (pv 0) T.cl_Keeper T.mm_Keeper_needs (ok_Keeper_needs T) (hr.mono (by decide)) T.b_Keeper_needs) pa_nil)))
      (pss_cons (ps_expr (pe_bm PySem.F.plainAttrs_list PySem.F.slot_list_append PySem.F.type_list_append mt_append (pfl T.cl_Keeper T.nf_Keeper_own (pv 0) rfl) (pa_cons (pv 1) pa_nil)))
      (pss_one (ps_ret (pe_tup (pa_cons (pv 2) (pa_cons (pe_callB (k_max (by rfl)) (by rfl) T.n_max (by decide +kernel) (pa_cons (pmt0 (pv 0) T.cl_Keeper T.mm_Keeper_needs (ok_Keeper_needs T) (hr.mono (by decide)) T.b_Keeper_needs) pa_nil)) pa_nil)))))))))
theorem ok_Keeper_go (T : Txt G mg) : FnOk P w G.K mg base CX0 4 T.a_Keeper_go T.d_Keeper_go ["self", "kind"] (sp0 (sp_Keeper_go G)) := by
  refine T.F_Keeper_go.ok sc_Keeper_go (fun vs H Q E h => h.1) (fun cdv A outer s H vs Q E hr h => ⟨t_Keeper_go G E0, ?_, h.2⟩)
  exact (pss_cons (ps_if (PW.pt (pw_or (pt_not (pt_val (pcall (ok_is_kind T) (hr.mono (by decide)) (by rfl) T.g_is_kind T.F_is_kind.kp T.b_is_kind (pa_cons (pv 1) pa_nil)))) (pw_or (pt_cmpR o_notIn (pv 1) (pfl T.cl_Keeper T.nf_Keeper_own (pv 0) rfl) (by rfl)) (pw_or1 (pt_cmpR (o_eq hr.units) (pe_callB k_len (by rfl) T.n_len (by decide +kernel) (pa_cons (pfl T.cl_Keeper T.nf_Keeper_own (pv 0) rfl) pa_nil)) pe_int (nomark _)))))) (pss_one prz0) pss_nil)
      (pss_cons (pst 2 sc_Keeper_go.nd (pe_callB (k_max (by rfl)) (by rfl) T.n_max (by decide +kernel) (pa_cons (pmt0 (pv 0) T.cl_Keeper T.mm_Keeper_needs (ok_Keeper_needs T) (hr.mono (by decide)) T.b_Keeper_needs) pa_nil)))
      (pss_cons (ps_expr (pe_bm PySem.F.plainAttrs_list PySem.F.slot_list_remove PySem.F.type_list_remove mt_rmV (pfl T.cl_Keeper T.nf_Keeper_own (pv 0) rfl) (pa_cons (pv 1) pa_nil)))
      (pss_one (ps_ret (pe_tup (pa_cons (pv 2) (pa_cons (pe_callB (k_max (by rfl)) (by rfl) T.n_max (by decide +kernel) (pa_cons (pmt0 (pv 0) T.cl_Keeper T.mm_Keeper_needs (ok_Keeper_needs T) (hr.mono (by decide)) T.b_Keeper_needs) pa_nil)) pa_nil))))))))
theorem ok_Keeper_kinds (T : Txt G mg) : FnOk P w G.K mg base CX0 1 T.a_Keeper_kinds T.d_Keeper_kinds ["self"] (sp0 (sp_Keeper_kinds G)) := by
  refine T.F_Keeper_kinds.ok sc_Keeper_kinds (fun vs H Q E h => h.1) (fun cdv A outer s H vs Q E hr h => ⟨t_Keeper_kinds G E0, ?_, h.2⟩)
  exact (pss_one (ps_ret (pe_callTy (k_list (by rfl)) (by rfl) T.n_list (by decide +kernel) (pa_cons (pfl T.cl_Keeper T.nf_Keeper_own (pv 0) rfl) pa_nil))))
theorem ok_Keeper_stock (T : Txt G mg) : FnOk P w G.K mg base CX0 3 T.a_Keeper_stock T.d_Keeper_stock ["self"] (sp0 (sp_Keeper_stock G)) := by
  refine T.F_Keeper_stock.ok sc_Keeper_stock (fun vs H Q E h => h.1) (fun cdv A outer s H vs Q E hr h => ⟨t_Keeper_stock G E0, ?_, h.2⟩)
  exact (pss_one (ps_ret (pcall (ok_stock_of T) (hr.mono (by decide)) (by rfl) T.g_stock_of T.F_stock_of.kp T.b_stock_of (pa_cons (pfl T.cl_Keeper T.nf_Keeper_own (pv 0) rfl) (pa_cons (pfl T.cl_Keeper T.nf_Keeper_bound (pv 0) rfl) pa_nil)))))
theorem ok_Keeper_fewest (T : Txt G mg) : FnOk P w G.K mg base CX0 4 T.a_Keeper_fewest T.d_Keeper_fewest ["self", "n"] (sp0 (sp_Keeper_fewest G)) := by
  refine T.F_Keeper_fewest.ok sc_Keeper_fewest (fun vs H Q E h => h.1) (fun cdv A outer s H vs Q E hr h => ⟨t_Keeper_fewest G E0, ?_, h.2⟩)
  exact (pss_cons (ps_if (PW.pt (pw_or (pt_not (pt_val (pcall (ok_is_whole T) (hr.mono (by decide)) (by rfl) T.g_is_whole_shapes T.F_is_whole.kp T.b_is_whole (pa_cons (pv 1) pa_nil)))) (pw_or1 (pt_not (pt_chain o_le o_le pe_int (pv 1) (pfl T.cl_Keeper T.nf_Keeper_bound (pv 0) rfl)))))) (pss_one prz0) pss_nil)
      (pss_one (ps_ret (pe_ix o_ix (pmt0 (pv 0) T.cl_Keeper T.mm_Keeper_needs (ok_Keeper_needs T) (hr.mono (by decide)) T.b_Keeper_needs) (pv 1) (fun _ _ => rfl)))))
theorem ok_needing (T : Txt G mg) : FnOk P w G.K mg base CX0 6 T.a_needing T.d_needing ["kinds", "k", "b"] (sp0 (sp_needing G)) := by
  refine T.F_needing.ok sc_needing (fun vs H Q E h => h.1) (fun cdv A outer s H vs Q E hr h => ⟨t_needing G E0, ?_, h.2⟩)
  exact (pss_cons (pst 3 sc_needing.nd (pcall (ok_fewest_to T) (hr.mono (by decide)) (by rfl) T.g_fewest_to T.F_fewest_to.kp T.b_fewest_to (pa_cons (pv 0) (pa_cons (pv 2) pa_nil))))
      (pss_cons (ps_expr (pcall (ok_need_from T) (hr.mono (by decide)) (by rfl) T.g_need_from T.F_need_from.kp T.b_need_from (pa_cons (pv 1) (pa_cons pe_int pa_nil))))
      (pss_one (ps_ret (pe_lc (own := [("n", 4), ("parts", 5)]) (g := (gTup G.K 2 (gCons (gName 4) (gCons (gName 5) gNil)))) (tt := (tTest (tOp (uEq G.K) (tVar 5) (tVar 1)))) (by rfl) sc_needing.nd  (pi_enum (by rfl) T.n_enumerate (pa_cons (pv 3) pa_nil)) (blkOk_by (own := [("n", 4), ("parts", 5)]) (N := ["kinds", "k", "b", "fewest", "n", "parts"]) (sc := defScope s_needing) (by decide +kernel)) (fun _ _ _ _ _ => (pg_tup (by rfl) (pgs_cons (pgn 4 sc_needing.nd) (pgs_cons (pgn 5 sc_needing.nd) pgs_nil)))) (fun _ _ _ _ _ => (pts_one (pt_cmpR (o_eq hr.units) (pv 5) (pv 1) (nomark _)))) (fun _ _ _ _ _ => (pv 4)))))))
theorem ok_greatest_needing (T : Txt G mg) : FnOk P w G.K mg base CX0 7 T.a_greatest_needing T.d_greatest_needing ["kinds", "k", "b"] (sp0 (sp_greatest_needing G)) := by
  refine T.F_greatest_needing.ok sc_greatest_needing (fun vs H Q E h => h.1) (fun cdv A outer s H vs Q E hr h => ⟨t_greatest_needing G E0, ?_, h.2⟩)
  exact (pss_cons (pst 3 sc_greatest_needing.nd (pcall (ok_needing T) (hr.mono (by decide)) (by rfl) T.g_needing T.F_needing.kp T.b_needing (pa_cons (pv 0) (pa_cons (pv 1) (pa_cons (pv 2) pa_nil)))))
      (pss_cons (ps_if (pt_cmpR (o_eq hr.units) (pv 3) (pe_lst pa_nil) (nomark _)) (pss_one (ps_ret pe_non)) pss_nil)
      (pss_one (ps_ret (pe_ix o_ix (pv 3) (pe_un o_neg pe_int) (fun _ _ => rfl))))))
theorem ok_most_needed (T : Txt G mg) : FnOk P w G.K mg base CX0 6 T.a_most_needed T.d_most_needed ["kinds", "b"] (sp0 (sp_most_needed G)) := by
  refine T.F_most_needed.ok sc_most_needed (fun vs H Q E h => h.1) (fun cdv A outer s H vs Q E hr h => ⟨t_most_needed G E0, ?_, h.2⟩)
  exact (pss_one (ps_ret (pe_callB (k_max (by rfl)) (by rfl) T.n_max (by decide +kernel) (pa_cons (pcall (ok_fewest_to T) (hr.mono (by decide)) (by rfl) T.g_fewest_to T.F_fewest_to.kp T.b_fewest_to (pa_cons (pv 0) (pa_cons (pv 1) pa_nil))) pa_nil))))
theorem ok_counts_by_need (T : Txt G mg) : FnOk P w G.K mg base CX0 6 T.a_counts_by_need T.d_counts_by_need ["kinds", "b"] (sp0 (sp_counts_by_need G)) := by
  refine T.F_counts_by_need.ok sc_counts_by_need (fun vs H Q E h => h.1) (fun cdv A outer s H vs Q E hr h => ⟨t_counts_by_need G E0, ?_, h.2⟩)
  exact (pss_cons (pst 2 sc_counts_by_need.nd (pcall (ok_fewest_to T) (hr.mono (by decide)) (by rfl) T.g_fewest_to T.F_fewest_to.kp T.b_fewest_to (pa_cons (pv 0) (pa_cons (pv 1) pa_nil))))
      (pss_one (ps_ret (pe_lc (own := [("k", 3)]) (g := (gName 3)) (tt := tYes) (by rfl) sc_counts_by_need.nd  (pi_range1 (by rfl) T.n_range (pa_cons (pe_op o_add (pe_callB (k_max (by rfl)) (by rfl) T.n_max (by decide +kernel) (pa_cons (pv 2) pa_nil)) pe_int) pa_nil)) (blkOk_by (own := [("k", 3)]) (N := ["kinds", "b", "fewest", "k"]) (sc := defScope s_counts_by_need) (by decide +kernel)) (fun _ _ _ _ _ => (pgn 3 sc_counts_by_need.nd)) (fun _ _ _ _ _ => pts_nil) (fun _ _ _ _ _ => (pe_bm PySem.F.plainAttrs_list PySem.F.slot_list_count PySem.F.type_list_count mt_cntV (pv 2) (pa_cons (pv 3) pa_nil)))))))
theorem ok_is_whole_b (T : Txt G mg) : FnOk P w G.K mg base CX0 1 T.a_is_whole_b T.d_is_whole_b ["thing"] (sp0 (sp_is_whole G)) := by
  refine T.F_is_whole_b.ok sc_is_whole_b (fun vs H Q E h => h.1) (fun cdv A outer s H vs Q E hr h => ⟨t_is_whole G E0, ?_, h.2⟩)
  exact (pss_one (ps_ret (pe_and (pe_callB k_isi (by rfl) T.n_isinstance (by decide +kernel) (pa_cons (pv 0) (pa_cons (pe_bltn (by rfl) T.n_int (by decide +kernel) rfl) pa_nil))) (pe_one (pe_not (pe_callB k_isi (by rfl) T.n_isinstance (by decide +kernel) (pa_cons (pv 0) (pa_cons (pe_bltn (by rfl) T.n_bool (by decide +kernel) rfl) pa_nil))))))))
theorem ok_paper_shows (T : Txt G mg) : FnOk P w G.K mg base CX0 6 T.a_paper_shows T.d_paper_shows ["kinds", "n", "m", "thing"] (sp0 (sp_paper_shows G)) := by
  refine T.F_paper_shows.ok sc_paper_shows (fun vs H Q E h => h.1) (fun cdv A outer s H vs Q E hr h => ⟨t_paper_shows G E0, ?_, h.2⟩)
  exact (pss_cons (pst 4 sc_paper_shows.nd (pcall (ok_stock_to T) (hr.mono (by decide)) (by rfl) T.g_stock_to T.F_stock_to.kp T.b_stock_to (pa_cons (pv 0) (pa_cons (pv 1) pa_nil))))
      (pss_cons (ps_if (PW.pt (pw_or (pt_not (pt_val (pcall (ok_is_whole_b T) (hr.mono (by decide)) (by rfl) T.g_is_whole_papers T.F_is_whole_b.kp T.b_is_whole_b (pa_cons (pv 2) pa_nil)))) (pw_or (pt_cmpR o_lt (pv 2) pe_int (nomark _)) (pw_or (pt_not (pt_val (pe_callB k_isi (by rfl) T.n_isinstance (by decide +kernel) (pa_cons (pv 3) (pa_cons (pe_bltn (by rfl) T.n_list (by decide +kernel) rfl) pa_nil))))) (pw_or1 (pt_cmpR (o_ne hr.units) (pe_callB k_len (by rfl) T.n_len (by decide +kernel) (pa_cons (pv 3) pa_nil)) (pe_op o_add (pv 1) pe_int) (nomark _))))))) (pss_one (ps_ret pe_bl)) pss_nil)
      (pss_cons (ps_if (PW.pt (pw_or (pt_cmpR (o_ne hr.units) (pe_lc (own := [("number", 7)]) (g := (gName 7)) (tt := (tNot (tB (tCall (sp_is_whole G) [] E0 (tCons (tVar 7) tNil))))) (by rfl) sc_paper_shows.nd  (pi_list (pv 3)) (blkOk_by (own := [("number", 7)]) (N := ["kinds", "n", "m", "thing", "stock", "i", "j", "number"]) (sc := defScope s_paper_shows) (by decide +kernel)) (fun _ _ _ _ _ => (pgn 7 sc_paper_shows.nd)) (fun _ _ _ _ _ => (pts_one (pt_not (pt_val (pcall (ok_is_whole_b T) (hr.mono (by decide)) (by rfl) T.g_is_whole_papers T.F_is_whole_b.kp T.b_is_whole_b (pa_cons (pv 7) pa_nil)))))) (fun _ _ _ _ _ => (pv 7))) (pe_lst pa_nil) (nomark _)) (pw_or (pt_cmpR (o_ne hr.units) (pe_ix o_ix (pv 3) pe_int (fun _ _ => rfl)) pe_int (nomark _)) (pw_or1 (pt_cmpR o_lt (pe_ix o_ix (pv 3) (pv 1) (fun _ _ => rfl)) (pv 2) (nomark _)))))) (pss_one (ps_ret pe_bl)) pss_nil)
      (pss_cons (ps_for PassesOwn.never (by rfl) (pi_range2 (by rfl) T.n_range (pa_cons pe_int (pa_cons (pe_op o_add (pv 1) pe_int) pa_nil))) (pgn 5 sc_paper_shows.nd) (pss_one (ps_for PassesOwn.never (by rfl) (pi_list (pv 4)) (pgn 6 sc_paper_shows.nd) (pss_one (ps_if (PW.pt (pw_and (pt_cmpR o_le (pv 6) (pv 5) (nomark _)) (pw_and1 (pt_cmpR o_gt (pe_ix o_ix (pv 3) (pv 5) (fun _ _ => rfl)) (pe_op o_add (pe_ix o_ix (pv 3) (pe_op o_sub (pv 5) (pv 6)) (fun _ _ => rfl)) pe_int) (nomark _))))) (pss_one (ps_ret pe_bl)) pss_nil)))))
      (pss_one (ps_ret pe_bl))))))
theorem ok_need_paper (T : Txt G mg) : FnOk P w G.K mg base CX0 6 T.a_need_paper T.d_need_paper ["kinds", "n"] (sp0 (sp_need_paper G)) := by
  refine T.F_need_paper.ok sc_need_paper (fun vs H Q E h => h.1) (fun cdv A outer s H vs Q E hr h => ⟨t_need_paper G E0, ?_, h.2⟩)
  exact (pss_one (ps_ret (pcall (ok_fewest_to T) (hr.mono (by decide)) (by rfl) T.g_fewest_to T.F_fewest_to.kp T.b_fewest_to (pa_cons (pv 0) (pa_cons (pv 1) pa_nil)))))
theorem ok_least_rows (T : Txt G mg) : FnOk P w G.K mg base CX0 1 T.a_least_rows T.d_least_rows ["stock", "n"] (sp0 (sp_least_rows G)) := by
  refine T.F_least_rows.ok sc_least_rows (fun vs H Q E h => h.1) (fun cdv A outer s H vs Q E hr h => ⟨t_least_rows G E0, ?_, h.2⟩)
  exact (pss_cons (pst 2 sc_least_rows.nd (pe_op o_add (pe_lst (pa_cons pe_int pa_nil)) (pe_op o_mul (pe_lst (pa_cons pe_non pa_nil)) (pv 1))))
      (pss_cons (pst 3 sc_least_rows.nd (pe_lst (pa_cons (pv 2) pa_nil)))
      (pss_cons (ps_for PassesOwn.never (by rfl) (pi_list (pv 0)) (pgn 4 sc_least_rows.nd) (pss_cons (pst 2 sc_least_rows.nd (pe_callTy (k_list (by rfl)) (by rfl) T.n_list (by decide +kernel) (pa_cons (pe_ix o_ix (pv 3) (pe_un o_neg pe_int) (fun _ _ => rfl)) pa_nil)))
      (pss_cons (ps_for PassesOwn.never (by rfl) (pi_range2 (by rfl) T.n_range (pa_cons (pv 4) (pa_cons (pe_op o_add (pv 1) pe_int) pa_nil))) (pgn 5 sc_least_rows.nd) (pss_cons (pst 6 sc_least_rows.nd (pe_ix o_ix (pe_ix o_ix (pv 3) (pe_un o_neg pe_int) (fun _ _ => rfl)) (pe_op o_sub (pv 5) (pv 4)) (fun _ _ => rfl)))
      (pss_one (ps_if (PW.pt (pw_and (pt_cmpR o_isNot (pv 6) pe_non (nomark _)) (pw_and1 (PW.pt (pw_or (pt_cmpR o_is (pe_ix o_ix (pv 2) (pv 5) (fun _ _ => rfl)) pe_non (nomark _)) (pw_or1 (pt_cmpR o_lt (pe_op o_add (pv 6) pe_int) (pe_ix o_ix (pv 2) (pv 5) (fun _ _ => rfl)) (nomark _)))))))) (pss_one (ps_asg (pe_op o_add (pv 6) pe_int) (pg_sub (pv 2) (pv 5) (s_any (hu_of hr))))) pss_nil))))
      (pss_one (ps_expr (pe_bm PySem.F.plainAttrs_list PySem.F.slot_list_append PySem.F.type_list_append mt_append (pv 3) (pa_cons (pv 2) pa_nil)))))))
      (pss_one (ps_ret (pv 3))))))
theorem ok_ways_to (T : Txt G mg) : FnOk P w G.K mg base CX0 1 T.a_ways_to T.d_ways_to ["stock", "n"] (sp0 (sp_ways_to G)) := by
  refine T.F_ways_to.ok sc_ways_to (fun vs H Q E h => h.1) (fun cdv A outer s H vs Q E hr h => ⟨t_ways_to G E0, ?_, h.2⟩)
  exact (pss_cons (pst 2 sc_ways_to.nd (pe_op o_add (pe_lst (pa_cons pe_int pa_nil)) (pe_op o_mul (pe_lst (pa_cons pe_int pa_nil)) (pv 1))))
      (pss_cons (ps_for PassesOwn.never (by rfl) (pi_list (pv 0)) (pgn 3 sc_ways_to.nd) (pss_one (ps_for PassesOwn.never (by rfl) (pi_range3 (by rfl) T.n_range (pa_cons (pv 1) (pa_cons (pe_op o_sub (pv 3) pe_int) (pa_cons (pe_un o_neg pe_int) pa_nil)))) (pgn 4 sc_ways_to.nd) (pss_one (ps_augS (pv 2) (pv 4) g_list (pe_ix o_ix (pv 2) (pe_op o_sub (pv 4) (pv 3)) (fun _ _ => rfl)) ip_add (s_any (hu_of hr)))))))
      (pss_one (ps_ret (pv 2)))))
theorem ok_fewest_unlike (T : Txt G mg) : FnOk P w G.K mg base CX0 6 T.a_fewest_unlike T.d_fewest_unlike ["kinds", "n"] (sp0 (sp_fewest_unlike G)) := by
  refine T.F_fewest_unlike.ok sc_fewest_unlike (fun vs H Q E h => h.1) (fun cdv A outer s H vs Q E hr h => ⟨t_fewest_unlike G E0, ?_, h.2⟩)
  exact (pss_one (ps_ret (pe_ix o_ix (pe_ix o_ix (pcall (ok_least_rows T) (hr.mono (by decide)) (by rfl) T.g_least_rows T.F_least_rows.kp T.b_least_rows (pa_cons (pcall (ok_stock_to T) (hr.mono (by decide)) (by rfl) T.g_stock_to T.F_stock_to.kp T.b_stock_to (pa_cons (pv 0) (pa_cons (pv 1) pa_nil))) (pa_cons (pv 1) pa_nil))) (pe_un o_neg pe_int) (fun _ _ => rfl)) (pv 1) (fun _ _ => rfl))))
theorem ok_first_unlike (T : Txt G mg) : FnOk P w G.K mg base CX0 6 T.a_first_unlike T.d_first_unlike ["kinds", "n"] (sp0 (sp_first_unlike G)) := by
  refine T.F_first_unlike.ok sc_first_unlike (fun vs H Q E h => h.1) (fun cdv A outer s H vs Q E hr h => ⟨t_first_unlike G E0, ?_, h.2⟩)
  exact (pss_cons (pst 2 sc_first_unlike.nd (pcall (ok_stock_to T) (hr.mono (by decide)) (by rfl) T.g_stock_to T.F_stock_to.kp T.b_stock_to (pa_cons (pv 0) (pa_cons (pv 1) pa_nil))))
      (pss_cons (pst 3 sc_first_unlike.nd (pcall (ok_least_rows T) (hr.mono (by decide)) (by rfl) T.g_least_rows T.F_least_rows.kp T.b_least_rows (pa_cons (pv 2) (pa_cons (pv 1) pa_nil))))
      (pss_cons (pst 4 sc_first_unlike.nd (pe_ix o_ix (pe_ix o_ix (pv 3) (pe_un o_neg pe_int) (fun _ _ => rfl)) (pv 1) (fun _ _ => rfl)))
      (pss_cons (ps_if (pt_cmpR o_is (pv 4) pe_non (nomark _)) (pss_one (ps_ret pe_non)) pss_nil)
      (pss_cons (pst 5 sc_first_unlike.nd (pe_lst pa_nil))
      (pss_cons (pst 6 sc_first_unlike.nd (pe_callB k_len (by rfl) T.n_len (by decide +kernel) (pa_cons (pv 2) pa_nil)))
      (pss_cons (ps_while PassesOwn.never (pt_cmpR o_gt (pv 4) pe_int (nomark _)) (pss_cons (pau 4 sc_first_unlike.nd pe_int ip_sub)
      (pss_cons (ps_for PassesOwn.never (by rfl) (pi_range1 (by rfl) T.n_range (pa_cons (pv 6) pa_nil)) (pgn 7 sc_first_unlike.nd) (pss_one (ps_if (PW.pt (pw_and (pt_cmpR o_le (pe_ix o_ix (pv 2) (pv 7) (fun _ _ => rfl)) (pv 1) (nomark _)) (pw_and1 (pt_cmpR (o_eq hr.units) (pe_ix o_ix (pe_ix o_ix (pv 3) (pv 7) (fun _ _ => rfl)) (pe_op o_sub (pv 1) (pe_ix o_ix (pv 2) (pv 7) (fun _ _ => rfl))) (fun _ _ => rfl)) (pv 4) (nomark _))))) (pss_one ps_break) pss_nil)))
      (pss_cons (ps_expr (pe_bm PySem.F.plainAttrs_list PySem.F.slot_list_append PySem.F.type_list_append mt_append (pv 5) (pa_cons (pe_ix o_ix (pv 2) (pv 7) (fun _ _ => rfl)) pa_nil)))
      (pss_cons (pau 1 sc_first_unlike.nd (pe_ix o_ix (pv 2) (pv 7) (fun _ _ => rfl)) ip_sub)
      (pss_one (pst 6 sc_first_unlike.nd (pv 7))))))))
      (pss_one (ps_ret (pv 5))))))))))
theorem ok_count_unlike (T : Txt G mg) : FnOk P w G.K mg base CX0 6 T.a_count_unlike T.d_count_unlike ["kinds", "n"] (sp0 (sp_count_unlike G)) := by
  refine T.F_count_unlike.ok sc_count_unlike (fun vs H Q E h => h.1) (fun cdv A outer s H vs Q E hr h => ⟨t_count_unlike G E0, ?_, h.2⟩)
  exact (pss_one (ps_ret (pe_ix o_ix (pcall (ok_ways_to T) (hr.mono (by decide)) (by rfl) T.g_ways_to T.F_ways_to.kp T.b_ways_to (pa_cons (pcall (ok_stock_to T) (hr.mono (by decide)) (by rfl) T.g_stock_to T.F_stock_to.kp T.b_stock_to (pa_cons (pv 0) (pa_cons (pv 1) pa_nil))) (pa_cons (pv 1) pa_nil))) (pv 1) (fun _ _ => rfl))))
theorem ok_without_unlike (T : Txt G mg) : FnOk P w G.K mg base CX0 6 T.a_without_unlike T.d_without_unlike ["kinds", "b"] (sp0 (sp_without_unlike G)) := by
  refine T.F_without_unlike.ok sc_without_unlike (fun vs H Q E h => h.1) (fun cdv A outer s H vs Q E hr h => ⟨t_without_unlike G E0, ?_, h.2⟩)
  exact (pss_one (ps_ret (pe_lc (own := [("n", 2), ("ways", 3)]) (g := (gTup G.K 2 (gCons (gName 2) (gCons (gName 3) gNil)))) (tt := (tTest (tOp (uEq G.K) (tVar 3) (tC (.int 0))))) (by rfl) sc_without_unlike.nd  (pi_enum (by rfl) T.n_enumerate (pa_cons (pcall (ok_ways_to T) (hr.mono (by decide)) (by rfl) T.g_ways_to T.F_ways_to.kp T.b_ways_to (pa_cons (pcall (ok_stock_to T) (hr.mono (by decide)) (by rfl) T.g_stock_to T.F_stock_to.kp T.b_stock_to (pa_cons (pv 0) (pa_cons (pv 1) pa_nil))) (pa_cons (pv 1) pa_nil))) pa_nil)) (blkOk_by (own := [("n", 2), ("ways", 3)]) (N := ["kinds", "b", "n", "ways"]) (sc := defScope s_without_unlike) (by decide +kernel)) (fun _ _ _ _ _ => (pg_tup (by rfl) (pgs_cons (pgn 2 sc_without_unlike.nd) (pgs_cons (pgn 3 sc_without_unlike.nd) pgs_nil)))) (fun _ _ _ _ _ => (pts_one (pt_cmpR (o_eq hr.units) (pv 3) pe_int (nomark _)))) (fun _ _ _ _ _ => (pv 2)))))
theorem ok_law_cell_v2 (T : Txt G mg) : FnOk P w G.K mg base CX0 1 T.a_law_cell_v2 T.d_law_cell_v2 ["script", "k"] (sp0 (sp_law_cell_v2 G)) := by
  refine T.F_law_cell_v2.ok sc_law_cell_v2 (fun vs H Q E h => h.1) (fun cdv A outer s H vs Q E hr h => ⟨t_law_cell_v2 G E0, ?_, h.2⟩)
  exact (pss_cons (ps_if (pt_cmpR o_lt (pv 1) (pe_callB k_len (by rfl) T.n_len (by decide +kernel) (pa_cons (pv 0) pa_nil)) (nomark _)) (pss_one (ps_ret (pe_ix o_ix (pv 0) (pv 1) (fun _ _ => rfl)))) pss_nil)
      (pss_one (ps_ret (pe_op o_add (pe_op o_add (pe_op o_mul (pe_op o_mul pe_int (pv 1)) (pv 1)) (pe_op o_mul pe_int (pv 1))) pe_int))))
theorem ok_law_mixed (T : Txt G mg) : FnOk P w G.K mg base CX0 1 T.a_law_mixed T.d_law_mixed ["cell", "k"] (sp0 (sp_law_mixed G)) := by
  refine T.F_law_mixed.ok sc_law_mixed (fun vs H Q E h => h.1) (fun cdv A outer s H vs Q E hr h => ⟨t_law_mixed G E0, ?_, h.2⟩)
  exact (pss_cons (pst 2 sc_law_mixed.nd (pe_op o_mod (pe_op o_add (pe_op o_add (pe_op o_add (pe_op o_mul (pv 0) pe_int) (pe_op o_mul (pe_op o_mul pe_int (pv 1)) (pv 1))) (pe_op o_mul pe_int (pv 1))) pe_int) pe_int))
      (pss_cons (pst 3 sc_law_mixed.nd (pe_lst (pa_cons pe_int (pa_cons pe_int (pa_cons pe_int (pa_cons pe_int (pa_cons pe_int (pa_cons pe_int (pa_cons pe_int pa_nil)))))))))
      (pss_cons (pst 2 sc_law_mixed.nd (pe_op o_mod (pe_op o_mul (pv 2) (pv 2)) (pe_ix o_ix (pv 3) (pe_op o_mod (pv 1) pe_int) (fun _ _ => rfl))))
      (pss_one (ps_ret (pe_op o_div (pe_op o_add (pe_op o_mul (pv 2) pe_int) (pe_op o_mod (pv 0) pe_int)) pe_int))))))
theorem ok_law_kinds_v3 (T : Txt G mg) : FnOk P w G.K mg base CX0 2 T.a_law_kinds_v3 T.d_law_kinds_v3 ["cell"] (sp0 (sp_law_kinds_v3 G)) := by
  refine T.F_law_kinds_v3.ok sc_law_kinds_v3 (fun vs H Q E h => h.1) (fun cdv A outer s H vs Q E hr h => ⟨t_law_kinds_v3 G E0, ?_, h.2⟩)
  exact (pss_cons (pst 1 sc_law_kinds_v3.nd (pe_op o_add (pe_listRg (by rfl) (by rfl) T.n_list (prg_2 (by rfl) T.n_range pe_int pe_int)) (pe_lst (pa_cons pe_str pa_nil))))
      (pss_cons (pst 2 sc_law_kinds_v3.nd (pe_lst pa_nil))
      (pss_cons (ps_for PassesOwn.never (by rfl) (pi_range1 (by rfl) T.n_range (pa_cons (pe_op o_add pe_int (pe_op o_mod (pv 0) pe_int)) pa_nil)) (pgn 3 sc_law_kinds_v3.nd) (pss_one (ps_expr (pe_bm PySem.F.plainAttrs_list PySem.F.slot_list_append PySem.F.type_list_append mt_append (pv 2) (pa_cons (pe_bm PySem.F.plainAttrs_list PySem.F.slot_list_pop PySem.F.type_list_pop mt_popAt (pv 1) (pa_cons (pe_op o_mod (pcall (ok_law_mixed T) (hr.mono (by decide)) (by rfl) T.g_law_mixed T.F_law_mixed.kp T.b_law_mixed (pa_cons (pv 0) (pa_cons (pv 3) pa_nil))) (pe_callB k_len (by rfl) T.n_len (by decide +kernel) (pa_cons (pv 1) pa_nil))) pa_nil)) pa_nil)))))
      (pss_one (ps_ret (pv 2))))))
theorem ok_law_dots_v3 (T : Txt G mg) : FnOk P w G.K mg base CX0 1 T.a_law_dots_v3 T.d_law_dots_v3 ["kind", "k"] (sp0 (sp_law_dots_v3 G)) := by
  refine T.F_law_dots_v3.ok sc_law_dots_v3 (fun vs H Q E h => h.1) (fun cdv A outer s H vs Q E hr h => ⟨t_law_dots_v3 G E0, ?_, h.2⟩)
  exact (pss_cons (ps_if (pt_cmpR (o_eq hr.units) (pv 0) pe_str (nomark _)) (pss_one (ps_ret (pe_op o_mul (pe_op o_mul (pv 1) (pv 1)) (pv 1)))) pss_nil)
      (pss_cons (pst 2 sc_law_dots_v3.nd pe_int)
      (pss_cons (pst 3 sc_law_dots_v3.nd (pe_op o_sub (pv 0) pe_int))
      (pss_cons (ps_for PassesOwn.never (by rfl) (pi_range1 (by rfl) T.n_range (pa_cons (pe_op o_sub (pv 1) pe_int) pa_nil)) (pgn 4 sc_law_dots_v3.nd) (pss_cons (pst 2 sc_law_dots_v3.nd (pe_op o_add (pv 2) (pv 3)))
      (pss_one (pst 3 sc_law_dots_v3.nd (pe_op o_sub (pe_op o_add (pv 3) (pv 0)) pe_int)))))
      (pss_one (ps_ret (pv 2)))))))
theorem ok_law_stock_v4 (T : Txt G mg) : FnOk P w G.K mg base CX0 2 T.a_law_stock_v4 T.d_law_stock_v4 ["kinds", "b"] (sp0 (sp_law_stock_v4 G)) := by
  refine T.F_law_stock_v4.ok sc_law_stock_v4 (fun vs H Q E h => h.1) (fun cdv A outer s H vs Q E hr h => ⟨t_law_stock_v4 G E0, ?_, h.2⟩)
  exact (pss_cons (pst 2 sc_law_stock_v4.nd pe_dnewK)
      (pss_cons (ps_for PassesOwn.never (by rfl) (pi_list (pv 0)) (pgn 3 sc_law_stock_v4.nd) (pss_cons (pst 4 sc_law_stock_v4.nd pe_int)
      (pss_one (ps_while PassesOwn.never (pt_cmpR o_le (pcall (ok_law_dots_v3 T) (hr.mono (by decide)) (by rfl) T.g_law_dots T.F_law_dots_v3.kp T.b_law_dots_v3 (pa_cons (pv 3) (pa_cons (pv 4) pa_nil))) (pv 1) (nomark _)) (pss_cons (ps_asg pe_bl (pg_sub (pv 2) (pcall (ok_law_dots_v3 T) (hr.mono (by decide)) (by rfl) T.g_law_dots T.F_law_dots_v3.kp T.b_law_dots_v3 (pa_cons (pv 3) (pa_cons (pv 4) pa_nil))) (s_any (hu_of hr))))
      (pss_one (pst 4 sc_law_stock_v4.nd (pe_op o_add (pv 4) pe_int))))))))
      (pss_one (ps_ret (pe_callB (k_sorted (by rfl)) (by rfl) T.n_sorted (by decide +kernel) (pa_cons (pv 2) pa_nil))))))
theorem ok_law_sums_v2 (T : Txt G mg) : FnOk P w G.K mg base CX0 1 T.a_law_sums_v2 T.d_law_sums_v2 ["stock", "n"] (sp0 (sp_law_sums_v2 G)) := by
  refine T.F_law_sums_v2.ok sc_law_sums_v2 (fun vs H Q E h => h.1) (fun cdv A outer s H vs Q E hr h => ⟨t_law_sums_v2 G E0, ?_, h.2⟩)
  exact (pss_cons (pst 2 sc_law_sums_v2.nd (pe_lst pa_nil))
      (pss_cons (pst 3 sc_law_sums_v2.nd (pe_lst (pa_cons (pe_tup (pa_cons (pe_lst pa_nil) (pa_cons (pv 1) pa_nil))) pa_nil)))
      (pss_cons (ps_while PassesOwn.never (pt_cmpR (o_ne hr.units) (pv 3) (pe_lst pa_nil) (nomark _)) (pss_cons (ps_asg (pe_bm0 PySem.F.plainAttrs_list PySem.F.slot_list_pop PySem.F.type_list_pop mt_pop (pv 3)) (pg_tup (by rfl) (pgs_cons (pgn 4 sc_law_sums_v2.nd) (pgs_cons (pgn 5 sc_law_sums_v2.nd) pgs_nil))))
      (pss_cons (ps_if (pt_cmpR (o_eq hr.units) (pv 5) pe_int (nomark _)) (pss_one (ps_expr (pe_bm PySem.F.plainAttrs_list PySem.F.slot_list_append PySem.F.type_list_append mt_append (pv 2) (pa_cons (pv 4) pa_nil)))) pss_nil)
      (pss_one (ps_for PassesOwn.never (by rfl) (pi_list (pv 0)) (pgn 6 sc_law_sums_v2.nd) (pss_one (ps_if (pt_cmpR o_le (pv 6) (pe_callB (k_min (by rfl)) (by rfl) T.n_min (by decide +kernel) (pa_cons (pe_op o_add (pe_lst (pa_cons (pv 5) pa_nil)) (pe_slice o_sl (pv 4) (po_some (pe_un o_neg pe_int)) po_none)) pa_nil)) (nomark _)) (pss_one (ps_expr (pe_bm PySem.F.plainAttrs_list PySem.F.slot_list_append PySem.F.type_list_append mt_append (pv 3) (pa_cons (pe_tup (pa_cons (pe_op o_add (pv 4) (pe_lst (pa_cons (pv 6) pa_nil))) (pa_cons (pe_op o_sub (pv 5) (pv 6)) pa_nil))) pa_nil)))) pss_nil)))))))
      (pss_one (ps_ret (pe_callB (k_sortedLL hr.units) (by rfl) T.n_sorted (by decide +kernel) (pa_cons (pv 2) pa_nil)))))))
theorem ok_law_stock_good (T : Txt G mg) : FnOk P w G.K mg base CX0 6 T.a_law_stock_good T.d_law_stock_good ["kinds", "n", "stock"] (sp0 (sp_law_stock_good G)) := by
  refine T.F_law_stock_good.ok sc_law_stock_good (fun vs H Q E h => h.1) (fun cdv A outer s H vs Q E hr h => ⟨t_law_stock_good G E0, ?_, h.2⟩)
  exact (pss_cons (ps_if (pt_cmpR (o_ne hr.units) (pcall (ok_stock_to T) (hr.mono (by decide)) (by rfl) T.g_stock_to T.F_stock_to.kp T.b_stock_to (pa_cons (pv 0) (pa_cons (pv 1) pa_nil))) (pv 2) (nomark _)) (pss_one (ps_ret pe_bl)) pss_nil)
      (pss_cons (ps_for PassesOwn.never (by rfl) (pi_list (pv 0)) (pgn 3 sc_law_stock_good.nd) (pss_cons (ps_setLc (i := 4) (own := [("k", 7)]) (g := (gName 7)) (tt := tYes) (by rfl) sc_law_stock_good.nd rfl rfl (sw_true rfl rfl rfl (by decide +kernel))  (pi_range2 (by rfl) T.n_range (pa_cons pe_int (pa_cons pe_int pa_nil))) (blkOk_by (own := [("k", 7)]) (N := ["kinds", "n", "stock", "kind", "first", "total", "due", "k"]) (sc := defScope s_law_stock_good) (by decide +kernel)) (fun _ _ _ _ _ => (pgn 7 sc_law_stock_good.nd)) (fun _ _ _ _ _ => pts_nil) (fun _ _ _ _ _ => (pcall (ok_law_dots_v3 T) (hr.mono (by decide)) (by rfl) T.g_law_dots T.F_law_dots_v3.kp T.b_law_dots_v3 (pa_cons (pv 3) (pa_cons (pv 7) pa_nil)))))
      (pss_cons (ps_if (pt_cmpR (o_ne hr.units) (pe_lc (own := [("k", 7)]) (g := (gName 7)) (tt := tYes) (by rfl) sc_law_stock_good.nd  (pi_range2 (by rfl) T.n_range (pa_cons pe_int (pa_cons pe_int pa_nil))) (blkOk_by (own := [("k", 7)]) (N := ["kinds", "n", "stock", "kind", "first", "total", "due", "k"]) (sc := defScope s_law_stock_good) (by decide +kernel)) (fun _ _ _ _ _ => (pgn 7 sc_law_stock_good.nd)) (fun _ _ _ _ _ => pts_nil) (fun _ _ _ _ _ => (pcall (ok_number_of_dots T) (hr.mono (by decide)) (by rfl) T.g_number_of_dots T.F_number_of_dots.kp T.b_number_of_dots (pa_cons (pv 3) (pa_cons (pv 7) pa_nil))))) (pv 4) (nomark _)) (pss_one (ps_ret pe_bl)) pss_nil)
      (pss_one (ps_for PassesOwn.never (by rfl) (pi_range2 (by rfl) T.n_range (pa_cons pe_int (pa_cons (pe_op o_add (pv 1) pe_int) pa_nil))) (pgn 5 sc_law_stock_good.nd) (pss_cons (pst 6 sc_law_stock_good.nd pe_non)
      (pss_cons (ps_if (pt_cmpR o_in (pv 5) (pv 4) (by rfl)) (pss_one (pst 6 sc_law_stock_good.nd (pe_op o_add (pe_bm PySem.F.plainAttrs_list PySem.F.slot_list_index PySem.F.type_list_index mt_index (pv 4) (pa_cons (pv 5) pa_nil)) pe_int))) pss_nil)
      (pss_one (ps_if (PW.pt (pw_and (pt_cmpR o_le (pv 5) (pe_ix o_ix (pv 4) (pe_un o_neg pe_int) (fun _ _ => rfl)) (nomark _)) (pw_and1 (pt_cmpR (o_ne hr.units) (pcall (ok_place_in T) (hr.mono (by decide)) (by rfl) T.g_place_in T.F_place_in.kp T.b_place_in (pa_cons (pv 3) (pa_cons (pv 5) pa_nil))) (pv 6) (nomark _))))) (pss_one (ps_ret pe_bl)) pss_nil)))))))))
      (pss_one (ps_ret pe_bl))))
theorem ok_law_sums_good (T : Txt G mg) : FnOk P w G.K mg base CX0 8 T.a_law_sums_good T.d_law_sums_good ["kinds", "n", "every"] (sp0 (sp_law_sums_good G)) := by
  refine T.F_law_sums_good.ok sc_law_sums_good (fun vs H Q E h => h.1) (fun cdv A outer s H vs Q E hr h => ⟨t_law_sums_good G E0, ?_, h.2⟩)
  exact (pss_cons (pst 3 sc_law_sums_good.nd (pe_ix o_ix (pv 2) (pv 1) (fun _ _ => rfl)))
      (pss_cons (pst 4 sc_law_sums_good.nd (pe_callB (k_min (by rfl)) (by rfl) T.n_min (by decide +kernel) (pa_cons (pe_lc (own := [("parts", 10)]) (g := (gName 10)) (tt := tYes) (by rfl) sc_law_sums_good.nd  (pi_list (pv 3)) (blkOk_by (own := [("parts", 10)]) (N := ["kinds", "n", "every", "sums", "few", "best", "k", "some", "less", "j", "parts"]) (sc := defScope s_law_sums_good) (by decide +kernel)) (fun _ _ _ _ _ => (pgn 10 sc_law_sums_good.nd)) (fun _ _ _ _ _ => pts_nil) (fun _ _ _ _ _ => (pe_callB k_len (by rfl) T.n_len (by decide +kernel) (pa_cons (pv 10) pa_nil)))) pa_nil)))
      (pss_cons (ps_setLc (i := 5) (own := [("parts", 10)]) (g := (gName 10)) (tt := (tTest (tOp (uEq G.K) (tCB (uLen G.K) (tCons (tVar 10) tNil)) (tVar 4)))) (by rfl) sc_law_sums_good.nd rfl rfl (sw_true rfl rfl rfl (by decide +kernel))  (pi_list (pv 3)) (blkOk_by (own := [("parts", 10)]) (N := ["kinds", "n", "every", "sums", "few", "best", "k", "some", "less", "j", "parts"]) (sc := defScope s_law_sums_good) (by decide +kernel)) (fun _ _ _ _ _ => (pgn 10 sc_law_sums_good.nd)) (fun _ _ _ _ _ => (pts_one (pt_cmpR (o_eq hr.units) (pe_callB k_len (by rfl) T.n_len (by decide +kernel) (pa_cons (pv 10) pa_nil)) (pv 4) (nomark _)))) (fun _ _ _ _ _ => (pv 10)))
      (pss_cons (ps_if (PW.pt (pw_or (pt_cmpR (o_ne hr.units) (pcall (ok_fewest_parts T) (hr.mono (by decide)) (by rfl) T.g_fewest_parts T.F_fewest_parts.kp T.b_fewest_parts (pa_cons (pv 0) (pa_cons (pv 1) pa_nil))) (pv 4) (nomark _)) (pw_or1 (pt_cmpR (o_ne hr.units) (pcall (ok_first_sum T) (hr.mono (by decide)) (by rfl) T.g_first_sum T.F_first_sum.kp T.b_first_sum (pa_cons (pv 0) (pa_cons (pv 1) pa_nil))) (pe_ix o_ix (pv 5) pe_int (fun _ _ => rfl)) (nomark _))))) (pss_one (ps_ret pe_bl)) pss_nil)
      (pss_cons (ps_if (pt_cmpR (o_ne hr.units) (pcall (ok_count_sums T) (hr.mono (by decide)) (by rfl) T.g_count_sums T.F_count_sums.kp T.b_count_sums (pa_cons (pv 0) (pa_cons (pv 1) pa_nil))) (pe_callB k_len (by rfl) T.n_len (by decide +kernel) (pa_cons (pv 3) pa_nil)) (nomark _)) (pss_one (ps_ret pe_bl)) pss_nil)
      (pss_cons (ps_for PassesOwn.never (by rfl) (pi_range1 (by rfl) T.n_range (pa_cons (pe_op o_add (pv 1) pe_int) pa_nil)) (pgn 6 sc_law_sums_good.nd) (pss_cons (ps_setLc (i := 7) (own := [("parts", 10)]) (g := (gName 10)) (tt := (tTest (tOp (uEq G.K) (tCB (uLen G.K) (tCons (tVar 10) tNil)) (tVar 6)))) (by rfl) sc_law_sums_good.nd rfl rfl (sw_true rfl rfl rfl (by decide +kernel))  (pi_list (pv 3)) (blkOk_by (own := [("parts", 10)]) (N := ["kinds", "n", "every", "sums", "few", "best", "k", "some", "less", "j", "parts"]) (sc := defScope s_law_sums_good) (by decide +kernel)) (fun _ _ _ _ _ => (pgn 10 sc_law_sums_good.nd)) (fun _ _ _ _ _ => (pts_one (pt_cmpR (o_eq hr.units) (pe_callB k_len (by rfl) T.n_len (by decide +kernel) (pa_cons (pv 10) pa_nil)) (pv 6) (nomark _)))) (fun _ _ _ _ _ => (pv 10)))
      (pss_cons (ps_if (pt_cmpR (o_ne hr.units) (pcall (ok_count_just T) (hr.mono (by decide)) (by rfl) T.g_count_just T.F_count_just.kp T.b_count_just (pa_cons (pv 0) (pa_cons (pv 1) (pa_cons (pv 6) pa_nil)))) (pe_callB k_len (by rfl) T.n_len (by decide +kernel) (pa_cons (pv 7) pa_nil)) (nomark _)) (pss_one (ps_ret pe_bl)) pss_nil)
      (pss_cons (ps_setLc (i := 8) (own := [("parts", 10)]) (g := (gName 10)) (tt := (tTest (tOp uLe (tCB (uLen G.K) (tCons (tVar 10) tNil)) (tVar 6)))) (by rfl) sc_law_sums_good.nd rfl rfl (sw_true rfl rfl rfl (by decide +kernel))  (pi_list (pv 3)) (blkOk_by (own := [("parts", 10)]) (N := ["kinds", "n", "every", "sums", "few", "best", "k", "some", "less", "j", "parts"]) (sc := defScope s_law_sums_good) (by decide +kernel)) (fun _ _ _ _ _ => (pgn 10 sc_law_sums_good.nd)) (fun _ _ _ _ _ => (pts_one (pt_cmpR o_le (pe_callB k_len (by rfl) T.n_len (by decide +kernel) (pa_cons (pv 10) pa_nil)) (pv 6) (nomark _)))) (fun _ _ _ _ _ => (pv 10)))
      (pss_cons (ps_if (pt_cmpR (o_ne hr.units) (pcall (ok_count_at_most T) (hr.mono (by decide)) (by rfl) T.g_count_at_most T.F_count_at_most.kp T.b_count_at_most (pa_cons (pv 0) (pa_cons (pv 1) (pa_cons (pv 6) pa_nil)))) (pe_callB k_len (by rfl) T.n_len (by decide +kernel) (pa_cons (pv 8) pa_nil)) (nomark _)) (pss_one (ps_ret pe_bl)) pss_nil)
      (pss_one (ps_for PassesOwn.never (by rfl) (pi_range3 (by rfl) T.n_range (pa_cons pe_int (pa_cons (pe_callB k_len (by rfl) T.n_len (by decide +kernel) (pa_cons (pv 7) pa_nil)) (pa_cons (pe_op o_add pe_int (pe_op o_div (pe_callB k_len (by rfl) T.n_len (by decide +kernel) (pa_cons (pv 7) pa_nil)) pe_int)) pa_nil)))) (pgn 9 sc_law_sums_good.nd) (pss_cons (ps_if (pt_cmpR (o_ne hr.units) (pcall (ok_sum_by T) (hr.mono (by decide)) (by rfl) T.g_sum_by T.F_sum_by.kp T.b_sum_by (pa_cons (pv 0) (pa_cons (pv 1) (pa_cons (pv 6) (pa_cons (pv 9) pa_nil))))) (pe_ix o_ix (pv 7) (pv 9) (fun _ _ => rfl)) (nomark _)) (pss_one (ps_ret pe_bl)) pss_nil)
      (pss_one (ps_if (pt_cmpR (o_ne hr.units) (pcall (ok_number_of T) (hr.mono (by decide)) (by rfl) T.g_number_of T.F_number_of.kp T.b_number_of (pa_cons (pv 0) (pa_cons (pv 1) (pa_cons (pv 6) (pa_cons (pe_callTy (k_list (by rfl)) (by rfl) T.n_list (by decide +kernel) (pa_cons (pe_ix o_ix (pv 7) (pv 9) (fun _ _ => rfl)) pa_nil)) pa_nil))))) (pv 9) (nomark _)) (pss_one (ps_ret pe_bl)) pss_nil))))))))))
      (pss_one (ps_ret pe_bl))))))))
theorem ok_law_near_good_v2 (T : Txt G mg) : FnOk P w G.K mg base CX0 6 T.a_law_near_good_v2 T.d_law_near_good_v2 ["kinds", "n", "sums", "cell"] (sp0 (sp_law_near_good_v2 G)) := by
  refine T.F_law_near_good_v2.ok sc_law_near_good_v2 (fun vs H Q E h => h.1) (fun cdv A outer s H vs Q E hr h => ⟨t_law_near_good_v2 G E0, ?_, h.2⟩)
  exact (pss_cons (ps_for PassesOwn.never (by rfl) (pi_range1 (by rfl) T.n_range (pa_cons pe_int pa_nil)) (pgn 4 sc_law_near_good_v2.nd) (pss_cons (pst 5 sc_law_near_good_v2.nd (pe_callTy (k_list (by rfl)) (by rfl) T.n_list (by decide +kernel) (pa_cons (pe_ix o_ix (pv 2) (pe_op o_mod (pcall (ok_law_mixed T) (hr.mono (by decide)) (by rfl) T.g_law_mixed T.F_law_mixed.kp T.b_law_mixed (pa_cons (pv 3) (pa_cons (pv 4) pa_nil))) (pe_callB k_len (by rfl) T.n_len (by decide +kernel) (pa_cons (pv 2) pa_nil))) (fun _ _ => rfl)) pa_nil)))
      (pss_cons (pst 6 sc_law_near_good_v2.nd (pe_op o_mod (pcall (ok_law_mixed T) (hr.mono (by decide)) (by rfl) T.g_law_mixed T.F_law_mixed.kp T.b_law_mixed (pa_cons (pv 3) (pa_cons (pe_op o_add pe_int (pv 4)) pa_nil))) (pe_op o_add (pe_callB k_len (by rfl) T.n_len (by decide +kernel) (pa_cons (pv 5) pa_nil)) pe_int)))
      (pss_cons (pst 7 sc_law_near_good_v2.nd (pe_op o_mod (pcall (ok_law_mixed T) (hr.mono (by decide)) (by rfl) T.g_law_mixed T.F_law_mixed.kp T.b_law_mixed (pa_cons (pv 3) (pa_cons (pe_op o_add pe_int (pv 4)) pa_nil))) (pe_op o_add (pv 1) pe_int)))
      (pss_cons (pst 8 sc_law_near_good_v2.nd (pe_op o_add (pe_op o_add (pe_slice o_sl (pv 5) po_none (po_some (pv 6))) (pe_lst (pa_cons (pv 7) pa_nil))) (pe_slice o_sl (pv 5) (po_some (pe_op o_add (pv 6) (pe_op o_mod (pv 4) pe_int))) po_none)))
      (pss_cons (ps_if (pt_cmpR (o_eq hr.units) (pe_op o_mod (pv 4) pe_int) pe_int (nomark _)) (pss_one (pst 8 sc_law_near_good_v2.nd (pe_revL (pv 5)))) pss_nil)
      (pss_one (ps_if (pt_cmpR (o_ne hr.units) (pcall (ok_is_sum T) (hr.mono (by decide)) (by rfl) T.g_is_sum T.F_is_sum.kp T.b_is_sum (pa_cons (pv 0) (pa_cons (pv 1) (pa_cons (pv 8) pa_nil)))) (pe_cmpR (o_inDp hr) (pv 8) (pv 2) (by rfl)) (nomark _)) (pss_one (ps_ret pe_bl)) pss_nil))))))))
      (pss_one (ps_ret pe_bl)))
theorem ok_law_unlike_good (T : Txt G mg) : FnOk P w G.K mg base CX0 7 T.a_law_unlike_good T.d_law_unlike_good ["kinds", "n", "every"] (sp0 (sp_law_unlike_good G)) := by
  refine T.F_law_unlike_good.ok sc_law_unlike_good (fun vs H Q E h => h.1) (fun cdv A outer s H vs Q E hr h => ⟨t_law_unlike_good G E0, ?_, h.2⟩)
  exact (pss_cons (ps_setLc (i := 3) (own := [("parts", 8)]) (g := (gName 8)) (tt := (tTest (tOp (uEq G.K) (tLenSet G.K (tVar 8)) (tCB (uLen G.K) (tCons (tVar 8) tNil))))) (by rfl) sc_law_unlike_good.nd rfl rfl (sw_true rfl rfl rfl (by decide +kernel))  (pi_list (pe_ix o_ix (pv 2) (pv 1) (fun _ _ => rfl))) (blkOk_by (own := [("parts", 8)]) (N := ["kinds", "n", "every", "some", "few", "first", "none", "total", "parts"]) (sc := defScope s_law_unlike_good) (by decide +kernel)) (fun _ _ _ _ _ => (pgn 8 sc_law_unlike_good.nd)) (fun _ _ _ _ _ => (pts_one (pt_cmpR (o_eq hr.units) (pe_lenSet (by rfl) T.n_len (by rfl) T.n_set (pv 8)) (pe_callB k_len (by rfl) T.n_len (by decide +kernel) (pa_cons (pv 8) pa_nil)) (nomark _)))) (fun _ _ _ _ _ => (pv 8)))
      (pss_cons (pst 4 sc_law_unlike_good.nd pe_non)
      (pss_cons (pst 5 sc_law_unlike_good.nd pe_non)
      (pss_cons (ps_if (pt_cmpR (o_ne hr.units) (pv 3) (pe_lst pa_nil) (nomark _)) (pss_cons (pst 4 sc_law_unlike_good.nd (pe_callB (k_min (by rfl)) (by rfl) T.n_min (by decide +kernel) (pa_cons (pe_lc (own := [("parts", 8)]) (g := (gName 8)) (tt := tYes) (by rfl) sc_law_unlike_good.nd  (pi_list (pv 3)) (blkOk_by (own := [("parts", 8)]) (N := ["kinds", "n", "every", "some", "few", "first", "none", "total", "parts"]) (sc := defScope s_law_unlike_good) (by decide +kernel)) (fun _ _ _ _ _ => (pgn 8 sc_law_unlike_good.nd)) (fun _ _ _ _ _ => pts_nil) (fun _ _ _ _ _ => (pe_callB k_len (by rfl) T.n_len (by decide +kernel) (pa_cons (pv 8) pa_nil)))) pa_nil)))
      (pss_one (pst 5 sc_law_unlike_good.nd (pe_ix o_ix (pe_lc (own := [("parts", 8)]) (g := (gName 8)) (tt := (tTest (tOp (uEq G.K) (tCB (uLen G.K) (tCons (tVar 8) tNil)) (tVar 4)))) (by rfl) sc_law_unlike_good.nd  (pi_list (pv 3)) (blkOk_by (own := [("parts", 8)]) (N := ["kinds", "n", "every", "some", "few", "first", "none", "total", "parts"]) (sc := defScope s_law_unlike_good) (by decide +kernel)) (fun _ _ _ _ _ => (pgn 8 sc_law_unlike_good.nd)) (fun _ _ _ _ _ => (pts_one (pt_cmpR (o_eq hr.units) (pe_callB k_len (by rfl) T.n_len (by decide +kernel) (pa_cons (pv 8) pa_nil)) (pv 4) (nomark _)))) (fun _ _ _ _ _ => (pv 8))) pe_int (fun _ _ => rfl))))) pss_nil)
      (pss_cons (ps_if (PW.pt (pw_or (pt_cmpR (o_ne hr.units) (pcall (ok_fewest_unlike T) (hr.mono (by decide)) (by rfl) T.g_fewest_unlike T.F_fewest_unlike.kp T.b_fewest_unlike (pa_cons (pv 0) (pa_cons (pv 1) pa_nil))) (pv 4) (nomark _)) (pw_or1 (pt_cmpR (o_ne hr.units) (pcall (ok_first_unlike T) (hr.mono (by decide)) (by rfl) T.g_first_unlike T.F_first_unlike.kp T.b_first_unlike (pa_cons (pv 0) (pa_cons (pv 1) pa_nil))) (pv 5) (nomark _))))) (pss_one (ps_ret pe_bl)) pss_nil)
      (pss_cons (ps_if (pt_cmpR (o_ne hr.units) (pcall (ok_count_unlike T) (hr.mono (by decide)) (by rfl) T.g_count_unlike T.F_count_unlike.kp T.b_count_unlike (pa_cons (pv 0) (pa_cons (pv 1) pa_nil))) (pe_callB k_len (by rfl) T.n_len (by decide +kernel) (pa_cons (pv 3) pa_nil)) (nomark _)) (pss_one (ps_ret pe_bl)) pss_nil)
      (pss_cons (pst 6 sc_law_unlike_good.nd (pe_lst pa_nil))
      (pss_cons (ps_for PassesOwn.never (by rfl) (pi_range1 (by rfl) T.n_range (pa_cons (pe_op o_add (pv 1) pe_int) pa_nil)) (pgn 7 sc_law_unlike_good.nd) (pss_one (ps_if (pt_cmpR (o_eq hr.units) (pe_lc (own := [("parts", 8)]) (g := (gName 8)) (tt := (tTest (tOp (uEq G.K) (tLenSet G.K (tVar 8)) (tCB (uLen G.K) (tCons (tVar 8) tNil))))) (by rfl) sc_law_unlike_good.nd  (pi_list (pe_ix o_ix (pv 2) (pv 7) (fun _ _ => rfl))) (blkOk_by (own := [("parts", 8)]) (N := ["kinds", "n", "every", "some", "few", "first", "none", "total", "parts"]) (sc := defScope s_law_unlike_good) (by decide +kernel)) (fun _ _ _ _ _ => (pgn 8 sc_law_unlike_good.nd)) (fun _ _ _ _ _ => (pts_one (pt_cmpR (o_eq hr.units) (pe_lenSet (by rfl) T.n_len (by rfl) T.n_set (pv 8)) (pe_callB k_len (by rfl) T.n_len (by decide +kernel) (pa_cons (pv 8) pa_nil)) (nomark _)))) (fun _ _ _ _ _ => (pv 8))) (pe_lst pa_nil) (nomark _)) (pss_one (ps_expr (pe_bm PySem.F.plainAttrs_list PySem.F.slot_list_append PySem.F.type_list_append mt_append (pv 6) (pa_cons (pv 7) pa_nil)))) pss_nil)))
      (pss_one (ps_ret (pe_cmpR (o_eq hr.units) (pcall (ok_without_unlike T) (hr.mono (by decide)) (by rfl) T.g_without_unlike T.F_without_unlike.kp T.b_without_unlike (pa_cons (pv 0) (pa_cons (pv 1) pa_nil))) (pv 6) (nomark _))))))))))))
theorem ok_law_needs_good (T : Txt G mg) : FnOk P w G.K mg base CX0 8 T.a_law_needs_good T.d_law_needs_good ["kinds", "n", "needs"] (sp0 (sp_law_needs_good G)) := by
  refine T.F_law_needs_good.ok sc_law_needs_good (fun vs H Q E h => h.1) (fun cdv A outer s H vs Q E hr h => ⟨t_law_needs_good G E0, ?_, h.2⟩)
  exact (pss_cons (ps_if (PW.pt (pw_or (pt_cmpR (o_ne hr.units) (pcall (ok_fewest_to T) (hr.mono (by decide)) (by rfl) T.g_fewest_to T.F_fewest_to.kp T.b_fewest_to (pa_cons (pv 0) (pa_cons (pv 1) pa_nil))) (pv 2) (nomark _)) (pw_or1 (pt_cmpR (o_ne hr.units) (pcall (ok_most_needed T) (hr.mono (by decide)) (by rfl) T.g_most_needed T.F_most_needed.kp T.b_most_needed (pa_cons (pv 0) (pa_cons (pv 1) pa_nil))) (pe_callB (k_max (by rfl)) (by rfl) T.n_max (by decide +kernel) (pa_cons (pv 2) pa_nil)) (nomark _))))) (pss_one (ps_ret pe_bl)) pss_nil)
      (pss_cons (ps_for PassesOwn.never (by rfl) (pi_range1 (by rfl) T.n_range (pa_cons (pe_op o_add (pe_callB (k_max (by rfl)) (by rfl) T.n_max (by decide +kernel) (pa_cons (pv 2) pa_nil)) pe_int) pa_nil)) (pgn 3 sc_law_needs_good.nd) (pss_cons (ps_setLc (i := 4) (own := [("total", 5)]) (g := (gName 5)) (tt := (tTest (tOp (uEq G.K) (tOp (uIx G.K) (tVar 2) (tVar 5)) (tVar 3)))) (by rfl) sc_law_needs_good.nd rfl rfl (sw_true rfl rfl rfl (by decide +kernel))  (pi_range1 (by rfl) T.n_range (pa_cons (pe_op o_add (pv 1) pe_int) pa_nil)) (blkOk_by (own := [("total", 5)]) (N := ["kinds", "n", "needs", "k", "some", "total"]) (sc := defScope s_law_needs_good) (by decide +kernel)) (fun _ _ _ _ _ => (pgn 5 sc_law_needs_good.nd)) (fun _ _ _ _ _ => (pts_one (pt_cmpR (o_eq hr.units) (pe_ix o_ix (pv 2) (pv 5) (fun _ _ => rfl)) (pv 3) (nomark _)))) (fun _ _ _ _ _ => (pv 5)))
      (pss_cons (ps_if (pt_cmpR (o_ne hr.units) (pcall (ok_needing T) (hr.mono (by decide)) (by rfl) T.g_needing T.F_needing.kp T.b_needing (pa_cons (pv 0) (pa_cons (pv 3) (pa_cons (pv 1) pa_nil)))) (pv 4) (nomark _)) (pss_one (ps_ret pe_bl)) pss_nil)
      (pss_one (ps_if (pt_cmpR (o_ne hr.units) (pcall (ok_greatest_needing T) (hr.mono (by decide)) (by rfl) T.g_greatest_needing T.F_greatest_needing.kp T.b_greatest_needing (pa_cons (pv 0) (pa_cons (pv 3) (pa_cons (pv 1) pa_nil)))) (pe_ix o_ix (pe_op o_add (pe_lst (pa_cons pe_non pa_nil)) (pv 4)) (pe_un o_neg pe_int) (fun _ _ => rfl)) (nomark _)) (pss_one (ps_ret pe_bl)) pss_nil)))))
      (pss_one (ps_ret (pe_cmpR (o_eq hr.units) (pcall (ok_counts_by_need T) (hr.mono (by decide)) (by rfl) T.g_counts_by_need T.F_counts_by_need.kp T.b_counts_by_need (pa_cons (pv 0) (pa_cons (pv 1) pa_nil))) (pe_lc (own := [("k", 3)]) (g := (gName 3)) (tt := tYes) (by rfl) sc_law_needs_good.nd  (pi_range1 (by rfl) T.n_range (pa_cons (pe_op o_add (pe_callB (k_max (by rfl)) (by rfl) T.n_max (by decide +kernel) (pa_cons (pv 2) pa_nil)) pe_int) pa_nil)) (blkOk_by (own := [("k", 3)]) (N := ["kinds", "n", "needs", "k", "some", "total"]) (sc := defScope s_law_needs_good) (by decide +kernel)) (fun _ _ _ _ _ => (pgn 3 sc_law_needs_good.nd)) (fun _ _ _ _ _ => pts_nil) (fun _ _ _ _ _ => (pe_bm PySem.F.plainAttrs_list PySem.F.slot_list_count PySem.F.type_list_count mt_cntV (pv 2) (pa_cons (pv 3) pa_nil)))) (nomark _))))))
theorem ok_law_shows_v2 (T : Txt G mg) : FnOk P w G.K mg base CX0 1 T.a_law_shows_v2 T.d_law_shows_v2 ["stock", "n", "m", "paper"] (sp0 (sp_law_shows_v2 G)) := by
  refine T.F_law_shows_v2.ok sc_law_shows_v2 (fun vs H Q E h => h.1) (fun cdv A outer s H vs Q E hr h => ⟨t_law_shows_v2 G E0, ?_, h.2⟩)
  exact (pss_cons (ps_if (PW.pt (pw_or (pt_cmpR (o_ne hr.units) (pe_callB k_len (by rfl) T.n_len (by decide +kernel) (pa_cons (pv 3) pa_nil)) (pe_op o_add (pv 1) pe_int) (nomark _)) (pw_or (pt_cmpR (o_ne hr.units) (pe_ix o_ix (pv 3) pe_int (fun _ _ => rfl)) pe_int (nomark _)) (pw_or1 (pt_cmpR o_lt (pe_ix o_ix (pv 3) (pe_un o_neg pe_int) (fun _ _ => rfl)) (pv 2) (nomark _)))))) (pss_one (ps_ret pe_bl)) pss_nil)
      (pss_cons (ps_for PassesOwn.never (by rfl) (pi_range2 (by rfl) T.n_range (pa_cons pe_int (pa_cons (pe_op o_add (pv 1) pe_int) pa_nil))) (pgn 4 sc_law_shows_v2.nd) (pss_one (ps_for PassesOwn.never (by rfl) (pi_list (pv 0)) (pgn 5 sc_law_shows_v2.nd) (pss_one (ps_if (PW.pt (pw_and (pt_cmpR o_le (pv 5) (pv 4) (nomark _)) (pw_and1 (pt_cmpR o_gt (pe_ix o_ix (pv 3) (pv 4) (fun _ _ => rfl)) (pe_op o_add (pe_ix o_ix (pv 3) (pe_op o_sub (pv 4) (pv 5)) (fun _ _ => rfl)) pe_int) (nomark _))))) (pss_one (ps_ret pe_bl)) pss_nil)))))
      (pss_one (ps_ret pe_bl))))
theorem ok_law_papers_good (T : Txt G mg) : FnOk P w G.K mg base CX0 7 T.a_law_papers_good T.d_law_papers_good ["kinds", "n", "stock", "needs", "cell"] (sp0 (sp_law_papers_good G)) := by
  refine T.F_law_papers_good.ok sc_law_papers_good (fun vs H Q E h => h.1) (fun cdv A outer s H vs Q E hr h => ⟨t_law_papers_good G E0, ?_, h.2⟩)
  exact (pss_cons (pst 5 sc_law_papers_good.nd (pcall (ok_need_paper T) (hr.mono (by decide)) (by rfl) T.g_need_paper T.F_need_paper.kp T.b_need_paper (pa_cons (pv 0) (pa_cons (pv 1) pa_nil))))
      (pss_cons (ps_if (pt_not (pt_val (pcall (ok_paper_shows T) (hr.mono (by decide)) (by rfl) T.g_paper_shows T.F_paper_shows.kp T.b_paper_shows (pa_cons (pv 0) (pa_cons (pv 1) (pa_cons (pe_ix o_ix (pv 3) (pv 1) (fun _ _ => rfl)) (pa_cons (pv 5) pa_nil))))))) (pss_one (ps_ret pe_bl)) pss_nil)
      (pss_cons (ps_if (pt_val (pcall (ok_paper_shows T) (hr.mono (by decide)) (by rfl) T.g_paper_shows T.F_paper_shows.kp T.b_paper_shows (pa_cons (pv 0) (pa_cons (pv 1) (pa_cons (pe_op o_add (pe_ix o_ix (pv 3) (pv 1) (fun _ _ => rfl)) pe_int) (pa_cons (pv 5) pa_nil)))))) (pss_one (ps_ret pe_bl)) pss_nil)
      (pss_cons (ps_for PassesOwn.never (by rfl) (pi_range1 (by rfl) T.n_range (pa_cons pe_int pa_nil)) (pgn 6 sc_law_papers_good.nd) (pss_cons (pst 7 sc_law_papers_good.nd (pe_callTy (k_list (by rfl)) (by rfl) T.n_list (by decide +kernel) (pa_cons (pe_ix o_ix (pe_lst (pa_cons (pv 5) (pa_cons (pv 3) pa_nil))) (pe_op o_mod (pv 6) pe_int) (fun _ _ => rfl)) pa_nil)))
      (pss_cons (pst 8 sc_law_papers_good.nd (pe_op o_mod (pcall (ok_law_mixed T) (hr.mono (by decide)) (by rfl) T.g_law_mixed T.F_law_mixed.kp T.b_law_mixed (pa_cons (pv 4) (pa_cons (pv 6) pa_nil))) (pe_op o_add (pv 1) pe_int)))
      (pss_cons (ps_asg (pe_op o_add (pe_ix o_ix (pv 7) (pv 8) (fun _ _ => rfl)) (pe_ix o_ix (pe_lst (pa_cons (pe_un o_neg pe_int) (pa_cons pe_int (pa_cons (pe_un o_neg pe_int) (pa_cons pe_int pa_nil))))) (pe_op o_mod (pcall (ok_law_mixed T) (hr.mono (by decide)) (by rfl) T.g_law_mixed T.F_law_mixed.kp T.b_law_mixed (pa_cons (pv 4) (pa_cons (pe_op o_add pe_int (pv 6)) pa_nil))) pe_int) (fun _ _ => rfl))) (pg_sub (pv 7) (pv 8) (s_any (hu_of hr))))
      (pss_cons (pst 9 sc_law_papers_good.nd (pe_callB (k_max (by rfl)) (by rfl) T.n_max (by decide +kernel) (pa_cons pe_int (pa_cons (pe_op o_sub (pe_op o_add (pe_ix o_ix (pv 3) (pv 1) (fun _ _ => rfl)) (pe_op o_mod (pcall (ok_law_mixed T) (hr.mono (by decide)) (by rfl) T.g_law_mixed T.F_law_mixed.kp T.b_law_mixed (pa_cons (pv 4) (pa_cons (pe_op o_add pe_int (pv 6)) pa_nil))) pe_int)) pe_int) pa_nil))))
      (pss_cons (ps_if (pt_cmpR (o_eq hr.units) (pv 6) pe_int (nomark _)) (pss_one (ps_expr (pe_bm PySem.F.plainAttrs_list PySem.F.slot_list_append PySem.F.type_list_append mt_append (pv 7) (pa_cons pe_int pa_nil)))) pss_nil)
      (pss_one (ps_if (pt_cmpR (o_ne hr.units) (pcall (ok_paper_shows T) (hr.mono (by decide)) (by rfl) T.g_paper_shows T.F_paper_shows.kp T.b_paper_shows (pa_cons (pv 0) (pa_cons (pv 1) (pa_cons (pv 9) (pa_cons (pv 7) pa_nil))))) (pcall (ok_law_shows_v2 T) (hr.mono (by decide)) (by rfl) T.g_law_shows T.F_law_shows_v2.kp T.b_law_shows_v2 (pa_cons (pv 2) (pa_cons (pv 1) (pa_cons (pv 9) (pa_cons (pv 7) pa_nil))))) (nomark _)) (pss_one (ps_ret pe_bl)) pss_nil))))))))
      (pss_one (ps_ret pe_bl))))))
theorem ok_law_most_v2 (T : Txt G mg) : FnOk P w G.K mg base CX0 3 T.a_law_most_v2 T.d_law_most_v2 ["kinds", "n"] (sp0 (sp_law_most_v2 G)) := by
  refine T.F_law_most_v2.ok sc_law_most_v2 (fun vs H Q E h => h.1) (fun cdv A outer s H vs Q E hr h => ⟨t_law_most_v2 G E0, ?_, h.2⟩)
  exact (pss_cons (pst 2 sc_law_most_v2.nd (pcall (ok_law_stock_v4 T) (hr.mono (by decide)) (by rfl) T.g_law_stock T.F_law_stock_v4.kp T.b_law_stock_v4 (pa_cons (pv 0) (pa_cons (pv 1) pa_nil))))
      (pss_cons (pst 3 sc_law_most_v2.nd (pe_lst (pa_cons pe_int pa_nil)))
      (pss_cons (ps_for PassesOwn.never (by rfl) (pi_range2 (by rfl) T.n_range (pa_cons pe_int (pa_cons (pe_op o_add (pv 1) pe_int) pa_nil))) (pgn 4 sc_law_most_v2.nd) (pss_cons (ps_setLc (i := 5) (own := [("part", 6)]) (g := (gName 6)) (tt := (tTest (tOp uLe (tVar 6) (tVar 4)))) (by rfl) sc_law_most_v2.nd rfl rfl (sw_true rfl rfl rfl (by decide +kernel))  (pi_list (pv 2)) (blkOk_by (own := [("part", 6)]) (N := ["kinds", "n", "stock", "needs", "total", "below", "part"]) (sc := defScope s_law_most_v2) (by decide +kernel)) (fun _ _ _ _ _ => (pgn 6 sc_law_most_v2.nd)) (fun _ _ _ _ _ => (pts_one (pt_cmpR o_le (pv 6) (pv 4) (nomark _)))) (fun _ _ _ _ _ => (pe_ix o_ix (pv 3) (pe_op o_sub (pv 4) (pv 6)) (fun _ _ => rfl))))
      (pss_one (ps_expr (pe_bm PySem.F.plainAttrs_list PySem.F.slot_list_append PySem.F.type_list_append mt_append (pv 3) (pa_cons (pe_op o_add pe_int (pe_callB (k_min (by rfl)) (by rfl) T.n_min (by decide +kernel) (pa_cons (pv 5) pa_nil))) pa_nil))))))
      (pss_one (ps_ret (pv 3))))))
theorem ok_law_keeper_good (T : Txt G mg) : FnOk P w G.K mg base CX0 7 T.a_law_keeper_good T.d_law_keeper_good ["kinds", "n", "cell"] (sp0 (sp_law_keeper_good G)) := by
  refine T.F_law_keeper_good.ok sc_law_keeper_good (fun vs H Q E h => h.1) (fun cdv A outer s H vs Q E hr h => ⟨t_law_keeper_good G E0, ?_, h.2⟩)
  exact (pss_cons (ps_setLc (i := 3) (own := [("kind", 10)]) (g := (gName 10)) (tt := (tTest (tOp (uNotIn G.K) (tVar 10) (tVar 0)))) (by rfl) sc_law_keeper_good.nd rfl rfl (sw_true rfl rfl rfl (by decide +kernel))  (pi_list (pe_op o_add (pe_listRg (by rfl) (by rfl) T.n_list (prg_2 (by rfl) T.n_range pe_int pe_int)) (pe_lst (pa_cons pe_str pa_nil)))) (blkOk_by (own := [("kind", 10)]) (N := ["kinds", "n", "cell", "left", "one", "keeper", "before", "more", "both", "needs", "kind", "k"]) (sc := defScope s_law_keeper_good) (by decide +kernel)) (fun _ _ _ _ _ => (pgn 10 sc_law_keeper_good.nd)) (fun _ _ _ _ _ => (pts_one (pt_cmpR o_notIn (pv 10) (pv 0) (by rfl)))) (fun _ _ _ _ _ => (pv 10)))
      (pss_cons (pst 4 sc_law_keeper_good.nd (pe_ix o_ix (pv 3) (pe_op o_mod (pv 2) (pe_callB k_len (by rfl) T.n_len (by decide +kernel) (pa_cons (pv 3) pa_nil))) (fun _ _ => rfl)))
      (pss_cons (pst 5 sc_law_keeper_good.nd (pmk T.mk_Keeper (ok_Keeper___init__ T) (hr.mono (by decide)) (by rfl) T.g_Keeper T.b_Keeper___init__ (pa_cons (pe_callTy (k_list (by rfl)) (by rfl) T.n_list (by decide +kernel) (pa_cons (pv 0) pa_nil)) (pa_cons (pv 1) pa_nil))))
      (pss_cons (pst 6 sc_law_keeper_good.nd (pe_callB (k_max (by rfl)) (by rfl) T.n_max (by decide +kernel) (pa_cons (pcall (ok_law_most_v2 T) (hr.mono (by decide)) (by rfl) T.g_law_most T.F_law_most_v2.kp T.b_law_most_v2 (pa_cons (pv 0) (pa_cons (pv 1) pa_nil))) pa_nil)))
      (pss_cons (ps_if (pt_cmpR o_lt (pe_callB k_len (by rfl) T.n_len (by decide +kernel) (pa_cons (pv 0) pa_nil)) pe_int (nomark _)) (pss_cons (pst 7 sc_law_keeper_good.nd (pcall (ok_law_most_v2 T) (hr.mono (by decide)) (by rfl) T.g_law_most T.F_law_most_v2.kp T.b_law_most_v2 (pa_cons (pe_op o_add (pv 0) (pe_lst (pa_cons (pv 4) pa_nil))) (pa_cons (pv 1) pa_nil))))
      (pss_cons (pst 8 sc_law_keeper_good.nd (pe_op o_add (pv 0) (pe_lst (pa_cons (pv 4) pa_nil))))
      (pss_cons (ps_if (PW.pt (pw_or (pt_cmpR (o_ne hr.units) (pmt (pv 5) T.cl_Keeper T.mm_Keeper_come (ok_Keeper_come T) (hr.mono (by decide)) T.b_Keeper_come (pa_cons (pv 4) pa_nil)) (pe_tup (pa_cons (pv 6) (pa_cons (pe_callB (k_max (by rfl)) (by rfl) T.n_max (by decide +kernel) (pa_cons (pv 7) pa_nil)) pa_nil))) (nomark _)) (pw_or1 (pt_cmpR (o_ne hr.units) (pmt0 (pv 5) T.cl_Keeper T.mm_Keeper_kinds (ok_Keeper_kinds T) (hr.mono (by decide)) T.b_Keeper_kinds) (pv 8) (nomark _))))) (pss_one (ps_ret pe_bl)) pss_nil)
      (pss_cons (ps_if (pt_cmpR (o_ne hr.units) (pmt (pv 5) T.cl_Keeper T.mm_Keeper_fewest (ok_Keeper_fewest T) (hr.mono (by decide)) T.b_Keeper_fewest (pa_cons (pv 1) pa_nil)) (pe_ix o_ix (pv 7) (pv 1) (fun _ _ => rfl)) (nomark _)) (pss_one (ps_ret pe_bl)) pss_nil)
      (pss_cons (ps_if (pt_cmpR (o_ne hr.units) (pmt0 (pv 5) T.cl_Keeper T.mm_Keeper_stock (ok_Keeper_stock T) (hr.mono (by decide)) T.b_Keeper_stock) (pcall (ok_law_stock_v4 T) (hr.mono (by decide)) (by rfl) T.g_law_stock T.F_law_stock_v4.kp T.b_law_stock_v4 (pa_cons (pv 8) (pa_cons (pv 1) pa_nil))) (nomark _)) (pss_one (ps_ret pe_bl)) pss_nil)
      (pss_cons (ps_if (pt_cmpR (o_ne hr.units) (pe_lc (own := [("k", 11)]) (g := (gName 11)) (tt := (tTest (tOp uGt (tOp (uIx G.K) (tVar 7) (tVar 11)) (tOp (uIx G.K) (tCall (sp_law_most_v2 G) [] E0 (tCons (tVar 0) (tCons (tVar 1) tNil))) (tVar 11))))) (by rfl) sc_law_keeper_good.nd  (pi_range1 (by rfl) T.n_range (pa_cons (pe_op o_add (pv 1) pe_int) pa_nil)) (blkOk_by (own := [("k", 11)]) (N := ["kinds", "n", "cell", "left", "one", "keeper", "before", "more", "both", "needs", "kind", "k"]) (sc := defScope s_law_keeper_good) (by decide +kernel)) (fun _ _ _ _ _ => (pgn 11 sc_law_keeper_good.nd)) (fun _ _ _ _ _ => (pts_one (pt_cmpR o_gt (pe_ix o_ix (pv 7) (pv 11) (fun _ _ => rfl)) (pe_ix o_ix (pcall (ok_law_most_v2 T) (hr.mono (by decide)) (by rfl) T.g_law_most T.F_law_most_v2.kp T.b_law_most_v2 (pa_cons (pv 0) (pa_cons (pv 1) pa_nil))) (pv 11) (fun _ _ => rfl)) (nomark _)))) (fun _ _ _ _ _ => (pv 11))) (pe_lst pa_nil) (nomark _)) (pss_one (ps_ret pe_bl)) pss_nil)
      (pss_one (ps_if (pt_cmpR (o_ne hr.units) (pmt (pv 5) T.cl_Keeper T.mm_Keeper_go (ok_Keeper_go T) (hr.mono (by decide)) T.b_Keeper_go (pa_cons (pv 4) pa_nil)) (pe_tup (pa_cons (pe_callB (k_max (by rfl)) (by rfl) T.n_max (by decide +kernel) (pa_cons (pv 7) pa_nil)) (pa_cons (pv 6) pa_nil))) (nomark _)) (pss_one (ps_ret pe_bl)) pss_nil)))))))) pss_nil)
      (pss_cons (pst 9 sc_law_keeper_good.nd (pcall (ok_law_most_v2 T) (hr.mono (by decide)) (by rfl) T.g_law_most T.F_law_most_v2.kp T.b_law_most_v2 (pa_cons (pv 0) (pa_cons (pv 1) pa_nil))))
      (pss_one (ps_ret (pe_and (pe_cmpR (o_eq hr.units) (pmt0 (pv 5) T.cl_Keeper T.mm_Keeper_kinds (ok_Keeper_kinds T) (hr.mono (by decide)) T.b_Keeper_kinds) (pv 0) (nomark _)) (pe_one (pe_cmpR (o_eq hr.units) (pmt (pv 5) T.cl_Keeper T.mm_Keeper_fewest (ok_Keeper_fewest T) (hr.mono (by decide)) T.b_Keeper_fewest (pa_cons (pv 1) pa_nil)) (pe_ix o_ix (pv 9) (pv 1) (fun _ _ => rfl)) (nomark _))))))))))))
theorem ok_law_k45 (T : Txt G mg) : FnOk P w G.K mg base CX0 9 T.a_law_k45 T.d_law_k45 ["script"] (sp0 (sp_law_k45 G)) := by
  refine T.F_law_k45.ok sc_law_k45 (fun vs H Q E h => h.1) (fun cdv A outer s H vs Q E hr h => ⟨t_law_k45 G E0, ?_, h.2⟩)
  exact (pss_cons (ps_for PassesOwn.never (by rfl) (pi_range1 (by rfl) T.n_range (pa_cons (pe_callB (k_max (by rfl)) (by rfl) T.n_max (by decide +kernel) (pa_cons pe_int (pa_cons (pe_callB (k_min (by rfl)) (by rfl) T.n_min (by decide +kernel) (pa_cons (pe_callB k_len (by rfl) T.n_len (by decide +kernel) (pa_cons (pv 0) pa_nil)) (pa_cons pe_int pa_nil))) pa_nil))) pa_nil)) (pgn 1 sc_law_k45.nd) (pss_cons (pst 2 sc_law_k45.nd (pe_callB k_abs (by rfl) T.n_abs (by decide +kernel) (pa_cons (pcall (ok_law_cell_v2 T) (hr.mono (by decide)) (by rfl) T.g_law_cell T.F_law_cell_v2.kp T.b_law_cell_v2 (pa_cons (pv 0) (pa_cons (pv 1) pa_nil))) pa_nil)))
      (pss_cons (pst 3 sc_law_k45.nd (pcall (ok_law_kinds_v3 T) (hr.mono (by decide)) (by rfl) T.g_law_kinds T.F_law_kinds_v3.kp T.b_law_kinds_v3 (pa_cons (pcall (ok_law_mixed T) (hr.mono (by decide)) (by rfl) T.g_law_mixed T.F_law_mixed.kp T.b_law_mixed (pa_cons (pv 2) (pa_cons (pv 1) pa_nil))) pa_nil)))
      (pss_cons (pst 4 sc_law_k45.nd (pe_op o_mod (pe_op o_div (pv 2) pe_int) pe_int))
      (pss_cons (pst 5 sc_law_k45.nd (pcall (ok_law_stock_v4 T) (hr.mono (by decide)) (by rfl) T.g_law_stock T.F_law_stock_v4.kp T.b_law_stock_v4 (pa_cons (pv 3) (pa_cons (pv 4) pa_nil))))
      (pss_cons (ps_setLc (i := 6) (own := [("total", 9)]) (g := (gName 9)) (tt := tYes) (by rfl) sc_law_k45.nd rfl rfl (sw_true rfl rfl rfl (by decide +kernel))  (pi_range1 (by rfl) T.n_range (pa_cons (pe_op o_add (pv 4) pe_int) pa_nil)) (blkOk_by (own := [("total", 9)]) (N := ["script", "k", "cell", "kinds", "n", "stock", "every", "needs", "other", "total", "sums", "parts"]) (sc := defScope s_law_k45) (by decide +kernel)) (fun _ _ _ _ _ => (pgn 9 sc_law_k45.nd)) (fun _ _ _ _ _ => pts_nil) (fun _ _ _ _ _ => (pcall (ok_law_sums_v2 T) (hr.mono (by decide)) (by rfl) T.g_law_sums T.F_law_sums_v2.kp T.b_law_sums_v2 (pa_cons (pv 5) (pa_cons (pv 9) pa_nil)))))
      (pss_cons (ps_setLc (i := 7) (own := [("sums", 10)]) (g := (gName 10)) (tt := tYes) (by rfl) sc_law_k45.nd rfl rfl (sw_true rfl rfl rfl (by decide +kernel))  (pi_list (pv 6)) (blkOk_by (own := [("sums", 10)]) (N := ["script", "k", "cell", "kinds", "n", "stock", "every", "needs", "other", "total", "sums", "parts"]) (sc := defScope s_law_k45) (by decide +kernel)) (fun _ _ _ _ _ => (pgn 10 sc_law_k45.nd)) (fun _ _ _ _ _ => pts_nil) (fun _ _ _ _ _ => (pe_callB (k_min (by rfl)) (by rfl) T.n_min (by decide +kernel) (pa_cons (pe_lc (own := [("parts", 11)]) (g := (gName 11)) (tt := tYes) (by rfl) sc_law_k45.nd  (pi_list (pv 10)) (blkOk_by (own := [("parts", 11)]) (N := ["script", "k", "cell", "kinds", "n", "stock", "every", "needs", "other", "total", "sums", "parts"]) (sc := { kind := .function, names := [(".0", .local), ("sums", .local), ("min", .globalImplicit)], isGenerator := false, isCoroutine := false }) (by decide +kernel)) (fun _ _ _ _ _ => (pgn 11 sc_law_k45.nd)) (fun _ _ _ _ _ => pts_nil) (fun _ _ _ _ _ => (pe_callB k_len (by rfl) T.n_len (by decide +kernel) (pa_cons (pv 11) pa_nil)))) pa_nil))))
      (pss_cons (ps_if (PW.pt (pw_or (pt_not (pt_val (pcall (ok_law_stock_good T) (hr.mono (by decide)) (by rfl) T.g_law_stock_good T.F_law_stock_good.kp T.b_law_stock_good (pa_cons (pv 3) (pa_cons (pv 4) (pa_cons (pv 5) pa_nil)))))) (pw_or1 (pt_not (pt_val (pcall (ok_law_sums_good T) (hr.mono (by decide)) (by rfl) T.g_law_sums_good T.F_law_sums_good.kp T.b_law_sums_good (pa_cons (pv 3) (pa_cons (pv 4) (pa_cons (pv 6) pa_nil))))))))) (pss_one (ps_ret pe_bl)) pss_nil)
      (pss_cons (ps_if (pt_not (pt_val (pcall (ok_law_near_good_v2 T) (hr.mono (by decide)) (by rfl) T.g_law_near_good T.F_law_near_good_v2.kp T.b_law_near_good_v2 (pa_cons (pv 3) (pa_cons (pv 4) (pa_cons (pe_ix o_ix (pv 6) (pv 4) (fun _ _ => rfl)) (pa_cons (pcall (ok_law_mixed T) (hr.mono (by decide)) (by rfl) T.g_law_mixed T.F_law_mixed.kp T.b_law_mixed (pa_cons (pv 2) (pa_cons pe_int pa_nil))) pa_nil))))))) (pss_one (ps_ret pe_bl)) pss_nil)
      (pss_cons (ps_if (PW.pt (pw_or (pt_not (pt_val (pcall (ok_law_unlike_good T) (hr.mono (by decide)) (by rfl) T.g_law_unlike_good T.F_law_unlike_good.kp T.b_law_unlike_good (pa_cons (pv 3) (pa_cons (pv 4) (pa_cons (pv 6) pa_nil)))))) (pw_or1 (pt_not (pt_val (pcall (ok_law_needs_good T) (hr.mono (by decide)) (by rfl) T.g_law_needs_good T.F_law_needs_good.kp T.b_law_needs_good (pa_cons (pv 3) (pa_cons (pv 4) (pa_cons (pv 7) pa_nil))))))))) (pss_one (ps_ret pe_bl)) pss_nil)
      (pss_cons (ps_if (pt_not (pt_val (pcall (ok_law_papers_good T) (hr.mono (by decide)) (by rfl) T.g_law_papers_good T.F_law_papers_good.kp T.b_law_papers_good (pa_cons (pv 3) (pa_cons (pv 4) (pa_cons (pv 5) (pa_cons (pv 7) (pa_cons (pcall (ok_law_mixed T) (hr.mono (by decide)) (by rfl) T.g_law_mixed T.F_law_mixed.kp T.b_law_mixed (pa_cons (pv 2) (pa_cons pe_int pa_nil))) pa_nil)))))))) (pss_one (ps_ret pe_bl)) pss_nil)
      (pss_cons (ps_if (pt_not (pt_val (pcall (ok_law_keeper_good T) (hr.mono (by decide)) (by rfl) T.g_law_keeper_good T.F_law_keeper_good.kp T.b_law_keeper_good (pa_cons (pv 3) (pa_cons (pv 4) (pa_cons (pcall (ok_law_mixed T) (hr.mono (by decide)) (by rfl) T.g_law_mixed T.F_law_mixed.kp T.b_law_mixed (pa_cons (pv 2) (pa_cons pe_int pa_nil))) pa_nil)))))) (pss_one (ps_ret pe_bl)) pss_nil)
      (pss_cons (pst 8 sc_law_k45.nd (pe_revL (pv 3)))
      (pss_cons (ps_if (pt_cmpR (o_ne hr.units) (pcall (ok_count_sums T) (hr.mono (by decide)) (by rfl) T.g_count_sums T.F_count_sums.kp T.b_count_sums (pa_cons (pv 8) (pa_cons (pv 4) pa_nil))) (pe_callB k_len (by rfl) T.n_len (by decide +kernel) (pa_cons (pe_ix o_ix (pv 6) (pv 4) (fun _ _ => rfl)) pa_nil)) (nomark _)) (pss_one (ps_ret pe_bl)) pss_nil)
      (pss_one (ps_if (pt_cmpR (o_ne hr.units) (pcall (ok_first_sum T) (hr.mono (by decide)) (by rfl) T.g_first_sum T.F_first_sum.kp T.b_first_sum (pa_cons (pv 8) (pa_cons (pv 4) pa_nil))) (pcall (ok_first_sum T) (hr.mono (by decide)) (by rfl) T.g_first_sum T.F_first_sum.kp T.b_first_sum (pa_cons (pv 3) (pa_cons (pv 4) pa_nil))) (nomark _)) (pss_one (ps_ret pe_bl)) pss_nil))))))))))))))))
      (pss_one (ps_ret pe_bl)))
end
theorem txt_mk {K : PySem.W.Frag} {h : Heap} {mg : Str → Option Value} (X : K.In h) (Gs : h.Ns mainGlobals mg)
    {C1 : Addr}
    {C2 : Addr}
    {f1 : Addr} {od1 an1 : Option Addr} {sl1 : Array (Option Value)} {oc1 kV1 dc1 pm1 cd1 ct1 : Value}
    {f2 : Addr} {od2 an2 : Option Addr} {sl2 : Array (Option Value)} {oc2 kV2 dc2 pm2 cd2 ct2 : Value}
    {f3 : Addr} {od3 an3 : Option Addr} {sl3 : Array (Option Value)} {oc3 kV3 dc3 pm3 cd3 ct3 : Value}
    {f4 : Addr} {od4 an4 : Option Addr} {sl4 : Array (Option Value)} {oc4 kV4 dc4 pm4 cd4 ct4 : Value}
    {f5 : Addr} {od5 an5 : Option Addr} {sl5 : Array (Option Value)} {oc5 kV5 dc5 pm5 cd5 ct5 : Value}
    {f6 : Addr} {od6 an6 : Option Addr} {sl6 : Array (Option Value)} {oc6 kV6 dc6 pm6 cd6 ct6 : Value}
    {f7 : Addr} {od7 an7 : Option Addr} {sl7 : Array (Option Value)} {oc7 kV7 dc7 pm7 cd7 ct7 : Value}
    {f8 : Addr} {od8 an8 : Option Addr} {sl8 : Array (Option Value)} {oc8 kV8 dc8 pm8 cd8 ct8 : Value}
    {f9 : Addr} {od9 an9 : Option Addr} {sl9 : Array (Option Value)} {oc9 kV9 dc9 pm9 cd9 ct9 : Value}
    {f10 : Addr} {od10 an10 : Option Addr} {sl10 : Array (Option Value)} {oc10 kV10 dc10 pm10 cd10 ct10 : Value}
    {f11 : Addr} {od11 an11 : Option Addr} {sl11 : Array (Option Value)} {oc11 kV11 dc11 pm11 cd11 ct11 : Value}
    {f12 : Addr} {od12 an12 : Option Addr} {sl12 : Array (Option Value)} {oc12 kV12 dc12 pm12 cd12 ct12 : Value}
    {f13 : Addr} {od13 an13 : Option Addr} {sl13 : Array (Option Value)} {oc13 kV13 dc13 pm13 cd13 ct13 : Value}
    {f14 : Addr} {od14 an14 : Option Addr} {sl14 : Array (Option Value)} {oc14 kV14 dc14 pm14 cd14 ct14 : Value}
    {f15 : Addr} {od15 an15 : Option Addr} {sl15 : Array (Option Value)} {oc15 kV15 dc15 pm15 cd15 ct15 : Value}
    {f16 : Addr} {od16 an16 : Option Addr} {sl16 : Array (Option Value)} {oc16 kV16 dc16 pm16 cd16 ct16 : Value}
    {f17 : Addr} {od17 an17 : Option Addr} {sl17 : Array (Option Value)} {oc17 kV17 dc17 pm17 cd17 ct17 : Value}
    {f18 : Addr} {od18 an18 : Option Addr} {sl18 : Array (Option Value)} {oc18 kV18 dc18 pm18 cd18 ct18 : Value}
    {f19 : Addr} {od19 an19 : Option Addr} {sl19 : Array (Option Value)} {oc19 kV19 dc19 pm19 cd19 ct19 : Value}
    {f20 : Addr} {od20 an20 : Option Addr} {sl20 : Array (Option Value)} {oc20 kV20 dc20 pm20 cd20 ct20 : Value}
    {f21 : Addr} {od21 an21 : Option Addr} {sl21 : Array (Option Value)} {oc21 kV21 dc21 pm21 cd21 ct21 : Value}
    {f22 : Addr} {od22 an22 : Option Addr} {sl22 : Array (Option Value)} {oc22 kV22 dc22 pm22 cd22 ct22 : Value}
    {f23 : Addr} {od23 an23 : Option Addr} {sl23 : Array (Option Value)} {oc23 kV23 dc23 pm23 cd23 ct23 : Value}
    {f24 : Addr} {od24 an24 : Option Addr} {sl24 : Array (Option Value)} {oc24 kV24 dc24 pm24 cd24 ct24 : Value}
    {f25 : Addr} {od25 an25 : Option Addr} {sl25 : Array (Option Value)} {oc25 kV25 dc25 pm25 cd25 ct25 : Value}
    {f26 : Addr} {od26 an26 : Option Addr} {sl26 : Array (Option Value)} {oc26 kV26 dc26 pm26 cd26 ct26 : Value}
    {f27 : Addr} {od27 an27 : Option Addr} {sl27 : Array (Option Value)} {oc27 kV27 dc27 pm27 cd27 ct27 : Value}
    {f28 : Addr} {od28 an28 : Option Addr} {sl28 : Array (Option Value)} {oc28 kV28 dc28 pm28 cd28 ct28 : Value}
    {f29 : Addr} {od29 an29 : Option Addr} {sl29 : Array (Option Value)} {oc29 kV29 dc29 pm29 cd29 ct29 : Value}
    {f30 : Addr} {od30 an30 : Option Addr} {sl30 : Array (Option Value)} {oc30 kV30 dc30 pm30 cd30 ct30 : Value}
    {f31 : Addr} {od31 an31 : Option Addr} {sl31 : Array (Option Value)} {oc31 kV31 dc31 pm31 cd31 ct31 : Value}
    {f32 : Addr} {od32 an32 : Option Addr} {sl32 : Array (Option Value)} {oc32 kV32 dc32 pm32 cd32 ct32 : Value}
    {f33 : Addr} {od33 an33 : Option Addr} {sl33 : Array (Option Value)} {oc33 kV33 dc33 pm33 cd33 ct33 : Value}
    {f34 : Addr} {od34 an34 : Option Addr} {sl34 : Array (Option Value)} {oc34 kV34 dc34 pm34 cd34 ct34 : Value}
    {f35 : Addr} {od35 an35 : Option Addr} {sl35 : Array (Option Value)} {oc35 kV35 dc35 pm35 cd35 ct35 : Value}
    {f36 : Addr} {od36 an36 : Option Addr} {sl36 : Array (Option Value)} {oc36 kV36 dc36 pm36 cd36 ct36 : Value}
    {f37 : Addr} {od37 an37 : Option Addr} {sl37 : Array (Option Value)} {oc37 kV37 dc37 pm37 cd37 ct37 : Value}
    {f38 : Addr} {od38 an38 : Option Addr} {sl38 : Array (Option Value)} {oc38 kV38 dc38 pm38 cd38 ct38 : Value}
    {f39 : Addr} {od39 an39 : Option Addr} {sl39 : Array (Option Value)} {oc39 kV39 dc39 pm39 cd39 ct39 : Value}
    {f40 : Addr} {od40 an40 : Option Addr} {sl40 : Array (Option Value)} {oc40 kV40 dc40 pm40 cd40 ct40 : Value}
    {f41 : Addr} {od41 an41 : Option Addr} {sl41 : Array (Option Value)} {oc41 kV41 dc41 pm41 cd41 ct41 : Value}
    {f42 : Addr} {od42 an42 : Option Addr} {sl42 : Array (Option Value)} {oc42 kV42 dc42 pm42 cd42 ct42 : Value}
    {f43 : Addr} {od43 an43 : Option Addr} {sl43 : Array (Option Value)} {oc43 kV43 dc43 pm43 cd43 ct43 : Value}
    {f44 : Addr} {od44 an44 : Option Addr} {sl44 : Array (Option Value)} {oc44 kV44 dc44 pm44 cd44 ct44 : Value}
    {f45 : Addr} {od45 an45 : Option Addr} {sl45 : Array (Option Value)} {oc45 kV45 dc45 pm45 cd45 ct45 : Value}
    {f46 : Addr} {od46 an46 : Option Addr} {sl46 : Array (Option Value)} {oc46 kV46 dc46 pm46 cd46 ct46 : Value}
    {f47 : Addr} {od47 an47 : Option Addr} {sl47 : Array (Option Value)} {oc47 kV47 dc47 pm47 cd47 ct47 : Value}
    {f48 : Addr} {od48 an48 : Option Addr} {sl48 : Array (Option Value)} {oc48 kV48 dc48 pm48 cd48 ct48 : Value}
    {f49 : Addr} {od49 an49 : Option Addr} {sl49 : Array (Option Value)} {oc49 kV49 dc49 pm49 cd49 ct49 : Value}
    {f50 : Addr} {od50 an50 : Option Addr} {sl50 : Array (Option Value)} {oc50 kV50 dc50 pm50 cd50 ct50 : Value}
    {f51 : Addr} {od51 an51 : Option Addr} {sl51 : Array (Option Value)} {oc51 kV51 dc51 pm51 cd51 ct51 : Value}
    {f52 : Addr} {od52 an52 : Option Addr} {sl52 : Array (Option Value)} {oc52 kV52 dc52 pm52 cd52 ct52 : Value}
    {f53 : Addr} {od53 an53 : Option Addr} {sl53 : Array (Option Value)} {oc53 kV53 dc53 pm53 cd53 ct53 : Value}
    {f54 : Addr} {od54 an54 : Option Addr} {sl54 : Array (Option Value)} {oc54 kV54 dc54 pm54 cd54 ct54 : Value}
    {f55 : Addr} {od55 an55 : Option Addr} {sl55 : Array (Option Value)} {oc55 kV55 dc55 pm55 cd55 ct55 : Value}
    {f56 : Addr} {od56 an56 : Option Addr} {sl56 : Array (Option Value)} {oc56 kV56 dc56 pm56 cd56 ct56 : Value}
    {f57 : Addr} {od57 an57 : Option Addr} {sl57 : Array (Option Value)} {oc57 kV57 dc57 pm57 cd57 ct57 : Value}
    {f58 : Addr} {od58 an58 : Option Addr} {sl58 : Array (Option Value)} {oc58 kV58 dc58 pm58 cd58 ct58 : Value}
    {f59 : Addr} {od59 an59 : Option Addr} {sl59 : Array (Option Value)} {oc59 kV59 dc59 pm59 cd59 ct59 : Value}
    {f60 : Addr} {od60 an60 : Option Addr} {sl60 : Array (Option Value)} {oc60 kV60 dc60 pm60 cd60 ct60 : Value}
    {f61 : Addr} {od61 an61 : Option Addr} {sl61 : Array (Option Value)} {oc61 kV61 dc61 pm61 cd61 ct61 : Value}
    {f62 : Addr} {od62 an62 : Option Addr} {sl62 : Array (Option Value)} {oc62 kV62 dc62 pm62 cd62 ct62 : Value}
    {f63 : Addr} {od63 an63 : Option Addr} {sl63 : Array (Option Value)} {oc63 kV63 dc63 pm63 cd63 ct63 : Value}
    {f64 : Addr} {od64 an64 : Option Addr} {sl64 : Array (Option Value)} {oc64 kV64 dc64 pm64 cd64 ct64 : Value}
    {tk0 : Tok}
    {tk1 : Tok}
    {tk2 : Tok}
    {tk3 : Tok}
    {tk4 : Tok}
    {tk5 : Tok}
    {tk6 : Tok}
    (aC1 : PySem.W.nsIn K mainGlobals "Counts" = some (some (.ref C1)))
    (aC2 : PySem.W.nsIn K mainGlobals "Keeper" = some (some (.ref C2)))
    (a1 : PySem.W.nsIn K mainGlobals "is_whole_shapes" = some (some (.ref f1)))
    (l1 : K.lookup f1 = some ⟨oc1, od1, .func (PySem.W.fnOf "is_whole" "is_whole" (defArgs s_is_whole) (defBody s_is_whole) (defScope s_is_whole) .none kV1 dc1 pm1 an1 cd1 ct1), sl1⟩)
    (c1 : PySem.W.codeIn K cd1 "is_whole" = true)
    (k1 : PySem.W.keepIn K (.ref f1) = true)
    (a2 : PySem.W.nsIn K mainGlobals "is_kind" = some (some (.ref f2)))
    (l2 : K.lookup f2 = some ⟨oc2, od2, .func (PySem.W.fnOf "is_kind" "is_kind" (defArgs s_is_kind) (defBody s_is_kind) (defScope s_is_kind) .none kV2 dc2 pm2 an2 cd2 ct2), sl2⟩)
    (c2 : PySem.W.codeIn K cd2 "is_kind" = true)
    (k2 : PySem.W.keepIn K (.ref f2) = true)
    (a3 : PySem.W.nsIn K mainGlobals "are_kinds" = some (some (.ref f3)))
    (l3 : K.lookup f3 = some ⟨oc3, od3, .func (PySem.W.fnOf "are_kinds" "are_kinds" (defArgs s_are_kinds) (defBody s_are_kinds) (defScope s_are_kinds) .none kV3 dc3 pm3 an3 cd3 ct3), sl3⟩)
    (c3 : PySem.W.codeIn K cd3 "are_kinds" = true)
    (k3 : PySem.W.keepIn K (.ref f3) = true)
    (a4 : PySem.W.nsIn K mainGlobals "need_kind" = some (some (.ref f4)))
    (l4 : K.lookup f4 = some ⟨oc4, od4, .func (PySem.W.fnOf "need_kind" "need_kind" (defArgs s_need_kind) (defBody s_need_kind) (defScope s_need_kind) .none kV4 dc4 pm4 an4 cd4 ct4), sl4⟩)
    (c4 : PySem.W.codeIn K cd4 "need_kind" = true)
    (k4 : PySem.W.keepIn K (.ref f4) = true)
    (a5 : PySem.W.nsIn K mainGlobals "need_kinds" = some (some (.ref f5)))
    (l5 : K.lookup f5 = some ⟨oc5, od5, .func (PySem.W.fnOf "need_kinds" "need_kinds" (defArgs s_need_kinds) (defBody s_need_kinds) (defScope s_need_kinds) .none kV5 dc5 pm5 an5 cd5 ct5), sl5⟩)
    (c5 : PySem.W.codeIn K cd5 "need_kinds" = true)
    (k5 : PySem.W.keepIn K (.ref f5) = true)
    (a6 : PySem.W.nsIn K mainGlobals "need_from" = some (some (.ref f6)))
    (l6 : K.lookup f6 = some ⟨oc6, od6, .func (PySem.W.fnOf "need_from" "need_from" (defArgs s_need_from) (defBody s_need_from) (defScope s_need_from) .none kV6 dc6 pm6 an6 cd6 ct6), sl6⟩)
    (c6 : PySem.W.codeIn K cd6 "need_from" = true)
    (k6 : PySem.W.keepIn K (.ref f6) = true)
    (a7 : PySem.W.nsIn K mainGlobals "need_to_most" = some (some (.ref f7)))
    (l7 : K.lookup f7 = some ⟨oc7, od7, .func (PySem.W.fnOf "need_to_most" "need_to_most" (defArgs s_need_to_most) (defBody s_need_to_most) (defScope s_need_to_most) .none kV7 dc7 pm7 an7 cd7 ct7), sl7⟩)
    (c7 : PySem.W.codeIn K cd7 "need_to_most" = true)
    (k7 : PySem.W.keepIn K (.ref f7) = true)
    (a8 : PySem.W.nsIn K mainGlobals "dots" = some (some (.ref f8)))
    (l8 : K.lookup f8 = some ⟨oc8, od8, .func (PySem.W.fnOf "dots" "dots" (defArgs s_dots) (defBody s_dots) (defScope s_dots) .none kV8 dc8 pm8 an8 cd8 ct8), sl8⟩)
    (c8 : PySem.W.codeIn K cd8 "dots" = true)
    (k8 : PySem.W.keepIn K (.ref f8) = true)
    (a9 : PySem.W.nsIn K mainGlobals "number_of_dots" = some (some (.ref f9)))
    (l9 : K.lookup f9 = some ⟨oc9, od9, .func (PySem.W.fnOf "number_of_dots" "number_of_dots" (defArgs s_number_of_dots) (defBody s_number_of_dots) (defScope s_number_of_dots) .none kV9 dc9 pm9 an9 cd9 ct9), sl9⟩)
    (c9 : PySem.W.codeIn K cd9 "number_of_dots" = true)
    (k9 : PySem.W.keepIn K (.ref f9) = true)
    (a10 : PySem.W.nsIn K mainGlobals "place_in" = some (some (.ref f10)))
    (l10 : K.lookup f10 = some ⟨oc10, od10, .func (PySem.W.fnOf "place_in" "place_in" (defArgs s_place_in) (defBody s_place_in) (defScope s_place_in) .none kV10 dc10 pm10 an10 cd10 ct10), sl10⟩)
    (c10 : PySem.W.codeIn K cd10 "place_in" = true)
    (k10 : PySem.W.keepIn K (.ref f10) = true)
    (a11 : PySem.W.nsIn K mainGlobals "stock_of" = some (some (.ref f11)))
    (l11 : K.lookup f11 = some ⟨oc11, od11, .func (PySem.W.fnOf "stock_of" "stock_of" (defArgs s_stock_of) (defBody s_stock_of) (defScope s_stock_of) .none kV11 dc11 pm11 an11 cd11 ct11), sl11⟩)
    (c11 : PySem.W.codeIn K cd11 "stock_of" = true)
    (k11 : PySem.W.keepIn K (.ref f11) = true)
    (a12 : PySem.W.nsIn K mainGlobals "stock_to" = some (some (.ref f12)))
    (l12 : K.lookup f12 = some ⟨oc12, od12, .func (PySem.W.fnOf "stock_to" "stock_to" (defArgs s_stock_to) (defBody s_stock_to) (defScope s_stock_to) .none kV12 dc12 pm12 an12 cd12 ct12), sl12⟩)
    (c12 : PySem.W.codeIn K cd12 "stock_to" = true)
    (k12 : PySem.W.keepIn K (.ref f12) = true)
    (a13 : PySem.W.nsIn K mainGlobals "is_sum" = some (some (.ref f13)))
    (l13 : K.lookup f13 = some ⟨oc13, od13, .func (PySem.W.fnOf "is_sum" "is_sum" (defArgs s_is_sum) (defBody s_is_sum) (defScope s_is_sum) .none kV13 dc13 pm13 an13 cd13 ct13), sl13⟩)
    (c13 : PySem.W.codeIn K cd13 "is_sum" = true)
    (k13 : PySem.W.keepIn K (.ref f13) = true)
    (a14 : PySem.W.nsIn K mainGlobals "fewest_by" = some (some (.ref f14)))
    (l14 : K.lookup f14 = some ⟨oc14, od14, .func (PySem.W.fnOf "fewest_by" "fewest_by" (defArgs s_fewest_by) (defBody s_fewest_by) (defScope s_fewest_by) .none kV14 dc14 pm14 an14 cd14 ct14), sl14⟩)
    (c14 : PySem.W.codeIn K cd14 "fewest_by" = true)
    (k14 : PySem.W.keepIn K (.ref f14) = true)
    (a15 : PySem.W.nsIn K mainGlobals "fewest_parts" = some (some (.ref f15)))
    (l15 : K.lookup f15 = some ⟨oc15, od15, .func (PySem.W.fnOf "fewest_parts" "fewest_parts" (defArgs s_fewest_parts) (defBody s_fewest_parts) (defScope s_fewest_parts) .none kV15 dc15 pm15 an15 cd15 ct15), sl15⟩)
    (c15 : PySem.W.codeIn K cd15 "fewest_parts" = true)
    (k15 : PySem.W.keepIn K (.ref f15) = true)
    (a16 : PySem.W.nsIn K mainGlobals "fewest_to" = some (some (.ref f16)))
    (l16 : K.lookup f16 = some ⟨oc16, od16, .func (PySem.W.fnOf "fewest_to" "fewest_to" (defArgs s_fewest_to) (defBody s_fewest_to) (defScope s_fewest_to) .none kV16 dc16 pm16 an16 cd16 ct16), sl16⟩)
    (c16 : PySem.W.codeIn K cd16 "fewest_to" = true)
    (k16 : PySem.W.keepIn K (.ref f16) = true)
    (a17 : PySem.W.nsIn K mainGlobals "tables_of" = some (some (.ref f17)))
    (l17 : K.lookup f17 = some ⟨oc17, od17, .func (PySem.W.fnOf "tables_of" "tables_of" (defArgs s_tables_of) (defBody s_tables_of) (defScope s_tables_of) .none kV17 dc17 pm17 an17 cd17 ct17), sl17⟩)
    (c17 : PySem.W.codeIn K cd17 "tables_of" = true)
    (k17 : PySem.W.keepIn K (.ref f17) = true)
    (a18 : PySem.W.nsIn K mainGlobals "first_sum" = some (some (.ref f18)))
    (l18 : K.lookup f18 = some ⟨oc18, od18, .func (PySem.W.fnOf "first_sum" "first_sum" (defArgs s_first_sum) (defBody s_first_sum) (defScope s_first_sum) .none kV18 dc18 pm18 an18 cd18 ct18), sl18⟩)
    (c18 : PySem.W.codeIn K cd18 "first_sum" = true)
    (k18 : PySem.W.keepIn K (.ref f18) = true)
    (a19 : PySem.W.findIn K (.ref C1) "__init__" = some (some (.ref f19)))
    (i19 : PySem.W.isFn K (.ref f19) = true)
    (l19 : K.lookup f19 = some ⟨oc19, od19, .func (PySem.W.fnOf "__init__" "Counts.__init__" (defArgs s_Counts___init__) (defBody s_Counts___init__) (defScope s_Counts___init__) .none kV19 dc19 pm19 an19 cd19 ct19), sl19⟩)
    (c19 : PySem.W.codeIn K cd19 "Counts.__init__" = true)
    (k19 : PySem.W.keepIn K (.ref f19) = true)
    (mk1 : PySem.W.makesIn K C1 = true)
    (kc1 : PySem.W.keepIn K (.ref C1) = true)
    (a20 : PySem.W.findIn K (.ref C1) "many" = some (some (.ref f20)))
    (i20 : PySem.W.isFn K (.ref f20) = true)
    (l20 : K.lookup f20 = some ⟨oc20, od20, .func (PySem.W.fnOf "many" "Counts.many" (defArgs s_Counts_many) (defBody s_Counts_many) (defScope s_Counts_many) .none kV20 dc20 pm20 an20 cd20 ct20), sl20⟩)
    (c20 : PySem.W.codeIn K cd20 "Counts.many" = true)
    (k20 : PySem.W.keepIn K (.ref f20) = true)
    (a21 : PySem.W.findIn K (.ref C1) "firsts" = some (some (.ref f21)))
    (i21 : PySem.W.isFn K (.ref f21) = true)
    (l21 : K.lookup f21 = some ⟨oc21, od21, .func (PySem.W.fnOf "firsts" "Counts.firsts" (defArgs s_Counts_firsts_v2) (defBody s_Counts_firsts_v2) (defScope s_Counts_firsts_v2) .none kV21 dc21 pm21 an21 cd21 ct21), sl21⟩)
    (c21 : PySem.W.codeIn K cd21 "Counts.firsts" = true)
    (k21 : PySem.W.keepIn K (.ref f21) = true)
    (a22 : PySem.W.nsIn K mainGlobals "counts_of" = some (some (.ref f22)))
    (l22 : K.lookup f22 = some ⟨oc22, od22, .func (PySem.W.fnOf "counts_of" "counts_of" (defArgs s_counts_of) (defBody s_counts_of) (defScope s_counts_of) .none kV22 dc22 pm22 an22 cd22 ct22), sl22⟩)
    (c22 : PySem.W.codeIn K cd22 "counts_of" = true)
    (k22 : PySem.W.keepIn K (.ref f22) = true)
    (a23 : PySem.W.nsIn K mainGlobals "just" = some (some (.ref f23)))
    (l23 : K.lookup f23 = some ⟨oc23, od23, .func (PySem.W.fnOf "just" "just" (defArgs s_just) (defBody s_just) (defScope s_just) .none kV23 dc23 pm23 an23 cd23 ct23), sl23⟩)
    (c23 : PySem.W.codeIn K cd23 "just" = true)
    (k23 : PySem.W.keepIn K (.ref f23) = true)
    (a24 : PySem.W.nsIn K mainGlobals "count_sums" = some (some (.ref f24)))
    (l24 : K.lookup f24 = some ⟨oc24, od24, .func (PySem.W.fnOf "count_sums" "count_sums" (defArgs s_count_sums) (defBody s_count_sums) (defScope s_count_sums) .none kV24 dc24 pm24 an24 cd24 ct24), sl24⟩)
    (c24 : PySem.W.codeIn K cd24 "count_sums" = true)
    (k24 : PySem.W.keepIn K (.ref f24) = true)
    (a25 : PySem.W.nsIn K mainGlobals "count_just" = some (some (.ref f25)))
    (l25 : K.lookup f25 = some ⟨oc25, od25, .func (PySem.W.fnOf "count_just" "count_just" (defArgs s_count_just) (defBody s_count_just) (defScope s_count_just) .none kV25 dc25 pm25 an25 cd25 ct25), sl25⟩)
    (c25 : PySem.W.codeIn K cd25 "count_just" = true)
    (k25 : PySem.W.keepIn K (.ref f25) = true)
    (a26 : PySem.W.nsIn K mainGlobals "count_at_most" = some (some (.ref f26)))
    (l26 : K.lookup f26 = some ⟨oc26, od26, .func (PySem.W.fnOf "count_at_most" "count_at_most" (defArgs s_count_at_most) (defBody s_count_at_most) (defScope s_count_at_most) .none kV26 dc26 pm26 an26 cd26 ct26), sl26⟩)
    (c26 : PySem.W.codeIn K cd26 "count_at_most" = true)
    (k26 : PySem.W.keepIn K (.ref f26) = true)
    (a27 : PySem.W.nsIn K mainGlobals "sum_by" = some (some (.ref f27)))
    (l27 : K.lookup f27 = some ⟨oc27, od27, .func (PySem.W.fnOf "sum_by" "sum_by" (defArgs s_sum_by) (defBody s_sum_by) (defScope s_sum_by) .none kV27 dc27 pm27 an27 cd27 ct27), sl27⟩)
    (c27 : PySem.W.codeIn K cd27 "sum_by" = true)
    (k27 : PySem.W.keepIn K (.ref f27) = true)
    (a28 : PySem.W.nsIn K mainGlobals "number_of" = some (some (.ref f28)))
    (l28 : K.lookup f28 = some ⟨oc28, od28, .func (PySem.W.fnOf "number_of" "number_of" (defArgs s_number_of) (defBody s_number_of) (defScope s_number_of) .none kV28 dc28 pm28 an28 cd28 ct28), sl28⟩)
    (c28 : PySem.W.codeIn K cd28 "number_of" = true)
    (k28 : PySem.W.keepIn K (.ref f28) = true)
    (a29 : PySem.W.findIn K (.ref C2) "__init__" = some (some (.ref f29)))
    (i29 : PySem.W.isFn K (.ref f29) = true)
    (l29 : K.lookup f29 = some ⟨oc29, od29, .func (PySem.W.fnOf "__init__" "Keeper.__init__" (defArgs s_Keeper___init__) (defBody s_Keeper___init__) (defScope s_Keeper___init__) .none kV29 dc29 pm29 an29 cd29 ct29), sl29⟩)
    (c29 : PySem.W.codeIn K cd29 "Keeper.__init__" = true)
    (k29 : PySem.W.keepIn K (.ref f29) = true)
    (mk2 : PySem.W.makesIn K C2 = true)
    (kc2 : PySem.W.keepIn K (.ref C2) = true)
    (a30 : PySem.W.findIn K (.ref C2) "needs" = some (some (.ref f30)))
    (i30 : PySem.W.isFn K (.ref f30) = true)
    (l30 : K.lookup f30 = some ⟨oc30, od30, .func (PySem.W.fnOf "needs" "Keeper.needs" (defArgs s_Keeper_needs) (defBody s_Keeper_needs) (defScope s_Keeper_needs) .none kV30 dc30 pm30 an30 cd30 ct30), sl30⟩)
    (c30 : PySem.W.codeIn K cd30 "Keeper.needs" = true)
    (k30 : PySem.W.keepIn K (.ref f30) = true)
    (a31 : PySem.W.findIn K (.ref C2) "come" = some (some (.ref f31)))
    (i31 : PySem.W.isFn K (.ref f31) = true)
    (l31 : K.lookup f31 = some ⟨oc31, od31, .func (PySem.W.fnOf "come" "Keeper.come" (defArgs s_Keeper_come) (defBody s_Keeper_come) (defScope s_Keeper_come) .none kV31 dc31 pm31 an31 cd31 ct31), sl31⟩)
    (c31 : PySem.W.codeIn K cd31 "Keeper.come" = true)
    (k31 : PySem.W.keepIn K (.ref f31) = true)
    (a32 : PySem.W.findIn K (.ref C2) "go" = some (some (.ref f32)))
    (i32 : PySem.W.isFn K (.ref f32) = true)
    (l32 : K.lookup f32 = some ⟨oc32, od32, .func (PySem.W.fnOf "go" "Keeper.go" (defArgs s_Keeper_go) (defBody s_Keeper_go) (defScope s_Keeper_go) .none kV32 dc32 pm32 an32 cd32 ct32), sl32⟩)
    (c32 : PySem.W.codeIn K cd32 "Keeper.go" = true)
    (k32 : PySem.W.keepIn K (.ref f32) = true)
    (a33 : PySem.W.findIn K (.ref C2) "kinds" = some (some (.ref f33)))
    (i33 : PySem.W.isFn K (.ref f33) = true)
    (l33 : K.lookup f33 = some ⟨oc33, od33, .func (PySem.W.fnOf "kinds" "Keeper.kinds" (defArgs s_Keeper_kinds) (defBody s_Keeper_kinds) (defScope s_Keeper_kinds) .none kV33 dc33 pm33 an33 cd33 ct33), sl33⟩)
    (c33 : PySem.W.codeIn K cd33 "Keeper.kinds" = true)
    (k33 : PySem.W.keepIn K (.ref f33) = true)
    (a34 : PySem.W.findIn K (.ref C2) "stock" = some (some (.ref f34)))
    (i34 : PySem.W.isFn K (.ref f34) = true)
    (l34 : K.lookup f34 = some ⟨oc34, od34, .func (PySem.W.fnOf "stock" "Keeper.stock" (defArgs s_Keeper_stock) (defBody s_Keeper_stock) (defScope s_Keeper_stock) .none kV34 dc34 pm34 an34 cd34 ct34), sl34⟩)
    (c34 : PySem.W.codeIn K cd34 "Keeper.stock" = true)
    (k34 : PySem.W.keepIn K (.ref f34) = true)
    (a35 : PySem.W.findIn K (.ref C2) "fewest" = some (some (.ref f35)))
    (i35 : PySem.W.isFn K (.ref f35) = true)
    (l35 : K.lookup f35 = some ⟨oc35, od35, .func (PySem.W.fnOf "fewest" "Keeper.fewest" (defArgs s_Keeper_fewest) (defBody s_Keeper_fewest) (defScope s_Keeper_fewest) .none kV35 dc35 pm35 an35 cd35 ct35), sl35⟩)
    (c35 : PySem.W.codeIn K cd35 "Keeper.fewest" = true)
    (k35 : PySem.W.keepIn K (.ref f35) = true)
    (a36 : PySem.W.nsIn K mainGlobals "needing" = some (some (.ref f36)))
    (l36 : K.lookup f36 = some ⟨oc36, od36, .func (PySem.W.fnOf "needing" "needing" (defArgs s_needing) (defBody s_needing) (defScope s_needing) .none kV36 dc36 pm36 an36 cd36 ct36), sl36⟩)
    (c36 : PySem.W.codeIn K cd36 "needing" = true)
    (k36 : PySem.W.keepIn K (.ref f36) = true)
    (a37 : PySem.W.nsIn K mainGlobals "greatest_needing" = some (some (.ref f37)))
    (l37 : K.lookup f37 = some ⟨oc37, od37, .func (PySem.W.fnOf "greatest_needing" "greatest_needing" (defArgs s_greatest_needing) (defBody s_greatest_needing) (defScope s_greatest_needing) .none kV37 dc37 pm37 an37 cd37 ct37), sl37⟩)
    (c37 : PySem.W.codeIn K cd37 "greatest_needing" = true)
    (k37 : PySem.W.keepIn K (.ref f37) = true)
    (a38 : PySem.W.nsIn K mainGlobals "most_needed" = some (some (.ref f38)))
    (l38 : K.lookup f38 = some ⟨oc38, od38, .func (PySem.W.fnOf "most_needed" "most_needed" (defArgs s_most_needed) (defBody s_most_needed) (defScope s_most_needed) .none kV38 dc38 pm38 an38 cd38 ct38), sl38⟩)
    (c38 : PySem.W.codeIn K cd38 "most_needed" = true)
    (k38 : PySem.W.keepIn K (.ref f38) = true)
    (a39 : PySem.W.nsIn K mainGlobals "counts_by_need" = some (some (.ref f39)))
    (l39 : K.lookup f39 = some ⟨oc39, od39, .func (PySem.W.fnOf "counts_by_need" "counts_by_need" (defArgs s_counts_by_need) (defBody s_counts_by_need) (defScope s_counts_by_need) .none kV39 dc39 pm39 an39 cd39 ct39), sl39⟩)
    (c39 : PySem.W.codeIn K cd39 "counts_by_need" = true)
    (k39 : PySem.W.keepIn K (.ref f39) = true)
    (a40 : PySem.W.nsIn K mainGlobals "is_whole" = some (some (.ref f40)))
    (l40 : K.lookup f40 = some ⟨oc40, od40, .func (PySem.W.fnOf "is_whole" "is_whole" (defArgs s_is_whole_b) (defBody s_is_whole_b) (defScope s_is_whole_b) .none kV40 dc40 pm40 an40 cd40 ct40), sl40⟩)
    (c40 : PySem.W.codeIn K cd40 "is_whole" = true)
    (k40 : PySem.W.keepIn K (.ref f40) = true)
    (a40_1 : PySem.W.nsIn K mainGlobals "is_whole_papers" = some (some (.ref f40)))
    (a41 : PySem.W.nsIn K mainGlobals "paper_shows" = some (some (.ref f41)))
    (l41 : K.lookup f41 = some ⟨oc41, od41, .func (PySem.W.fnOf "paper_shows" "paper_shows" (defArgs s_paper_shows) (defBody s_paper_shows) (defScope s_paper_shows) .none kV41 dc41 pm41 an41 cd41 ct41), sl41⟩)
    (c41 : PySem.W.codeIn K cd41 "paper_shows" = true)
    (k41 : PySem.W.keepIn K (.ref f41) = true)
    (a42 : PySem.W.nsIn K mainGlobals "need_paper" = some (some (.ref f42)))
    (l42 : K.lookup f42 = some ⟨oc42, od42, .func (PySem.W.fnOf "need_paper" "need_paper" (defArgs s_need_paper) (defBody s_need_paper) (defScope s_need_paper) .none kV42 dc42 pm42 an42 cd42 ct42), sl42⟩)
    (c42 : PySem.W.codeIn K cd42 "need_paper" = true)
    (k42 : PySem.W.keepIn K (.ref f42) = true)
    (a43 : PySem.W.nsIn K mainGlobals "least_rows" = some (some (.ref f43)))
    (l43 : K.lookup f43 = some ⟨oc43, od43, .func (PySem.W.fnOf "least_rows" "least_rows" (defArgs s_least_rows) (defBody s_least_rows) (defScope s_least_rows) .none kV43 dc43 pm43 an43 cd43 ct43), sl43⟩)
    (c43 : PySem.W.codeIn K cd43 "least_rows" = true)
    (k43 : PySem.W.keepIn K (.ref f43) = true)
    (a44 : PySem.W.nsIn K mainGlobals "ways_to" = some (some (.ref f44)))
    (l44 : K.lookup f44 = some ⟨oc44, od44, .func (PySem.W.fnOf "ways_to" "ways_to" (defArgs s_ways_to) (defBody s_ways_to) (defScope s_ways_to) .none kV44 dc44 pm44 an44 cd44 ct44), sl44⟩)
    (c44 : PySem.W.codeIn K cd44 "ways_to" = true)
    (k44 : PySem.W.keepIn K (.ref f44) = true)
    (a45 : PySem.W.nsIn K mainGlobals "fewest_unlike" = some (some (.ref f45)))
    (l45 : K.lookup f45 = some ⟨oc45, od45, .func (PySem.W.fnOf "fewest_unlike" "fewest_unlike" (defArgs s_fewest_unlike) (defBody s_fewest_unlike) (defScope s_fewest_unlike) .none kV45 dc45 pm45 an45 cd45 ct45), sl45⟩)
    (c45 : PySem.W.codeIn K cd45 "fewest_unlike" = true)
    (k45 : PySem.W.keepIn K (.ref f45) = true)
    (a46 : PySem.W.nsIn K mainGlobals "first_unlike" = some (some (.ref f46)))
    (l46 : K.lookup f46 = some ⟨oc46, od46, .func (PySem.W.fnOf "first_unlike" "first_unlike" (defArgs s_first_unlike) (defBody s_first_unlike) (defScope s_first_unlike) .none kV46 dc46 pm46 an46 cd46 ct46), sl46⟩)
    (c46 : PySem.W.codeIn K cd46 "first_unlike" = true)
    (k46 : PySem.W.keepIn K (.ref f46) = true)
    (a47 : PySem.W.nsIn K mainGlobals "count_unlike" = some (some (.ref f47)))
    (l47 : K.lookup f47 = some ⟨oc47, od47, .func (PySem.W.fnOf "count_unlike" "count_unlike" (defArgs s_count_unlike) (defBody s_count_unlike) (defScope s_count_unlike) .none kV47 dc47 pm47 an47 cd47 ct47), sl47⟩)
    (c47 : PySem.W.codeIn K cd47 "count_unlike" = true)
    (k47 : PySem.W.keepIn K (.ref f47) = true)
    (a48 : PySem.W.nsIn K mainGlobals "without_unlike" = some (some (.ref f48)))
    (l48 : K.lookup f48 = some ⟨oc48, od48, .func (PySem.W.fnOf "without_unlike" "without_unlike" (defArgs s_without_unlike) (defBody s_without_unlike) (defScope s_without_unlike) .none kV48 dc48 pm48 an48 cd48 ct48), sl48⟩)
    (c48 : PySem.W.codeIn K cd48 "without_unlike" = true)
    (k48 : PySem.W.keepIn K (.ref f48) = true)
    (a49 : PySem.W.nsIn K mainGlobals "_law_cell" = some (some (.ref f49)))
    (l49 : K.lookup f49 = some ⟨oc49, od49, .func (PySem.W.fnOf "_law_cell" "_law_cell" (defArgs s_law_cell_v2) (defBody s_law_cell_v2) (defScope s_law_cell_v2) .none kV49 dc49 pm49 an49 cd49 ct49), sl49⟩)
    (c49 : PySem.W.codeIn K cd49 "_law_cell" = true)
    (k49 : PySem.W.keepIn K (.ref f49) = true)
    (a50 : PySem.W.nsIn K mainGlobals "_law_mixed" = some (some (.ref f50)))
    (l50 : K.lookup f50 = some ⟨oc50, od50, .func (PySem.W.fnOf "_law_mixed" "_law_mixed" (defArgs s_law_mixed) (defBody s_law_mixed) (defScope s_law_mixed) .none kV50 dc50 pm50 an50 cd50 ct50), sl50⟩)
    (c50 : PySem.W.codeIn K cd50 "_law_mixed" = true)
    (k50 : PySem.W.keepIn K (.ref f50) = true)
    (a51 : PySem.W.nsIn K mainGlobals "_law_kinds" = some (some (.ref f51)))
    (l51 : K.lookup f51 = some ⟨oc51, od51, .func (PySem.W.fnOf "_law_kinds" "_law_kinds" (defArgs s_law_kinds_v3) (defBody s_law_kinds_v3) (defScope s_law_kinds_v3) .none kV51 dc51 pm51 an51 cd51 ct51), sl51⟩)
    (c51 : PySem.W.codeIn K cd51 "_law_kinds" = true)
    (k51 : PySem.W.keepIn K (.ref f51) = true)
    (a52 : PySem.W.nsIn K mainGlobals "_law_dots" = some (some (.ref f52)))
    (l52 : K.lookup f52 = some ⟨oc52, od52, .func (PySem.W.fnOf "_law_dots" "_law_dots" (defArgs s_law_dots_v3) (defBody s_law_dots_v3) (defScope s_law_dots_v3) .none kV52 dc52 pm52 an52 cd52 ct52), sl52⟩)
    (c52 : PySem.W.codeIn K cd52 "_law_dots" = true)
    (k52 : PySem.W.keepIn K (.ref f52) = true)
    (a53 : PySem.W.nsIn K mainGlobals "_law_stock" = some (some (.ref f53)))
    (l53 : K.lookup f53 = some ⟨oc53, od53, .func (PySem.W.fnOf "_law_stock" "_law_stock" (defArgs s_law_stock_v4) (defBody s_law_stock_v4) (defScope s_law_stock_v4) .none kV53 dc53 pm53 an53 cd53 ct53), sl53⟩)
    (c53 : PySem.W.codeIn K cd53 "_law_stock" = true)
    (k53 : PySem.W.keepIn K (.ref f53) = true)
    (a54 : PySem.W.nsIn K mainGlobals "_law_sums" = some (some (.ref f54)))
    (l54 : K.lookup f54 = some ⟨oc54, od54, .func (PySem.W.fnOf "_law_sums" "_law_sums" (defArgs s_law_sums_v2) (defBody s_law_sums_v2) (defScope s_law_sums_v2) .none kV54 dc54 pm54 an54 cd54 ct54), sl54⟩)
    (c54 : PySem.W.codeIn K cd54 "_law_sums" = true)
    (k54 : PySem.W.keepIn K (.ref f54) = true)
    (a55 : PySem.W.nsIn K mainGlobals "_law_stock_good" = some (some (.ref f55)))
    (l55 : K.lookup f55 = some ⟨oc55, od55, .func (PySem.W.fnOf "_law_stock_good" "_law_stock_good" (defArgs s_law_stock_good) (defBody s_law_stock_good) (defScope s_law_stock_good) .none kV55 dc55 pm55 an55 cd55 ct55), sl55⟩)
    (c55 : PySem.W.codeIn K cd55 "_law_stock_good" = true)
    (k55 : PySem.W.keepIn K (.ref f55) = true)
    (a56 : PySem.W.nsIn K mainGlobals "_law_sums_good" = some (some (.ref f56)))
    (l56 : K.lookup f56 = some ⟨oc56, od56, .func (PySem.W.fnOf "_law_sums_good" "_law_sums_good" (defArgs s_law_sums_good) (defBody s_law_sums_good) (defScope s_law_sums_good) .none kV56 dc56 pm56 an56 cd56 ct56), sl56⟩)
    (c56 : PySem.W.codeIn K cd56 "_law_sums_good" = true)
    (k56 : PySem.W.keepIn K (.ref f56) = true)
    (a57 : PySem.W.nsIn K mainGlobals "_law_near_good" = some (some (.ref f57)))
    (l57 : K.lookup f57 = some ⟨oc57, od57, .func (PySem.W.fnOf "_law_near_good" "_law_near_good" (defArgs s_law_near_good_v2) (defBody s_law_near_good_v2) (defScope s_law_near_good_v2) .none kV57 dc57 pm57 an57 cd57 ct57), sl57⟩)
    (c57 : PySem.W.codeIn K cd57 "_law_near_good" = true)
    (k57 : PySem.W.keepIn K (.ref f57) = true)
    (a58 : PySem.W.nsIn K mainGlobals "_law_unlike_good" = some (some (.ref f58)))
    (l58 : K.lookup f58 = some ⟨oc58, od58, .func (PySem.W.fnOf "_law_unlike_good" "_law_unlike_good" (defArgs s_law_unlike_good) (defBody s_law_unlike_good) (defScope s_law_unlike_good) .none kV58 dc58 pm58 an58 cd58 ct58), sl58⟩)
    (c58 : PySem.W.codeIn K cd58 "_law_unlike_good" = true)
    (k58 : PySem.W.keepIn K (.ref f58) = true)
    (a59 : PySem.W.nsIn K mainGlobals "_law_needs_good" = some (some (.ref f59)))
    (l59 : K.lookup f59 = some ⟨oc59, od59, .func (PySem.W.fnOf "_law_needs_good" "_law_needs_good" (defArgs s_law_needs_good) (defBody s_law_needs_good) (defScope s_law_needs_good) .none kV59 dc59 pm59 an59 cd59 ct59), sl59⟩)
    (c59 : PySem.W.codeIn K cd59 "_law_needs_good" = true)
    (k59 : PySem.W.keepIn K (.ref f59) = true)
    (a60 : PySem.W.nsIn K mainGlobals "_law_shows" = some (some (.ref f60)))
    (l60 : K.lookup f60 = some ⟨oc60, od60, .func (PySem.W.fnOf "_law_shows" "_law_shows" (defArgs s_law_shows_v2) (defBody s_law_shows_v2) (defScope s_law_shows_v2) .none kV60 dc60 pm60 an60 cd60 ct60), sl60⟩)
    (c60 : PySem.W.codeIn K cd60 "_law_shows" = true)
    (k60 : PySem.W.keepIn K (.ref f60) = true)
    (a61 : PySem.W.nsIn K mainGlobals "_law_papers_good" = some (some (.ref f61)))
    (l61 : K.lookup f61 = some ⟨oc61, od61, .func (PySem.W.fnOf "_law_papers_good" "_law_papers_good" (defArgs s_law_papers_good) (defBody s_law_papers_good) (defScope s_law_papers_good) .none kV61 dc61 pm61 an61 cd61 ct61), sl61⟩)
    (c61 : PySem.W.codeIn K cd61 "_law_papers_good" = true)
    (k61 : PySem.W.keepIn K (.ref f61) = true)
    (a62 : PySem.W.nsIn K mainGlobals "_law_most" = some (some (.ref f62)))
    (l62 : K.lookup f62 = some ⟨oc62, od62, .func (PySem.W.fnOf "_law_most" "_law_most" (defArgs s_law_most_v2) (defBody s_law_most_v2) (defScope s_law_most_v2) .none kV62 dc62 pm62 an62 cd62 ct62), sl62⟩)
    (c62 : PySem.W.codeIn K cd62 "_law_most" = true)
    (k62 : PySem.W.keepIn K (.ref f62) = true)
    (a63 : PySem.W.nsIn K mainGlobals "_law_keeper_good" = some (some (.ref f63)))
    (l63 : K.lookup f63 = some ⟨oc63, od63, .func (PySem.W.fnOf "_law_keeper_good" "_law_keeper_good" (defArgs s_law_keeper_good) (defBody s_law_keeper_good) (defScope s_law_keeper_good) .none kV63 dc63 pm63 an63 cd63 ct63), sl63⟩)
    (c63 : PySem.W.codeIn K cd63 "_law_keeper_good" = true)
    (k63 : PySem.W.keepIn K (.ref f63) = true)
    (a64 : PySem.W.nsIn K mainGlobals "law" = some (some (.ref f64)))
    (l64 : K.lookup f64 = some ⟨oc64, od64, .func (PySem.W.fnOf "law" "law" (defArgs s_law_k45) (defBody s_law_k45) (defScope s_law_k45) .none kV64 dc64 pm64 an64 cd64 ct64), sl64⟩)
    (c64 : PySem.W.codeIn K cd64 "law" = true)
    (k64 : PySem.W.keepIn K (.ref f64) = true)
    (pg1 : PySem.W.plainGet K C1 Str.empty = true)
    (hd1 : PySem.W.hasDictIn K C1 = true)
    (po1 : PySem.W.plainOver K C1 = true)
    (sa1 : PySem.W.findIn K (.ref C1) "__setattr__" = some (some (.builtin "object.__setattr__")))
    (nf1_0 : PySem.W.findIn K (.ref C1) "rows" = some none)
    (nf1_1 : PySem.W.findIn K (.ref C1) "values_let" = some none)
    (pg2 : PySem.W.plainGet K C2 Str.empty = true)
    (hd2 : PySem.W.hasDictIn K C2 = true)
    (po2 : PySem.W.plainOver K C2 = true)
    (sa2 : PySem.W.findIn K (.ref C2) "__setattr__" = some (some (.builtin "object.__setattr__")))
    (nf2_0 : PySem.W.findIn K (.ref C2) "bound" = some none)
    (nf2_1 : PySem.W.findIn K (.ref C2) "own" = some none)
    (z0 : PySem.W.nsIn K mainGlobals "abs" = some none)
    (z1 : PySem.W.nsIn K mainGlobals "bool" = some none)
    (z2 : PySem.W.nsIn K mainGlobals "enumerate" = some none)
    (z3 : PySem.W.nsIn K mainGlobals "int" = some none)
    (z4 : PySem.W.nsIn K mainGlobals "isinstance" = some none)
    (z5 : PySem.W.nsIn K mainGlobals "len" = some none)
    (z6 : PySem.W.nsIn K mainGlobals "list" = some none)
    (z7 : PySem.W.nsIn K mainGlobals "max" = some none)
    (z8 : PySem.W.nsIn K mainGlobals "min" = some none)
    (z9 : PySem.W.nsIn K mainGlobals "range" = some none)
    (z10 : PySem.W.nsIn K mainGlobals "set" = some none)
    (z11 : PySem.W.nsIn K mainGlobals "sorted" = some none)
    (z12 : PySem.W.nsIn K mainGlobals "str" = some none)
    (z13 : PySem.W.nsIn K mainGlobals "sum" = some none)
    (y0 : PySem.W.nsIn K mainGlobals "CUBES" = some (some (.str "cubes" tk0)))
    (y1 : PySem.W.nsIn K mainGlobals "FEWEST_CORNERS" = some (some (.int 3 tk1)))
    (y2 : PySem.W.nsIn K mainGlobals "FULL" = some (some (.int 18446744073709551615 tk2)))
    (y3 : PySem.W.nsIn K mainGlobals "MOST" = some (some (.int 200 tk3)))
    (y4 : PySem.W.nsIn K mainGlobals "MOST_CORNERS" = some (some (.int 12 tk4)))
    (y5 : PySem.W.nsIn K mainGlobals "MOST_KINDS" = some (some (.int 5 tk5)))
    (y6 : PySem.W.nsIn K mainGlobals "WIDE" = some (some (.int 64 tk6))) :
    ∃ T : Txt ⟨K, cAt [("Counts", C1), ("Keeper", C2)]⟩ mg, mg "law" = some (.ref T.a_law_k45) ∧ T.d_law_k45 = PySem.W.fnOf "law" "law" (defArgs s_law_k45) (defBody s_law_k45) (defScope s_law_k45) .none kV64 dc64 pm64 an64 cd64 ct64 := by
  refine ⟨{
    g_Counts := PySem.W.mg_of X Gs aC1
    g_Keeper := PySem.W.mg_of X Gs aC2
    a_is_whole := f1
    d_is_whole := _
    F_is_whole := fun_mk l1 c1 k1
    b_is_whole := (fun_mk (st := s_is_whole) l1 c1 k1).binds (ps := ["thing"]) (fun _ _ _ _ _ _ us hl => match us, hl with | [_], _ => rfl)
    g_is_whole_shapes := PySem.W.mg_of X Gs a1
    a_is_kind := f2
    d_is_kind := _
    F_is_kind := fun_mk l2 c2 k2
    b_is_kind := (fun_mk (st := s_is_kind) l2 c2 k2).binds (ps := ["thing"]) (fun _ _ _ _ _ _ us hl => match us, hl with | [_], _ => rfl)
    g_is_kind := PySem.W.mg_of X Gs a2
    a_are_kinds := f3
    d_are_kinds := _
    F_are_kinds := fun_mk l3 c3 k3
    b_are_kinds := (fun_mk (st := s_are_kinds) l3 c3 k3).binds (ps := ["thing"]) (fun _ _ _ _ _ _ us hl => match us, hl with | [_], _ => rfl)
    g_are_kinds := PySem.W.mg_of X Gs a3
    a_need_kind := f4
    d_need_kind := _
    F_need_kind := fun_mk l4 c4 k4
    b_need_kind := (fun_mk (st := s_need_kind) l4 c4 k4).binds (ps := ["thing"]) (fun _ _ _ _ _ _ us hl => match us, hl with | [_], _ => rfl)
    g_need_kind := PySem.W.mg_of X Gs a4
    a_need_kinds := f5
    d_need_kinds := _
    F_need_kinds := fun_mk l5 c5 k5
    b_need_kinds := (fun_mk (st := s_need_kinds) l5 c5 k5).binds (ps := ["thing"]) (fun _ _ _ _ _ _ us hl => match us, hl with | [_], _ => rfl)
    g_need_kinds := PySem.W.mg_of X Gs a5
    a_need_from := f6
    d_need_from := _
    F_need_from := fun_mk l6 c6 k6
    b_need_from := (fun_mk (st := s_need_from) l6 c6 k6).binds (ps := ["thing", "least"]) (fun _ _ _ _ _ _ us hl => match us, hl with | [_, _], _ => rfl)
    g_need_from := PySem.W.mg_of X Gs a6
    a_need_to_most := f7
    d_need_to_most := _
    F_need_to_most := fun_mk l7 c7 k7
    b_need_to_most := (fun_mk (st := s_need_to_most) l7 c7 k7).binds (ps := ["thing"]) (fun _ _ _ _ _ _ us hl => match us, hl with | [_], _ => rfl)
    g_need_to_most := PySem.W.mg_of X Gs a7
    a_dots := f8
    d_dots := _
    F_dots := fun_mk l8 c8 k8
    b_dots := (fun_mk (st := s_dots) l8 c8 k8).binds (ps := ["kind", "k"]) (fun _ _ _ _ _ _ us hl => match us, hl with | [_, _], _ => rfl)
    g_dots := PySem.W.mg_of X Gs a8
    a_number_of_dots := f9
    d_number_of_dots := _
    F_number_of_dots := fun_mk l9 c9 k9
    b_number_of_dots := (fun_mk (st := s_number_of_dots) l9 c9 k9).binds (ps := ["kind", "k"]) (fun _ _ _ _ _ _ us hl => match us, hl with | [_, _], _ => rfl)
    g_number_of_dots := PySem.W.mg_of X Gs a9
    a_place_in := f10
    d_place_in := _
    F_place_in := fun_mk l10 c10 k10
    b_place_in := (fun_mk (st := s_place_in) l10 c10 k10).binds (ps := ["kind", "n"]) (fun _ _ _ _ _ _ us hl => match us, hl with | [_, _], _ => rfl)
    g_place_in := PySem.W.mg_of X Gs a10
    a_stock_of := f11
    d_stock_of := _
    F_stock_of := fun_mk l11 c11 k11
    b_stock_of := (fun_mk (st := s_stock_of) l11 c11 k11).binds (ps := ["kinds", "b"]) (fun _ _ _ _ _ _ us hl => match us, hl with | [_, _], _ => rfl)
    g_stock_of := PySem.W.mg_of X Gs a11
    a_stock_to := f12
    d_stock_to := _
    F_stock_to := fun_mk l12 c12 k12
    b_stock_to := (fun_mk (st := s_stock_to) l12 c12 k12).binds (ps := ["kinds", "b"]) (fun _ _ _ _ _ _ us hl => match us, hl with | [_, _], _ => rfl)
    g_stock_to := PySem.W.mg_of X Gs a12
    a_is_sum := f13
    d_is_sum := _
    F_is_sum := fun_mk l13 c13 k13
    b_is_sum := (fun_mk (st := s_is_sum) l13 c13 k13).binds (ps := ["kinds", "n", "thing"]) (fun _ _ _ _ _ _ us hl => match us, hl with | [_, _, _], _ => rfl)
    g_is_sum := PySem.W.mg_of X Gs a13
    a_fewest_by := f14
    d_fewest_by := _
    F_fewest_by := fun_mk l14 c14 k14
    b_fewest_by := (fun_mk (st := s_fewest_by) l14 c14 k14).binds (ps := ["stock", "b"]) (fun _ _ _ _ _ _ us hl => match us, hl with | [_, _], _ => rfl)
    g_fewest_by := PySem.W.mg_of X Gs a14
    a_fewest_parts := f15
    d_fewest_parts := _
    F_fewest_parts := fun_mk l15 c15 k15
    b_fewest_parts := (fun_mk (st := s_fewest_parts) l15 c15 k15).binds (ps := ["kinds", "n"]) (fun _ _ _ _ _ _ us hl => match us, hl with | [_, _], _ => rfl)
    g_fewest_parts := PySem.W.mg_of X Gs a15
    a_fewest_to := f16
    d_fewest_to := _
    F_fewest_to := fun_mk l16 c16 k16
    b_fewest_to := (fun_mk (st := s_fewest_to) l16 c16 k16).binds (ps := ["kinds", "b"]) (fun _ _ _ _ _ _ us hl => match us, hl with | [_, _], _ => rfl)
    g_fewest_to := PySem.W.mg_of X Gs a16
    a_tables_of := f17
    d_tables_of := _
    F_tables_of := fun_mk l17 c17 k17
    b_tables_of := (fun_mk (st := s_tables_of) l17 c17 k17).binds (ps := ["stock", "n"]) (fun _ _ _ _ _ _ us hl => match us, hl with | [_, _], _ => rfl)
    g_tables_of := PySem.W.mg_of X Gs a17
    a_first_sum := f18
    d_first_sum := _
    F_first_sum := fun_mk l18 c18 k18
    b_first_sum := (fun_mk (st := s_first_sum) l18 c18 k18).binds (ps := ["kinds", "n"]) (fun _ _ _ _ _ _ us hl => match us, hl with | [_, _], _ => rfl)
    g_first_sum := PySem.W.mg_of X Gs a18
    a_Counts___init__ := f19
    d_Counts___init__ := _
    F_Counts___init__ := fun_mk l19 c19 k19
    b_Counts___init__ := (fun_mk (st := s_Counts___init__) l19 c19 k19).binds (ps := ["self", "some", "n"]) (fun _ _ _ _ _ _ us hl => match us, hl with | [_, _, _], _ => rfl)
    mk_Counts := ⟨mk1, a19, i19, kc1⟩
    a_Counts_many := f20
    d_Counts_many := _
    F_Counts_many := fun_mk l20 c20 k20
    b_Counts_many := (fun_mk (st := s_Counts_many) l20 c20 k20).binds (ps := ["self", "size", "total", "k"]) (fun _ _ _ _ _ _ us hl => match us, hl with | [_, _, _, _], _ => rfl)
    mm_Counts_many := ⟨a20, i20, k20⟩
    a_Counts_firsts_v2 := f21
    d_Counts_firsts_v2 := _
    F_Counts_firsts_v2 := fun_mk l21 c21 k21
    b_Counts_firsts_v2 := (fun_mk (st := s_Counts_firsts_v2) l21 c21 k21).binds (ps := ["self", "size", "total", "k"]) (fun _ _ _ _ _ _ us hl => match us, hl with | [_, _, _, _], _ => rfl)
    mm_Counts_firsts_v2 := ⟨a21, i21, k21⟩
    a_counts_of := f22
    d_counts_of := _
    F_counts_of := fun_mk l22 c22 k22
    b_counts_of := (fun_mk (st := s_counts_of) l22 c22 k22).binds (ps := ["kinds", "n"]) (fun _ _ _ _ _ _ us hl => match us, hl with | [_, _], _ => rfl)
    g_counts_of := PySem.W.mg_of X Gs a22
    a_just := f23
    d_just := _
    F_just := fun_mk l23 c23 k23
    b_just := (fun_mk (st := s_just) l23 c23 k23).binds (ps := ["counts", "n", "k"]) (fun _ _ _ _ _ _ us hl => match us, hl with | [_, _, _], _ => rfl)
    g_just := PySem.W.mg_of X Gs a23
    a_count_sums := f24
    d_count_sums := _
    F_count_sums := fun_mk l24 c24 k24
    b_count_sums := (fun_mk (st := s_count_sums) l24 c24 k24).binds (ps := ["kinds", "n"]) (fun _ _ _ _ _ _ us hl => match us, hl with | [_, _], _ => rfl)
    g_count_sums := PySem.W.mg_of X Gs a24
    a_count_just := f25
    d_count_just := _
    F_count_just := fun_mk l25 c25 k25
    b_count_just := (fun_mk (st := s_count_just) l25 c25 k25).binds (ps := ["kinds", "n", "k"]) (fun _ _ _ _ _ _ us hl => match us, hl with | [_, _, _], _ => rfl)
    g_count_just := PySem.W.mg_of X Gs a25
    a_count_at_most := f26
    d_count_at_most := _
    F_count_at_most := fun_mk l26 c26 k26
    b_count_at_most := (fun_mk (st := s_count_at_most) l26 c26 k26).binds (ps := ["kinds", "n", "k"]) (fun _ _ _ _ _ _ us hl => match us, hl with | [_, _, _], _ => rfl)
    g_count_at_most := PySem.W.mg_of X Gs a26
    a_sum_by := f27
    d_sum_by := _
    F_sum_by := fun_mk l27 c27 k27
    b_sum_by := (fun_mk (st := s_sum_by) l27 c27 k27).binds (ps := ["kinds", "n", "k", "number"]) (fun _ _ _ _ _ _ us hl => match us, hl with | [_, _, _, _], _ => rfl)
    g_sum_by := PySem.W.mg_of X Gs a27
    a_number_of := f28
    d_number_of := _
    F_number_of := fun_mk l28 c28 k28
    b_number_of := (fun_mk (st := s_number_of) l28 c28 k28).binds (ps := ["kinds", "n", "k", "thing"]) (fun _ _ _ _ _ _ us hl => match us, hl with | [_, _, _, _], _ => rfl)
    g_number_of := PySem.W.mg_of X Gs a28
    a_Keeper___init__ := f29
    d_Keeper___init__ := _
    F_Keeper___init__ := fun_mk l29 c29 k29
    b_Keeper___init__ := (fun_mk (st := s_Keeper___init__) l29 c29 k29).binds (ps := ["self", "kinds", "b"]) (fun _ _ _ _ _ _ us hl => match us, hl with | [_, _, _], _ => rfl)
    mk_Keeper := ⟨mk2, a29, i29, kc2⟩
    a_Keeper_needs := f30
    d_Keeper_needs := _
    F_Keeper_needs := fun_mk l30 c30 k30
    b_Keeper_needs := (fun_mk (st := s_Keeper_needs) l30 c30 k30).binds (ps := ["self"]) (fun _ _ _ _ _ _ us hl => match us, hl with | [_], _ => rfl)
    mm_Keeper_needs := ⟨a30, i30, k30⟩
    a_Keeper_come := f31
    d_Keeper_come := _
    F_Keeper_come := fun_mk l31 c31 k31
    b_Keeper_come := (fun_mk (st := s_Keeper_come) l31 c31 k31).binds (ps := ["self", "kind"]) (fun _ _ _ _ _ _ us hl => match us, hl with | [_, _], _ => rfl)
    mm_Keeper_come := ⟨a31, i31, k31⟩
    a_Keeper_go := f32
    d_Keeper_go := _
    F_Keeper_go := fun_mk l32 c32 k32
    b_Keeper_go := (fun_mk (st := s_Keeper_go) l32 c32 k32).binds (ps := ["self", "kind"]) (fun _ _ _ _ _ _ us hl => match us, hl with | [_, _], _ => rfl)
    mm_Keeper_go := ⟨a32, i32, k32⟩
    a_Keeper_kinds := f33
    d_Keeper_kinds := _
    F_Keeper_kinds := fun_mk l33 c33 k33
    b_Keeper_kinds := (fun_mk (st := s_Keeper_kinds) l33 c33 k33).binds (ps := ["self"]) (fun _ _ _ _ _ _ us hl => match us, hl with | [_], _ => rfl)
    mm_Keeper_kinds := ⟨a33, i33, k33⟩
    a_Keeper_stock := f34
    d_Keeper_stock := _
    F_Keeper_stock := fun_mk l34 c34 k34
    b_Keeper_stock := (fun_mk (st := s_Keeper_stock) l34 c34 k34).binds (ps := ["self"]) (fun _ _ _ _ _ _ us hl => match us, hl with | [_], _ => rfl)
    mm_Keeper_stock := ⟨a34, i34, k34⟩
    a_Keeper_fewest := f35
    d_Keeper_fewest := _
    F_Keeper_fewest := fun_mk l35 c35 k35
    b_Keeper_fewest := (fun_mk (st := s_Keeper_fewest) l35 c35 k35).binds (ps := ["self", "n"]) (fun _ _ _ _ _ _ us hl => match us, hl with | [_, _], _ => rfl)
    mm_Keeper_fewest := ⟨a35, i35, k35⟩
    a_needing := f36
    d_needing := _
    F_needing := fun_mk l36 c36 k36
    b_needing := (fun_mk (st := s_needing) l36 c36 k36).binds (ps := ["kinds", "k", "b"]) (fun _ _ _ _ _ _ us hl => match us, hl with | [_, _, _], _ => rfl)
    g_needing := PySem.W.mg_of X Gs a36
    a_greatest_needing := f37
    d_greatest_needing := _
    F_greatest_needing := fun_mk l37 c37 k37
    b_greatest_needing := (fun_mk (st := s_greatest_needing) l37 c37 k37).binds (ps := ["kinds", "k", "b"]) (fun _ _ _ _ _ _ us hl => match us, hl with | [_, _, _], _ => rfl)
    g_greatest_needing := PySem.W.mg_of X Gs a37
    a_most_needed := f38
    d_most_needed := _
    F_most_needed := fun_mk l38 c38 k38
    b_most_needed := (fun_mk (st := s_most_needed) l38 c38 k38).binds (ps := ["kinds", "b"]) (fun _ _ _ _ _ _ us hl => match us, hl with | [_, _], _ => rfl)
    g_most_needed := PySem.W.mg_of X Gs a38
    a_counts_by_need := f39
    d_counts_by_need := _
    F_counts_by_need := fun_mk l39 c39 k39
    b_counts_by_need := (fun_mk (st := s_counts_by_need) l39 c39 k39).binds (ps := ["kinds", "b"]) (fun _ _ _ _ _ _ us hl => match us, hl with | [_, _], _ => rfl)
    g_counts_by_need := PySem.W.mg_of X Gs a39
    a_is_whole_b := f40
    d_is_whole_b := _
    F_is_whole_b := fun_mk l40 c40 k40
    b_is_whole_b := (fun_mk (st := s_is_whole_b) l40 c40 k40).binds (ps := ["thing"]) (fun _ _ _ _ _ _ us hl => match us, hl with | [_], _ => rfl)
    g_is_whole := PySem.W.mg_of X Gs a40
    g_is_whole_papers := PySem.W.mg_of X Gs a40_1
    a_paper_shows := f41
    d_paper_shows := _
    F_paper_shows := fun_mk l41 c41 k41
    b_paper_shows := (fun_mk (st := s_paper_shows) l41 c41 k41).binds (ps := ["kinds", "n", "m", "thing"]) (fun _ _ _ _ _ _ us hl => match us, hl with | [_, _, _, _], _ => rfl)
    g_paper_shows := PySem.W.mg_of X Gs a41
    a_need_paper := f42
    d_need_paper := _
    F_need_paper := fun_mk l42 c42 k42
    b_need_paper := (fun_mk (st := s_need_paper) l42 c42 k42).binds (ps := ["kinds", "n"]) (fun _ _ _ _ _ _ us hl => match us, hl with | [_, _], _ => rfl)
    g_need_paper := PySem.W.mg_of X Gs a42
    a_least_rows := f43
    d_least_rows := _
    F_least_rows := fun_mk l43 c43 k43
    b_least_rows := (fun_mk (st := s_least_rows) l43 c43 k43).binds (ps := ["stock", "n"]) (fun _ _ _ _ _ _ us hl => match us, hl with | [_, _], _ => rfl)
    g_least_rows := PySem.W.mg_of X Gs a43
    a_ways_to := f44
    d_ways_to := _
    F_ways_to := fun_mk l44 c44 k44
    b_ways_to := (fun_mk (st := s_ways_to) l44 c44 k44).binds (ps := ["stock", "n"]) (fun _ _ _ _ _ _ us hl => match us, hl with | [_, _], _ => rfl)
    g_ways_to := PySem.W.mg_of X Gs a44
    a_fewest_unlike := f45
    d_fewest_unlike := _
    F_fewest_unlike := fun_mk l45 c45 k45
    b_fewest_unlike := (fun_mk (st := s_fewest_unlike) l45 c45 k45).binds (ps := ["kinds", "n"]) (fun _ _ _ _ _ _ us hl => match us, hl with | [_, _], _ => rfl)
    g_fewest_unlike := PySem.W.mg_of X Gs a45
    a_first_unlike := f46
    d_first_unlike := _
    F_first_unlike := fun_mk l46 c46 k46
    b_first_unlike := (fun_mk (st := s_first_unlike) l46 c46 k46).binds (ps := ["kinds", "n"]) (fun _ _ _ _ _ _ us hl => match us, hl with | [_, _], _ => rfl)
    g_first_unlike := PySem.W.mg_of X Gs a46
    a_count_unlike := f47
    d_count_unlike := _
    F_count_unlike := fun_mk l47 c47 k47
    b_count_unlike := (fun_mk (st := s_count_unlike) l47 c47 k47).binds (ps := ["kinds", "n"]) (fun _ _ _ _ _ _ us hl => match us, hl with | [_, _], _ => rfl)
    g_count_unlike := PySem.W.mg_of X Gs a47
    a_without_unlike := f48
    d_without_unlike := _
    F_without_unlike := fun_mk l48 c48 k48
    b_without_unlike := (fun_mk (st := s_without_unlike) l48 c48 k48).binds (ps := ["kinds", "b"]) (fun _ _ _ _ _ _ us hl => match us, hl with | [_, _], _ => rfl)
    g_without_unlike := PySem.W.mg_of X Gs a48
    a_law_cell_v2 := f49
    d_law_cell_v2 := _
    F_law_cell_v2 := fun_mk l49 c49 k49
    b_law_cell_v2 := (fun_mk (st := s_law_cell_v2) l49 c49 k49).binds (ps := ["script", "k"]) (fun _ _ _ _ _ _ us hl => match us, hl with | [_, _], _ => rfl)
    g_law_cell := PySem.W.mg_of X Gs a49
    a_law_mixed := f50
    d_law_mixed := _
    F_law_mixed := fun_mk l50 c50 k50
    b_law_mixed := (fun_mk (st := s_law_mixed) l50 c50 k50).binds (ps := ["cell", "k"]) (fun _ _ _ _ _ _ us hl => match us, hl with | [_, _], _ => rfl)
    g_law_mixed := PySem.W.mg_of X Gs a50
    a_law_kinds_v3 := f51
    d_law_kinds_v3 := _
    F_law_kinds_v3 := fun_mk l51 c51 k51
    b_law_kinds_v3 := (fun_mk (st := s_law_kinds_v3) l51 c51 k51).binds (ps := ["cell"]) (fun _ _ _ _ _ _ us hl => match us, hl with | [_], _ => rfl)
    g_law_kinds := PySem.W.mg_of X Gs a51
    a_law_dots_v3 := f52
    d_law_dots_v3 := _
    F_law_dots_v3 := fun_mk l52 c52 k52
    b_law_dots_v3 := (fun_mk (st := s_law_dots_v3) l52 c52 k52).binds (ps := ["kind", "k"]) (fun _ _ _ _ _ _ us hl => match us, hl with | [_, _], _ => rfl)
    g_law_dots := PySem.W.mg_of X Gs a52
    a_law_stock_v4 := f53
    d_law_stock_v4 := _
    F_law_stock_v4 := fun_mk l53 c53 k53
    b_law_stock_v4 := (fun_mk (st := s_law_stock_v4) l53 c53 k53).binds (ps := ["kinds", "b"]) (fun _ _ _ _ _ _ us hl => match us, hl with | [_, _], _ => rfl)
    g_law_stock := PySem.W.mg_of X Gs a53
    a_law_sums_v2 := f54
    d_law_sums_v2 := _
    F_law_sums_v2 := fun_mk l54 c54 k54
    b_law_sums_v2 := (fun_mk (st := s_law_sums_v2) l54 c54 k54).binds (ps := ["stock", "n"]) (fun _ _ _ _ _ _ us hl => match us, hl with | [_, _], _ => rfl)
    g_law_sums := PySem.W.mg_of X Gs a54
    a_law_stock_good := f55
    d_law_stock_good := _
    F_law_stock_good := fun_mk l55 c55 k55
    b_law_stock_good := (fun_mk (st := s_law_stock_good) l55 c55 k55).binds (ps := ["kinds", "n", "stock"]) (fun _ _ _ _ _ _ us hl => match us, hl with | [_, _, _], _ => rfl)
    g_law_stock_good := PySem.W.mg_of X Gs a55
    a_law_sums_good := f56
    d_law_sums_good := _
    F_law_sums_good := fun_mk l56 c56 k56
    b_law_sums_good := (fun_mk (st := s_law_sums_good) l56 c56 k56).binds (ps := ["kinds", "n", "every"]) (fun _ _ _ _ _ _ us hl => match us, hl with | [_, _, _], _ => rfl)
    g_law_sums_good := PySem.W.mg_of X Gs a56
    a_law_near_good_v2 := f57
    d_law_near_good_v2 := _
    F_law_near_good_v2 := fun_mk l57 c57 k57
    b_law_near_good_v2 := (fun_mk (st := s_law_near_good_v2) l57 c57 k57).binds (ps := ["kinds", "n", "sums", "cell"]) (fun _ _ _ _ _ _ us hl => match us, hl with | [_, _, _, _], _ => rfl)
    g_law_near_good := PySem.W.mg_of X Gs a57
    a_law_unlike_good := f58
    d_law_unlike_good := _
    F_law_unlike_good := fun_mk l58 c58 k58
    b_law_unlike_good := (fun_mk (st := s_law_unlike_good) l58 c58 k58).binds (ps := ["kinds", "n", "every"]) (fun _ _ _ _ _ _ us hl => match us, hl with | [_, _, _], _ => rfl)
    g_law_unlike_good := PySem.W.mg_of X Gs a58
    a_law_needs_good := f59
    d_law_needs_good := _
    F_law_needs_good := fun_mk l59 c59 k59
    b_law_needs_good := (fun_mk (st := s_law_needs_good) l59 c59 k59).binds (ps := ["kinds", "n", "needs"]) (fun _ _ _ _ _ _ us hl => match us, hl with | [_, _, _], _ => rfl)
    g_law_needs_good := PySem.W.mg_of X Gs a59
    a_law_shows_v2 := f60
    d_law_shows_v2 := _
    F_law_shows_v2 := fun_mk l60 c60 k60
    b_law_shows_v2 := (fun_mk (st := s_law_shows_v2) l60 c60 k60).binds (ps := ["stock", "n", "m", "paper"]) (fun _ _ _ _ _ _ us hl => match us, hl with | [_, _, _, _], _ => rfl)
    g_law_shows := PySem.W.mg_of X Gs a60
    a_law_papers_good := f61
    d_law_papers_good := _
    F_law_papers_good := fun_mk l61 c61 k61
    b_law_papers_good := (fun_mk (st := s_law_papers_good) l61 c61 k61).binds (ps := ["kinds", "n", "stock", "needs", "cell"]) (fun _ _ _ _ _ _ us hl => match us, hl with | [_, _, _, _, _], _ => rfl)
    g_law_papers_good := PySem.W.mg_of X Gs a61
    a_law_most_v2 := f62
    d_law_most_v2 := _
    F_law_most_v2 := fun_mk l62 c62 k62
    b_law_most_v2 := (fun_mk (st := s_law_most_v2) l62 c62 k62).binds (ps := ["kinds", "n"]) (fun _ _ _ _ _ _ us hl => match us, hl with | [_, _], _ => rfl)
    g_law_most := PySem.W.mg_of X Gs a62
    a_law_keeper_good := f63
    d_law_keeper_good := _
    F_law_keeper_good := fun_mk l63 c63 k63
    b_law_keeper_good := (fun_mk (st := s_law_keeper_good) l63 c63 k63).binds (ps := ["kinds", "n", "cell"]) (fun _ _ _ _ _ _ us hl => match us, hl with | [_, _, _], _ => rfl)
    g_law_keeper_good := PySem.W.mg_of X Gs a63
    a_law_k45 := f64
    d_law_k45 := _
    F_law_k45 := fun_mk l64 c64 k64
    b_law_k45 := (fun_mk (st := s_law_k45) l64 c64 k64).binds (ps := ["script"]) (fun _ _ _ _ _ _ us hl => match us, hl with | [_], _ => rfl)
    g_law := PySem.W.mg_of X Gs a64
    cl_Counts := ⟨pg1, hd1, po1, sa1⟩
    nf_Counts_rows := nf1_0
    nf_Counts_values_let := nf1_1
    cl_Keeper := ⟨pg2, hd2, po2, sa2⟩
    nf_Keeper_bound := nf2_0
    nf_Keeper_own := nf2_1
    n_abs := PySem.W.mg_none_of X Gs z0
    n_bool := PySem.W.mg_none_of X Gs z1
    n_enumerate := PySem.W.mg_none_of X Gs z2
    n_int := PySem.W.mg_none_of X Gs z3
    n_isinstance := PySem.W.mg_none_of X Gs z4
    n_len := PySem.W.mg_none_of X Gs z5
    n_list := PySem.W.mg_none_of X Gs z6
    n_max := PySem.W.mg_none_of X Gs z7
    n_min := PySem.W.mg_none_of X Gs z8
    n_range := PySem.W.mg_none_of X Gs z9
    n_set := PySem.W.mg_none_of X Gs z10
    n_sorted := PySem.W.mg_none_of X Gs z11
    n_str := PySem.W.mg_none_of X Gs z12
    n_sum := PySem.W.mg_none_of X Gs z13
    k_CUBES := tk0
    c_CUBES := PySem.W.mg_of X Gs y0
    k_FEWEST_CORNERS := tk1
    c_FEWEST_CORNERS := PySem.W.mg_of X Gs y1
    k_FULL := tk2
    c_FULL := PySem.W.mg_of X Gs y2
    k_MOST := tk3
    c_MOST := PySem.W.mg_of X Gs y3
    k_MOST_CORNERS := tk4
    c_MOST_CORNERS := PySem.W.mg_of X Gs y4
    k_MOST_KINDS := tk5
    c_MOST_KINDS := PySem.W.mg_of X Gs y5
    k_WIDE := tk6
    c_WIDE := PySem.W.mg_of X Gs y6 }, PySem.W.mg_of X Gs a64, rfl⟩
/-- the law, as its caller asks it -/
def spLaw (K : PySem.W.Frag) : Sp := fun vs H Q _ => ∃ (a : Addr) (ns : List Int), vs = [.ref a] ∧ SqL K H a (ns.map V.int) ∧ ns.length ≤ 63 ∧ ∀ H', Q (.bl true) H'
/-- the law of the readings -/
def LawHolds : Prop := ∀ (G : Gx) (H : Hp) (a : Addr) (ns : List Int) (Q : VK), SqL G.K H a (ns.map V.int) → ns.length ≤ 63 → (∀ H', Q (.bl true) H') → sp_law_k45 G [.ref a] H Q E0
theorem law_holds : LawHolds := fun G H a ns Q hs hl hq => law_k45_ok hs hl hq
theorem all_mk (HL : LawHolds) {l : PySem.W.OpenLaw} {w : World} {K : PySem.W.Frag} {h : Heap} {mg : Str → Option Value} {fa : Addr} (X : K.In h) (Gs : h.Ns mainGlobals mg) (hfa : mg "law" = some (.ref fa))
    {C1 : Addr}
    {C2 : Addr}
    {f1 : Addr} {od1 an1 : Option Addr} {sl1 : Array (Option Value)} {oc1 kV1 dc1 pm1 cd1 ct1 : Value}
    {f2 : Addr} {od2 an2 : Option Addr} {sl2 : Array (Option Value)} {oc2 kV2 dc2 pm2 cd2 ct2 : Value}
    {f3 : Addr} {od3 an3 : Option Addr} {sl3 : Array (Option Value)} {oc3 kV3 dc3 pm3 cd3 ct3 : Value}
    {f4 : Addr} {od4 an4 : Option Addr} {sl4 : Array (Option Value)} {oc4 kV4 dc4 pm4 cd4 ct4 : Value}
    {f5 : Addr} {od5 an5 : Option Addr} {sl5 : Array (Option Value)} {oc5 kV5 dc5 pm5 cd5 ct5 : Value}
    {f6 : Addr} {od6 an6 : Option Addr} {sl6 : Array (Option Value)} {oc6 kV6 dc6 pm6 cd6 ct6 : Value}
    {f7 : Addr} {od7 an7 : Option Addr} {sl7 : Array (Option Value)} {oc7 kV7 dc7 pm7 cd7 ct7 : Value}
    {f8 : Addr} {od8 an8 : Option Addr} {sl8 : Array (Option Value)} {oc8 kV8 dc8 pm8 cd8 ct8 : Value}
    {f9 : Addr} {od9 an9 : Option Addr} {sl9 : Array (Option Value)} {oc9 kV9 dc9 pm9 cd9 ct9 : Value}
    {f10 : Addr} {od10 an10 : Option Addr} {sl10 : Array (Option Value)} {oc10 kV10 dc10 pm10 cd10 ct10 : Value}
    {f11 : Addr} {od11 an11 : Option Addr} {sl11 : Array (Option Value)} {oc11 kV11 dc11 pm11 cd11 ct11 : Value}
    {f12 : Addr} {od12 an12 : Option Addr} {sl12 : Array (Option Value)} {oc12 kV12 dc12 pm12 cd12 ct12 : Value}
    {f13 : Addr} {od13 an13 : Option Addr} {sl13 : Array (Option Value)} {oc13 kV13 dc13 pm13 cd13 ct13 : Value}
    {f14 : Addr} {od14 an14 : Option Addr} {sl14 : Array (Option Value)} {oc14 kV14 dc14 pm14 cd14 ct14 : Value}
    {f15 : Addr} {od15 an15 : Option Addr} {sl15 : Array (Option Value)} {oc15 kV15 dc15 pm15 cd15 ct15 : Value}
    {f16 : Addr} {od16 an16 : Option Addr} {sl16 : Array (Option Value)} {oc16 kV16 dc16 pm16 cd16 ct16 : Value}
    {f17 : Addr} {od17 an17 : Option Addr} {sl17 : Array (Option Value)} {oc17 kV17 dc17 pm17 cd17 ct17 : Value}
    {f18 : Addr} {od18 an18 : Option Addr} {sl18 : Array (Option Value)} {oc18 kV18 dc18 pm18 cd18 ct18 : Value}
    {f19 : Addr} {od19 an19 : Option Addr} {sl19 : Array (Option Value)} {oc19 kV19 dc19 pm19 cd19 ct19 : Value}
    {f20 : Addr} {od20 an20 : Option Addr} {sl20 : Array (Option Value)} {oc20 kV20 dc20 pm20 cd20 ct20 : Value}
    {f21 : Addr} {od21 an21 : Option Addr} {sl21 : Array (Option Value)} {oc21 kV21 dc21 pm21 cd21 ct21 : Value}
    {f22 : Addr} {od22 an22 : Option Addr} {sl22 : Array (Option Value)} {oc22 kV22 dc22 pm22 cd22 ct22 : Value}
    {f23 : Addr} {od23 an23 : Option Addr} {sl23 : Array (Option Value)} {oc23 kV23 dc23 pm23 cd23 ct23 : Value}
    {f24 : Addr} {od24 an24 : Option Addr} {sl24 : Array (Option Value)} {oc24 kV24 dc24 pm24 cd24 ct24 : Value}
    {f25 : Addr} {od25 an25 : Option Addr} {sl25 : Array (Option Value)} {oc25 kV25 dc25 pm25 cd25 ct25 : Value}
    {f26 : Addr} {od26 an26 : Option Addr} {sl26 : Array (Option Value)} {oc26 kV26 dc26 pm26 cd26 ct26 : Value}
    {f27 : Addr} {od27 an27 : Option Addr} {sl27 : Array (Option Value)} {oc27 kV27 dc27 pm27 cd27 ct27 : Value}
    {f28 : Addr} {od28 an28 : Option Addr} {sl28 : Array (Option Value)} {oc28 kV28 dc28 pm28 cd28 ct28 : Value}
    {f29 : Addr} {od29 an29 : Option Addr} {sl29 : Array (Option Value)} {oc29 kV29 dc29 pm29 cd29 ct29 : Value}
    {f30 : Addr} {od30 an30 : Option Addr} {sl30 : Array (Option Value)} {oc30 kV30 dc30 pm30 cd30 ct30 : Value}
    {f31 : Addr} {od31 an31 : Option Addr} {sl31 : Array (Option Value)} {oc31 kV31 dc31 pm31 cd31 ct31 : Value}
    {f32 : Addr} {od32 an32 : Option Addr} {sl32 : Array (Option Value)} {oc32 kV32 dc32 pm32 cd32 ct32 : Value}
    {f33 : Addr} {od33 an33 : Option Addr} {sl33 : Array (Option Value)} {oc33 kV33 dc33 pm33 cd33 ct33 : Value}
    {f34 : Addr} {od34 an34 : Option Addr} {sl34 : Array (Option Value)} {oc34 kV34 dc34 pm34 cd34 ct34 : Value}
    {f35 : Addr} {od35 an35 : Option Addr} {sl35 : Array (Option Value)} {oc35 kV35 dc35 pm35 cd35 ct35 : Value}
    {f36 : Addr} {od36 an36 : Option Addr} {sl36 : Array (Option Value)} {oc36 kV36 dc36 pm36 cd36 ct36 : Value}
    {f37 : Addr} {od37 an37 : Option Addr} {sl37 : Array (Option Value)} {oc37 kV37 dc37 pm37 cd37 ct37 : Value}
    {f38 : Addr} {od38 an38 : Option Addr} {sl38 : Array (Option Value)} {oc38 kV38 dc38 pm38 cd38 ct38 : Value}
    {f39 : Addr} {od39 an39 : Option Addr} {sl39 : Array (Option Value)} {oc39 kV39 dc39 pm39 cd39 ct39 : Value}
    {f40 : Addr} {od40 an40 : Option Addr} {sl40 : Array (Option Value)} {oc40 kV40 dc40 pm40 cd40 ct40 : Value}
    {f41 : Addr} {od41 an41 : Option Addr} {sl41 : Array (Option Value)} {oc41 kV41 dc41 pm41 cd41 ct41 : Value}
    {f42 : Addr} {od42 an42 : Option Addr} {sl42 : Array (Option Value)} {oc42 kV42 dc42 pm42 cd42 ct42 : Value}
    {f43 : Addr} {od43 an43 : Option Addr} {sl43 : Array (Option Value)} {oc43 kV43 dc43 pm43 cd43 ct43 : Value}
    {f44 : Addr} {od44 an44 : Option Addr} {sl44 : Array (Option Value)} {oc44 kV44 dc44 pm44 cd44 ct44 : Value}
    {f45 : Addr} {od45 an45 : Option Addr} {sl45 : Array (Option Value)} {oc45 kV45 dc45 pm45 cd45 ct45 : Value}
    {f46 : Addr} {od46 an46 : Option Addr} {sl46 : Array (Option Value)} {oc46 kV46 dc46 pm46 cd46 ct46 : Value}
    {f47 : Addr} {od47 an47 : Option Addr} {sl47 : Array (Option Value)} {oc47 kV47 dc47 pm47 cd47 ct47 : Value}
    {f48 : Addr} {od48 an48 : Option Addr} {sl48 : Array (Option Value)} {oc48 kV48 dc48 pm48 cd48 ct48 : Value}
    {f49 : Addr} {od49 an49 : Option Addr} {sl49 : Array (Option Value)} {oc49 kV49 dc49 pm49 cd49 ct49 : Value}
    {f50 : Addr} {od50 an50 : Option Addr} {sl50 : Array (Option Value)} {oc50 kV50 dc50 pm50 cd50 ct50 : Value}
    {f51 : Addr} {od51 an51 : Option Addr} {sl51 : Array (Option Value)} {oc51 kV51 dc51 pm51 cd51 ct51 : Value}
    {f52 : Addr} {od52 an52 : Option Addr} {sl52 : Array (Option Value)} {oc52 kV52 dc52 pm52 cd52 ct52 : Value}
    {f53 : Addr} {od53 an53 : Option Addr} {sl53 : Array (Option Value)} {oc53 kV53 dc53 pm53 cd53 ct53 : Value}
    {f54 : Addr} {od54 an54 : Option Addr} {sl54 : Array (Option Value)} {oc54 kV54 dc54 pm54 cd54 ct54 : Value}
    {f55 : Addr} {od55 an55 : Option Addr} {sl55 : Array (Option Value)} {oc55 kV55 dc55 pm55 cd55 ct55 : Value}
    {f56 : Addr} {od56 an56 : Option Addr} {sl56 : Array (Option Value)} {oc56 kV56 dc56 pm56 cd56 ct56 : Value}
    {f57 : Addr} {od57 an57 : Option Addr} {sl57 : Array (Option Value)} {oc57 kV57 dc57 pm57 cd57 ct57 : Value}
    {f58 : Addr} {od58 an58 : Option Addr} {sl58 : Array (Option Value)} {oc58 kV58 dc58 pm58 cd58 ct58 : Value}
    {f59 : Addr} {od59 an59 : Option Addr} {sl59 : Array (Option Value)} {oc59 kV59 dc59 pm59 cd59 ct59 : Value}
    {f60 : Addr} {od60 an60 : Option Addr} {sl60 : Array (Option Value)} {oc60 kV60 dc60 pm60 cd60 ct60 : Value}
    {f61 : Addr} {od61 an61 : Option Addr} {sl61 : Array (Option Value)} {oc61 kV61 dc61 pm61 cd61 ct61 : Value}
    {f62 : Addr} {od62 an62 : Option Addr} {sl62 : Array (Option Value)} {oc62 kV62 dc62 pm62 cd62 ct62 : Value}
    {f63 : Addr} {od63 an63 : Option Addr} {sl63 : Array (Option Value)} {oc63 kV63 dc63 pm63 cd63 ct63 : Value}
    {f64 : Addr} {od64 an64 : Option Addr} {sl64 : Array (Option Value)} {oc64 kV64 dc64 pm64 cd64 ct64 : Value}
    {tk0 : Tok}
    {tk1 : Tok}
    {tk2 : Tok}
    {tk3 : Tok}
    {tk4 : Tok}
    {tk5 : Tok}
    {tk6 : Tok}
    (aC1 : PySem.W.nsIn K mainGlobals "Counts" = some (some (.ref C1)))
    (aC2 : PySem.W.nsIn K mainGlobals "Keeper" = some (some (.ref C2)))
    (a1 : PySem.W.nsIn K mainGlobals "is_whole_shapes" = some (some (.ref f1)))
    (l1 : K.lookup f1 = some ⟨oc1, od1, .func (PySem.W.fnOf "is_whole" "is_whole" (defArgs s_is_whole) (defBody s_is_whole) (defScope s_is_whole) .none kV1 dc1 pm1 an1 cd1 ct1), sl1⟩)
    (c1 : PySem.W.codeIn K cd1 "is_whole" = true)
    (k1 : PySem.W.keepIn K (.ref f1) = true)
    (a2 : PySem.W.nsIn K mainGlobals "is_kind" = some (some (.ref f2)))
    (l2 : K.lookup f2 = some ⟨oc2, od2, .func (PySem.W.fnOf "is_kind" "is_kind" (defArgs s_is_kind) (defBody s_is_kind) (defScope s_is_kind) .none kV2 dc2 pm2 an2 cd2 ct2), sl2⟩)
    (c2 : PySem.W.codeIn K cd2 "is_kind" = true)
    (k2 : PySem.W.keepIn K (.ref f2) = true)
    (a3 : PySem.W.nsIn K mainGlobals "are_kinds" = some (some (.ref f3)))
    (l3 : K.lookup f3 = some ⟨oc3, od3, .func (PySem.W.fnOf "are_kinds" "are_kinds" (defArgs s_are_kinds) (defBody s_are_kinds) (defScope s_are_kinds) .none kV3 dc3 pm3 an3 cd3 ct3), sl3⟩)
    (c3 : PySem.W.codeIn K cd3 "are_kinds" = true)
    (k3 : PySem.W.keepIn K (.ref f3) = true)
    (a4 : PySem.W.nsIn K mainGlobals "need_kind" = some (some (.ref f4)))
    (l4 : K.lookup f4 = some ⟨oc4, od4, .func (PySem.W.fnOf "need_kind" "need_kind" (defArgs s_need_kind) (defBody s_need_kind) (defScope s_need_kind) .none kV4 dc4 pm4 an4 cd4 ct4), sl4⟩)
    (c4 : PySem.W.codeIn K cd4 "need_kind" = true)
    (k4 : PySem.W.keepIn K (.ref f4) = true)
    (a5 : PySem.W.nsIn K mainGlobals "need_kinds" = some (some (.ref f5)))
    (l5 : K.lookup f5 = some ⟨oc5, od5, .func (PySem.W.fnOf "need_kinds" "need_kinds" (defArgs s_need_kinds) (defBody s_need_kinds) (defScope s_need_kinds) .none kV5 dc5 pm5 an5 cd5 ct5), sl5⟩)
    (c5 : PySem.W.codeIn K cd5 "need_kinds" = true)
    (k5 : PySem.W.keepIn K (.ref f5) = true)
    (a6 : PySem.W.nsIn K mainGlobals "need_from" = some (some (.ref f6)))
    (l6 : K.lookup f6 = some ⟨oc6, od6, .func (PySem.W.fnOf "need_from" "need_from" (defArgs s_need_from) (defBody s_need_from) (defScope s_need_from) .none kV6 dc6 pm6 an6 cd6 ct6), sl6⟩)
    (c6 : PySem.W.codeIn K cd6 "need_from" = true)
    (k6 : PySem.W.keepIn K (.ref f6) = true)
    (a7 : PySem.W.nsIn K mainGlobals "need_to_most" = some (some (.ref f7)))
    (l7 : K.lookup f7 = some ⟨oc7, od7, .func (PySem.W.fnOf "need_to_most" "need_to_most" (defArgs s_need_to_most) (defBody s_need_to_most) (defScope s_need_to_most) .none kV7 dc7 pm7 an7 cd7 ct7), sl7⟩)
    (c7 : PySem.W.codeIn K cd7 "need_to_most" = true)
    (k7 : PySem.W.keepIn K (.ref f7) = true)
    (a8 : PySem.W.nsIn K mainGlobals "dots" = some (some (.ref f8)))
    (l8 : K.lookup f8 = some ⟨oc8, od8, .func (PySem.W.fnOf "dots" "dots" (defArgs s_dots) (defBody s_dots) (defScope s_dots) .none kV8 dc8 pm8 an8 cd8 ct8), sl8⟩)
    (c8 : PySem.W.codeIn K cd8 "dots" = true)
    (k8 : PySem.W.keepIn K (.ref f8) = true)
    (a9 : PySem.W.nsIn K mainGlobals "number_of_dots" = some (some (.ref f9)))
    (l9 : K.lookup f9 = some ⟨oc9, od9, .func (PySem.W.fnOf "number_of_dots" "number_of_dots" (defArgs s_number_of_dots) (defBody s_number_of_dots) (defScope s_number_of_dots) .none kV9 dc9 pm9 an9 cd9 ct9), sl9⟩)
    (c9 : PySem.W.codeIn K cd9 "number_of_dots" = true)
    (k9 : PySem.W.keepIn K (.ref f9) = true)
    (a10 : PySem.W.nsIn K mainGlobals "place_in" = some (some (.ref f10)))
    (l10 : K.lookup f10 = some ⟨oc10, od10, .func (PySem.W.fnOf "place_in" "place_in" (defArgs s_place_in) (defBody s_place_in) (defScope s_place_in) .none kV10 dc10 pm10 an10 cd10 ct10), sl10⟩)
    (c10 : PySem.W.codeIn K cd10 "place_in" = true)
    (k10 : PySem.W.keepIn K (.ref f10) = true)
    (a11 : PySem.W.nsIn K mainGlobals "stock_of" = some (some (.ref f11)))
    (l11 : K.lookup f11 = some ⟨oc11, od11, .func (PySem.W.fnOf "stock_of" "stock_of" (defArgs s_stock_of) (defBody s_stock_of) (defScope s_stock_of) .none kV11 dc11 pm11 an11 cd11 ct11), sl11⟩)
    (c11 : PySem.W.codeIn K cd11 "stock_of" = true)
    (k11 : PySem.W.keepIn K (.ref f11) = true)
    (a12 : PySem.W.nsIn K mainGlobals "stock_to" = some (some (.ref f12)))
    (l12 : K.lookup f12 = some ⟨oc12, od12, .func (PySem.W.fnOf "stock_to" "stock_to" (defArgs s_stock_to) (defBody s_stock_to) (defScope s_stock_to) .none kV12 dc12 pm12 an12 cd12 ct12), sl12⟩)
    (c12 : PySem.W.codeIn K cd12 "stock_to" = true)
    (k12 : PySem.W.keepIn K (.ref f12) = true)
    (a13 : PySem.W.nsIn K mainGlobals "is_sum" = some (some (.ref f13)))
    (l13 : K.lookup f13 = some ⟨oc13, od13, .func (PySem.W.fnOf "is_sum" "is_sum" (defArgs s_is_sum) (defBody s_is_sum) (defScope s_is_sum) .none kV13 dc13 pm13 an13 cd13 ct13), sl13⟩)
    (c13 : PySem.W.codeIn K cd13 "is_sum" = true)
    (k13 : PySem.W.keepIn K (.ref f13) = true)
    (a14 : PySem.W.nsIn K mainGlobals "fewest_by" = some (some (.ref f14)))
    (l14 : K.lookup f14 = some ⟨oc14, od14, .func (PySem.W.fnOf "fewest_by" "fewest_by" (defArgs s_fewest_by) (defBody s_fewest_by) (defScope s_fewest_by) .none kV14 dc14 pm14 an14 cd14 ct14), sl14⟩)
    (c14 : PySem.W.codeIn K cd14 "fewest_by" = true)
    (k14 : PySem.W.keepIn K (.ref f14) = true)
    (a15 : PySem.W.nsIn K mainGlobals "fewest_parts" = some (some (.ref f15)))
    (l15 : K.lookup f15 = some ⟨oc15, od15, .func (PySem.W.fnOf "fewest_parts" "fewest_parts" (defArgs s_fewest_parts) (defBody s_fewest_parts) (defScope s_fewest_parts) .none kV15 dc15 pm15 an15 cd15 ct15), sl15⟩)
    (c15 : PySem.W.codeIn K cd15 "fewest_parts" = true)
    (k15 : PySem.W.keepIn K (.ref f15) = true)
    (a16 : PySem.W.nsIn K mainGlobals "fewest_to" = some (some (.ref f16)))
    (l16 : K.lookup f16 = some ⟨oc16, od16, .func (PySem.W.fnOf "fewest_to" "fewest_to" (defArgs s_fewest_to) (defBody s_fewest_to) (defScope s_fewest_to) .none kV16 dc16 pm16 an16 cd16 ct16), sl16⟩)
    (c16 : PySem.W.codeIn K cd16 "fewest_to" = true)
    (k16 : PySem.W.keepIn K (.ref f16) = true)
    (a17 : PySem.W.nsIn K mainGlobals "tables_of" = some (some (.ref f17)))
    (l17 : K.lookup f17 = some ⟨oc17, od17, .func (PySem.W.fnOf "tables_of" "tables_of" (defArgs s_tables_of) (defBody s_tables_of) (defScope s_tables_of) .none kV17 dc17 pm17 an17 cd17 ct17), sl17⟩)
    (c17 : PySem.W.codeIn K cd17 "tables_of" = true)
    (k17 : PySem.W.keepIn K (.ref f17) = true)
    (a18 : PySem.W.nsIn K mainGlobals "first_sum" = some (some (.ref f18)))
    (l18 : K.lookup f18 = some ⟨oc18, od18, .func (PySem.W.fnOf "first_sum" "first_sum" (defArgs s_first_sum) (defBody s_first_sum) (defScope s_first_sum) .none kV18 dc18 pm18 an18 cd18 ct18), sl18⟩)
    (c18 : PySem.W.codeIn K cd18 "first_sum" = true)
    (k18 : PySem.W.keepIn K (.ref f18) = true)
    (a19 : PySem.W.findIn K (.ref C1) "__init__" = some (some (.ref f19)))
    (i19 : PySem.W.isFn K (.ref f19) = true)
    (l19 : K.lookup f19 = some ⟨oc19, od19, .func (PySem.W.fnOf "__init__" "Counts.__init__" (defArgs s_Counts___init__) (defBody s_Counts___init__) (defScope s_Counts___init__) .none kV19 dc19 pm19 an19 cd19 ct19), sl19⟩)
    (c19 : PySem.W.codeIn K cd19 "Counts.__init__" = true)
    (k19 : PySem.W.keepIn K (.ref f19) = true)
    (mk1 : PySem.W.makesIn K C1 = true)
    (kc1 : PySem.W.keepIn K (.ref C1) = true)
    (a20 : PySem.W.findIn K (.ref C1) "many" = some (some (.ref f20)))
    (i20 : PySem.W.isFn K (.ref f20) = true)
    (l20 : K.lookup f20 = some ⟨oc20, od20, .func (PySem.W.fnOf "many" "Counts.many" (defArgs s_Counts_many) (defBody s_Counts_many) (defScope s_Counts_many) .none kV20 dc20 pm20 an20 cd20 ct20), sl20⟩)
    (c20 : PySem.W.codeIn K cd20 "Counts.many" = true)
    (k20 : PySem.W.keepIn K (.ref f20) = true)
    (a21 : PySem.W.findIn K (.ref C1) "firsts" = some (some (.ref f21)))
    (i21 : PySem.W.isFn K (.ref f21) = true)
    (l21 : K.lookup f21 = some ⟨oc21, od21, .func (PySem.W.fnOf "firsts" "Counts.firsts" (defArgs s_Counts_firsts_v2) (defBody s_Counts_firsts_v2) (defScope s_Counts_firsts_v2) .none kV21 dc21 pm21 an21 cd21 ct21), sl21⟩)
    (c21 : PySem.W.codeIn K cd21 "Counts.firsts" = true)
    (k21 : PySem.W.keepIn K (.ref f21) = true)
    (a22 : PySem.W.nsIn K mainGlobals "counts_of" = some (some (.ref f22)))
    (l22 : K.lookup f22 = some ⟨oc22, od22, .func (PySem.W.fnOf "counts_of" "counts_of" (defArgs s_counts_of) (defBody s_counts_of) (defScope s_counts_of) .none kV22 dc22 pm22 an22 cd22 ct22), sl22⟩)
    (c22 : PySem.W.codeIn K cd22 "counts_of" = true)
    (k22 : PySem.W.keepIn K (.ref f22) = true)
    (a23 : PySem.W.nsIn K mainGlobals "just" = some (some (.ref f23)))
    (l23 : K.lookup f23 = some ⟨oc23, od23, .func (PySem.W.fnOf "just" "just" (defArgs s_just) (defBody s_just) (defScope s_just) .none kV23 dc23 pm23 an23 cd23 ct23), sl23⟩)
    (c23 : PySem.W.codeIn K cd23 "just" = true)
    (k23 : PySem.W.keepIn K (.ref f23) = true)
    (a24 : PySem.W.nsIn K mainGlobals "count_sums" = some (some (.ref f24)))
    (l24 : K.lookup f24 = some ⟨oc24, od24, .func (PySem.W.fnOf "count_sums" "count_sums" (defArgs s_count_sums) (defBody s_count_sums) (defScope s_count_sums) .none kV24 dc24 pm24 an24 cd24 ct24), sl24⟩)
    (c24 : PySem.W.codeIn K cd24 "count_sums" = true)
    (k24 : PySem.W.keepIn K (.ref f24) = true)
    (a25 : PySem.W.nsIn K mainGlobals "count_just" = some (some (.ref f25)))
    (l25 : K.lookup f25 = some ⟨oc25, od25, .func (PySem.W.fnOf "count_just" "count_just" (defArgs s_count_just) (defBody s_count_just) (defScope s_count_just) .none kV25 dc25 pm25 an25 cd25 ct25), sl25⟩)
    (c25 : PySem.W.codeIn K cd25 "count_just" = true)
    (k25 : PySem.W.keepIn K (.ref f25) = true)
    (a26 : PySem.W.nsIn K mainGlobals "count_at_most" = some (some (.ref f26)))
    (l26 : K.lookup f26 = some ⟨oc26, od26, .func (PySem.W.fnOf "count_at_most" "count_at_most" (defArgs s_count_at_most) (defBody s_count_at_most) (defScope s_count_at_most) .none kV26 dc26 pm26 an26 cd26 ct26), sl26⟩)
    (c26 : PySem.W.codeIn K cd26 "count_at_most" = true)
    (k26 : PySem.W.keepIn K (.ref f26) = true)
    (a27 : PySem.W.nsIn K mainGlobals "sum_by" = some (some (.ref f27)))
    (l27 : K.lookup f27 = some ⟨oc27, od27, .func (PySem.W.fnOf "sum_by" "sum_by" (defArgs s_sum_by) (defBody s_sum_by) (defScope s_sum_by) .none kV27 dc27 pm27 an27 cd27 ct27), sl27⟩)
    (c27 : PySem.W.codeIn K cd27 "sum_by" = true)
    (k27 : PySem.W.keepIn K (.ref f27) = true)
    (a28 : PySem.W.nsIn K mainGlobals "number_of" = some (some (.ref f28)))
    (l28 : K.lookup f28 = some ⟨oc28, od28, .func (PySem.W.fnOf "number_of" "number_of" (defArgs s_number_of) (defBody s_number_of) (defScope s_number_of) .none kV28 dc28 pm28 an28 cd28 ct28), sl28⟩)
    (c28 : PySem.W.codeIn K cd28 "number_of" = true)
    (k28 : PySem.W.keepIn K (.ref f28) = true)
    (a29 : PySem.W.findIn K (.ref C2) "__init__" = some (some (.ref f29)))
    (i29 : PySem.W.isFn K (.ref f29) = true)
    (l29 : K.lookup f29 = some ⟨oc29, od29, .func (PySem.W.fnOf "__init__" "Keeper.__init__" (defArgs s_Keeper___init__) (defBody s_Keeper___init__) (defScope s_Keeper___init__) .none kV29 dc29 pm29 an29 cd29 ct29), sl29⟩)
    (c29 : PySem.W.codeIn K cd29 "Keeper.__init__" = true)
    (k29 : PySem.W.keepIn K (.ref f29) = true)
    (mk2 : PySem.W.makesIn K C2 = true)
    (kc2 : PySem.W.keepIn K (.ref C2) = true)
    (a30 : PySem.W.findIn K (.ref C2) "needs" = some (some (.ref f30)))
    (i30 : PySem.W.isFn K (.ref f30) = true)
    (l30 : K.lookup f30 = some ⟨oc30, od30, .func (PySem.W.fnOf "needs" "Keeper.needs" (defArgs s_Keeper_needs) (defBody s_Keeper_needs) (defScope s_Keeper_needs) .none kV30 dc30 pm30 an30 cd30 ct30), sl30⟩)
    (c30 : PySem.W.codeIn K cd30 "Keeper.needs" = true)
    (k30 : PySem.W.keepIn K (.ref f30) = true)
    (a31 : PySem.W.findIn K (.ref C2) "come" = some (some (.ref f31)))
    (i31 : PySem.W.isFn K (.ref f31) = true)
    (l31 : K.lookup f31 = some ⟨oc31, od31, .func (PySem.W.fnOf "come" "Keeper.come" (defArgs s_Keeper_come) (defBody s_Keeper_come) (defScope s_Keeper_come) .none kV31 dc31 pm31 an31 cd31 ct31), sl31⟩)
    (c31 : PySem.W.codeIn K cd31 "Keeper.come" = true)
    (k31 : PySem.W.keepIn K (.ref f31) = true)
    (a32 : PySem.W.findIn K (.ref C2) "go" = some (some (.ref f32)))
    (i32 : PySem.W.isFn K (.ref f32) = true)
    (l32 : K.lookup f32 = some ⟨oc32, od32, .func (PySem.W.fnOf "go" "Keeper.go" (defArgs s_Keeper_go) (defBody s_Keeper_go) (defScope s_Keeper_go) .none kV32 dc32 pm32 an32 cd32 ct32), sl32⟩)
    (c32 : PySem.W.codeIn K cd32 "Keeper.go" = true)
    (k32 : PySem.W.keepIn K (.ref f32) = true)
    (a33 : PySem.W.findIn K (.ref C2) "kinds" = some (some (.ref f33)))
    (i33 : PySem.W.isFn K (.ref f33) = true)
    (l33 : K.lookup f33 = some ⟨oc33, od33, .func (PySem.W.fnOf "kinds" "Keeper.kinds" (defArgs s_Keeper_kinds) (defBody s_Keeper_kinds) (defScope s_Keeper_kinds) .none kV33 dc33 pm33 an33 cd33 ct33), sl33⟩)
    (c33 : PySem.W.codeIn K cd33 "Keeper.kinds" = true)
    (k33 : PySem.W.keepIn K (.ref f33) = true)
    (a34 : PySem.W.findIn K (.ref C2) "stock" = some (some (.ref f34)))
    (i34 : PySem.W.isFn K (.ref f34) = true)
    (l34 : K.lookup f34 = some ⟨oc34, od34, .func (PySem.W.fnOf "stock" "Keeper.stock" (defArgs s_Keeper_stock) (defBody s_Keeper_stock) (defScope s_Keeper_stock) .none kV34 dc34 pm34 an34 cd34 ct34), sl34⟩)
    (c34 : PySem.W.codeIn K cd34 "Keeper.stock" = true)
    (k34 : PySem.W.keepIn K (.ref f34) = true)
    (a35 : PySem.W.findIn K (.ref C2) "fewest" = some (some (.ref f35)))
    (i35 : PySem.W.isFn K (.ref f35) = true)
    (l35 : K.lookup f35 = some ⟨oc35, od35, .func (PySem.W.fnOf "fewest" "Keeper.fewest" (defArgs s_Keeper_fewest) (defBody s_Keeper_fewest) (defScope s_Keeper_fewest) .none kV35 dc35 pm35 an35 cd35 ct35), sl35⟩)
    (c35 : PySem.W.codeIn K cd35 "Keeper.fewest" = true)
    (k35 : PySem.W.keepIn K (.ref f35) = true)
    (a36 : PySem.W.nsIn K mainGlobals "needing" = some (some (.ref f36)))
    (l36 : K.lookup f36 = some ⟨oc36, od36, .func (PySem.W.fnOf "needing" "needing" (defArgs s_needing) (defBody s_needing) (defScope s_needing) .none kV36 dc36 pm36 an36 cd36 ct36), sl36⟩)
    (c36 : PySem.W.codeIn K cd36 "needing" = true)
    (k36 : PySem.W.keepIn K (.ref f36) = true)
    (a37 : PySem.W.nsIn K mainGlobals "greatest_needing" = some (some (.ref f37)))
    (l37 : K.lookup f37 = some ⟨oc37, od37, .func (PySem.W.fnOf "greatest_needing" "greatest_needing" (defArgs s_greatest_needing) (defBody s_greatest_needing) (defScope s_greatest_needing) .none kV37 dc37 pm37 an37 cd37 ct37), sl37⟩)
    (c37 : PySem.W.codeIn K cd37 "greatest_needing" = true)
    (k37 : PySem.W.keepIn K (.ref f37) = true)
    (a38 : PySem.W.nsIn K mainGlobals "most_needed" = some (some (.ref f38)))
    (l38 : K.lookup f38 = some ⟨oc38, od38, .func (PySem.W.fnOf "most_needed" "most_needed" (defArgs s_most_needed) (defBody s_most_needed) (defScope s_most_needed) .none kV38 dc38 pm38 an38 cd38 ct38), sl38⟩)
    (c38 : PySem.W.codeIn K cd38 "most_needed" = true)
    (k38 : PySem.W.keepIn K (.ref f38) = true)
    (a39 : PySem.W.nsIn K mainGlobals "counts_by_need" = some (some (.ref f39)))
    (l39 : K.lookup f39 = some ⟨oc39, od39, .func (PySem.W.fnOf "counts_by_need" "counts_by_need" (defArgs s_counts_by_need) (defBody s_counts_by_need) (defScope s_counts_by_need) .none kV39 dc39 pm39 an39 cd39 ct39), sl39⟩)
    (c39 : PySem.W.codeIn K cd39 "counts_by_need" = true)
    (k39 : PySem.W.keepIn K (.ref f39) = true)
    (a40 : PySem.W.nsIn K mainGlobals "is_whole" = some (some (.ref f40)))
    (l40 : K.lookup f40 = some ⟨oc40, od40, .func (PySem.W.fnOf "is_whole" "is_whole" (defArgs s_is_whole_b) (defBody s_is_whole_b) (defScope s_is_whole_b) .none kV40 dc40 pm40 an40 cd40 ct40), sl40⟩)
    (c40 : PySem.W.codeIn K cd40 "is_whole" = true)
    (k40 : PySem.W.keepIn K (.ref f40) = true)
    (a40_1 : PySem.W.nsIn K mainGlobals "is_whole_papers" = some (some (.ref f40)))
    (a41 : PySem.W.nsIn K mainGlobals "paper_shows" = some (some (.ref f41)))
    (l41 : K.lookup f41 = some ⟨oc41, od41, .func (PySem.W.fnOf "paper_shows" "paper_shows" (defArgs s_paper_shows) (defBody s_paper_shows) (defScope s_paper_shows) .none kV41 dc41 pm41 an41 cd41 ct41), sl41⟩)
    (c41 : PySem.W.codeIn K cd41 "paper_shows" = true)
    (k41 : PySem.W.keepIn K (.ref f41) = true)
    (a42 : PySem.W.nsIn K mainGlobals "need_paper" = some (some (.ref f42)))
    (l42 : K.lookup f42 = some ⟨oc42, od42, .func (PySem.W.fnOf "need_paper" "need_paper" (defArgs s_need_paper) (defBody s_need_paper) (defScope s_need_paper) .none kV42 dc42 pm42 an42 cd42 ct42), sl42⟩)
    (c42 : PySem.W.codeIn K cd42 "need_paper" = true)
    (k42 : PySem.W.keepIn K (.ref f42) = true)
    (a43 : PySem.W.nsIn K mainGlobals "least_rows" = some (some (.ref f43)))
    (l43 : K.lookup f43 = some ⟨oc43, od43, .func (PySem.W.fnOf "least_rows" "least_rows" (defArgs s_least_rows) (defBody s_least_rows) (defScope s_least_rows) .none kV43 dc43 pm43 an43 cd43 ct43), sl43⟩)
    (c43 : PySem.W.codeIn K cd43 "least_rows" = true)
    (k43 : PySem.W.keepIn K (.ref f43) = true)
    (a44 : PySem.W.nsIn K mainGlobals "ways_to" = some (some (.ref f44)))
    (l44 : K.lookup f44 = some ⟨oc44, od44, .func (PySem.W.fnOf "ways_to" "ways_to" (defArgs s_ways_to) (defBody s_ways_to) (defScope s_ways_to) .none kV44 dc44 pm44 an44 cd44 ct44), sl44⟩)
    (c44 : PySem.W.codeIn K cd44 "ways_to" = true)
    (k44 : PySem.W.keepIn K (.ref f44) = true)
    (a45 : PySem.W.nsIn K mainGlobals "fewest_unlike" = some (some (.ref f45)))
    (l45 : K.lookup f45 = some ⟨oc45, od45, .func (PySem.W.fnOf "fewest_unlike" "fewest_unlike" (defArgs s_fewest_unlike) (defBody s_fewest_unlike) (defScope s_fewest_unlike) .none kV45 dc45 pm45 an45 cd45 ct45), sl45⟩)
    (c45 : PySem.W.codeIn K cd45 "fewest_unlike" = true)
    (k45 : PySem.W.keepIn K (.ref f45) = true)
    (a46 : PySem.W.nsIn K mainGlobals "first_unlike" = some (some (.ref f46)))
    (l46 : K.lookup f46 = some ⟨oc46, od46, .func (PySem.W.fnOf "first_unlike" "first_unlike" (defArgs s_first_unlike) (defBody s_first_unlike) (defScope s_first_unlike) .none kV46 dc46 pm46 an46 cd46 ct46), sl46⟩)
    (c46 : PySem.W.codeIn K cd46 "first_unlike" = true)
    (k46 : PySem.W.keepIn K (.ref f46) = true)
    (a47 : PySem.W.nsIn K mainGlobals "count_unlike" = some (some (.ref f47)))
    (l47 : K.lookup f47 = some ⟨oc47, od47, .func (PySem.W.fnOf "count_unlike" "count_unlike" (defArgs s_count_unlike) (defBody s_count_unlike) (defScope s_count_unlike) .none kV47 dc47 pm47 an47 cd47 ct47), sl47⟩)
    (c47 : PySem.W.codeIn K cd47 "count_unlike" = true)
    (k47 : PySem.W.keepIn K (.ref f47) = true)
    (a48 : PySem.W.nsIn K mainGlobals "without_unlike" = some (some (.ref f48)))
    (l48 : K.lookup f48 = some ⟨oc48, od48, .func (PySem.W.fnOf "without_unlike" "without_unlike" (defArgs s_without_unlike) (defBody s_without_unlike) (defScope s_without_unlike) .none kV48 dc48 pm48 an48 cd48 ct48), sl48⟩)
    (c48 : PySem.W.codeIn K cd48 "without_unlike" = true)
    (k48 : PySem.W.keepIn K (.ref f48) = true)
    (a49 : PySem.W.nsIn K mainGlobals "_law_cell" = some (some (.ref f49)))
    (l49 : K.lookup f49 = some ⟨oc49, od49, .func (PySem.W.fnOf "_law_cell" "_law_cell" (defArgs s_law_cell_v2) (defBody s_law_cell_v2) (defScope s_law_cell_v2) .none kV49 dc49 pm49 an49 cd49 ct49), sl49⟩)
    (c49 : PySem.W.codeIn K cd49 "_law_cell" = true)
    (k49 : PySem.W.keepIn K (.ref f49) = true)
    (a50 : PySem.W.nsIn K mainGlobals "_law_mixed" = some (some (.ref f50)))
    (l50 : K.lookup f50 = some ⟨oc50, od50, .func (PySem.W.fnOf "_law_mixed" "_law_mixed" (defArgs s_law_mixed) (defBody s_law_mixed) (defScope s_law_mixed) .none kV50 dc50 pm50 an50 cd50 ct50), sl50⟩)
    (c50 : PySem.W.codeIn K cd50 "_law_mixed" = true)
    (k50 : PySem.W.keepIn K (.ref f50) = true)
    (a51 : PySem.W.nsIn K mainGlobals "_law_kinds" = some (some (.ref f51)))
    (l51 : K.lookup f51 = some ⟨oc51, od51, .func (PySem.W.fnOf "_law_kinds" "_law_kinds" (defArgs s_law_kinds_v3) (defBody s_law_kinds_v3) (defScope s_law_kinds_v3) .none kV51 dc51 pm51 an51 cd51 ct51), sl51⟩)
    (c51 : PySem.W.codeIn K cd51 "_law_kinds" = true)
    (k51 : PySem.W.keepIn K (.ref f51) = true)
    (a52 : PySem.W.nsIn K mainGlobals "_law_dots" = some (some (.ref f52)))
    (l52 : K.lookup f52 = some ⟨oc52, od52, .func (PySem.W.fnOf "_law_dots" "_law_dots" (defArgs s_law_dots_v3) (defBody s_law_dots_v3) (defScope s_law_dots_v3) .none kV52 dc52 pm52 an52 cd52 ct52), sl52⟩)
    (c52 : PySem.W.codeIn K cd52 "_law_dots" = true)
    (k52 : PySem.W.keepIn K (.ref f52) = true)
    (a53 : PySem.W.nsIn K mainGlobals "_law_stock" = some (some (.ref f53)))
    (l53 : K.lookup f53 = some ⟨oc53, od53, .func (PySem.W.fnOf "_law_stock" "_law_stock" (defArgs s_law_stock_v4) (defBody s_law_stock_v4) (defScope s_law_stock_v4) .none kV53 dc53 pm53 an53 cd53 ct53), sl53⟩)
    (c53 : PySem.W.codeIn K cd53 "_law_stock" = true)
    (k53 : PySem.W.keepIn K (.ref f53) = true)
    (a54 : PySem.W.nsIn K mainGlobals "_law_sums" = some (some (.ref f54)))
    (l54 : K.lookup f54 = some ⟨oc54, od54, .func (PySem.W.fnOf "_law_sums" "_law_sums" (defArgs s_law_sums_v2) (defBody s_law_sums_v2) (defScope s_law_sums_v2) .none kV54 dc54 pm54 an54 cd54 ct54), sl54⟩)
    (c54 : PySem.W.codeIn K cd54 "_law_sums" = true)
    (k54 : PySem.W.keepIn K (.ref f54) = true)
    (a55 : PySem.W.nsIn K mainGlobals "_law_stock_good" = some (some (.ref f55)))
    (l55 : K.lookup f55 = some ⟨oc55, od55, .func (PySem.W.fnOf "_law_stock_good" "_law_stock_good" (defArgs s_law_stock_good) (defBody s_law_stock_good) (defScope s_law_stock_good) .none kV55 dc55 pm55 an55 cd55 ct55), sl55⟩)
    (c55 : PySem.W.codeIn K cd55 "_law_stock_good" = true)
    (k55 : PySem.W.keepIn K (.ref f55) = true)
    (a56 : PySem.W.nsIn K mainGlobals "_law_sums_good" = some (some (.ref f56)))
    (l56 : K.lookup f56 = some ⟨oc56, od56, .func (PySem.W.fnOf "_law_sums_good" "_law_sums_good" (defArgs s_law_sums_good) (defBody s_law_sums_good) (defScope s_law_sums_good) .none kV56 dc56 pm56 an56 cd56 ct56), sl56⟩)
    (c56 : PySem.W.codeIn K cd56 "_law_sums_good" = true)
    (k56 : PySem.W.keepIn K (.ref f56) = true)
    (a57 : PySem.W.nsIn K mainGlobals "_law_near_good" = some (some (.ref f57)))
    (l57 : K.lookup f57 = some ⟨oc57, od57, .func (PySem.W.fnOf "_law_near_good" "_law_near_good" (defArgs s_law_near_good_v2) (defBody s_law_near_good_v2) (defScope s_law_near_good_v2) .none kV57 dc57 pm57 an57 cd57 ct57), sl57⟩)
    (c57 : PySem.W.codeIn K cd57 "_law_near_good" = true)
    (k57 : PySem.W.keepIn K (.ref f57) = true)
    (a58 : PySem.W.nsIn K mainGlobals "_law_unlike_good" = some (some (.ref f58)))
    (l58 : K.lookup f58 = some ⟨oc58, od58, .func (PySem.W.fnOf "_law_unlike_good" "_law_unlike_good" (defArgs s_law_unlike_good) (defBody s_law_unlike_good) (defScope s_law_unlike_good) .none kV58 dc58 pm58 an58 cd58 ct58), sl58⟩)
    (c58 : PySem.W.codeIn K cd58 "_law_unlike_good" = true)
    (k58 : PySem.W.keepIn K (.ref f58) = true)
    (a59 : PySem.W.nsIn K mainGlobals "_law_needs_good" = some (some (.ref f59)))
    (l59 : K.lookup f59 = some ⟨oc59, od59, .func (PySem.W.fnOf "_law_needs_good" "_law_needs_good" (defArgs s_law_needs_good) (defBody s_law_needs_good) (defScope s_law_needs_good) .none kV59 dc59 pm59 an59 cd59 ct59), sl59⟩)
    (c59 : PySem.W.codeIn K cd59 "_law_needs_good" = true)
    (k59 : PySem.W.keepIn K (.ref f59) = true)
    (a60 : PySem.W.nsIn K mainGlobals "_law_shows" = some (some (.ref f60)))
    (l60 : K.lookup f60 = some ⟨oc60, od60, .func (PySem.W.fnOf "_law_shows" "_law_shows" (defArgs s_law_shows_v2) (defBody s_law_shows_v2) (defScope s_law_shows_v2) .none kV60 dc60 pm60 an60 cd60 ct60), sl60⟩)
    (c60 : PySem.W.codeIn K cd60 "_law_shows" = true)
    (k60 : PySem.W.keepIn K (.ref f60) = true)
    (a61 : PySem.W.nsIn K mainGlobals "_law_papers_good" = some (some (.ref f61)))
    (l61 : K.lookup f61 = some ⟨oc61, od61, .func (PySem.W.fnOf "_law_papers_good" "_law_papers_good" (defArgs s_law_papers_good) (defBody s_law_papers_good) (defScope s_law_papers_good) .none kV61 dc61 pm61 an61 cd61 ct61), sl61⟩)
    (c61 : PySem.W.codeIn K cd61 "_law_papers_good" = true)
    (k61 : PySem.W.keepIn K (.ref f61) = true)
    (a62 : PySem.W.nsIn K mainGlobals "_law_most" = some (some (.ref f62)))
    (l62 : K.lookup f62 = some ⟨oc62, od62, .func (PySem.W.fnOf "_law_most" "_law_most" (defArgs s_law_most_v2) (defBody s_law_most_v2) (defScope s_law_most_v2) .none kV62 dc62 pm62 an62 cd62 ct62), sl62⟩)
    (c62 : PySem.W.codeIn K cd62 "_law_most" = true)
    (k62 : PySem.W.keepIn K (.ref f62) = true)
    (a63 : PySem.W.nsIn K mainGlobals "_law_keeper_good" = some (some (.ref f63)))
    (l63 : K.lookup f63 = some ⟨oc63, od63, .func (PySem.W.fnOf "_law_keeper_good" "_law_keeper_good" (defArgs s_law_keeper_good) (defBody s_law_keeper_good) (defScope s_law_keeper_good) .none kV63 dc63 pm63 an63 cd63 ct63), sl63⟩)
    (c63 : PySem.W.codeIn K cd63 "_law_keeper_good" = true)
    (k63 : PySem.W.keepIn K (.ref f63) = true)
    (a64 : PySem.W.nsIn K mainGlobals "law" = some (some (.ref f64)))
    (l64 : K.lookup f64 = some ⟨oc64, od64, .func (PySem.W.fnOf "law" "law" (defArgs s_law_k45) (defBody s_law_k45) (defScope s_law_k45) .none kV64 dc64 pm64 an64 cd64 ct64), sl64⟩)
    (c64 : PySem.W.codeIn K cd64 "law" = true)
    (k64 : PySem.W.keepIn K (.ref f64) = true)
    (pg1 : PySem.W.plainGet K C1 Str.empty = true)
    (hd1 : PySem.W.hasDictIn K C1 = true)
    (po1 : PySem.W.plainOver K C1 = true)
    (sa1 : PySem.W.findIn K (.ref C1) "__setattr__" = some (some (.builtin "object.__setattr__")))
    (nf1_0 : PySem.W.findIn K (.ref C1) "rows" = some none)
    (nf1_1 : PySem.W.findIn K (.ref C1) "values_let" = some none)
    (pg2 : PySem.W.plainGet K C2 Str.empty = true)
    (hd2 : PySem.W.hasDictIn K C2 = true)
    (po2 : PySem.W.plainOver K C2 = true)
    (sa2 : PySem.W.findIn K (.ref C2) "__setattr__" = some (some (.builtin "object.__setattr__")))
    (nf2_0 : PySem.W.findIn K (.ref C2) "bound" = some none)
    (nf2_1 : PySem.W.findIn K (.ref C2) "own" = some none)
    (z0 : PySem.W.nsIn K mainGlobals "abs" = some none)
    (z1 : PySem.W.nsIn K mainGlobals "bool" = some none)
    (z2 : PySem.W.nsIn K mainGlobals "enumerate" = some none)
    (z3 : PySem.W.nsIn K mainGlobals "int" = some none)
    (z4 : PySem.W.nsIn K mainGlobals "isinstance" = some none)
    (z5 : PySem.W.nsIn K mainGlobals "len" = some none)
    (z6 : PySem.W.nsIn K mainGlobals "list" = some none)
    (z7 : PySem.W.nsIn K mainGlobals "max" = some none)
    (z8 : PySem.W.nsIn K mainGlobals "min" = some none)
    (z9 : PySem.W.nsIn K mainGlobals "range" = some none)
    (z10 : PySem.W.nsIn K mainGlobals "set" = some none)
    (z11 : PySem.W.nsIn K mainGlobals "sorted" = some none)
    (z12 : PySem.W.nsIn K mainGlobals "str" = some none)
    (z13 : PySem.W.nsIn K mainGlobals "sum" = some none)
    (y0 : PySem.W.nsIn K mainGlobals "CUBES" = some (some (.str "cubes" tk0)))
    (y1 : PySem.W.nsIn K mainGlobals "FEWEST_CORNERS" = some (some (.int 3 tk1)))
    (y2 : PySem.W.nsIn K mainGlobals "FULL" = some (some (.int 18446744073709551615 tk2)))
    (y3 : PySem.W.nsIn K mainGlobals "MOST" = some (some (.int 200 tk3)))
    (y4 : PySem.W.nsIn K mainGlobals "MOST_CORNERS" = some (some (.int 12 tk4)))
    (y5 : PySem.W.nsIn K mainGlobals "MOST_KINDS" = some (some (.int 5 tk5)))
    (y6 : PySem.W.nsIn K mainGlobals "WIDE" = some (some (.int 64 tk6))) :
    ∃ fd : FuncData, (∀ (s : Shared) (v : Value), BindsTo s fd ⟨[v], []⟩ [("script", v)]) ∧ ∀ base : Heap, K.In base → base.Ns mainGlobals mg → FnOk l.prog w K mg base CX0 9 fa fd ["script"] (spLaw K) := by
  obtain ⟨T, e1, e2⟩ := txt_mk X Gs aC1 aC2 a1 l1 c1 k1 a2 l2 c2 k2 a3 l3 c3 k3 a4 l4 c4 k4 a5 l5 c5 k5 a6 l6 c6 k6 a7 l7 c7 k7 a8 l8 c8 k8 a9 l9 c9 k9 a10 l10 c10 k10 a11 l11 c11 k11 a12 l12 c12 k12 a13 l13 c13 k13 a14 l14 c14 k14 a15 l15 c15 k15 a16 l16 c16 k16 a17 l17 c17 k17 a18 l18 c18 k18 a19 i19 l19 c19 k19 mk1 kc1 a20 i20 l20 c20 k20 a21 i21 l21 c21 k21 a22 l22 c22 k22 a23 l23 c23 k23 a24 l24 c24 k24 a25 l25 c25 k25 a26 l26 c26 k26 a27 l27 c27 k27 a28 l28 c28 k28 a29 i29 l29 c29 k29 mk2 kc2 a30 i30 l30 c30 k30 a31 i31 l31 c31 k31 a32 i32 l32 c32 k32 a33 i33 l33 c33 k33 a34 i34 l34 c34 k34 a35 i35 l35 c35 k35 a36 l36 c36 k36 a37 l37 c37 k37 a38 l38 c38 k38 a39 l39 c39 k39 a40 l40 c40 k40 a40_1 a41 l41 c41 k41 a42 l42 c42 k42 a43 l43 c43 k43 a44 l44 c44 k44 a45 l45 c45 k45 a46 l46 c46 k46 a47 l47 c47 k47 a48 l48 c48 k48 a49 l49 c49 k49 a50 l50 c50 k50 a51 l51 c51 k51 a52 l52 c52 k52 a53 l53 c53 k53 a54 l54 c54 k54 a55 l55 c55 k55 a56 l56 c56 k56 a57 l57 c57 k57 a58 l58 c58 k58 a59 l59 c59 k59 a60 l60 c60 k60 a61 l61 c61 k61 a62 l62 c62 k62 a63 l63 c63 k63 a64 l64 c64 k64 pg1 hd1 po1 sa1 nf1_0 nf1_1 pg2 hd2 po2 sa2 nf2_0 nf2_1 z0 z1 z2 z3 z4 z5 z6 z7 z8 z9 z10 z11 z12 z13 y0 y1 y2 y3 y4 y5 y6
  have e := hfa.symm.trans e1
  cases e
  refine ⟨T.d_law_k45, fun s v => ?_, fun base _ _ => ?_⟩
  · rw [e2]
    exact .of_eq rfl
  · refine (ok_law_k45 (P := l.prog) (w := w) (base := base) T).imp fun vs H Q E h => ?_
    obtain ⟨a, ns, rfl, hS, hl, q⟩ := h
    exact HL ⟨K, cAt [("Counts", C1), ("Keeper", C2)]⟩ H a ns Q hS hl q
end Fs
open PySem PySem.W PyProof.Rows
set_option maxHeartbeats 0 in
theorem PySem.Challenge.cw_fewshapes_k45_whole_all_sums_listed_holds : PySem.Challenge.rw_fewshapes_k45_whole_all_sums_listed.Holds := by
  w_on; o_law; k_head; (case hw => w_witness2)
  k_fill
  refine L2.walk_of (l := PySem.Challenge.rw_fewshapes_k45_whole_all_sums_listed) (n := 63) (k := 9) (x := "script") (CX := fun _ => L2.CX0) (sp := fun w => Fs.spLaw _) rfl (by decide) rfl ⟨rfl, by decide, by decide⟩ (fun w h Y => PySem.W.kIn_of Y) ?F (fun _ _ a ns hl _ hS => ⟨a, ns, rfl, hS, hl, fun _ => rfl⟩) (fun _ _ _ _ _ h => h)
  case F =>
    intro w mg fa h KX G hmg
    refine' Fs.all_mk Fs.law_holds KX G hmg ?aC1 ?aC2 ?a1 ?l1 ?c1 ?k1 ?a2 ?l2 ?c2 ?k2 ?a3 ?l3 ?c3 ?k3 ?a4 ?l4 ?c4 ?k4 ?a5 ?l5 ?c5 ?k5 ?a6 ?l6 ?c6 ?k6 ?a7 ?l7 ?c7 ?k7 ?a8 ?l8 ?c8 ?k8 ?a9 ?l9 ?c9 ?k9 ?a10 ?l10 ?c10 ?k10 ?a11 ?l11 ?c11 ?k11 ?a12 ?l12 ?c12 ?k12 ?a13 ?l13 ?c13 ?k13 ?a14 ?l14 ?c14 ?k14 ?a15 ?l15 ?c15 ?k15 ?a16 ?l16 ?c16 ?k16 ?a17 ?l17 ?c17 ?k17 ?a18 ?l18 ?c18 ?k18 ?a19 ?i19 ?l19 ?c19 ?k19 ?mk1 ?kc1 ?a20 ?i20 ?l20 ?c20 ?k20 ?a21 ?i21 ?l21 ?c21 ?k21 ?a22 ?l22 ?c22 ?k22 ?a23 ?l23 ?c23 ?k23 ?a24 ?l24 ?c24 ?k24 ?a25 ?l25 ?c25 ?k25 ?a26 ?l26 ?c26 ?k26 ?a27 ?l27 ?c27 ?k27 ?a28 ?l28 ?c28 ?k28 ?a29 ?i29 ?l29 ?c29 ?k29 ?mk2 ?kc2 ?a30 ?i30 ?l30 ?c30 ?k30 ?a31 ?i31 ?l31 ?c31 ?k31 ?a32 ?i32 ?l32 ?c32 ?k32 ?a33 ?i33 ?l33 ?c33 ?k33 ?a34 ?i34 ?l34 ?c34 ?k34 ?a35 ?i35 ?l35 ?c35 ?k35 ?a36 ?l36 ?c36 ?k36 ?a37 ?l37 ?c37 ?k37 ?a38 ?l38 ?c38 ?k38 ?a39 ?l39 ?c39 ?k39 ?a40 ?l40 ?c40 ?k40 ?a40_1 ?a41 ?l41 ?c41 ?k41 ?a42 ?l42 ?c42 ?k42 ?a43 ?l43 ?c43 ?k43 ?a44 ?l44 ?c44 ?k44 ?a45 ?l45 ?c45 ?k45 ?a46 ?l46 ?c46 ?k46 ?a47 ?l47 ?c47 ?k47 ?a48 ?l48 ?c48 ?k48 ?a49 ?l49 ?c49 ?k49 ?a50 ?l50 ?c50 ?k50 ?a51 ?l51 ?c51 ?k51 ?a52 ?l52 ?c52 ?k52 ?a53 ?l53 ?c53 ?k53 ?a54 ?l54 ?c54 ?k54 ?a55 ?l55 ?c55 ?k55 ?a56 ?l56 ?c56 ?k56 ?a57 ?l57 ?c57 ?k57 ?a58 ?l58 ?c58 ?k58 ?a59 ?l59 ?c59 ?k59 ?a60 ?l60 ?c60 ?k60 ?a61 ?l61 ?c61 ?k61 ?a62 ?l62 ?c62 ?k62 ?a63 ?l63 ?c63 ?k63 ?a64 ?l64 ?c64 ?k64 ?pg1 ?hd1 ?po1 ?sa1 ?nf1_0 ?nf1_1 ?pg2 ?hd2 ?po2 ?sa2 ?nf2_0 ?nf2_1 ?z0 ?z1 ?z2 ?z3 ?z4 ?z5 ?z6 ?z7 ?z8 ?z9 ?z10 ?z11 ?z12 ?z13 ?y0 ?y1 ?y2 ?y3 ?y4 ?y5 ?y6
    (case aC1 => k_is)
    (case aC2 => k_is)
    (case a1 => k_is)
    (case l1 => k_is)
    (case c1 => k_is)
    (case k1 => k_is)
    (case a2 => k_is)
    (case l2 => k_is)
    (case c2 => k_is)
    (case k2 => k_is)
    (case a3 => k_is)
    (case l3 => k_is)
    (case c3 => k_is)
    (case k3 => k_is)
    (case a4 => k_is)
    (case l4 => k_is)
    (case c4 => k_is)
    (case k4 => k_is)
    (case a5 => k_is)
    (case l5 => k_is)
    (case c5 => k_is)
    (case k5 => k_is)
    (case a6 => k_is)
    (case l6 => k_is)
    (case c6 => k_is)
    (case k6 => k_is)
    (case a7 => k_is)
    (case l7 => k_is)
    (case c7 => k_is)
    (case k7 => k_is)
    (case a8 => k_is)
    (case l8 => k_is)
    (case c8 => k_is)
    (case k8 => k_is)
    (case a9 => k_is)
    (case l9 => k_is)
    (case c9 => k_is)
    (case k9 => k_is)
    (case a10 => k_is)
    (case l10 => k_is)
    (case c10 => k_is)
    (case k10 => k_is)
    (case a11 => k_is)
    (case l11 => k_is)
    (case c11 => k_is)
    (case k11 => k_is)
    (case a12 => k_is)
    (case l12 => k_is)
    (case c12 => k_is)
    (case k12 => k_is)
    (case a13 => k_is)
    (case l13 => k_is)
    (case c13 => k_is)
    (case k13 => k_is)
    (case a14 => k_is)
    (case l14 => k_is)
    (case c14 => k_is)
    (case k14 => k_is)
    (case a15 => k_is)
    (case l15 => k_is)
    (case c15 => k_is)
    (case k15 => k_is)
    (case a16 => k_is)
    (case l16 => k_is)
    (case c16 => k_is)
    (case k16 => k_is)
    (case a17 => k_is)
    (case l17 => k_is)
    (case c17 => k_is)
    (case k17 => k_is)
    (case a18 => k_is)
    (case l18 => k_is)
    (case c18 => k_is)
    (case k18 => k_is)
    (case a19 => k_is)
    (case i19 => k_is)
    (case l19 => k_is)
    (case c19 => k_is)
    (case k19 => k_is)
    (case mk1 => k_is)
    (case kc1 => k_is)
    (case a20 => k_is)
    (case i20 => k_is)
    (case l20 => k_is)
    (case c20 => k_is)
    (case k20 => k_is)
    (case a21 => k_is)
    (case i21 => k_is)
    (case l21 => k_is)
    (case c21 => k_is)
    (case k21 => k_is)
    (case a22 => k_is)
    (case l22 => k_is)
    (case c22 => k_is)
    (case k22 => k_is)
    (case a23 => k_is)
    (case l23 => k_is)
    (case c23 => k_is)
    (case k23 => k_is)
    (case a24 => k_is)
    (case l24 => k_is)
    (case c24 => k_is)
    (case k24 => k_is)
    (case a25 => k_is)
    (case l25 => k_is)
    (case c25 => k_is)
    (case k25 => k_is)
    (case a26 => k_is)
    (case l26 => k_is)
    (case c26 => k_is)
    (case k26 => k_is)
    (case a27 => k_is)
    (case l27 => k_is)
    (case c27 => k_is)
    (case k27 => k_is)
    (case a28 => k_is)
    (case l28 => k_is)
    (case c28 => k_is)
    (case k28 => k_is)
    (case a29 => k_is)
    (case i29 => k_is)
    (case l29 => k_is)
    (case c29 => k_is)
    (case k29 => k_is)
    (case mk2 => k_is)
    (case kc2 => k_is)
    (case a30 => k_is)
    (case i30 => k_is)
    (case l30 => k_is)
    (case c30 => k_is)
    (case k30 => k_is)
    (case a31 => k_is)
    (case i31 => k_is)
    (case l31 => k_is)
    (case c31 => k_is)
    (case k31 => k_is)
    (case a32 => k_is)
    (case i32 => k_is)
    (case l32 => k_is)
    (case c32 => k_is)
    (case k32 => k_is)
    (case a33 => k_is)
    (case i33 => k_is)
    (case l33 => k_is)
    (case c33 => k_is)
    (case k33 => k_is)
    (case a34 => k_is)
    (case i34 => k_is)
    (case l34 => k_is)
    (case c34 => k_is)
    (case k34 => k_is)
    (case a35 => k_is)
    (case i35 => k_is)
    (case l35 => k_is)
    (case c35 => k_is)
    (case k35 => k_is)
    (case a36 => k_is)
    (case l36 => k_is)
    (case c36 => k_is)
    (case k36 => k_is)
    (case a37 => k_is)
    (case l37 => k_is)
    (case c37 => k_is)
    (case k37 => k_is)
    (case a38 => k_is)
    (case l38 => k_is)
    (case c38 => k_is)
    (case k38 => k_is)
    (case a39 => k_is)
    (case l39 => k_is)
    (case c39 => k_is)
    (case k39 => k_is)
    (case a40 => k_is)
    (case l40 => k_is)
    (case c40 => k_is)
    (case k40 => k_is)
    (case a40_1 => k_is)
    (case a41 => k_is)
    (case l41 => k_is)
    (case c41 => k_is)
    (case k41 => k_is)
    (case a42 => k_is)
    (case l42 => k_is)
    (case c42 => k_is)
    (case k42 => k_is)
    (case a43 => k_is)
    (case l43 => k_is)
    (case c43 => k_is)
    (case k43 => k_is)
    (case a44 => k_is)
    (case l44 => k_is)
    (case c44 => k_is)
    (case k44 => k_is)
    (case a45 => k_is)
    (case l45 => k_is)
    (case c45 => k_is)
    (case k45 => k_is)
    (case a46 => k_is)
    (case l46 => k_is)
    (case c46 => k_is)
    (case k46 => k_is)
    (case a47 => k_is)
    (case l47 => k_is)
    (case c47 => k_is)
    (case k47 => k_is)
    (case a48 => k_is)
    (case l48 => k_is)
    (case c48 => k_is)
    (case k48 => k_is)
    (case a49 => k_is)
    (case l49 => k_is)
    (case c49 => k_is)
    (case k49 => k_is)
    (case a50 => k_is)
    (case l50 => k_is)
    (case c50 => k_is)
    (case k50 => k_is)
    (case a51 => k_is)
    (case l51 => k_is)
    (case c51 => k_is)
    (case k51 => k_is)
    (case a52 => k_is)
    (case l52 => k_is)
    (case c52 => k_is)
    (case k52 => k_is)
    (case a53 => k_is)
    (case l53 => k_is)
    (case c53 => k_is)
    (case k53 => k_is)
    (case a54 => k_is)
    (case l54 => k_is)
    (case c54 => k_is)
    (case k54 => k_is)
    (case a55 => k_is)
    (case l55 => k_is)
    (case c55 => k_is)
    (case k55 => k_is)
    (case a56 => k_is)
    (case l56 => k_is)
    (case c56 => k_is)
    (case k56 => k_is)
    (case a57 => k_is)
    (case l57 => k_is)
    (case c57 => k_is)
    (case k57 => k_is)
    (case a58 => k_is)
    (case l58 => k_is)
    (case c58 => k_is)
    (case k58 => k_is)
    (case a59 => k_is)
    (case l59 => k_is)
    (case c59 => k_is)
    (case k59 => k_is)
    (case a60 => k_is)
    (case l60 => k_is)
    (case c60 => k_is)
    (case k60 => k_is)
    (case a61 => k_is)
    (case l61 => k_is)
    (case c61 => k_is)
    (case k61 => k_is)
    (case a62 => k_is)
    (case l62 => k_is)
    (case c62 => k_is)
    (case k62 => k_is)
    (case a63 => k_is)
    (case l63 => k_is)
    (case c63 => k_is)
    (case k63 => k_is)
    (case a64 => k_is)
    (case l64 => k_is)
    (case c64 => k_is)
    (case k64 => k_is)
    (case pg1 => k_is)
    (case hd1 => k_is)
    (case po1 => k_is)
    (case sa1 => k_is)
    (case nf1_0 => k_is)
    (case nf1_1 => k_is)
    (case pg2 => k_is)
    (case hd2 => k_is)
    (case po2 => k_is)
    (case sa2 => k_is)
    (case nf2_0 => k_is)
    (case nf2_1 => k_is)
    (case z0 => k_is)
    (case z1 => k_is)
    (case z2 => k_is)
    (case z3 => k_is)
    (case z4 => k_is)
    (case z5 => k_is)
    (case z6 => k_is)
    (case z7 => k_is)
    (case z8 => k_is)
    (case z9 => k_is)
    (case z10 => k_is)
    (case z11 => k_is)
    (case z12 => k_is)
    (case z13 => k_is)
    (case y0 => k_is)
    (case y1 => k_is)
    (case y2 => k_is)
    (case y3 => k_is)
    (case y4 => k_is)
    (case y5 => k_is)
    (case y6 => k_is)
