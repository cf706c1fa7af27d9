import PyProof.Rows.All
import Wide.All
import OpenK.AllK
import Wide.FinOn
import HandS.ForMost
import HandS.Exc
import HandS.TryOnly
import HandS.ExcOwn
import HandS.WordsExc
import HandS.IsInst
import HandS.Wide
import HandS.WideBits
import HandS.SortInts
import HandS.Style
import HandS.More
import HandS.Conv
import HandS.Small
import HandS.RaiseMore
import HandS.Walk
import HandS.SetFor
import KE.DataFind
import PySem.Challenge.RW_fewshapes_k33_keepers_apart
set_option Elab.async false
set_option linter.all false
set_option maxRecDepth 100000
set_option maxHeartbeats 4000000
namespace Fs
open PySem PySem.Spec PyProof.Rows L2
abbrev Fg := PySem.W.Frag
/-! ### readings: one name an operation, whatever the kinds -/
def rAddS : R2 := fun x y H Q => ∃ i j, x = .str i ∧ y = .str j ∧ i.length + j.length ≤ sizeLine ∧ Q (.str (i ++ j)) H
def uAdd : R2 := fun x y H Q => rI0 (fun i j => .int (i + j)) x y H Q ∨ (rAddS x y H Q ∨ rCat x y H Q)
def uSub : R2 := rI0 fun i j => .int (i - j)
def uMul : R2 := fun x y H Q => rI CMulX (fun i j => .int (i * j)) x y H Q ∨ (rI CMul (fun i j => .int (i * j)) x y H Q ∨ rRep x y H Q)
def uDiv : R2 := rI CDivW fun i j => .int (i / j)
def uMod : R2 := rI (fun _ j => 0 < j) fun i j => .int (i % j)
def uPow : R2 := rI CPow fun i j => .int (i ^ j.toNat)
def uShl : R2 := rI CShl fun i j => .int (i * 2 ^ j.toNat)
def uShr : R2 := rI (fun _ j => 0 ≤ j) fun i j => .int (i / 2 ^ j.toNat)
def uAnd : R2 := rI0 fun i j => .int (Builtin.bitAnd i j)
def uOr : R2 := rI0 fun i j => .int (Builtin.bitOr i j)
def uLt : R2 := rI0 fun i j => .bl (decide (i < j))
def uLe : R2 := rI0 fun i j => .bl (decide (i ≤ j))
def uGt : R2 := rI0 fun i j => .bl (decide (j < i))
def uGe : R2 := rI0 fun i j => .bl (decide (j ≤ i))
def uEq (K : Fg) : R2 := fun x y H Q => rEq x y H Q ∨ rEqD K x y H Q
def uNe (K : Fg) : R2 := fun x y H Q => rNe x y H Q ∨ rNeD K x y H Q
def uIn (K : Fg) : R2 := rIn K false
def uNotIn (K : Fg) : R2 := rIn K true
def rIsN : R2 := fun x y H Q => y = .non ∧ Q (.bl (decide (x = .non))) H
def rNotN : R2 := fun x y H Q => y = .non ∧ Q (.bl (!decide (x = .non))) H
def uIs : R2 := fun x y H Q => rIsN x y H Q ∨ rIsB x y H Q
def uIsNot : R2 := fun x y H Q => rNotN x y H Q ∨ rNotB x y H Q
def uIx (K : Fg) : R2 := rIx K
def uSl (K : Fg) : V → Option Int → Option Int → Hp → VK → Prop := fun x lo hi H Q => rSlL K x lo hi H Q ∨ rSlS x lo hi H Q
def uNeg : V → Hp → VK → Prop := rU fun i => .int (-i)
abbrev RC := List V → Hp → VK → Prop
def uLen (K : Fg) : RC := fun xs H Q => ∃ x n, xs = [x] ∧ LenV K x H n ∧ Q (.int n) H
def rMax2 : RC := fun xs H Q => ∃ i j, xs = [.int i, .int j] ∧ Q (.int (if j > i then j else i)) H
def rMin2 : RC := fun xs H Q => ∃ i j, xs = [.int i, .int j] ∧ Q (.int (if j < i then j else i)) H
def uMax (K : Fg) : RC := fun xs H Q => rMax2 xs H Q ∨ rMax K xs H Q
def uMin (K : Fg) : RC := fun xs H Q => rMin2 xs H Q ∨ rMin K xs H Q
def rInt1 : RC := fun xs H Q => (∃ i, xs = [.int i] ∧ Q (.int i) H) ∨ ∃ k, xs = [.bl k] ∧ Q (.int (if k then 1 else 0)) H
def rIntS : RC := fun xs H Q => ∃ a n, xs = [.str a] ∧ PySem.intText? a = some n ∧ a.length ≤ 640 ∧ Q (.int n) H
def uInt : RC := fun xs H Q => rInt1 xs H Q ∨ rIntS xs H Q
def uAbs : RC := fun xs H Q => ∃ i, xs = [.int i] ∧ Q (.int (if i < 0 then -i else i)) H
def uIsi (K : Fg) : RC := rIsi K
def rListOf (K : Fg) : RC := fun xs H Q => ∃ p ys, xs = [.ref p] ∧ (SqL K H p ys ∨ SqT K H p ys) ∧ ∀ l, H l = none → Q (.ref l) (upd H l (.lst ys))
def uSet : TSet := fun o i v H Q => rSetL o i v H Q ∨ rSetD o i v H Q
/-- sorted(d), the keys ints, any number of them -/
def rSortedDA : RC := fun xs H Q => ∃ (a : Addr) (kvs : List (Key × V)) (ks : List Int), xs = [.ref a] ∧ Rd H a (.dK kvs) ∧ kvs.map (·.1) = ks.map Sum.inl ∧
    ∀ (ys : List Int) (p : Addr), ys.Perm ks → ys.Pairwise (· ≤ ·) → H p = none → Q (.ref p) (upd H p (.lst (ys.map V.int)))
def uSorted (K : Fg) : RC := fun xs H Q => rSortedI K xs H Q ∨ rSortedDA xs H Q
def uList (K : Fg) : RC := fun xs H Q => rListOf K xs H Q ∨ rListD xs H Q
/-- raise C(..): the wish of an error of the class at C -/
def tRz (E : XK) (C : Addr) : TS := fun _ _ H => E (.ref C) none H
/-- a promise at calls that let nothing out -/
def sp0 (sp : Sp) : Sp := fun vs H Q _ => sp vs H Q E0
/-- what the readings lean on: the written part, where the classes stand -/
structure Gx where
  K : Fg
  C : String → Addr
section
variable {X : Cx}
theorem o_add : OpR X (binaryOp .Add) uAdd := op_add.or (op_add_str.or op_cat)
theorem o_sub : OpR X (binaryOp .Sub) uSub := op_sub
theorem o_mul : OpR X (binaryOp .Mult) uMul := op_mulX.or (op_mul.or op_rep)
theorem o_div : OpR X (binaryOp .FloorDiv) uDiv := op_fdivW
theorem o_mod : OpR X (binaryOp .Mod) uMod := op_mod
theorem o_pow : OpR X (binaryOp .Pow) uPow := op_pow
theorem o_shl : OpR X (binaryOp .LShift) uShl := op_shlW
theorem o_shr : OpR X (binaryOp .RShift) uShr := op_shr
theorem o_and : OpR X (binaryOp .BitAnd) uAnd := op_and
theorem o_or : OpR X (binaryOp .BitOr) uOr := op_or
theorem o_lt : OpR X (compareOp .Lt) uLt := op_lt
theorem o_le : OpR X (compareOp .LtE) uLe := op_le
theorem o_gt : OpR X (compareOp .Gt) uGt := op_gt
theorem o_ge : OpR X (compareOp .GtE) uGe := op_ge
theorem o_eq (hu : X.A.units + 64 < cLine) : OpR X (compareOp .Eq) (uEq X.K) := op_eq.or (op_eqD hu)
theorem o_ne (hu : X.A.units + 64 < cLine) : OpR X (compareOp .NotEq) (uNe X.K) := op_ne.or (op_neD hu)
theorem o_in : OpR X (compareOp .In) (uIn X.K) := op_in_seq
theorem o_notIn : OpR X (compareOp .NotIn) (uNotIn X.K) := op_notIn_seq
theorem o_ix : IxR X (uIx X.K) := ix_seq
theorem o_sl : SlR X (uSl X.K) := sl_list.or sl_str
theorem k_len : CallR X (.builtin "len") (uLen X.K) := call_len
theorem k_max (hc : X.calm = true) : CallR X (.builtin "max") (uMax X.K) := (call_max2 hc).or (cr_max hc)
theorem k_min (hc : X.calm = true) : CallR X (.builtin "min") (uMin X.K) := (call_min2 hc).or (cr_min hc)
theorem k_int : CallR X (.type "int") uInt := call_int1.or call_int_str
theorem k_isi : CallR X (.builtin "isinstance") (uIsi X.K) := call_isi
theorem s_any (hu : X.A.units + 1 < cLine) : PSet X uSet := by
  intro pins s σ H o i v ov iv u Q I ro ri rv h
  rcases h with h | h
  · exact set_list pins s σ H o i v ov iv u Q I ro ri rv h
  · exact set_dict hu pins s σ H o i v ov iv u Q I ro ri rv h
theorem k_sortedDA (hcalm : X.calm = true) : CallR X (.builtin "sorted") rSortedDA := by
  intro pins s σ H xs us Q I r q
  obtain ⟨a, kvs, ks, ex, hd, hks, q⟩ := q
  subst ex
  obtain ⟨u, eu, rx⟩ := vals1 r
  subst eu
  cases rx
  obtain ⟨z, lo, vs, rel, dd⟩ := dk_rd I.hok hd
  obtain ⟨ep, hat⟩ := dd.dictAt
  have hkeys : vs.map (·.1) = ks.map Sum.inl := rel.keys.symm.trans hks
  have hl : vs.length = ks.length := by
    have e := congrArg List.length hkeys
    rw [List.length_map, List.length_map] at e
    exact e
  have h16 : vs.length ≤ sizeLine := by rw [← rel.length]; exact z
  refine Calls.call_function_entry PyProof.Rows.kind_sorted PyProof.Rows.plain_sorted PyProof.Rows.entry_sorted (PyProof.Rows.args_sorted1 _) ?_
  unfold Builtin.«sorted»
  refine wpAny_bind (m := checkCount "sorted" 1 1 _) (wpAny_pure ?_)
  refine wpAny_bind (PySem.W.kdu_collect (A := X.A.in1) (PySem.W.kdl_dict (knd := mixKind X.prog X.w) (kvs := vs) (ep := ep) lo) (I.ok.hd hcalm) hat h16 fun h' tk acc hk hacc => ?_)
  have hal : acc.toList.length = ks.length := by rw [Array.length_toList, hacc.1, hl]
  have hS : IntsAre acc.toList ks := ints_each hal fun j v e => by
    obtain ⟨k, x, e1, e2⟩ := hacc.2 j v (by rw [← Array.getElem?_toList]; exact e)
    have e3 : (vs.map (·.1))[j]? = some k := by rw [List.getElem?_map, e1]; rfl
    rw [hkeys, List.getElem?_map] at e3
    cases e4 : ks[j]? with
    | none => rw [e4] at e3; cases e3
    | some y =>
      rw [e4] at e3
      have e5 : Sum.inl y = k := Option.some.inj e3
      subst e5
      rcases keyIs_shape (show keyIs (Sum.inl y) v = true from e2) with ⟨i, t, ek, ev⟩ | ⟨z, t, ek, ev⟩
      · cases ek
        exact ⟨y, t, rfl, ev⟩
      · cases ek
  have I1 : Inv X pins σ H { s with heap := h', toks := tk } := I.kept hk
  have hz2 : acc.toList.length ≤ sizeLine := by rw [hal, ← hl]; exact h16
  refine wpAny_bind (wpAny_newList ?_ hz2)
  have hoL : (h'.push (seqObj "list" acc.toList.toArray 0)).get? h'.objs.size = some (seqObj "list" acc.toList.toArray 0) := Heap.get?_push_size _ rfl
  show wpAny _ _ _ _ _ { s with heap := h'.push (seqObj "list" acc.toList.toArray 0), toks := tk }
  refine wpAny_bind (wpAny_holding (wpAny_call_entry PyProof.Rows.slot_list_sort ⟨_, hoL, rfl⟩ PyProof.Rows.entry_list_sort
    (SrtO.list_sort_ord (s := { s with heap := h'.push (seqObj "list" acc.toList.toArray 0), toks := tk }) SrtO.swo_int hoL hz2 (fun h2 => SrtO.ints_sortable hS h2) fun out g1 g2 => ⟨_, rfl, ?_⟩) (PyProof.Rows.args_list_sort _)))
  obtain ⟨k1, k2, k3⟩ := SrtO.ints_out hS g1 g2
  obtain ⟨e', he'⟩ := PyProof.Rows.sortedHeap_at (vs := acc.toList) (out := out.toArray) hoL
  have hlen : ((out.map SrtO.iv).map V.int).length ≤ sizeLine := by
    rw [List.length_map, k2.length_eq, ← hl]
    exact h16
  refine wpAny_pure ⟨_, rfl, .ref h'.objs.size, upd H h'.objs.size (.lst ((out.map SrtO.iv).map V.int)), I1.laid (t' := tk) (fun b u e => ?_) (Nat.le_refl _)
    (show ObjOk X.prog X.w _ _ _ (.lst ((out.map SrtO.iv).map V.int)) from ⟨hlen, out, e', vals_of_ints k1, he'⟩), rfl, q _ _ k2 k3 (I1.hok.fresh (Nat.le_refl _))⟩
  have hb : b < h'.objs.size := Heap.lt_size e
  rw [PyProof.Rows.sortedHeap_old (Nat.ne_of_lt hb) (by rw [size_push']; exact Nat.lt_succ_of_lt hb)]
  exact Heap.get?_push_of_some _ e
theorem k_sorted (hc : X.calm = true) : CallR X (.builtin "sorted") (uSorted X.K) := cr_sortedI.or (k_sortedDA hc)
theorem k_list (hc : X.calm = true) : CallR X (.type "list") (uList X.K) := call_list_of.or (call_list_dK hc)
/-- slots of names -/
theorem pgn (i : Nat) {x : Str} {pos : Pos} (hN : X.N.Nodup) (hi : X.N[i]? = some x := by rfl) (hx : Loc X.env.scope x := by first | exact Or.inl rfl | exact Or.inr rfl) (hf : X.fn x = true ∨ X.env.scope.names.lookup x = some .local := by first | exact .inl rfl | exact .inr rfl) : PG X (.Name x pos) (gName i) := pg_name hN hi hx hf
theorem pst (i : Nat) {x : Str} {e : Expr} {te : TE} {pos pos' : Pos} (hN : X.N.Nodup) (he : PE X e te) (hi : X.N[i]? = some x := by rfl) (hx : Loc X.env.scope x := by first | exact Or.inl rfl | exact Or.inr rfl) (hs : swapsWith e (some (.Name x pos')) pos.line X.env = pure false := by rfl) (hf : X.fn x = true ∨ X.env.scope.names.lookup x = some .local := by first | exact .inl rfl | exact .inr rfl) :
    PS X (.Assign [.Name x pos'] e pos) (tAsg te (gName i)) := ps_set hN hi hx he hs hf
theorem pau (i : Nat) {x : Str} {e : Expr} {te : TE} {op : Operator} {ti : TIp} {pos pos' : Pos} (hN : X.N.Nodup) (he : PE X e te) (ho : PIp X op ti) (hi : X.N[i]? = some x := by rfl) (hx : Loc X.env.scope x := by first | exact Or.inl rfl | exact Or.inr rfl) (hf : X.fn x = true ∨ X.env.scope.names.lookup x = some .local := by first | exact .inl rfl | exact .inr rfl) :
    PS X (.AugAssign (.Name x pos') op e pos) (tAug i te ti) := ps_aug hN hi hx he ho hf
end
/-! ### calls that let nothing out -/
section
variable {X : Cx} {k : Nat} {f : Addr} {fd : FuncData} {ps : List Str} {sp : Sp} {x : Str} {p pos : Pos} {e : Expr} {es : List Expr} {t : TA}
theorem pcall (F : FnOk X.prog X.w X.K X.mg X.base CX0 k f fd ps (sp0 sp)) (hr : Room k X.A) (hg : Gl X x) (hm : X.mg x = some (.ref f)) (hk : PySem.W.keepIn X.K (.ref f) = true) (hb : Binds X.K fd ps []) (ha : PA X (e :: es) t)
    (hdb : (x == ("__debug__" : Str)) = false := by decide) (he : starEach (e :: es) X.env = (false, eval e X.env) :: starEach es X.env := by rfl) (hpl : (backTo pos (starEach es X.env)).any (·.1) = false := by rfl) :
    PE X (.Call (.Name x p) (e :: es) [] pos) (tCall sp [] E0 t) := pe_call (sp := sp0 sp) F hr hg hm hk hb .nil pass0 ha hdb he hpl
theorem prz0 {st : Stmt} {C : Addr} : PS X st (tRz E0 C) := ⟨fun _ _ _ _ _ _ h => h.elim⟩
end
/-! ### steps of a reading -/
section
variable {K : Fg} {D : Ends} {σ : L2.St} {H : Hp} {t u : TS} {te ta tb tc : TE} {c c2 : TT} {g : TG} {Q : VK} {QB : Bool → Hp → Prop} {QA : List V → Hp → Prop} {x y v : V} {i j : Int} {b : Bool} {a p l : Addr} {xs ys : List V} {z s : Str}
theorem i_seq (h : t { D with nx := u D } σ H) : tSeq t u D σ H := h
theorem i_next (h : D.nx σ H) : tNext D σ H := h
theorem i_asg (h : te σ H fun x H1 => g x σ H1 D.nx) : tAsg te g D σ H := h
theorem i_gname {n : Nat} {R : L2.St → Hp → Prop} (h : R (σ.set n (some v)) H) : gName n v σ H R := h
theorem i_ifS (h : c σ H fun b H1 => if b = true then t D σ H1 else u D σ H1) : tIfS c t u D σ H := h
theorem i_ret (h : te σ H D.rt) : tRet te D σ H := h
theorem i_retN (h : D.rt .non H) : tRetN D σ H := h
theorem i_drop (h : te σ H fun _ H1 => D.nx σ H1) : tDrop te D σ H := h
theorem i_brk (h : D.bk σ H) : tBreak D σ H := h
theorem i_aug {n : Nat} {ti : TIp} (hx : σ[n]? = some (some x)) (h : te σ H fun y H1 => ti x y H1 fun z H2 => D.nx (σ.set n (some z)) H2) : tAug n te ti D σ H := ⟨x, hx, h⟩
theorem i_ipI {f : Int → Int → Int} (h : Q (.int (f i j)) H) : ipI f (.int i) (.int j) H Q := ⟨i, j, rfl, rfl, h⟩
theorem i_var {n : Nat} (hx : σ[n]? = some (some v)) (h : Q v H) : tVar n σ H Q := ⟨v, hx, h⟩
theorem i_c (h : Q v H) : tC v σ H Q := h
theorem i_op {r : R2} (h : ta σ H fun x H1 => tb σ H1 fun y H2 => r x y H2 Q) : tOp r ta tb σ H Q := h
theorem i_un {r : V → Hp → VK → Prop} (h : ta σ H fun x H1 => r x H1 Q) : tUn r ta σ H Q := h
theorem i_call {sp : Sp} {E : XK} {t : TA} (h : t σ H fun vs H1 => sp vs H1 Q E) : tCall sp [] E t σ H Q := by
  have e : (fun vs H1 => sp (vs ++ []) H1 Q E) = fun vs H1 => sp vs H1 Q E := by
    funext vs H1
    rw [List.append_nil]
  show t σ H fun vs H1 => sp (vs ++ []) H1 Q E
  rw [e]
  exact h
theorem i_cb {r : RC} {t : TA} (h : t σ H fun vs H1 => r vs H1 Q) : tCB r t σ H Q := h
theorem i_nil (h : QA [] H) : tNil σ H QA := h
theorem i_cons {tr : TA} (h : ta σ H fun x H1 => tr σ H1 fun xs H2 => QA (x :: xs) H2) : tCons ta tr σ H QA := h
theorem i_bm {T : String} {r : V → List V → Hp → VK → Prop} {t : TA} (h : ta σ H fun x H1 => tyV K T x H1 ∧ t σ H1 fun xs H2 => r x xs H2 Q) : tBM K T r ta t σ H Q := h
theorem i_bm0 {T : String} {r : V → List V → Hp → VK → Prop} (h : ta σ H fun x H1 => tyV K T x H1 ∧ r x [] H1 Q) : tBM0 K T r ta σ H Q := h
theorem i_lst {t : TA} (h : t σ H fun xs H1 => xs.length ≤ sizeLine ∧ ∀ p, H1 p = none → Q (.ref p) (upd H1 p (.lst xs))) : tLst t σ H Q := h
theorem i_tup {t : TA} (h : t σ H fun xs H1 => xs.length ≤ sizeLine ∧ ∀ p, H1 p = none → Q (.ref p) (upd H1 p (.tup xs))) : tTup t σ H Q := h
theorem i_sl {r : V → Option Int → Option Int → Hp → VK → Prop} {tl th : TO} (h : te σ H fun x H1 => tl σ H1 fun l H2 => th σ H2 fun u H3 => r x l u H3 Q) : tSl r te tl th σ H Q := h
theorem i_nopart {R : Option Int → Hp → Prop} (h : R none H) : tNoPart σ H R := h
theorem i_part {R : Option Int → Hp → Prop} (h : te σ H fun x H1 => ∃ i, x = .int i ∧ R (some i) H1) : tPart te σ H R := h
theorem i_exint {R : Int → Prop} (h : R i) : ∃ j, V.int i = .int j ∧ R j := ⟨i, rfl, h⟩
theorem i_exbl {R : Bool → Prop} (h : R b) : ∃ j, V.bl b = .bl j ∧ R j := ⟨b, rfl, h⟩
theorem i_if (h : c σ H fun b H1 => if b = true then ta σ H1 Q else tb σ H1 Q) : tIf c ta tb σ H Q := h
theorem i_andV (h : ta σ H fun x H1 => ∃ c, x = .bl c ∧ if c = true then tb σ H1 Q else Q (.bl false) H1) : tAndV ta tb σ H Q := h
theorem i_orV (h : ta σ H fun x H1 => ∃ c, x = .bl c ∧ if c = true then Q (.bl true) H1 else tb σ H1 Q) : tOrV ta tb σ H Q := h
theorem i_notV (h : ta σ H fun x H1 => ∃ c, x = .bl c ∧ Q (.bl (!c)) H1) : tNotV ta σ H Q := h
theorem i_test (h : te σ H fun x H1 => ∃ k, x = .bl k ∧ QB k H1) : tTest te σ H QB := h
theorem i_B (h : te σ H fun x H1 => ∃ k, x = .bl k ∧ QB k H1) : tB te σ H QB := h
theorem i_and (h : c σ H fun b H1 => if b = true then c2 σ H1 QB else QB false H1) : tAnd c c2 σ H QB := h
theorem i_or (h : c σ H fun b H1 => if b = true then QB true H1 else c2 σ H1 QB) : tOr c c2 σ H QB := h
theorem i_not (h : c σ H fun b H1 => QB (!b) H1) : tNot c σ H QB := h
theorem i_yes (h : QB true H) : tYes σ H QB := h
theorem i_chain {r r' : R2} (h : ta σ H fun x H1 => tb σ H1 fun y H2 => r x y H2 fun z H3 => ∃ k, z = .bl k ∧ (if k = true then tc σ H3 fun w' H4 => r' y w' H4 Q else Q (.bl false) H3)) : tChain r r' ta tb tc σ H Q := h
/-! numbers -/
theorem i_add (h : Q (.int (i + j)) H) : uAdd (.int i) (.int j) H Q := .inl ⟨i, j, rfl, rfl, h⟩
theorem i_addL (h1 : H a = some (.lst xs)) (h2 : H p = some (.lst ys)) (hz : xs.length + ys.length ≤ sizeLine) (h : ∀ q, H q = none → Q (.ref q) (upd H q (.lst (xs ++ ys)))) : uAdd (.ref a) (.ref p) H Q := .inr (.inr ⟨a, p, xs, ys, rfl, rfl, h1, h2, hz, h⟩)
theorem i_sub (h : Q (.int (i - j)) H) : uSub (.int i) (.int j) H Q := ⟨i, j, rfl, rfl, h⟩
theorem i_mulL (h1 : -(2 ^ 64) < i ∧ i < 2 ^ 64) (h : Q (.int (i * j)) H) : uMul (.int i) (.int j) H Q := .inr (.inl ⟨i, j, rfl, rfl, .inl h1, h⟩)
theorem i_mulR (h1 : -(2 ^ 64) < j ∧ j < 2 ^ 64) (h : Q (.int (i * j)) H) : uMul (.int i) (.int j) H Q := .inr (.inl ⟨i, j, rfl, rfl, .inr h1, h⟩)
theorem i_mulX (h1 : CMulX i j) (h : Q (.int (i * j)) H) : uMul (.int i) (.int j) H Q := .inl ⟨i, j, rfl, rfl, h1, h⟩
theorem i_rep {k : Int} (h1 : H a = some (.lst xs)) (h0 : -(2 ^ 63) ≤ k) (h2 : k < 2 ^ 63) (hz : xs.length * k.toNat ≤ sizeLine) (h : ∀ q, H q = none → Q (.ref q) (upd H q (.lst (List.replicate k.toNat xs).flatten))) : uMul (.ref a) (.int k) H Q := .inr (.inr ⟨a, k, xs, rfl, rfl, h1, h0, h2, hz, h⟩)
theorem i_div (h1 : CDivW i j) (h : Q (.int (i / j)) H) : uDiv (.int i) (.int j) H Q := ⟨i, j, rfl, rfl, h1, h⟩
theorem div_ok (h0 : 0 < j) (h1 : j < 2 ^ 64) : CDivW i j := wide_div (b := 64) h0 (by omega) (by decide) (by decide)
theorem i_mod (h1 : 0 < j) (h : Q (.int (i % j)) H) : uMod (.int i) (.int j) H Q := ⟨i, j, rfl, rfl, h1, h⟩
theorem i_pow (h1 : CPow i j) (h : Q (.int (i ^ j.toNat)) H) : uPow (.int i) (.int j) H Q := ⟨i, j, rfl, rfl, h1, h⟩
theorem i_shl (h1 : CShl i j) (h : Q (.int (i * 2 ^ j.toNat)) H) : uShl (.int i) (.int j) H Q := ⟨i, j, rfl, rfl, h1, h⟩
theorem i_shr (h1 : 0 ≤ j) (h : Q (.int (i / 2 ^ j.toNat)) H) : uShr (.int i) (.int j) H Q := ⟨i, j, rfl, rfl, h1, h⟩
theorem i_band (h : Q (.int (Builtin.bitAnd i j)) H) : uAnd (.int i) (.int j) H Q := ⟨i, j, rfl, rfl, h⟩
theorem i_bor (h : Q (.int (Builtin.bitOr i j)) H) : uOr (.int i) (.int j) H Q := ⟨i, j, rfl, rfl, h⟩
theorem i_neg (h : Q (.int (-i)) H) : uNeg (.int i) H Q := ⟨i, rfl, h⟩
theorem i_lt (h : Q (.bl (decide (i < j))) H) : uLt (.int i) (.int j) H Q := ⟨i, j, rfl, rfl, h⟩
theorem i_le (h : Q (.bl (decide (i ≤ j))) H) : uLe (.int i) (.int j) H Q := ⟨i, j, rfl, rfl, h⟩
theorem i_gt (h : Q (.bl (decide (j < i))) H) : uGt (.int i) (.int j) H Q := ⟨i, j, rfl, rfl, h⟩
theorem i_ge (h : Q (.bl (decide (j ≤ i))) H) : uGe (.int i) (.int j) H Q := ⟨i, j, rfl, rfl, h⟩
theorem dec_VI : decide (V.int i = V.int j) = decide (i = j) := by rw [Bool.eq_iff_iff]; simp
theorem dec_VS : decide (V.str z = V.str s) = decide (z = s) := by rw [Bool.eq_iff_iff]; simp
theorem i_eqI (h : Q (.bl (decide (i = j))) H) : uEq K (.int i) (.int j) H Q := .inl ⟨rfl, by rw [dec_VI]; exact h⟩
theorem i_neI (h : Q (.bl (!decide (i = j))) H) : uNe K (.int i) (.int j) H Q := .inl ⟨rfl, by rw [dec_VI]; exact h⟩
theorem i_eqS (h : Q (.bl (decide (z = s))) H) : uEq K (.str z) (.str s) H Q := .inl ⟨rfl, by rw [dec_VS]; exact h⟩
theorem i_neS (h : Q (.bl (!decide (z = s))) H) : uNe K (.str z) (.str s) H Q := .inl ⟨rfl, by rw [dec_VS]; exact h⟩
theorem i_eqIS (h : Q (.bl false) H) : uEq K (.int i) (.str s) H Q := .inl ⟨rfl, by rw [decide_eq_false (fun z => nomatch z)]; exact h⟩
theorem i_neIS (h : Q (.bl true) H) : uNe K (.int i) (.str s) H Q := .inl ⟨rfl, by rw [decide_eq_false (fun z => nomatch z)]; exact h⟩
theorem i_eqIN (h : Q (.bl false) H) : uEq K (.int i) .non H Q := .inl ⟨rfl, by rw [decide_eq_false (fun z => nomatch z)]; exact h⟩
theorem i_neIN (h : Q (.bl true) H) : uNe K (.int i) .non H Q := .inl ⟨rfl, by rw [decide_eq_false (fun z => nomatch z)]; exact h⟩
theorem i_eqNI (h : Q (.bl false) H) : uEq K .non (.int i) H Q := .inl ⟨rfl, by rw [decide_eq_false (fun z => nomatch z)]; exact h⟩
theorem i_neNI (h : Q (.bl true) H) : uNe K .non (.int i) H Q := .inl ⟨rfl, by rw [decide_eq_false (fun z => nomatch z)]; exact h⟩
theorem i_neNN (h : Q (.bl false) H) : uNe K .non .non H Q := .inl ⟨rfl, by rw [decide_eq_true rfl]; exact h⟩
theorem i_isN (h : Q (.bl (decide (x = .non))) H) : uIs x .non H Q := .inl ⟨rfl, h⟩
theorem i_notN (h : Q (.bl (!decide (x = .non))) H) : uIsNot x .non H Q := .inl ⟨rfl, h⟩
theorem i_isB {b2 : Bool} (h : Q (.bl (decide (b = b2))) H) : uIs (.bl b) (.bl b2) H Q := .inr ⟨b, b2, rfl, rfl, h⟩
theorem i_notB {b2 : Bool} (h : Q (.bl (!decide (b = b2))) H) : uIsNot (.bl b) (.bl b2) H Q := .inr ⟨b, b2, rfl, rfl, h⟩
theorem i_max2 (h : Q (.int (if j > i then j else i)) H) : uMax K [.int i, .int j] H Q := .inl ⟨i, j, rfl, h⟩
theorem i_min2 (h : Q (.int (if j < i then j else i)) H) : uMin K [.int i, .int j] H Q := .inl ⟨i, j, rfl, h⟩
theorem i_maxL {ns : List Int} (hs : SqL K H a (ns.map V.int)) (h0 : 0 < ns.length) (h : ∀ m, m ∈ ns → (∀ y, y ∈ ns → y ≤ m) → Q (.int m) H) : uMax K [.ref a] H Q := .inr ⟨a, ns, rfl, hs, h0, h⟩
theorem i_minL {ns : List Int} (hs : SqL K H a (ns.map V.int)) (h0 : 0 < ns.length) (h : ∀ m, m ∈ ns → (∀ y, y ∈ ns → m ≤ y) → Q (.int m) H) : uMin K [.ref a] H Q := .inr ⟨a, ns, rfl, hs, h0, h⟩
theorem i_intI (h : Q (.int i) H) : uInt [.int i] H Q := .inl (.inl ⟨i, rfl, h⟩)
theorem i_intB (h : Q (.int (if b then 1 else 0)) H) : uInt [.bl b] H Q := .inl (.inr ⟨b, rfl, h⟩)
theorem i_abs (h : Q (.int (if i < 0 then -i else i)) H) : uAbs [.int i] H Q := ⟨i, rfl, h⟩
theorem i_lenL (hs : SqL K H a xs) (h : Q (.int xs.length) H) : uLen K [.ref a] H Q := ⟨_, xs.length, rfl, .inl ⟨xs, hs, rfl⟩, h⟩
theorem i_ixL (hs : SqL K H a xs) (ha : atI xs i = some v) (h : Q v H) : uIx K (.ref a) (.int i) H Q := .inl ⟨a, xs, i, v, rfl, rfl, hs, ha, h⟩
theorem i_slL {lo hi : Option Int} (hs : SqL K H a xs) (h : ∀ p, H p = none → Q (.ref p) (upd H p (.lst (cutV xs lo hi)))) : uSl K (.ref a) lo hi H Q := .inl ⟨a, xs, rfl, hs, h⟩
theorem i_setL {R : Hp → Prop} {n : Nat} (hs : H a = some (.lst xs)) (hi : ixN xs.length i = some n) (h : R (upd H a (.lst (xs.set n v)))) : uSet (.ref a) (.int i) v H R := .inl ⟨a, xs, i, n, rfl, rfl, hs, hi, h⟩
theorem i_inL (hs : SqL K H a xs) (hx : flatV x = true) (hf : xs.all flatV = true) (h : Q (.bl (inV x xs)) H) : uIn K x (.ref a) H Q := ⟨a, xs, rfl, .inl hs, hx, hf, h⟩
theorem i_ninL (hs : SqL K H a xs) (hx : flatV x = true) (hf : xs.all flatV = true) (h : Q (.bl (!inV x xs)) H) : uNotIn K x (.ref a) H Q := ⟨a, xs, rfl, .inl hs, hx, hf, h⟩
theorem i_gsub {to ti : TE} {ts : TSet} {R : L2.St → Hp → Prop} (h : to σ H fun o H1 => ti σ H1 fun i H2 => ts o i v H2 fun H3 => R σ H3) : gSub to ti ts v σ H R := h
theorem i_app (hs : H a = some (.lst xs)) (hz : xs.length < sizeLine) (h : Q .non (upd H a (.lst (xs ++ [v])))) : rAppend (.ref a) [v] H Q := ⟨a, xs, v, rfl, rfl, hs, hz, h⟩
/-! isinstance of what is no object -/
theorem i_isiII (h : Q (.bl true) H) : uIsi K [.int i, .ty "int"] H Q := ⟨_, _, _, _, true, rfl, .ty _, .base (.int i), kit_ty (by decide +kernel), h⟩
theorem i_isiIB (h : Q (.bl false) H) : uIsi K [.int i, .ty "bool"] H Q := ⟨_, _, _, _, false, rfl, .ty _, .base (.int i), kit_ty (by decide +kernel), h⟩
theorem i_isiIS (h : Q (.bl false) H) : uIsi K [.int i, .ty "str"] H Q := ⟨_, _, _, _, false, rfl, .ty _, .base (.int i), kit_ty (by decide +kernel), h⟩
theorem i_isiIL (h : Q (.bl false) H) : uIsi K [.int i, .ty "list"] H Q := ⟨_, _, _, _, false, rfl, .ty _, .base (.int i), kit_ty (by decide +kernel), h⟩
theorem i_isiSI (h : Q (.bl false) H) : uIsi K [.str s, .ty "int"] H Q := ⟨_, _, _, _, false, rfl, .ty _, .base (.str s), kit_ty (by decide +kernel), h⟩
theorem i_isiSB (h : Q (.bl false) H) : uIsi K [.str s, .ty "bool"] H Q := ⟨_, _, _, _, false, rfl, .ty _, .base (.str s), kit_ty (by decide +kernel), h⟩
theorem i_isiSS (h : Q (.bl true) H) : uIsi K [.str s, .ty "str"] H Q := ⟨_, _, _, _, true, rfl, .ty _, .base (.str s), kit_ty (by decide +kernel), h⟩
theorem i_isiSL (h : Q (.bl false) H) : uIsi K [.str s, .ty "list"] H Q := ⟨_, _, _, _, false, rfl, .ty _, .base (.str s), kit_ty (by decide +kernel), h⟩
theorem i_isiBI (h : Q (.bl true) H) : uIsi K [.bl b, .ty "int"] H Q := ⟨_, _, _, _, true, rfl, .ty _, .base (.bl b), kit_ty (by decide +kernel), h⟩
theorem i_isiBB (h : Q (.bl true) H) : uIsi K [.bl b, .ty "bool"] H Q := ⟨_, _, _, _, true, rfl, .ty _, .base (.bl b), kit_ty (by decide +kernel), h⟩
theorem i_isiBS (h : Q (.bl false) H) : uIsi K [.bl b, .ty "str"] H Q := ⟨_, _, _, _, false, rfl, .ty _, .base (.bl b), kit_ty (by decide +kernel), h⟩
theorem i_isiNI (h : Q (.bl false) H) : uIsi K [.non, .ty "int"] H Q := ⟨_, _, _, _, false, rfl, .ty _, .base .non, kit_ty (by decide +kernel), h⟩
theorem i_isiNB (h : Q (.bl false) H) : uIsi K [.non, .ty "bool"] H Q := ⟨_, _, _, _, false, rfl, .ty _, .base .non, kit_ty (by decide +kernel), h⟩
theorem i_isiLL (e : H a = some (.lst xs)) (h : Q (.bl true) H) : uIsi K [.ref a, .ty "list"] H Q := ⟨_, _, _, _, true, rfl, .ty _, .base (.lst e), kit_ty (by decide +kernel), h⟩
/-! a test that changes nothing, its answer known -/
def PureT (c : TT) (σ : L2.St) (H : Hp) (b : Bool) : Prop := ∀ QB : Bool → Hp → Prop, QB b H → c σ H QB
theorem i_andP {b1 b2 : Bool} (h1 : PureT c σ H b1) (h2 : b1 = true → PureT c2 σ H b2) (h : QB (b1 && b2) H) : tAnd c c2 σ H QB := h1 _ (by
  cases b1 with
  | true => exact h2 rfl _ h
  | false => exact h)
/-! ways -/
theorem i_ite {d A B : Prop} [Decidable d] (h1 : d → A) (h2 : ¬ d → B) : if decide d = true then A else B := by
  by_cases h : d
  · rw [if_pos (decide_eq_true h)]; exact h1 h
  · rw [if_neg (by simp [h])]; exact h2 h
theorem i_iteN {d A B : Prop} [Decidable d] (h1 : d → B) (h2 : ¬ d → A) : if (!decide d) = true then A else B := by
  by_cases h : d
  · rw [if_neg (by simp [h])]; exact h1 h
  · rw [if_pos (by simp [h])]; exact h2 h
theorem i_T {d : Bool} {A B : Prop} (hd : d = true) (h : A) : if d = true then A else B := by rw [if_pos hd]; exact h
theorem i_F {d : Bool} {A B : Prop} (hd : d = false) (h : B) : if d = true then A else B := by rw [if_neg (by simp [hd])]; exact h
theorem i_both {d : Bool} {A B : Prop} (h1 : d = true → A) (h2 : d = false → B) : if d = true then A else B := by
  cases d
  · exact i_F rfl (h2 rfl)
  · exact i_T rfl (h1 rfl)
end
/-! ### heaps -/
theorem same_new {H : Hp} {p : Addr} {o : HO} (h : H p = none) : Same H (upd H p o) := fun b x e => by
  rw [upd_ne (ne_of_none e h)]
  exact e
/-- what was known at H0 stays, though an object that H0 did not know is turned -/
theorem same_mut {H0 H : Hp} {p : Addr} {o : HO} (s : Same H0 H) (h : H0 p = none) : Same H0 (upd H p o) := fun b x e => by
  rw [upd_ne (ne_of_none e h)]
  exact s b x e
theorem sq_of {K : Fg} {H : Hp} {a : Addr} {xs : List V} (h : H a = some (.lst xs)) : SqL K H a xs := .inl (.inl h)
theorem st_of {K : Fg} {H : Hp} {a : Addr} {xs : List V} (h : H a = some (.tup xs)) : SqT K H a xs := .inl (.inl h)
theorem at_nat {xs : List V} {n : Nat} {v : V} {i : Int} (e : i = (n : Int)) (h : xs[n]? = some v) : atI xs i = some v := by
  rw [e]; exact atI_nat h
theorem sz_le {n : Nat} (h : n ≤ 1000000) : n ≤ sizeLine := Nat.le_trans h (by decide)
theorem sz_lt {n : Nat} (h : n < 1000000) : n < sizeLine := Nat.lt_of_lt_of_le h (by decide)
/-- what stands outside a region is kept -/
def Keep (R : Addr → Prop) (H H' : Hp) : Prop := ∀ a o, ¬ R a → H a = some o → H' a = some o
theorem Keep.refl (R : Addr → Prop) (H : Hp) : Keep R H H := fun _ _ _ h => h
theorem Keep.trans {R : Addr → Prop} {H H1 H2 : Hp} (a : Keep R H H1) (b : Keep R H1 H2) : Keep R H H2 := fun x o n h => b x o n (a x o n h)
theorem Same.keep {R : Addr → Prop} {H H' : Hp} (s : Same H H') : Keep R H H' := fun a o _ h => s a o h
theorem keep_mut {R : Addr → Prop} {H0 H : Hp} {p : Addr} {o : HO} (s : Keep R H0 H) (h : H0 p = none) : Keep R H0 (upd H p o) := fun b x n e => by
  rw [upd_ne (ne_of_none e h)]
  exact s b x n e
theorem keep_in {R : Addr → Prop} {H0 H : Hp} {p : Addr} {o : HO} (s : Keep R H0 H) (h : R p) : Keep R H0 (upd H p o) := fun b x n e => by
  rw [upd_ne (fun z => n (by rw [z]; exact h))]
  exact s b x n e
/-! ### loops -/
def LoopK (J : It) (g : TG) (tb : TS) (D : Ends) (σ : L2.St) (H : Hp) : Prop := ∃ W : Nat → Nat → L2.St → Hp → Prop, (∃ m, W 0 m σ H) ∧ ∀ i m σ H, W i m σ H →
  (J.stop i H ∧ D.nx σ H) ∨ (J.go i H ∧ ∃ N : L2.St → Hp → Prop, (∀ σ' H', N σ' H' → ∃ m', m' < m ∧ W (i + 1) m' σ' H') ∧ ∀ x H', J.yld i H x H' → g x σ H' fun σ2 H2 => tb { D with nx := N, ct := N, bk := D.nx } σ2 H2)
def LcK (J : It) (g : TG) (tt : TT) (te : TE) (vs : List Nat) (σ : L2.St) (H1 : Hp) (Q : VK) : Prop := ∀ D, H1 D = none → ∃ W : Nat → Nat → Hp → Prop, (∃ m, W 0 m (upd H1 D (.lst []))) ∧ ∀ i m H, W i m H →
  (J.stop i H ∧ Q (.ref D) H) ∨ (J.go i H ∧ ∃ Nx : Hp → Prop, (∀ H', Nx H' → ∃ m', m' < m ∧ W (i + 1) m' H') ∧ ∀ x H', J.yld i H x H' → g x (wipe σ vs) H' fun σ2 H2 => wipe σ2 vs = wipe σ vs ∧ tt σ2 H2 fun b H3 =>
    if b = true then te σ2 H3 fun y H4 => ∃ acc, H4 D = some (.lst acc) ∧ acc.length < sizeLine ∧ Nx (upd H4 D (.lst (acc ++ [y]))) else Nx H3)
def RngA1 (vs : List V) (H : Hp) (R : It → Hp → Prop) : Prop := ∃ j : Int, vs = [.int j] ∧ -(2 ^ 62) ≤ j ∧ j < 2 ^ 62 ∧ R (Itr 0 j.toNat) H
def RngA2 (vs : List V) (H : Hp) (R : It → Hp → Prop) : Prop := ∃ i j : Int, vs = [.int i, .int j] ∧ (-(2 ^ 62) ≤ i ∧ i < 2 ^ 62 ∧ -(2 ^ 62) ≤ j ∧ j < 2 ^ 62) ∧ R (Itr i (j - i).toNat) H
def RngA3 (vs : List V) (H : Hp) (R : It → Hp → Prop) : Prop := ∃ (i j c : Int) (n : Nat), vs = [.int i, .int j, .int c] ∧ RgC i j c n ∧ R (Itc i c n) H
def LstA (K : Fg) (x : V) (H : Hp) (R : It → Hp → Prop) : Prop := ∃ a, x = .ref a ∧ (∃ xs, SqL K H a xs) ∧ R (Itl K a) H
def TupA (K : Fg) (x : V) (H : Hp) (R : It → Hp → Prop) : Prop := ∃ a, x = .ref a ∧ (∃ xs, SqT K H a xs) ∧ R (Itt K a) H
def EnumA (K : Fg) (vs : List V) (H : Hp) (R : It → Hp → Prop) : Prop := ∃ a xs, vs = [.ref a] ∧ SqL K H a xs ∧ R (Ite K a) H
def ZipA (K : Fg) (vs : List V) (H : Hp) (R : It → Hp → Prop) : Prop := ∃ a b xs ys, vs = [.ref a, .ref b] ∧ SqL K H a xs ∧ SqL K H b ys ∧ R (Itz K a b) H
def StrA (v : V) (H : Hp) (R : It → Hp → Prop) : Prop := ∃ x, v = .str x ∧ R (Its x) H
section
variable {K : Fg} {D : Ends} {σ : L2.St} {H : Hp} {tb : TS} {te : TE} {ta : TA} {c tt : TT} {g : TG} {Q : VK} {wi : TI} {R : It → Hp → Prop} {J : It} {vs : List Nat} {i j lo : Int} {n : Nat} {a b : Addr} {xs ys : List V} {z : Str}
theorem i_for (h : wi σ H fun J H1 => LoopK J g tb D σ H1) : tFor wi g tb D σ H := h
theorem i_lc (h : wi σ H fun J H1 => LcK J g tt te vs σ H1 Q) : tLc wi g tt te vs σ H Q := h
theorem i_rng1 (h : ta σ H fun vs H1 => RngA1 vs H1 R) : iRng1 ta σ H R := h
theorem i_rng2 (h : ta σ H fun vs H1 => RngA2 vs H1 R) : iRng2 ta σ H R := h
theorem i_rng3 (h : ta σ H fun vs H1 => RngA3 vs H1 R) : iRng3 ta σ H R := h
theorem i_list (h : te σ H fun x H1 => LstA K x H1 R) : iList K te σ H R := h
theorem i_tupl (h : te σ H fun x H1 => TupA K x H1 R) : iTup K te σ H R := h
theorem i_enum (h : ta σ H fun vs H1 => EnumA K vs H1 R) : iEnum K ta σ H R := h
theorem i_zip (h : ta σ H fun vs H1 => ZipA K vs H1 R) : iZip K ta σ H R := h
theorem i_str (h : te σ H fun x H1 => StrA x H1 R) : iStr te σ H R := h
theorem i_rngA1 (h : -(2 ^ 62) ≤ j ∧ j < 2 ^ 62) (k : R (Itr 0 j.toNat) H) : RngA1 [.int j] H R := ⟨j, rfl, h.1, h.2, k⟩
theorem i_rngA2 (h : -(2 ^ 62) ≤ i ∧ i < 2 ^ 62 ∧ -(2 ^ 62) ≤ j ∧ j < 2 ^ 62) (k : R (Itr i (j - i).toNat) H) : RngA2 [.int i, .int j] H R := ⟨i, j, rfl, h, k⟩
theorem i_lstA (h : SqL K H a xs) (k : R (Itl K a) H) : LstA K (.ref a) H R := ⟨a, rfl, ⟨xs, h⟩, k⟩
theorem i_enumA (h : SqL K H a xs) (k : R (Ite K a) H) : EnumA K [.ref a] H R := ⟨a, xs, rfl, h, k⟩
theorem i_strA (k : R (Its z) H) : StrA (.str z) H R := ⟨z, rfl, k⟩
theorem lk_range (Pv : Nat → L2.St → Hp → Prop) (h0 : Pv 0 σ H)
    (hs : ∀ i σ H, i < n → Pv i σ H → g (.int (lo + i)) σ H fun σ2 H2 => tb { D with nx := Pv (i + 1), ct := Pv (i + 1), bk := D.nx } σ2 H2) (hd : ∀ σ H, Pv n σ H → D.nx σ H) : LoopK (Itr lo n) g tb D σ H := for_range Pv h0 hs hd
theorem lk_list (Pv : Nat → L2.St → Hp → Prop) (h0 : Pv 0 σ H) (hl : ∀ i σ H, i ≤ xs.length → Pv i σ H → SqL K H a xs)
    (hs : ∀ i x σ H, xs[i]? = some x → Pv i σ H → g x σ H fun σ2 H2 => tb { D with nx := Pv (i + 1), ct := Pv (i + 1), bk := D.nx } σ2 H2) (hd : ∀ σ H, Pv xs.length σ H → D.nx σ H) : LoopK (Itl K a) g tb D σ H := for_list Pv h0 hl hs hd
def TurnK (W : Nat → L2.St → Hp → Prop) (m : Nat) (tb : TS) (D : Ends) (σ : L2.St) (H : Hp) : Prop := ∃ N : L2.St → Hp → Prop, (∀ σ' H', N σ' H' → ∃ m', m' < m ∧ W m' σ' H') ∧ tb { D with nx := N, ct := N, bk := D.nx } σ H
theorem i_turn {W : Nat → L2.St → Hp → Prop} {m : Nat} (h : tb { D with nx := fun σ2 H2 => ∃ m', m' < m ∧ W m' σ2 H2, ct := fun σ2 H2 => ∃ m', m' < m ∧ W m' σ2 H2, bk := D.nx } σ H) : TurnK W m tb D σ H := ⟨_, fun _ _ z => z, h⟩
theorem i_while (W : Nat → L2.St → Hp → Prop) (m0 : Nat) (h0 : W m0 σ H)
    (hs : ∀ m σ' H', W m σ' H' → c σ' H' fun b H1 => if b = true then TurnK W m tb D σ' H1 else D.nx σ' H1) : tWhile c tb D σ H := ⟨W, ⟨m0, h0⟩, hs⟩
/-- a comprehension -/
theorem lck {G : Hp → Prop} {Y : Nat → Hp → V → Hp → Prop} (w : Walk J n G Y) (Pv : Addr → Nat → Hp → Prop) (h0 : ∀ D, H D = none → Pv D 0 (upd H D (.lst []))) (hG : ∀ D i H, i ≤ n → Pv D i H → G H)
    (hs : ∀ D i x H H', i < n → Pv D i H → Y i H x H' → g x (wipe σ vs) H' fun σ2 H2 => wipe σ2 vs = wipe σ vs ∧ tt σ2 H2 fun b H3 =>
      if b = true then te σ2 H3 fun y H4 => ∃ acc, H4 D = some (.lst acc) ∧ acc.length < sizeLine ∧ Pv D (i + 1) (upd H4 D (.lst (acc ++ [y]))) else Pv D (i + 1) H3) (hd : ∀ D H', H D = none → Pv D n H' → Q (.ref D) H') : LcK J g tt te vs σ H Q :=
  fun D hD => lc_it w (Pv D) (h0 D hD) (hG D) (hs D) (fun H' p => hd D H' hD p)
/-- one that changes nothing: which turns give, and what -/
def given (f : Nat → Option V) : Nat → List V
  | 0 => []
  | n + 1 => given f n ++ (match f n with | some y => [y] | none => [])
theorem given_len (f : Nat → Option V) : ∀ n, (given f n).length ≤ n
  | 0 => Nat.le_refl _
  | n + 1 => by
    have h := given_len f n
    unfold given
    rw [List.length_append]
    cases f n <;> simp <;> omega
theorem lck_pure {G : Hp → Prop} {Y : Nat → Hp → V → Hp → Prop} (w : Walk J n G Y) (hn : n ≤ 100000) (f : Nat → Option V) (hG : ∀ H', Same H H' → G H')
    (turn : ∀ i x H1 H2 (KK : V → Hp → Prop) (NN : Hp → Prop), i < n → Same H H1 → Y i H1 x H2 → (∀ y H4, f i = some y → Same H1 H4 → KK y H4) → (∀ H3, f i = none → Same H1 H3 → NN H3) →
      g x (wipe σ vs) H2 fun σ2 H2 => wipe σ2 vs = wipe σ vs ∧ tt σ2 H2 fun b H3 => if b = true then te σ2 H3 KK else NN H3)
    (fin : ∀ p H', H p = none → Same H H' → H' p = some (.lst (given f n)) → Q (.ref p) H') : LcK J g tt te vs σ H Q := by
  refine lck w (fun D i H' => H D = none ∧ Same H H' ∧ H' D = some (.lst (given f i))) (fun D hD => ⟨hD, same_new hD, upd_same⟩) (fun D i H' _ p => hG H' p.2.1) (fun D i x H1 H2 hi p y => ?_) (fun D H' hD p => fin D H' hD p.2.1 p.2.2)
  obtain ⟨p0, p1, p2⟩ := p
  refine turn i x H1 H2 _ _ hi p1 y (fun y H4 hf s4 => ?_) (fun H3 hf s3 => ?_)
  · refine ⟨given f i, s4 _ _ p2, sz_lt (by have := given_len f i; omega), p0, same_mut (p1.trans s4) p0, ?_⟩
    rw [upd_same]
    show some (HO.lst (given f i ++ [y])) = some (HO.lst (given f i ++ (match f i with | some y => [y] | none => [])))
    rw [hf]
  · refine ⟨p0, p1.trans s3, ?_⟩
    rw [s3 _ _ p2]
    show some (HO.lst (given f i)) = some (HO.lst (given f i ++ (match f i with | some y => [y] | none => [])))
    rw [hf, List.append_nil]
end
/-- where classes stand -/
def cAt (l : List (String × Addr)) (n : String) : Addr := (l.lookup n).getD 0
/-! ### attributes of one's own objects -/
def tFl (C : Addr) (ta : TE) (f : Str) : TE := fun σ H Q => ta σ H fun x H1 => ∃ p dx fs v, x = .ref p ∧ H1 p = some (.ins C dx fs) ∧ fs.lookup f = some v ∧ Q v H1
def tFls (C : Addr) (ta tv : TE) (f : Str) : TS := fun D σ H => tv σ H fun y H1 => ta σ H1 fun x H2 => ∃ p dx fs, x = .ref p ∧ H2 p = some (.ins C dx fs) ∧ fs.length < 1000 ∧ D.nx σ (upd H2 p (.ins C dx (putF f y fs)))
def rRmV : V → List V → Hp → VK → Prop := fun x xs H Q => ∃ (l : Addr) (ys : List V) (y : V) (j : Nat) (z : V), x = .ref l ∧ xs = [y] ∧ H l = some (.lst ys) ∧ flatV y = true ∧ ys.all flatV = true ∧ ys[j]? = some z ∧ eqV z y = true ∧
  (∀ (m : Nat) (z' : V), m < j → ys[m]? = some z' → eqV z' y = false) ∧ Q .non (upd H l (.lst (ys.eraseIdx j)))
section
variable {X : Cx} {o e value : Expr} {f : Str} {pos pos' : Pos} {ta tv : TE} {C : Addr}
theorem pfl (hc : Cls X.K C) (hn : NoAttr X.K C f) (he : PE X e ta) (hb : attributeBase e f X.env (eval e X.env) = eval e X.env) : PE X (.Attribute e f pos) (tFl C ta f) := by
  constructor
  intro pins s σ H Q I h
  refine attr_of hb (thn (he.run pins s σ H _ I h) ?_)
  rintro u s1 ⟨x, H1, I1, rx, p, dx, fs, v, rfl, ep, lf, q⟩
  cases rx
  exact getattr_ok I1 ep hc hn lf fun w s2 I2 rw' => ⟨v, H1, I2, rw', q⟩
theorem pfls (hc : Cls X.K C) (hn : NoAttr X.K C f) (ha : PE X o ta) (hv : PE X value tv) (hs : swapsWith value (some (.Attribute o f pos')) pos.line X.env = pure false) : PS X (.Assign [.Attribute o f pos'] value pos) (tFls C ta tv f) := by
  constructor
  intro pins s σ H D I h
  refine plainObj_wpAny_Assign_Attribute (thn (hv.run pins s σ H _ I h) ?_) hs
  rintro u s1 ⟨y, H1, I1, ry, q⟩
  refine thn (ha.run pins s1 σ H1 _ I1 q) ?_
  rintro ov s2 ⟨x, H2, I2, rx, p, dx, fs, rfl, ep, hl, q2⟩
  cases rx
  exact setattr_ok I2 ep hc hn hl ry fun s3 I3 => ⟨σ, _, I3, q2⟩
theorem mt_rmV : MtM X "list.remove" rRmV := by
  intro pins s σ H x xs v us Q I rx rxs h
  obtain ⟨l, ys, y, j, z, rfl, rfl, hH, fy, fys, hz, hzj, hno, q⟩ := h
  cases rx
  obtain ⟨uy, rfl, ry⟩ := rxs.one
  obtain ⟨zl, its, n, rv, hl, eo⟩ := I.lstM hH
  obtain ⟨u, hu, ru⟩ := rv.get hz
  obtain ⟨hjl, hje⟩ := List.getElem?_eq_some_iff.mp hu
  have hvl := rv.length
  have hj : j < its.toArray.size := by simpa using hjl
  refine call_meets PySem.F.slot_list_remove ⟨_, eo, rfl⟩ PySem.F.entry_list_remove (PySem.F.args_list_remove_2 _ _)
    (SeqAt.list_removeAt l its.toArray n none #[] uy (eqU y) j hj ?_ ?_ (by rw [List.size_toArray]; omega)) ⟨eo, fun u' hu' => mem_eqAt ry fy rv fys u' (by simpa using hu'), ?_⟩
  · have e1 : its.toArray[j] = u := by simpa using hje
    rw [e1, eqU_of ru (flat_at fys hz)]
    exact hzj
  · intro m hm hmj
    have hmy : m < ys.length := by have : m < its.length := by simpa using hm
                                   omega
    have hy' : ys[m]? = some ys[m] := List.getElem?_eq_getElem hmy
    obtain ⟨u2, hu2, ru2⟩ := rv.get hy'
    obtain ⟨_, hme⟩ := List.getElem?_eq_some_iff.mp hu2
    have e1 : its.toArray[m] = u2 := by simpa using hme
    rw [e1, eqU_of ru2 (flat_at fys hy')]
    exact hno m _ hmj hy'
  · refine ⟨.non, _, I.lset (its' := its.eraseIdx j) (t' := s.toks) hH eo ?_ (rv.eraseIdx j) ?_, rfl, q⟩
    · show its.toArray.eraseIdxIfInBounds j = (its.eraseIdx j).toArray
      rw [List.eraseIdxIfInBounds_toArray]
    · have := List.length_eraseIdx_le ys j
      omega
end
/-! ### making, and methods, that let nothing out -/
section
variable {X : Cx} {k : Nat} {C f : Addr} {fd : FuncData} {ps : List Str} {sp : Sp} {x m : Str} {p pos apos : Pos} {o e : Expr} {es : List Expr} {t : TA} {ta : TE}
theorem pmk (M : Mk X.K C f) (F : FnOk X.prog X.w X.K X.mg X.base CX0 k f fd ps (sp0 sp)) (hr : Room (k + 1) X.A) (hg : Gl X x) (hm : X.mg x = some (.ref C)) (hb : Binds X.K fd ps []) (ha : PA X (e :: es) t)
    (hdb : (x == ("__debug__" : Str)) = false := by decide) (he : starEach (e :: es) X.env = (false, eval e X.env) :: starEach es X.env := by rfl) (hpl : (backTo pos (starEach es X.env)).any (·.1) = false := by rfl) : PE X (.Call (.Name x p) (e :: es) [] pos) (tMake C sp [] E0 t) := pe_make (sp := sp0 sp) M F hr hg hm hb .nil pass0 ha hdb he hpl
theorem pmt {pl : Sem Bool} (ho : PE X o ta) (c : Cls X.K C) (hm : Meth X.K C m f) (F : FnOk X.prog X.w X.K X.mg X.base CX0 k f fd ps (sp0 sp)) (hr : Room k X.A) (hb : Binds X.K fd ps []) (ha : PA X (e :: es) t) (hst : starEach (e :: es) X.env = (false, eval e X.env) :: starEach es X.env := by rfl) (hpl : (backTo pos (starEach es X.env)).any (·.1) = false := by rfl)
    (ht : eval (.Call (.Attribute o m apos) (e :: es) [] pos) X.env = (eval o X.env >>= fun ov => standAt apos.atName >>= fun _ => holding [ov] (getMethod ov m pl) >>= fun g => callWith pos g.1 g.2 (backTo pos (starEach (e :: es) X.env)) (backToKw pos (keywordEach [] X.env))) := by rfl) : PE X (.Call (.Attribute o m apos) (e :: es) [] pos) (tMeth C m sp [] E0 ta t) := pe_meth (sp := sp0 sp) (pl := pl) ho c hm F hr hb .nil pass0 ha hst hpl ht
theorem pmt0 {pl : Sem Bool} (ho : PE X o ta) (c : Cls X.K C) (hm : Meth X.K C m f) (F : FnOk X.prog X.w X.K X.mg X.base CX0 k f fd ps (sp0 sp)) (hr : Room k X.A) (hb : Binds X.K fd ps [])
    (ht : eval (.Call (.Attribute o m apos) [] [] pos) X.env = (eval o X.env >>= fun ov => standAt apos.atName >>= fun _ => holding [ov] (getMethod ov m pl) >>= fun g => callWith pos g.1 g.2 (backTo pos (starEach [] X.env)) (backToKw pos (keywordEach [] X.env))) := by rfl) : PE X (.Call (.Attribute o m apos) [] [] pos) (tMeth C m sp [] E0 ta tNil) := pe_meth0 (sp := sp0 sp) (pl := pl) ho c hm F hr hb .nil pass0 ht
end
section
variable {K : Fg} {D : Ends} {σ : L2.St} {H : Hp} {ta tv : TE} {Q : VK} {C p dx : Addr} {f : Str} {fs : List (Str × V)} {v y : V} {ys : List V}
def FlA (C : Addr) (f : Str) (x : V) (H : Hp) (Q : VK) : Prop := ∃ p dx fs v, x = .ref p ∧ H p = some (.ins C dx fs) ∧ fs.lookup f = some v ∧ Q v H
theorem i_fl (h : ta σ H fun x H1 => FlA C f x H1 Q) : tFl C ta f σ H Q := h
theorem i_flA (e : H p = some (.ins C dx fs)) (l : fs.lookup f = some v) (h : Q v H) : FlA C f (.ref p) H Q := ⟨p, dx, fs, v, rfl, e, l, h⟩
def FlsA (C : Addr) (f : Str) (y x : V) (H : Hp) (R : Hp → Prop) : Prop := ∃ p dx fs, x = .ref p ∧ H p = some (.ins C dx fs) ∧ fs.length < 1000 ∧ R (upd H p (.ins C dx (putF f y fs)))
theorem i_fls (h : tv σ H fun y H1 => ta σ H1 fun x H2 => FlsA C f y x H2 fun H3 => D.nx σ H3) : tFls C ta tv f D σ H := h
theorem i_flsA {R : Hp → Prop} (e : H p = some (.ins C dx fs)) (l : fs.length < 1000) (h : R (upd H p (.ins C dx (putF f y fs)))) : FlsA C f y (.ref p) H R := ⟨p, dx, fs, rfl, e, l, h⟩
def MkA (C : Addr) (sp : Sp) (E : XK) (vs : List V) (H : Hp) (Q : VK) : Prop := ∀ x dx, H x = none → H dx = none → dx ≠ x → sp (.ref x :: vs) (upd (upd H dx (.own x)) x (.ins C dx [])) (fun v H2 => v = .non ∧ Q (.ref x) H2) E
theorem i_make {sp : Sp} {E : XK} {t : TA} (h : t σ H fun vs H1 => MkA C sp E vs H1 Q) : tMake C sp [] E t σ H Q := by
  have e : (fun vs H1 => MkA C sp E (vs ++ []) H1 Q) = fun vs H1 => MkA C sp E vs H1 Q := by
    funext vs H1
    rw [List.append_nil]
  show t σ H fun vs H1 => MkA C sp E (vs ++ []) H1 Q
  rw [e]
  exact h
def MtA (C : Addr) (m : Str) (x : V) (H : Hp) (R : Hp → Prop) : Prop := ∃ p dx fs, x = .ref p ∧ H p = some (.ins C dx fs) ∧ fs.lookup m = none ∧ R H
theorem i_meth {sp : Sp} {E : XK} {t : TA} {m : Str} (h : ta σ H fun x H1 => MtA C m x H1 fun H1 => t σ H1 fun vs H2 => sp (x :: vs) H2 Q E) : tMeth C m sp [] E ta t σ H Q := by
  have e : (fun x H1 => MtA C m x H1 fun H1 => t σ H1 fun vs H2 => sp (x :: (vs ++ [])) H2 Q E) = fun x H1 => MtA C m x H1 fun H1 => t σ H1 fun vs H2 => sp (x :: vs) H2 Q E := by
    funext x H1
    simp only [List.append_nil]
  show ta σ H fun x H1 => MtA C m x H1 fun H1 => t σ H1 fun vs H2 => sp (x :: (vs ++ [])) H2 Q E
  rw [e]
  exact h
theorem i_mtA {m : Str} {R : Hp → Prop} (e : H p = some (.ins C dx fs)) (l : fs.lookup m = none) (h : R H) : MtA C m (.ref p) H R := ⟨p, dx, fs, rfl, e, l, h⟩
theorem i_rmV {j : Nat} (e : H p = some (.lst ys)) (fy : flatV y = true) (fys : ys.all flatV = true) (hj : ys[j]? = some y) (hy : eqV y y = true) (hno : ∀ (m : Nat) (z' : V), m < j → ys[m]? = some z' → eqV z' y = false) (h : Q .non (upd H p (.lst (ys.eraseIdx j)))) : rRmV (.ref p) [y] H Q := ⟨p, ys, y, j, y, rfl, rfl, e, fy, fys, hj, hy, hno, h⟩
end
def t_is_whole (G : Gx) (E : XK) : TS :=
      (tRet (tAndV (tCB (uIsi G.K) (tCons (tVar 0) (tCons (tC (.ty "int")) tNil))) (tNotV (tCB (uIsi G.K) (tCons (tVar 0) (tCons (tC (.ty "bool")) tNil))))))
def sp_is_whole (G : Gx) : Sp := fun vs H Q E => vs.length = 1 ∧ t_is_whole G E { nx := fun _ H' => Q .non H', rt := Q } (start ["thing"] vs) H
def t_is_kind (G : Gx) (E : XK) : TS :=
      (tSeq (tIfS (tB (tCB (uIsi G.K) (tCons (tVar 0) (tCons (tC (.ty "str")) tNil)))) (tRet (tOp (uEq G.K) (tVar 0) (tC (.str "cubes")))) tNext)
      (tRet (tAndV (tCall (sp_is_whole G) [] E (tCons (tVar 0) tNil)) (tChain uLe uLe (tC (.int 3)) (tVar 0) (tC (.int 12))))))
def sp_is_kind (G : Gx) : Sp := fun vs H Q E => vs.length = 1 ∧ t_is_kind G E { nx := fun _ H' => Q .non H', rt := Q } (start ["thing"] vs) H
def t_are_kinds (G : Gx) (E : XK) : TS :=
      (tSeq (tIfS (tOr (tNot (tB (tCB (uIsi G.K) (tCons (tVar 0) (tCons (tC (.ty "list")) tNil))))) (tNot (tTest (tChain uLe uLe (tC (.int 1)) (tCB (uLen G.K) (tCons (tVar 0) tNil)) (tC (.int 5)))))) (tRet (tC (.bl false))) tNext)
      (tSeq (tIfS (tTest (tOp (uNe G.K) (tLc (iList G.K (tVar 0)) (gName 1) (tNot (tB (tCall (sp_is_kind G) [] E0 (tCons (tVar 1) tNil)))) (tVar 1) [1]) (tLst tNil))) (tRet (tC (.bl false))) tNext)
      (tRet (tOp (uEq G.K) (tLc (iEnum G.K (tCons (tVar 0) tNil)) (gTup G.K 2 (gCons (gName 2) (gCons (gName 1) gNil))) (tTest (tOp (uIn G.K) (tVar 1) (tSl (uSl G.K) (tVar 0) tNoPart (tPart (tVar 2))))) (tVar 2) [2, 1]) (tLst tNil)))))
def sp_are_kinds (G : Gx) : Sp := fun vs H Q E => vs.length = 1 ∧ t_are_kinds G E { nx := fun _ H' => Q .non H', rt := Q } (start ["thing", "kind", "k"] vs) H
def t_law_deck (G : Gx) (E : XK) : TS :=
      (tSeq (tAsg (tLst tNil) (gName 1))
      (tSeq (tFor (iRng1 (tCons (tCB (uMax G.K) (tCons (tC (.int 1)) (tCons (tCB (uMin G.K) (tCons (tC (.int 63)) (tCons (tCB (uLen G.K) (tCons (tVar 0) tNil)) tNil))) tNil))) tNil)) (gName 2) (tSeq (tAsg (tC (.int 0)) (gName 3))
      (tSeq (tIfS (tTest (tOp uLt (tVar 2) (tCB (uLen G.K) (tCons (tVar 0) tNil)))) (tAsg (tOp (uIx G.K) (tVar 0) (tVar 2)) (gName 3)) tNext)
      (tDrop (tBM G.K "list" rAppend (tVar 1) (tCons (tLst (tCons (tVar 3) (tCons (tCB uInt (tCons (tOp uGe (tVar 3) (tOp uPow (tC (.int 10)) (tC (.int 18)))) tNil)) (tCons (tOp uMul (tC (.int 31)) (tVar 2)) tNil)))) tNil))))))
      (tRet (tLst (tCons (tVar 1) (tCons (tC (.int 0)) tNil))))))
def sp_law_deck (G : Gx) : Sp := fun vs H Q E => vs.length = 1 ∧ t_law_deck G E { nx := fun _ H' => Q .non H', rt := Q } (start ["script", "pools", "k", "cell"] vs) H
def t_law_draw (G : Gx) (E : XK) : TS :=
      (tSeq (tAsg (tOp (uIx G.K) (tOp (uIx G.K) (tVar 0) (tC (.int 0))) (tOp uMod (tOp (uIx G.K) (tVar 0) (tC (.int 1))) (tCB (uLen G.K) (tCons (tOp (uIx G.K) (tVar 0) (tC (.int 0))) tNil)))) (gName 2))
      (tSeq (tAsg (tOp uAdd (tOp (uIx G.K) (tVar 0) (tC (.int 1))) (tC (.int 1))) (gSub (tVar 0) (tC (.int 1)) uSet))
      (tSeq (tIfS (tAnd (tTest (tOp (uEq G.K) (tOp (uIx G.K) (tVar 2) (tC (.int 1))) (tC (.int 1)))) (tTest (tOp uGt (tOp (uIx G.K) (tVar 2) (tC (.int 0))) (tC (.int 0))))) (tSeq (tAsg (tOp uMod (tOp (uIx G.K) (tVar 2) (tC (.int 0))) (tVar 1)) (gName 3))
      (tSeq (tAsg (tOp uDiv (tOp (uIx G.K) (tVar 2) (tC (.int 0))) (tVar 1)) (gSub (tVar 2) (tC (.int 0)) uSet))
      (tRet (tVar 3)))) tNext)
      (tSeq (tAsg (tOp uAdd (tOp (uIx G.K) (tVar 2) (tC (.int 2))) (tC (.int 1))) (gSub (tVar 2) (tC (.int 2)) uSet))
      (tSeq (tAsg (tOp uMod (tOp uAdd (tOp uMod (tOp (uIx G.K) (tVar 2) (tC (.int 0))) (tC (.int 99999999977))) (tOp uMul (tC (.int 700001)) (tOp (uIx G.K) (tVar 2) (tC (.int 2))))) (tC (.int 99999999947))) (gName 4))
      (tSeq (tAsg (tOp uMod (tOp uMul (tVar 4) (tVar 4)) (tC (.int 99999999821))) (gName 4))
      (tSeq (tAsg (tOp uMod (tOp uMul (tVar 4) (tOp uAdd (tVar 4) (tC (.int 19)))) (tC (.int 9999999967))) (gName 4))
      (tRet (tOp uMod (tOp uDiv (tVar 4) (tC (.int 13))) (tVar 1))))))))))
def sp_law_draw (G : Gx) : Sp := fun vs H Q E => vs.length = 2 ∧ t_law_draw G E { nx := fun _ H' => Q .non H', rt := Q } (start ["deck", "many", "pool", "found", "number"] vs) H
def t_law_some_kinds (G : Gx) (E : XK) : TS :=
      (tSeq (tAsg (tLst (tCons (tC (.int 3)) (tCons (tC (.int 4)) (tCons (tC (.int 5)) (tCons (tC (.int 6)) (tCons (tC (.int 7)) (tCons (tC (.int 8)) (tCons (tC (.int 9)) (tCons (tC (.int 10)) (tCons (tC (.int 11)) (tCons (tC (.int 12)) (tCons (tC (.str "cubes")) tNil)))))))))))) (gName 1))
      (tRet (tLc (iRng1 (tCons (tOp (uIx G.K) (tLst (tCons (tOp uAdd (tC (.int 1)) (tCall (sp_law_draw G) [] E (tCons (tVar 0) (tCons (tC (.int 5)) tNil)))) (tCons (tC (.int 1)) (tCons (tC (.int 2)) tNil)))) (tCall (sp_law_draw G) [] E (tCons (tVar 0) (tCons (tC (.int 3)) tNil)))) tNil)) (gName 2) tYes (tBM G.K "list" rPopAt (tVar 1) (tCons (tCall (sp_law_draw G) [] E0 (tCons (tVar 0) (tCons (tCB (uLen G.K) (tCons (tVar 1) tNil)) tNil))) tNil)) [2])))
def sp_law_some_kinds (G : Gx) : Sp := fun vs H Q E => vs.length = 1 ∧ t_law_some_kinds G E { nx := fun _ H' => Q .non H', rt := Q } (start ["deck", "left", "k"] vs) H
def t_dots (G : Gx) (E : XK) : TS :=
      (tSeq (tIfS (tTest (tOp (uEq G.K) (tVar 0) (tC (.str "cubes")))) (tRet (tOp uMul (tOp uMul (tVar 1) (tVar 1)) (tVar 1))) tNext)
      (tRet (tOp uAdd (tVar 1) (tOp uMul (tOp uSub (tVar 0) (tC (.int 2))) (tOp uDiv (tOp uMul (tVar 1) (tOp uSub (tVar 1) (tC (.int 1)))) (tC (.int 2)))))))
def sp_dots (G : Gx) : Sp := fun vs H Q E => vs.length = 2 ∧ t_dots G E { nx := fun _ H' => Q .non H', rt := Q } (start ["kind", "k"] vs) H
def t_law_dots (G : Gx) (E : XK) : TS :=
      (tSeq (tAsg (tLst tNil) (gName 2))
      (tSeq (tAsg (tC (.int 1)) (gName 3))
      (tSeq (tAsg (tC (.int 1)) (gName 4))
      (tSeq (tAsg (tC (.int 1)) (gName 5))
      (tSeq (tWhile (tTest (tOp uLe (tVar 4) (tVar 1))) (tSeq (tDrop (tBM G.K "list" rAppend (tVar 2) (tCons (tVar 4) tNil)))
      (tSeq (tAsg (tOp uAdd (tVar 3) (tC (.int 1))) (gName 3))
      (tIfS (tTest (tOp (uEq G.K) (tVar 0) (tC (.str "cubes")))) (tAsg (tOp uPow (tVar 3) (tC (.int 3))) (gName 4)) (tSeq (tAsg (tOp uSub (tOp uAdd (tVar 5) (tVar 0)) (tC (.int 2))) (gName 5))
      (tAsg (tOp uAdd (tVar 4) (tVar 5)) (gName 4)))))))
      (tRet (tVar 2)))))))
def sp_law_dots (G : Gx) : Sp := fun vs H Q E => vs.length = 2 ∧ t_law_dots G E { nx := fun _ H' => Q .non H', rt := Q } (start ["kind", "most", "found", "k", "number", "more"] vs) H
def t_need_kinds (G : Gx) (E : XK) : TS :=
      (tIfS (tNot (tB (tCall (sp_are_kinds G) [] E (tCons (tVar 0) tNil)))) (tRz E (G.C "NoKinds")) tNext)
def sp_need_kinds (G : Gx) : Sp := fun vs H Q E => vs.length = 1 ∧ t_need_kinds G E { nx := fun _ H' => Q .non H', rt := Q } (start ["thing"] vs) H
def t_need_to_most (G : Gx) (E : XK) : TS :=
      (tIfS (tOr (tNot (tB (tCall (sp_is_whole G) [] E (tCons (tVar 0) tNil)))) (tNot (tTest (tChain uLe uLe (tC (.int 0)) (tVar 0) (tC (.int 200)))))) (tRz E (G.C "NoNumber")) tNext)
def sp_need_to_most (G : Gx) : Sp := fun vs H Q E => vs.length = 1 ∧ t_need_to_most G E { nx := fun _ H' => Q .non H', rt := Q } (start ["thing"] vs) H
def t_stock_of (G : Gx) (E : XK) : TS :=
      (tSeq (tAsg tDNewK (gName 2))
      (tSeq (tFor (iList G.K (tVar 0)) (gName 3) (tSeq (tAsg (tC (.int 1)) (gName 4))
      (tWhile (tTest (tOp uLe (tCall (sp_dots G) [] E (tCons (tVar 3) (tCons (tVar 4) tNil))) (tVar 1))) (tSeq (tAsg (tC (.bl true)) (gSub (tVar 2) (tCall (sp_dots G) [] E (tCons (tVar 3) (tCons (tVar 4) tNil))) uSet))
      (tAug 4 (tC (.int 1)) (ipI fun i j => i + j))))))
      (tRet (tCB (uSorted G.K) (tCons (tVar 2) tNil)))))
def sp_stock_of (G : Gx) : Sp := fun vs H Q E => vs.length = 2 ∧ t_stock_of G E { nx := fun _ H' => Q .non H', rt := Q } (start ["kinds", "b", "found", "kind", "k"] vs) H
def t_law_stock (G : Gx) (E : XK) : TS :=
      (tSeq (tAsg (tLst tNil) (gName 2))
      (tSeq (tFor (iList G.K (tVar 0)) (gName 3) (tFor (iList G.K (tCall (sp_law_dots G) [] E (tCons (tVar 3) (tCons (tVar 1) tNil)))) (gName 4) (tIfS (tTest (tOp (uNotIn G.K) (tVar 4) (tVar 2))) (tDrop (tBM G.K "list" rAppend (tVar 2) (tCons (tVar 4) tNil))) tNext)))
      (tRet (tCB (uSorted G.K) (tCons (tVar 2) tNil)))))
def sp_law_stock (G : Gx) : Sp := fun vs H Q E => vs.length = 2 ∧ t_law_stock G E { nx := fun _ H' => Q .non H', rt := Q } (start ["kinds", "most", "found", "kind", "number"] vs) H
def t_law_number (G : Gx) (E : XK) : TS :=
      (tRet (tOp (uIx G.K) (tLst (tCons (tCall (sp_law_draw G) [] E (tCons (tVar 0) (tCons (tC (.int 40)) tNil))) (tCons (tCall (sp_law_draw G) [] E (tCons (tVar 0) (tCons (tC (.int 201)) tNil))) (tCons (tOp uSub (tC (.int 200)) (tCall (sp_law_draw G) [] E (tCons (tVar 0) (tCons (tC (.int 12)) tNil)))) (tCons (tC (.int 200)) tNil))))) (tCall (sp_law_draw G) [] E (tCons (tVar 0) (tCons (tC (.int 4)) tNil)))))
def sp_law_number (G : Gx) : Sp := fun vs H Q E => vs.length = 1 ∧ t_law_number G E { nx := fun _ H' => Q .non H', rt := Q } (start ["deck"] vs) H
def t_fewest_by (G : Gx) (E : XK) : TS :=
      (tSeq (tAsg (tLst (tCons (tC (.int 0)) tNil)) (gName 2))
      (tSeq (tFor (iRng2 (tCons (tC (.int 1)) (tCons (tOp uAdd (tVar 1) (tC (.int 1))) tNil))) (gName 3) (tDrop (tBM G.K "list" rAppend (tVar 2) (tCons (tOp uAdd (tC (.int 1)) (tCB (uMin G.K) (tCons (tLc (iList G.K (tVar 0)) (gName 4) (tTest (tOp uLe (tVar 4) (tVar 3))) (tOp (uIx G.K) (tVar 2) (tOp uSub (tVar 3) (tVar 4))) [4]) tNil))) tNil))))
      (tRet (tVar 2))))
def sp_fewest_by (G : Gx) : Sp := fun vs H Q E => vs.length = 2 ∧ t_fewest_by G E { nx := fun _ H' => Q .non H', rt := Q } (start ["stock", "b", "found", "n", "part"] vs) H
def t_law_needs (G : Gx) (E : XK) : TS :=
      (tSeq (tAsg (tOp uMul (tLst (tCons (tC (.int 0)) tNil)) (tOp uAdd (tVar 1) (tC (.int 1)))) (gName 2))
      (tSeq (tAsg (tC (.int 1)) (gName 3))
      (tSeq (tAsg (tOp uSub (tOp uShl (tC (.int 1)) (tOp uAdd (tVar 1) (tC (.int 1)))) (tC (.int 1))) (gName 4))
      (tSeq (tAsg (tC (.int 0)) (gName 5))
      (tSeq (tWhile (tTest (tOp (uNe G.K) (tVar 3) (tVar 4))) (tSeq (tAsg (tOp uAdd (tVar 5) (tC (.int 1))) (gName 5))
      (tSeq (tAsg (tVar 3) (gName 6))
      (tSeq (tFor (iList G.K (tVar 0)) (gName 7) (tAsg (tOp uOr (tVar 6) (tOp uShl (tVar 3) (tVar 7))) (gName 6)))
      (tSeq (tAsg (tOp uAnd (tVar 6) (tVar 4)) (gName 6))
      (tSeq (tFor (iRng1 (tCons (tOp uAdd (tVar 1) (tC (.int 1))) tNil)) (gName 8) (tIfS (tAnd (tTest (tOp (uEq G.K) (tOp uAnd (tOp uShr (tVar 6) (tVar 8)) (tC (.int 1))) (tC (.int 1)))) (tTest (tOp (uEq G.K) (tOp uAnd (tOp uShr (tVar 3) (tVar 8)) (tC (.int 1))) (tC (.int 0))))) (tAsg (tVar 5) (gSub (tVar 2) (tVar 8) uSet)) tNext))
      (tAsg (tVar 6) (gName 3))))))))
      (tRet (tVar 2)))))))
def sp_law_needs (G : Gx) : Sp := fun vs H Q E => vs.length = 2 ∧ t_law_needs G E { nx := fun _ H' => Q .non H', rt := Q } (start ["stock", "most", "found", "there", "all_bits", "parts", "more", "part", "number"] vs) H
def t_Keeper___init__ (G : Gx) (E : XK) : TS :=
      (tSeq (tDrop (tCall (sp_need_kinds G) [] E (tCons (tVar 1) tNil)))
      (tSeq (tDrop (tCall (sp_need_to_most G) [] E (tCons (tVar 2) tNil)))
      (tSeq (tFls (G.C "Keeper") (tVar 0) (tCB (uList G.K) (tCons (tVar 1) tNil)) "own")
      (tFls (G.C "Keeper") (tVar 0) (tVar 2) "bound"))))
def sp_Keeper___init__ (G : Gx) : Sp := fun vs H Q E => vs.length = 3 ∧ t_Keeper___init__ G E { nx := fun _ H' => Q .non H', rt := Q } (start ["self", "kinds", "b"] vs) H
def t_Keeper_needs (G : Gx) (E : XK) : TS :=
      (tRet (tCall (sp_fewest_by G) [] E (tCons (tCall (sp_stock_of G) [] E (tCons (tFl (G.C "Keeper") (tVar 0) "own") (tCons (tFl (G.C "Keeper") (tVar 0) "bound") tNil))) (tCons (tFl (G.C "Keeper") (tVar 0) "bound") tNil))))
def sp_Keeper_needs (G : Gx) : Sp := fun vs H Q E => vs.length = 1 ∧ t_Keeper_needs G E { nx := fun _ H' => Q .non H', rt := Q } (start ["self"] vs) H
def t_Keeper_come (G : Gx) (E : XK) : TS :=
      (tSeq (tIfS (tTest (tOp (uEq G.K) (tCB (uLen G.K) (tCons (tFl (G.C "Keeper") (tVar 0) "own") tNil)) (tC (.int 5)))) (tRz E (G.C "TooMany")) tNext)
      (tSeq (tIfS (tOr (tNot (tB (tCall (sp_is_kind G) [] E (tCons (tVar 1) tNil)))) (tTest (tOp (uIn G.K) (tVar 1) (tFl (G.C "Keeper") (tVar 0) "own")))) (tRz E (G.C "NoKind")) tNext)
      (tSeq (tAsg (tCB (uMax G.K) (tCons (tMeth (G.C "Keeper") "needs" (sp_Keeper_needs G) [] E (tVar 0) tNil) tNil)) (gName 2))
      (tSeq (tDrop (tBM G.K "list" rAppend (tFl (G.C "Keeper") (tVar 0) "own") (tCons (tVar 1) tNil)))
      (tRet (tTup (tCons (tVar 2) (tCons (tCB (uMax G.K) (tCons (tMeth (G.C "Keeper") "needs" (sp_Keeper_needs G) [] E (tVar 0) tNil) tNil)) tNil))))))))
def sp_Keeper_come (G : Gx) : Sp := fun vs H Q E => vs.length = 2 ∧ t_Keeper_come G E { nx := fun _ H' => Q .non H', rt := Q } (start ["self", "kind", "before"] vs) H
def t_Keeper_go (G : Gx) (E : XK) : TS :=
      (tSeq (tIfS (tOr (tNot (tB (tCall (sp_is_kind G) [] E (tCons (tVar 1) tNil)))) (tOr (tTest (tOp (uNotIn G.K) (tVar 1) (tFl (G.C "Keeper") (tVar 0) "own"))) (tTest (tOp (uEq G.K) (tCB (uLen G.K) (tCons (tFl (G.C "Keeper") (tVar 0) "own") tNil)) (tC (.int 1)))))) (tRz E (G.C "NoKind")) tNext)
      (tSeq (tAsg (tCB (uMax G.K) (tCons (tMeth (G.C "Keeper") "needs" (sp_Keeper_needs G) [] E (tVar 0) tNil) tNil)) (gName 2))
      (tSeq (tDrop (tBM G.K "list" rRmV (tFl (G.C "Keeper") (tVar 0) "own") (tCons (tVar 1) tNil)))
      (tRet (tTup (tCons (tVar 2) (tCons (tCB (uMax G.K) (tCons (tMeth (G.C "Keeper") "needs" (sp_Keeper_needs G) [] E (tVar 0) tNil) tNil)) tNil)))))))
def sp_Keeper_go (G : Gx) : Sp := fun vs H Q E => vs.length = 2 ∧ t_Keeper_go G E { nx := fun _ H' => Q .non H', rt := Q } (start ["self", "kind", "before"] vs) H
def t_Keeper_kinds (G : Gx) (E : XK) : TS :=
      (tRet (tCB (uList G.K) (tCons (tFl (G.C "Keeper") (tVar 0) "own") tNil)))
def sp_Keeper_kinds (G : Gx) : Sp := fun vs H Q E => vs.length = 1 ∧ t_Keeper_kinds G E { nx := fun _ H' => Q .non H', rt := Q } (start ["self"] vs) H
def t_Keeper_stock (G : Gx) (E : XK) : TS :=
      (tRet (tCall (sp_stock_of G) [] E (tCons (tFl (G.C "Keeper") (tVar 0) "own") (tCons (tFl (G.C "Keeper") (tVar 0) "bound") tNil))))
def sp_Keeper_stock (G : Gx) : Sp := fun vs H Q E => vs.length = 1 ∧ t_Keeper_stock G E { nx := fun _ H' => Q .non H', rt := Q } (start ["self"] vs) H
def t_Keeper_fewest (G : Gx) (E : XK) : TS :=
      (tSeq (tIfS (tOr (tNot (tB (tCall (sp_is_whole G) [] E (tCons (tVar 1) tNil)))) (tNot (tTest (tChain uLe uLe (tC (.int 0)) (tVar 1) (tFl (G.C "Keeper") (tVar 0) "bound"))))) (tRz E (G.C "NoNumber")) tNext)
      (tRet (tOp (uIx G.K) (tMeth (G.C "Keeper") "needs" (sp_Keeper_needs G) [] E (tVar 0) tNil) (tVar 1))))
def sp_Keeper_fewest (G : Gx) : Sp := fun vs H Q E => vs.length = 2 ∧ t_Keeper_fewest G E { nx := fun _ H' => Q .non H', rt := Q } (start ["self", "n"] vs) H
def t_law_rest (G : Gx) (E : XK) : TS :=
      (tRet (tLc (iList G.K (tLst (tCons (tC (.int 3)) (tCons (tC (.int 4)) (tCons (tC (.int 5)) (tCons (tC (.int 6)) (tCons (tC (.int 7)) (tCons (tC (.int 8)) (tCons (tC (.int 9)) (tCons (tC (.int 10)) (tCons (tC (.int 11)) (tCons (tC (.int 12)) (tCons (tC (.str "cubes")) tNil))))))))))))) (gName 1) (tTest (tOp (uNotIn G.K) (tVar 1) (tVar 0))) (tVar 1) [1]))
def sp_law_rest (G : Gx) : Sp := fun vs H Q E => vs.length = 1 ∧ t_law_rest G E { nx := fun _ H' => Q .non H', rt := Q } (start ["kinds", "kind"] vs) H
def t_law_asked_all (G : Gx) (E : XK) : TS :=
      (tSeq (tAsg (tCall (sp_law_draw G) [] E (tCons (tVar 0) (tCons (tC (.int 5)) tNil))) (gName 4))
      (tSeq (tFor (iList G.K (tOp (uIx G.K) (tLst (tCons (tLst (tCons (tC (.int 0)) tNil)) (tCons (tLst (tCons (tC (.int 1)) tNil)) (tCons (tLst (tCons (tC (.int 2)) tNil)) (tCons (tLst (tCons (tC (.int 0)) (tCons (tC (.int 1)) (tCons (tC (.int 2)) tNil)))) (tCons (tLst (tCons (tC (.int 2)) (tCons (tC (.int 1)) (tCons (tC (.int 0)) tNil)))) tNil)))))) (tVar 4))) (gName 5) (tSeq (tIfS (tAnd (tTest (tOp (uEq G.K) (tVar 5) (tC (.int 0)))) (tTest (tOp (uNe G.K) (tMeth (G.C "Keeper") "kinds" (sp_Keeper_kinds G) [] E (tVar 1) tNil) (tVar 2)))) (tRet (tC (.bl false))) tNext)
      (tSeq (tIfS (tAnd (tTest (tOp (uEq G.K) (tVar 5) (tC (.int 1)))) (tTest (tOp (uNe G.K) (tMeth (G.C "Keeper") "stock" (sp_Keeper_stock G) [] E (tVar 1) tNil) (tCall (sp_law_stock G) [] E (tCons (tVar 2) (tCons (tVar 3) tNil)))))) (tRet (tC (.bl false))) tNext)
      (tIfS (tTest (tOp (uEq G.K) (tVar 5) (tC (.int 2)))) (tSeq (tAsg (tCall (sp_law_needs G) [] E (tCons (tCall (sp_law_stock G) [] E (tCons (tVar 2) (tCons (tVar 3) tNil))) (tCons (tVar 3) tNil))) (gName 6))
      (tFor (iList G.K (tLst (tCons (tVar 3) (tCons (tCall (sp_law_draw G) [] E (tCons (tVar 0) (tCons (tOp uAdd (tVar 3) (tC (.int 1))) tNil))) tNil)))) (gName 7) (tIfS (tTest (tOp (uNe G.K) (tMeth (G.C "Keeper") "fewest" (sp_Keeper_fewest G) [] E (tVar 1) (tCons (tVar 7) tNil)) (tOp (uIx G.K) (tVar 6) (tVar 7)))) (tRet (tC (.bl false))) tNext))) tNext))))
      (tRet (tC (.bl true)))))
def sp_law_asked_all (G : Gx) : Sp := fun vs H Q E => vs.length = 4 ∧ t_law_asked_all G E { nx := fun _ H' => Q .non H', rt := Q } (start ["deck", "keeper", "kinds", "b", "way", "turn", "needs", "n"] vs) H
def t_law_k33 (G : Gx) (E : XK) : TS :=
      (tSeq (tAsg (tCall (sp_law_deck G) [] E (tCons (tVar 0) tNil)) (gName 1))
      (tSeq (tFor (iRng1 (tCons (tC (.int 2)) tNil)) (gName 2) (tSeq (tAsg (tCall (sp_law_some_kinds G) [] E (tCons (tVar 1) tNil)) (gName 3))
      (tSeq (tAsg (tOp (uIx G.K) (tLst (tCons (tCB (uList G.K) (tCons (tVar 3) tNil)) (tCons (tCall (sp_law_some_kinds G) [] E (tCons (tVar 1) tNil)) tNil))) (tCall (sp_law_draw G) [] E (tCons (tVar 1) (tCons (tC (.int 2)) tNil)))) (gName 4))
      (tSeq (tAsg (tLst (tCons (tCall (sp_law_number G) [] E (tCons (tVar 1) tNil)) (tCons (tCall (sp_law_number G) [] E (tCons (tVar 1) tNil)) tNil))) (gName 5))
      (tSeq (tIfS (tTest (tOp (uEq G.K) (tCall (sp_law_draw G) [] E (tCons (tVar 1) (tCons (tC (.int 2)) tNil))) (tC (.int 0)))) (tAsg (tOp (uIx G.K) (tVar 5) (tC (.int 0))) (gSub (tVar 5) (tC (.int 1)) uSet)) tNext)
      (tSeq (tAsg (tLst (tCons (tVar 3) (tCons (tVar 4) tNil))) (gName 6))
      (tSeq (tIfS (tTest (tOp (uEq G.K) (tVar 3) (tVar 4))) (tAsg (tLst (tCons (tVar 3) (tCons (tVar 3) tNil))) (gName 6)) tNext)
      (tSeq (tAsg (tLst (tCons (tCB (uList G.K) (tCons (tVar 3) tNil)) (tCons (tCB (uList G.K) (tCons (tVar 4) tNil)) tNil))) (gName 7))
      (tSeq (tAsg (tLst (tCons (tMake (G.C "Keeper") (sp_Keeper___init__ G) [] E (tCons (tOp (uIx G.K) (tVar 6) (tC (.int 0))) (tCons (tOp (uIx G.K) (tVar 5) (tC (.int 0))) tNil))) (tCons (tMake (G.C "Keeper") (sp_Keeper___init__ G) [] E (tCons (tOp (uIx G.K) (tVar 6) (tC (.int 1))) (tCons (tOp (uIx G.K) (tVar 5) (tC (.int 1))) tNil))) tNil))) (gName 8))
      (tSeq (tDrop (tBM G.K "list" rAppend (tOp (uIx G.K) (tVar 6) (tC (.int 0))) (tCons (tC (.str "cubes")) tNil)))
      (tFor (iRng1 (tCons (tOp uAdd (tC (.int 1)) (tCall (sp_law_draw G) [] E (tCons (tVar 1) (tCons (tC (.int 24)) tNil)))) tNil)) (gName 9) (tSeq (tAsg (tCall (sp_law_draw G) [] E (tCons (tVar 1) (tCons (tC (.int 2)) tNil))) (gName 10))
      (tSeq (tAsg (tOp (uIx G.K) (tVar 7) (tVar 10)) (gName 11))
      (tSeq (tIfS (tOr (tTest (tOp uLt (tCB (uLen G.K) (tCons (tVar 11) tNil)) (tC (.int 2)))) (tAnd (tTest (tOp uLt (tCB (uLen G.K) (tCons (tVar 11) tNil)) (tC (.int 5)))) (tTest (tOp (uEq G.K) (tCall (sp_law_draw G) [] E (tCons (tVar 1) (tCons (tC (.int 2)) tNil))) (tC (.int 0)))))) (tSeq (tAsg (tOp (uIx G.K) (tCall (sp_law_rest G) [] E (tCons (tVar 11) tNil)) (tCall (sp_law_draw G) [] E (tCons (tVar 1) (tCons (tOp uSub (tC (.int 11)) (tCB (uLen G.K) (tCons (tVar 11) tNil))) tNil)))) (gName 12))
      (tSeq (tDrop (tMeth (G.C "Keeper") "come" (sp_Keeper_come G) [] E (tOp (uIx G.K) (tVar 8) (tVar 10)) (tCons (tVar 12) tNil)))
      (tAsg (tOp uAdd (tVar 11) (tLst (tCons (tVar 12) tNil))) (gSub (tVar 7) (tVar 10) uSet)))) (tSeq (tAsg (tOp (uIx G.K) (tVar 11) (tCall (sp_law_draw G) [] E (tCons (tVar 1) (tCons (tCB (uLen G.K) (tCons (tVar 11) tNil)) tNil)))) (gName 12))
      (tSeq (tDrop (tMeth (G.C "Keeper") "go" (sp_Keeper_go G) [] E (tOp (uIx G.K) (tVar 8) (tVar 10)) (tCons (tVar 12) tNil)))
      (tAsg (tLc (iList G.K (tVar 11)) (gName 14) (tTest (tOp (uNe G.K) (tVar 14) (tVar 12))) (tVar 14) [14]) (gSub (tVar 7) (tVar 10) uSet)))))
      (tSeq (tAsg (tMeth (G.C "Keeper") "kinds" (sp_Keeper_kinds G) [] E (tOp (uIx G.K) (tVar 8) (tVar 10)) tNil) (gName 13))
      (tSeq (tDrop (tBM G.K "list" rAppend (tVar 13) (tCons (tC (.int 3)) tNil)))
      (tFor (iList G.K (tLst (tCons (tVar 10) (tCons (tOp uSub (tC (.int 1)) (tVar 10)) tNil)))) (gName 14) (tIfS (tNot (tB (tCall (sp_law_asked_all G) [] E (tCons (tVar 1) (tCons (tOp (uIx G.K) (tVar 8) (tVar 14)) (tCons (tOp (uIx G.K) (tVar 7) (tVar 14)) (tCons (tOp (uIx G.K) (tVar 5) (tVar 14)) tNil))))))) (tRet (tC (.bl false))) tNext))))))))))))))))))
      (tRet (tC (.bl true)))))
def sp_law_k33 (G : Gx) : Sp := fun vs H Q E => vs.length = 1 ∧ t_law_k33 G E { nx := fun _ H' => Q .non H', rt := Q } (start ["script", "deck", "k", "first", "second", "bounds", "handed", "kinds", "keepers", "turn", "at", "own", "kind", "told", "one"] vs) H
local macro_rules | `(tactic| wtm_at "w1") => `(tactic| with_reducible first
  | refine i_seq ?_ | refine i_asg ?_ | refine i_gname ?_ | refine i_ifS ?_ | refine i_ret ?_ | refine i_drop ?_ | refine i_next ?_ | refine i_brk ?_ | refine i_retN ?_
  | refine i_op ?_ | refine i_var rfl ?_ | refine i_c ?_ | refine i_call ?_ | refine i_cb ?_ | refine i_cons ?_ | refine i_nil ?_ | refine i_un ?_
  | refine i_test ?_ | refine i_B ?_ | refine i_not ?_ | refine i_exbl ?_ | refine i_exint ?_
  | refine i_andV ?_ | refine i_orV ?_ | refine i_notV ?_ | refine i_if ?_ | refine i_chain ?_ | refine i_yes ?_
  | refine i_add ?_ | refine i_sub ?_ | refine i_lt ?_ | refine i_le ?_ | refine i_gt ?_ | refine i_ge ?_ | refine i_eqI ?_ | refine i_neI ?_ | refine i_eqS ?_ | refine i_neS ?_ | refine i_eqIS ?_ | refine i_neIS ?_
  | refine i_eqIN ?_ | refine i_neIN ?_ | refine i_eqNI ?_ | refine i_neNI ?_ | refine i_neNN ?_
  | refine i_isN ?_ | refine i_notN ?_ | refine i_isB ?_ | refine i_notB ?_ | refine i_max2 ?_ | refine i_min2 ?_ | refine i_intI ?_ | refine i_intB ?_ | refine i_abs ?_ | refine i_neg ?_ | refine i_band ?_ | refine i_bor ?_
  | refine i_isiII ?_ | refine i_isiIB ?_ | refine i_isiIS ?_ | refine i_isiIL ?_ | refine i_isiSI ?_ | refine i_isiSB ?_ | refine i_isiSS ?_ | refine i_isiSL ?_ | refine i_isiBI ?_ | refine i_isiBB ?_ | refine i_isiBS ?_ | refine i_isiNI ?_ | refine i_isiNB ?_
  | refine i_bm ?_ | refine i_bm0 ?_ | refine i_lst ?_ | refine i_tup ?_ | refine i_sl ?_ | refine i_nopart ?_ | refine i_part ?_ | refine i_gsub ?_ | refine i_aug rfl ?_ | refine i_ipI ?_
  | refine i_for ?_ | refine i_lc ?_ | refine i_rng1 ?_ | refine i_rng2 ?_ | refine i_rng3 ?_ | refine i_list ?_ | refine i_tupl ?_ | refine i_enum ?_ | refine i_zip ?_ | refine i_str ?_ | refine i_strA ?_
  | refine i_fl ?_ | refine i_fls ?_ | refine i_make ?_ | refine i_meth ?_ | refine i_augS ?_ | refine i_revL ?_
  | refine i_T rfl ?_ | refine i_F rfl ?_)
local macro_rules | `(tactic| wtm_at "num") => `(tactic| first | decide | omega)
local macro_rules | `(tactic| wtm_at "w2") => `(tactic| first
  | ((with_reducible refine i_pow ?_ ?_); · exact ⟨by decide, by decide, by decide⟩)
  | ((with_reducible refine i_mod ?_ ?_); · wtm_at "num")
  | ((with_reducible refine i_mulL ?_ ?_); · wtm_at "num")
  | ((with_reducible refine i_mulR ?_ ?_); · wtm_at "num")
  | ((with_reducible refine i_div ?_ ?_); · exact div_ok (by wtm_at "num") (by wtm_at "num")))
local macro_rules | `(tactic| wtm_at "w") => `(tactic| repeat (first | wtm_at "w1" | wtm_at "w2"))
local macro_rules | `(tactic| wtm_at "ao") => `(tactic| (with_reducible first | refine i_and ?_ | refine i_or ?_))
local macro_rules | `(tactic| wtm_at "ix") => `(tactic| (refine i_ixL (sq_of (by assumption)) (by rfl) ?_; wtm_at "w"))
local macro_rules | `(tactic| wtm_at "wa") => `(tactic| repeat (first | wtm_at "w1" | wtm_at "ao" | wtm_at "w2"))
/-! ### kinds and their numbers -/
/-- a kind: 3 to 12, or "cubes" -/
def IsKd (v : V) : Prop := (∃ s : Int, v = .int s ∧ 3 ≤ s ∧ s ≤ 12) ∨ v = .str "cubes"
/-- the k-th number of a kind -/
def dotsV : V → Int → Int
  | .int s, k => k + (s - 2) * (k * (k - 1) / 2)
  | _, k => k * k * k
section
variable {G : Gx} {H : Hp} {Q : VK} {E : XK}
theorem u_is_whole_int {n : Int} (h : Q (.bl true) H) : sp_is_whole G [.int n] H Q E := by
  refine ⟨rfl, ?_⟩
  unfold t_is_whole
  wtm_at "w"
  exact h
theorem u_is_kind_int {n : Int} (h : Q (.bl (decide (3 ≤ n ∧ n ≤ 12))) H) : sp_is_kind G [.int n] H Q E := by
  refine ⟨rfl, ?_⟩
  unfold t_is_kind
  wtm_at "w"
  refine u_is_whole_int ?_
  wtm_at "w"
  refine i_ite (fun h3 => ?_) (fun h3 => ?_)
  · wtm_at "w"
    rw [show decide (3 ≤ n ∧ n ≤ 12) = decide (n ≤ 12) by simp [h3]] at h
    exact h
  · rw [show decide (3 ≤ n ∧ n ≤ 12) = false by simp [h3]] at h
    exact h
theorem u_is_kind_cubes (h : Q (.bl true) H) : sp_is_kind G [.str "cubes"] H Q E := by
  refine ⟨rfl, ?_⟩
  unfold t_is_kind
  wtm_at "w"
  rw [decide_eq_true rfl]
  exact h
theorem u_is_kind {v : V} (hv : IsKd v) (h : Q (.bl true) H) : sp_is_kind G [v] H Q E := by
  rcases hv with ⟨s, rfl, h1, h2⟩ | rfl
  · refine u_is_kind_int ?_
    rw [decide_eq_true ⟨h1, h2⟩]
    exact h
  · exact u_is_kind_cubes h
theorem big_mul {i j : Int} (a b : Nat) (ha : i.natAbs < 2 ^ a) (hb : j.natAbs < 2 ^ b) (h : a + b ≤ 134217728) : CMulX i j := mulx_ok ha hb h
theorem u_dots {v : V} {k : Int} (hv : IsKd v) (h0 : 0 ≤ k) (h1 : k < 2 ^ 100) (h : Q (.int (dotsV v k)) H) : sp_dots G [v, .int k] H Q E := by
  have ek : k.natAbs < 2 ^ 100 := by omega
  refine ⟨rfl, ?_⟩
  unfold t_dots
  rcases hv with ⟨s, rfl, h2, h3⟩ | rfl
  · wtm_at "w"
    refine i_mulX (big_mul 100 101 ek (by omega) (by decide)) ?_
    wtm_at "w"
    exact h
  · wtm_at "w"
    refine i_mulX (big_mul 100 100 ek ek (by decide)) ?_
    wtm_at "w"
    refine i_mulX (big_mul 200 100 (wide_lt ek ek) ek (by decide)) ?_
    exact h
end
/-! ### a part of the heap of one's own -/
structure Wd where
  R : Addr → Prop
  I : Hp → Prop
  tr : ∀ H a, I H → R a → H a ≠ none
  up : ∀ H a o, I H → ¬ R a → I (upd H a o)
  sm : ∀ H H', I H → Same H H' → I H'
structure Kp (W : Wd) (H H' : Hp) : Prop where
  i : W.I H'
  k : Keep W.R H H'
structure At (W : Wd) (H : Hp) (a : Addr) (o : HO) : Prop where
  h : H a = some o
  r : ¬ W.R a
section
variable {W : Wd} {H H0 H1 H2 : Hp} {a p : Addr} {o : HO}
theorem Kp.refl (i : W.I H) : Kp W H H := ⟨i, Keep.refl _ _⟩
theorem Kp.trans (x : Kp W H H1) (y : Kp W H1 H2) : Kp W H H2 := ⟨y.i, x.k.trans y.k⟩
theorem Wd.notR (i : W.I H) (h : H p = none) : ¬ W.R p := fun r => W.tr H p i r h
theorem Kp.free (x : Kp W H H1) (h : H1 p = none) : H p = none := by
  cases e : H p with
  | none => rfl
  | some o =>
    have n := Wd.notR x.i h
    rw [x.k p o n e] at h
    cases h
theorem Kp.at (x : Kp W H H1) (z : At W H a o) : At W H1 a o := ⟨x.k a o z.r z.h, z.r⟩
theorem Kp.same (x : Kp W H0 H) (s : Same H H1) : Kp W H0 H1 := ⟨W.sm _ _ x.i s, fun b u n e => s _ _ (x.k b u n e)⟩
theorem Kp.new (x : Kp W H0 H) (h : H p = none) : Kp W H0 (upd H p o) := x.same (same_new h)
theorem Kp.mut (x : Kp W H0 H) (h : H0 p = none) (r : ¬ W.R p) : Kp W H0 (upd H p o) := ⟨W.up _ _ _ x.i r, keep_mut x.k h⟩
theorem At.new (i : W.I H) (h : H p = none) : At W (upd H p o) p o := ⟨upd_same, Wd.notR i h⟩
theorem At.same (z : At W H a o) (s : Same H H1) : At W H1 a o := ⟨s _ _ z.h, z.r⟩
theorem At.ne (z : At W H a o) (h : H p = none) : a ≠ p := ne_of_none z.h h
theorem At.upd {o2 : HO} (z : At W H a o) (n : a ≠ p) : At W (upd H p o2) a o := ⟨by rw [upd_ne n]; exact z.h, z.r⟩
end
/-! ### the deck -/
structure DkI (d pl : Addr) (ps : List Addr) (H : Hp) : Prop where
  n : ∃ n : Int, H d = some (.lst [.ref pl, .int n])
  l : H pl = some (.lst (ps.map V.ref))
  ne : 0 < ps.length
  le : ps.length ≤ 63
  p : ∀ p ∈ ps, ∃ c f k : Int, H p = some (.lst [.int c, .int f, .int k])
def DkR (d pl : Addr) (ps : List Addr) : Addr → Prop := fun a => a = d ∨ a = pl ∨ a ∈ ps
def deckW (d pl : Addr) (ps : List Addr) : Wd where
  R := DkR d pl ps
  I := DkI d pl ps
  tr := fun H a i r => by
    rcases r with rfl | rfl | r
    · obtain ⟨n, e⟩ := i.n; rw [e]; simp
    · rw [i.l]; simp
    · obtain ⟨c, f, k, e⟩ := i.p a r; rw [e]; simp
  up := fun H a o i r => by
    have n : ∀ b, DkR d pl ps b → b ≠ a := fun b rb z => r (by rw [← z]; exact rb)
    refine ⟨?_, ?_, i.ne, i.le, fun p hp => ?_⟩
    · obtain ⟨m, e⟩ := i.n; exact ⟨m, by rw [upd_ne (n d (.inl rfl))]; exact e⟩
    · rw [upd_ne (n pl (.inr (.inl rfl)))]; exact i.l
    · obtain ⟨c, f, k, e⟩ := i.p p hp; exact ⟨c, f, k, by rw [upd_ne (n p (.inr (.inr hp)))]; exact e⟩
  sm := fun H H' i s => by
    refine ⟨?_, s _ _ i.l, i.ne, i.le, fun p hp => ?_⟩
    · obtain ⟨m, e⟩ := i.n; exact ⟨m, s _ _ e⟩
    · obtain ⟨c, f, k, e⟩ := i.p p hp; exact ⟨c, f, k, s _ _ e⟩
theorem deck_dl {d pl : Addr} {ps : List Addr} {H : Hp} (i : DkI d pl ps H) : d ≠ pl := fun z => by
  obtain ⟨n, e⟩ := i.n
  have e2 := i.l
  rw [← z, e] at e2
  have e3 := HO.lst.inj (Option.some.inj e2)
  cases ps with
  | nil => cases e3
  | cons x r => cases r with
    | nil => cases e3
    | cons y r => simp at e3
theorem deck_dp {d pl : Addr} {ps : List Addr} {H : Hp} (i : DkI d pl ps H) {p : Addr} (hp : p ∈ ps) : d ≠ p := fun z => by
  obtain ⟨n, e⟩ := i.n
  obtain ⟨c, f, k, e2⟩ := i.p p hp
  rw [← z, e] at e2
  have e3 := HO.lst.inj (Option.some.inj e2)
  simp at e3
theorem deck_lp {d pl : Addr} {ps : List Addr} {H : Hp} (i : DkI d pl ps H) {p : Addr} (hp : p ∈ ps) : pl ≠ p := fun z => by
  obtain ⟨c, f, k, e2⟩ := i.p p hp
  have e := i.l
  rw [z, e2] at e
  have e3 := HO.lst.inj (Option.some.inj e)
  cases ps with
  | nil => cases e3
  | cons x r => simp at e3
theorem deck_d {d pl : Addr} {ps : List Addr} {H : Hp} {m : Int} (i : DkI d pl ps H) : DkI d pl ps (upd H d (.lst [.ref pl, .int m])) :=
  ⟨⟨m, upd_same⟩, by rw [upd_ne (deck_dl i).symm]; exact i.l, i.ne, i.le, fun p hp => by
    obtain ⟨c, f, k, e⟩ := i.p p hp
    exact ⟨c, f, k, by rw [upd_ne (deck_dp i hp).symm]; exact e⟩⟩
theorem deck_p {d pl : Addr} {ps : List Addr} {H : Hp} {p : Addr} {c f k : Int} (i : DkI d pl ps H) (hp : p ∈ ps) : DkI d pl ps (upd H p (.lst [.int c, .int f, .int k])) :=
  ⟨by obtain ⟨n, e⟩ := i.n; exact ⟨n, by rw [upd_ne (deck_dp i hp)]; exact e⟩, by rw [upd_ne (deck_lp i hp)]; exact i.l, i.ne, i.le, fun q hq => by
    by_cases z : q = p
    · subst z; exact ⟨c, f, k, upd_same⟩
    · obtain ⟨c, f, k, e⟩ := i.p q hq
      exact ⟨c, f, k, by rw [upd_ne z]; exact e⟩⟩
section
variable {G : Gx} {H : Hp} {Q : VK} {E : XK}
set_option maxHeartbeats 4000000 in
theorem u_law_draw {d pl : Addr} {ps : List Addr} {many : Int} (i : DkI d pl ps H) (h0 : 0 < many) (h1 : many < 2 ^ 64)
    (h : ∀ r H', 0 ≤ r → r < many → Kp (deckW d pl ps) H H' → Q (.int r) H') : sp_law_draw G [.ref d, .int many] H Q E := by
  refine ⟨rfl, ?_⟩
  unfold t_law_draw
  obtain ⟨n, ed⟩ := i.n
  have el := i.l
  have hn := i.ne
  wtm_at "w"
  wtm_at "ix"
  wtm_at "ix"
  wtm_at "ix"
  refine i_lenL (sq_of el) ?_
  rw [List.length_map]
  refine i_mod (by omega) ?_
  obtain ⟨j, ej, hj⟩ : ∃ j : Nat, n % (ps.length : Int) = (j : Int) ∧ j < ps.length := ⟨(n % (ps.length : Int)).toNat, by have := Int.emod_nonneg n (show (ps.length : Int) ≠ 0 by omega); omega, by have := Int.emod_lt_of_pos n (show 0 < (ps.length : Int) by omega); have := Int.emod_nonneg n (show (ps.length : Int) ≠ 0 by omega); omega⟩
  have hm : ps[j] ∈ ps := List.getElem_mem hj
  refine i_ixL (sq_of el) (at_nat (n := j) ej (v := .ref ps[j]) (by rw [List.getElem?_map, List.getElem?_eq_getElem hj]; rfl)) ?_
  wtm_at "w"
  wtm_at "ix"
  refine i_setL ed (n := 1) rfl ?_
  have i1 : DkI d pl ps (upd H d (.lst [.ref pl, .int (n + 1)])) := deck_d i
  have k1 : Kp (deckW d pl ps) H (upd H d (.lst [.ref pl, .int (n + 1)])) := ⟨i1, keep_in (Keep.refl _ _) (.inl rfl)⟩
  show tSeq _ _ _ _ (upd H d (.lst [.ref pl, .int (n + 1)]))
  generalize upd H d (.lst [.ref pl, .int (n + 1)]) = H1 at i1 k1 ⊢
  generalize hp : ps[j] = p at hm ⊢
  obtain ⟨c, f, k, ep⟩ := i1.p p hm
  have fin : ∀ c f k : Int, Kp (deckW d pl ps) H (upd H1 p (.lst [.int c, .int f, .int k])) := fun c f k => ⟨deck_p i1 hm, keep_in k1.k (.inr (.inr hm))⟩
  wtm_at "w"
  refine i_andP (b1 := decide (f = 1)) (b2 := decide (0 < c)) (fun QB h => ?_) (fun _ QB h => ?_) ?_
  · wtm_at "w"
    wtm_at "ix"
    exact h
  · wtm_at "w"
    wtm_at "ix"
    exact h
  refine i_both (fun hf => ?_) (fun hf => ?_)
  · wtm_at "w"
    wtm_at "ix"
    wtm_at "ix"
    refine i_setL ep (n := 0) rfl ?_
    wtm_at "w"
    exact h _ _ (Int.emod_nonneg _ (by omega)) (Int.emod_lt_of_pos _ h0) (fin _ _ _)
  · wtm_at "w"
    wtm_at "ix"
    refine i_setL ep (n := 2) rfl ?_
    have e2 : (upd H1 p (.lst [.int c, .int f, .int (k + 1)])) p = some (.lst [.int c, .int f, .int (k + 1)]) := upd_same
    have f2 := fin c f (k + 1)
    show tSeq _ _ _ _ (upd H1 p (.lst [.int c, .int f, .int (k + 1)]))
    generalize upd H1 p (.lst [.int c, .int f, .int (k + 1)]) = H2 at e2 f2 ⊢
    wtm_at "w"
    wtm_at "ix"
    wtm_at "ix"
    generalize e1 : (c % 99999999977 + 700001 * (k + 1)) % 99999999947 = r1
    have b1 : 0 ≤ r1 ∧ r1 < 99999999947 := by omega
    wtm_at "w"
    generalize e3 : r1 * r1 % 99999999821 = r2
    have b2 : 0 ≤ r2 ∧ r2 < 99999999821 := by omega
    wtm_at "w"
    exact h _ _ (Int.emod_nonneg _ (by omega)) (Int.emod_lt_of_pos _ h0) f2
def DeckT (H : Hp) (a pl : Addr) (i : Nat) (σ : L2.St) (H' : Hp) : Prop := ∃ (ps : List Addr) (y2 y3 : Option V), σ = [some (.ref a), some (.ref pl), y2, y3] ∧ Same H H' ∧ H' pl = some (.lst (ps.map V.ref)) ∧ ps.length = i ∧ (∀ p ∈ ps, ∃ c f k : Int, H' p = some (.lst [.int c, .int f, .int k]))
theorem deck_turn {H H' : Hp} {a pl p : Addr} {i : Nat} {ps : List Addr} {y2 y3 : Option V} {c f k : Int} (npl : H pl = none) (s : Same H H') (e : H' pl = some (.lst (ps.map V.ref))) (el : ps.length = i) (ep : ∀ p ∈ ps, ∃ c f k : Int, H' p = some (.lst [.int c, .int f, .int k])) (hp : H' p = none) :
    DeckT H a pl (i + 1) [some (.ref a), some (.ref pl), y2, y3] (upd (upd H' p (.lst [.int c, .int f, .int k])) pl (.lst (ps.map V.ref ++ [.ref p]))) := by
  have npp : pl ≠ p := ne_of_none e hp
  refine ⟨ps ++ [p], _, _, rfl, same_mut (s.trans (same_new hp)) npl, ?_, by simp [el], fun q hq => ?_⟩
  · rw [upd_same, List.map_append]; rfl
  · rcases List.mem_append.mp hq with hq | hq
    · obtain ⟨c2, f, k, eq⟩ := ep q hq
      refine ⟨c2, f, k, ?_⟩
      have n1 : q ≠ p := ne_of_none eq hp
      have n2 : q ≠ pl := fun z => by
        rw [z, e] at eq
        have e3 := HO.lst.inj (Option.some.inj eq)
        cases ps with
        | nil => cases hq
        | cons x r => simp at e3
      rw [upd_ne n2, upd_ne n1]; exact eq
    · have z : q = p := by simpa using hq
      subst z
      exact ⟨_, _, _, by rw [upd_ne npp.symm, upd_same]⟩
theorem u_law_deck {a : Addr} {ns : List Int} (hs : SqL G.K H a (ns.map V.int)) (hl : ns.length ≤ 63)
    (h : ∀ d pl ps H', Same H H' → DkI d pl ps H' → Q (.ref d) H') : sp_law_deck G [.ref a] H Q E := by
  refine ⟨rfl, ?_⟩
  unfold t_law_deck
  wtm_at "w"
  refine ⟨Nat.zero_le _, fun pl npl => ?_⟩
  wtm_at "w"
  have s1 : Same H (upd H pl (.lst [])) := same_new npl
  refine i_lenL (s1.seq hs) ?_
  wtm_at "w"
  rw [List.length_map]
  generalize hm : (if (if (ns.length : Int) < 63 then (ns.length : Int) else 63) > 1 then (if (ns.length : Int) < 63 then (ns.length : Int) else 63) else 1) = m
  have hm1 : 1 ≤ m ∧ m ≤ 63 := by
    rw [← hm]
    split <;> split <;> omega
  refine i_rngA1 (by omega) ?_
  refine lk_range (DeckT H a pl) ⟨[], none, none, rfl, s1, upd_same, rfl, by simp⟩ ?_ ?_
  · rintro i σ H' hi ⟨ps, y2, y3, rfl, s, e, el, ep⟩
    wtm_at "w"
    refine i_lenL (s.seq hs) ?_
    wtm_at "w"
    refine i_ite (fun hlt => ?_) (fun hlt => ?_)
    · wtm_at "w"
      rw [List.length_map] at hlt
      have hlt' : i < ns.length := by omega
      refine i_ixL (s.seq hs) (at_nat (n := i) (by omega) (v := .int ns[i]) (by rw [List.getElem?_map, List.getElem?_eq_getElem hlt']; rfl)) ?_
      wtm_at "w"
      refine ⟨.inl ⟨rfl, _, sq_of e⟩, ?_⟩
      wtm_at "w"
      refine ⟨sz_le (by simp), fun p hp => ?_⟩
      wtm_at "w"
      refine i_app (xs := ps.map V.ref) (by rw [upd_ne (ne_of_none e hp)]; exact e) (sz_lt (by simp; omega)) ?_
      exact deck_turn npl s e el ep hp
    · wtm_at "w"
      refine ⟨.inl ⟨rfl, _, sq_of e⟩, ?_⟩
      wtm_at "w"
      refine ⟨sz_le (by simp), fun p hp => ?_⟩
      wtm_at "w"
      refine i_app (xs := ps.map V.ref) (by rw [upd_ne (ne_of_none e hp)]; exact e) (sz_lt (by simp; omega)) ?_
      exact deck_turn npl s e el ep hp
  · rintro σ H' ⟨ps, y2, y3, rfl, s, e, el, ep⟩
    wtm_at "w"
    refine ⟨sz_le (by simp), fun d hd => ?_⟩
    refine h d pl ps _ (s.trans (same_new hd)) ⟨⟨0, upd_same⟩, ?_, by omega, by omega, fun p hp => ?_⟩
    · rw [upd_ne (ne_of_none e hd)]; exact e
    · obtain ⟨c, f, k, eq⟩ := ep p hp
      exact ⟨c, f, k, by rw [upd_ne (ne_of_none eq hd)]; exact eq⟩
end
/-! ### numbers of a kind in order -/
theorem tri_succ (k : Int) : (k + 1) * k / 2 = k * (k - 1) / 2 + k := by
  have e : (k + 1) * k = k * (k - 1) + k * 2 := by
    rw [Int.add_mul, Int.mul_sub]; omega
  rw [e, Int.add_mul_ediv_right _ _ (by decide)]
theorem dots_succ_int (s k : Int) : dotsV (.int s) (k + 1) = dotsV (.int s) k + (1 + k * (s - 2)) := by
  unfold dotsV
  have e : k + 1 - 1 = k := by omega
  simp only [e]
  rw [tri_succ, Int.mul_add, Int.mul_comm (s - 2) k]
  omega
theorem cube_succ (k : Int) : (k + 1) * (k + 1) * (k + 1) = k * k * k + (3 * (k * k) + 3 * k + 1) := by
  have e : (k + 1) * (k + 1) = k * k + 2 * k + 1 := by rw [Int.add_mul, Int.mul_add]; omega
  rw [e, Int.add_mul, Int.add_mul, Int.mul_add, Int.mul_add, Int.mul_assoc 2 k k]
  have : k * k * k + k * k * 1 = k * k * k + k * k := by rw [Int.mul_one]
  omega
theorem dots_lt {v : V} (hv : IsKd v) {k : Int} (hk : 1 ≤ k) : dotsV v k + 1 ≤ dotsV v (k + 1) := by
  rcases hv with ⟨s, rfl, h1, h2⟩ | rfl
  · rw [dots_succ_int]
    have : 0 ≤ k * (s - 2) := Int.mul_nonneg (by omega) (by omega)
    omega
  · show k * k * k + 1 ≤ (k + 1) * (k + 1) * (k + 1)
    rw [cube_succ]
    have : 0 ≤ k * k := Int.mul_nonneg (by omega) (by omega)
    omega
theorem dots_one {v : V} (hv : IsKd v) : dotsV v 1 = 1 := by
  rcases hv with ⟨s, rfl, h1, h2⟩ | rfl
  · show 1 + (s - 2) * (1 * (1 - 1) / 2) = 1
    rw [show (1 * (1 - 1) / 2 : Int) = 0 by decide]; omega
  · rfl
theorem dots_mono {v : V} (hv : IsKd v) : ∀ (n : Nat) {k : Int}, 1 ≤ k → dotsV v k + n ≤ dotsV v (k + n)
  | 0, k, hk => by simp
  | n + 1, k, hk => by
    have h1 := dots_mono hv n hk
    have h2 := dots_lt hv (k := k + n) (by omega)
    have e : k + ((n + 1 : Nat) : Int) = k + n + 1 := by omega
    rw [e]; omega
theorem dots_le {v : V} (hv : IsKd v) {i j : Int} (h1 : 1 ≤ i) (h2 : i ≤ j) : dotsV v i + (j - i) ≤ dotsV v j := by
  have h := dots_mono hv (j - i).toNat h1
  have e : i + ((j - i).toNat : Int) = j := by omega
  rw [e] at h
  omega
theorem dots_ge {v : V} (hv : IsKd v) {k : Int} (hk : 1 ≤ k) : k ≤ dotsV v k := by
  have h := dots_le hv (i := 1) (j := k) (by omega) hk
  rw [dots_one hv] at h
  omega
/-- the numbers of a kind to a bound: the first n -/
def dotsN (v : V) (n : Nat) : List Int := (List.range n).map fun (j : Nat) => dotsV v ((j : Int) + 1)
theorem dotsN_succ (v : V) (n : Nat) : dotsN v (n + 1) = dotsN v n ++ [dotsV v ((n : Int) + 1)] := by
  unfold dotsN
  rw [List.range_succ, List.map_append]; rfl
theorem dotsN_len (v : V) (n : Nat) : (dotsN v n).length = n := by unfold dotsN; simp
section
variable {G : Gx} {H : Hp} {Q : VK} {E : XK}
def DotsT (H : Hp) (v : V) (most : Int) (l : Addr) (m : Nat) (σ : L2.St) (H' : Hp) : Prop := ∃ (n : Nat) (more : Int), σ = [some v, some (.int most), some (.ref l), some (.int ((n : Int) + 1)), some (.int (dotsV v ((n : Int) + 1))), some (.int more)] ∧
  Same H H' ∧ H' l = some (.lst ((dotsN v n).map V.int)) ∧ m = most.toNat + 1 - n ∧ (∀ j < n, dotsV v ((j : Int) + 1) ≤ most) ∧ (∀ s, v = .int s → more = 1 + (n : Int) * (s - 2))
theorem u_law_dots {v : V} {most : Int} (hv : IsKd v) (h0 : 0 ≤ most) (h1 : most ≤ 100000)
    (h : ∀ l n H', Same H H' → H l = none → H' l = some (.lst ((dotsN v n).map V.int)) → (∀ j < n, dotsV v ((j : Int) + 1) ≤ most) → most < dotsV v ((n : Int) + 1) → Q (.ref l) H') : sp_law_dots G [v, .int most] H Q E := by
  refine ⟨rfl, ?_⟩
  unfold t_law_dots
  wtm_at "w"
  refine ⟨Nat.zero_le _, fun l nl => ?_⟩
  wtm_at "w"
  refine i_while (DotsT H v most l) (most.toNat + 1) ⟨0, 1, ?_, same_new nl, upd_same, by omega, fun j hj => absurd hj (Nat.not_lt_zero _), fun s _ => by omega⟩ ?_
  · show _ = [some v, some (.int most), some (.ref l), some (.int (0 + 1)), some (.int (dotsV v (0 + 1))), some (.int 1)]
    rw [show (0 : Int) + 1 = 1 by rfl, dots_one hv]
    rfl
  · rintro m σ H' ⟨n, more, rfl, s, e, em, hj, hm⟩
    wtm_at "w"
    refine i_ite (fun hle => ?_) (fun hle => ?_)
    · refine i_turn ?_
      have hk := dots_ge hv (k := (n : Int) + 1) (by omega)
      wtm_at "w"
      refine ⟨.inl ⟨rfl, _, sq_of e⟩, ?_⟩
      wtm_at "w"
      refine i_app e (sz_lt (by simp [dotsN_len]; omega)) ?_
      wtm_at "w"
      have fin : ∀ more' : Int, (∀ s, v = .int s → more' = 1 + ((n + 1 : Nat) : Int) * (s - 2)) → ∃ m', m' < m ∧ DotsT H v most l m' [some v, some (.int most), some (.ref l), some (.int ((n : Int) + 1 + 1)), some (.int (dotsV v ((n : Int) + 1 + 1))), some (.int more')] (upd H' l (.lst ((dotsN v n).map V.int ++ [.int (dotsV v ((n : Int) + 1))]))) := fun more' hm' =>
        ⟨most.toNat + 1 - (n + 1), by omega, n + 1, more', by rw [show ((n + 1 : Nat) : Int) = (n : Int) + 1 by omega], same_mut s nl, by rw [upd_same, dotsN_succ, List.map_append]; rfl, rfl, fun j hj' => by
          by_cases z : j < n
          · exact hj j z
          · have z2 : j = n := by omega
            subst z2; exact hle, hm'⟩
      rcases hv with ⟨sd, rfl, h2, h3⟩ | rfl
      · wtm_at "w"
        have em2 := hm sd rfl
        have e1 : dotsV (.int sd) ((n : Int) + 1 + 1) = dotsV (.int sd) ((n : Int) + 1) + (more + sd - 2) := by
          rw [dots_succ_int, em2, Int.add_mul]; omega
        rw [← e1]
        refine fin _ fun s' hs' => ?_
        cases hs'
        rw [em2, show ((n + 1 : Nat) : Int) = (n : Int) + 1 by omega, Int.add_mul]; omega
      · wtm_at "w"
        refine i_pow ⟨by decide, by decide, by omega⟩ ?_
        wtm_at "w"
        have e1 : ((n : Int) + 1 + 1) ^ (3 : Int).toNat = dotsV (.str "cubes") ((n : Int) + 1 + 1) := by
          show ((n : Int) + 1 + 1) ^ 3 = ((n : Int) + 1 + 1) * ((n : Int) + 1 + 1) * ((n : Int) + 1 + 1)
          rw [Int.pow_succ, Int.pow_succ, Int.pow_succ, Int.pow_zero, Int.one_mul]
        rw [e1]
        refine fin _ fun s' hs' => ?_
        cases hs'
    · wtm_at "w"
      exact h l n H' s nl e hj (by omega)
end
/-! ### == of lists of plain things -/
def toD : V → PyData
  | .non => .none
  | .bl b => .bool b
  | .int i => .int i
  | .str s => .str s
  | _ => .none
def sV : V → Bool
  | .non => true
  | .int _ => true
  | .str s => PyData.strOk s
  | _ => false
theorem dp_sV {K : Fg} {H : Hp} : ∀ {v : V}, sV v = true → Dp K H v (toD v)
  | .non, _ => .non
  | .int i, _ => .int i
  | .str s, _ => .str s
  | .bl _, h => by cases h
  | .byt _, h => by cases h
  | .flt _, h => by cases h
  | .ref _, h => by cases h
  | .ty _, h => by cases h
theorem dpAll_sV {K : Fg} {H : Hp} : ∀ {xs : List V}, xs.all sV = true → DpAll K H xs (xs.map toD)
  | [], _ => .nil
  | x :: r, h => by
    rw [List.all_cons, Bool.and_eq_true] at h
    exact .cons (dp_sV h.1) (dpAll_sV h.2)
theorem lay_sV : ∀ {v : V}, sV v = true → (toD v).canLay0 = true ∧ (toD v).depth = 0
  | .non, _ => ⟨by simp [toD, PyData.canLay0], by simp [toD, PyData.depth]⟩
  | .int i, _ => ⟨by simp [toD, PyData.canLay0], by simp [toD, PyData.depth]⟩
  | .str s, h => ⟨by have h' : PyData.strOk s = true := h
                     simpa [toD, PyData.canLay0] using h', by simp [toD, PyData.depth]⟩
  | .bl _, h => by cases h
  | .byt _, h => by cases h
  | .flt _, h => by cases h
  | .ref _, h => by cases h
  | .ty _, h => by cases h
theorem layAll_sV : ∀ {xs : List V}, xs.all sV = true → PyData.canLayAll0 (xs.map toD) = true ∧ PyData.depthAll (xs.map toD) = 0
  | [], _ => ⟨by simp [PyData.canLayAll0], by simp [PyData.depthAll]⟩
  | x :: r, h => by
    rw [List.all_cons, Bool.and_eq_true] at h
    have h1 := lay_sV h.1
    have h2 := layAll_sV h.2
    exact ⟨by simp [PyData.canLayAll0, h1.1, h2.1], by simp [PyData.depthAll, h1.2, h2.2]⟩
theorem shaped_L {xs : List V} (h : xs.all sV = true) : SeqAt.shaped (.list (xs.map toD)) = true := by
  have h2 := layAll_sV h
  unfold SeqAt.shaped
  simp [PyData.canLay0, PyData.depth, h2.1, h2.2]
theorem eqv_sV : ∀ {x y : V}, sV x = true → sV y = true → PyData.eqv (toD x) (toD y) = decide (x = y)
  | .non, .non, _, _ => by simp [toD, PyData.eqv]
  | .non, .int _, _, _ => by simp [toD, PyData.eqv]
  | .non, .str _, _, _ => by simp [toD, PyData.eqv]
  | .int _, .non, _, _ => by simp [toD, PyData.eqv]
  | .int i, .int j, _, _ => by simp only [toD, PyData.eqv]; rw [Bool.eq_iff_iff]; simp
  | .int _, .str _, _, _ => by simp [toD, PyData.eqv]
  | .str _, .non, _, _ => by simp [toD, PyData.eqv]
  | .str _, .int _, _, _ => by simp [toD, PyData.eqv]
  | .str _, .str _, _, _ => by simp only [toD, PyData.eqv]; rw [Bool.eq_iff_iff]; simp
  | .bl _, _, h, _ => by cases h
  | .byt _, _, h, _ => by cases h
  | .flt _, _, h, _ => by cases h
  | .ref _, _, h, _ => by cases h
  | .ty _, _, h, _ => by cases h
  | _, .bl _, _, h => by cases h
  | _, .byt _, _, h => by cases h
  | _, .flt _, _, h => by cases h
  | _, .ref _, _, h => by cases h
  | _, .ty _, _, h => by cases h
theorem eqvAll_sV : ∀ {xs ys : List V}, xs.all sV = true → ys.all sV = true → PyData.eqvAll (xs.map toD) (ys.map toD) = decide (xs = ys)
  | [], [], _, _ => by simp [PyData.eqvAll]
  | [], _ :: _, _, _ => by simp [PyData.eqvAll]
  | _ :: _, [], _, _ => by simp [PyData.eqvAll]
  | x :: r, y :: q, h1, h2 => by
    rw [List.all_cons, Bool.and_eq_true] at h1 h2
    simp only [List.map_cons, PyData.eqvAll, eqv_sV h1.1 h2.1, eqvAll_sV h1.2 h2.2]
    rw [Bool.eq_iff_iff]
    simp
section
variable {K : Fg} {H : Hp} {Q : VK} {a b : Addr} {xs ys : List V}
theorem i_eqL (h1 : SqL K H a xs) (h2 : SqL K H b ys) (s1 : xs.all sV = true) (s2 : ys.all sV = true) (h : Q (.bl (decide (xs = ys))) H) : uEq K (.ref a) (.ref b) H Q :=
  .inr ⟨_, _, .lst h1 (dpAll_sV s1), .lst h2 (dpAll_sV s2), shaped_L s1, shaped_L s2, by
    have e : PyData.eqv (.list (xs.map toD)) (.list (ys.map toD)) = decide (xs = ys) := by simp only [PyData.eqv]; exact eqvAll_sV s1 s2
    rw [e]; exact h⟩
theorem i_neL (h1 : SqL K H a xs) (h2 : SqL K H b ys) (s1 : xs.all sV = true) (s2 : ys.all sV = true) (h : Q (.bl (!decide (xs = ys))) H) : uNe K (.ref a) (.ref b) H Q :=
  .inr ⟨_, _, .lst h1 (dpAll_sV s1), .lst h2 (dpAll_sV s2), shaped_L s1, shaped_L s2, by
    have e : PyData.eqv (.list (xs.map toD)) (.list (ys.map toD)) = decide (xs = ys) := by simp only [PyData.eqv]; exact eqvAll_sV s1 s2
    rw [e]; exact h⟩
end
theorem ints_sV (ns : List Int) : (ns.map V.int).all sV = true := by
  induction ns with
  | nil => rfl
  | cons n r ih => rw [List.map_cons, List.all_cons, ih]; rfl
theorem ints_flat (ns : List Int) : (ns.map V.int).all flatV = true := by
  induction ns with
  | nil => rfl
  | cons n r ih => rw [List.map_cons, List.all_cons, ih]; rfl
theorem inV_int {n : Int} {ns : List Int} : inV (.int n) (ns.map V.int) = decide (n ∈ ns) := by
  rw [Bool.eq_iff_iff]
  simp only [inV, List.any_eq_true, List.mem_map, decide_eq_true_eq]
  constructor
  · rintro ⟨x, ⟨m, hm, rfl⟩, e⟩
    have : m = n := by simpa [eqV] using e
    rw [← this]; exact hm
  · intro h
    exact ⟨.int n, ⟨n, h, rfl⟩, by simp [eqV]⟩
theorem kd_sV {v : V} (h : IsKd v) : sV v = true := by
  rcases h with ⟨s, rfl, _⟩ | rfl
  · rfl
  · decide +kernel
theorem kd_flat {v : V} (h : IsKd v) : flatV v = true := by
  rcases h with ⟨s, rfl, _⟩ | rfl <;> rfl
theorem kds_sV {ks : List V} (h : ∀ v ∈ ks, IsKd v) : ks.all sV = true := by
  rw [List.all_eq_true]; exact fun v hv => kd_sV (h v hv)
theorem kds_flat {ks : List V} (h : ∀ v ∈ ks, IsKd v) : ks.all flatV = true := by
  rw [List.all_eq_true]; exact fun v hv => kd_flat (h v hv)
theorem eqV_kd {v w : V} (hv : IsKd v) (hw : IsKd w) : eqV v w = decide (v = w) := by
  rcases hv with ⟨s, rfl, _⟩ | rfl <;> rcases hw with ⟨t, rfl, _⟩ | rfl
  · simp only [eqV]; rw [Bool.eq_iff_iff]; simp
  · simp [eqV]
  · simp [eqV]
  · simp [eqV]
theorem inV_kd {v : V} {ks : List V} (hv : IsKd v) (hk : ∀ w ∈ ks, IsKd w) : inV v ks = decide (v ∈ ks) := by
  rw [Bool.eq_iff_iff]
  simp only [inV, List.any_eq_true, decide_eq_true_eq]
  constructor
  · rintro ⟨x, hx, e⟩
    rw [eqV_kd (hk x hx) hv] at e
    rw [← of_decide_eq_true e]; exact hx
  · intro h
    exact ⟨v, h, by rw [eqV_kd hv hv]; simp⟩
/-! ### slices -/
theorem cut_take {xs : List V} {n : Nat} (h : n ≤ xs.length) : cutV xs none (some (n : Int)) = xs.take n := by
  unfold cutV
  rw [show HT.sIx xs.length 0 none = 0 from HT.sIx_none _ _, HT.sIx_nat]
  simp [Nat.min_eq_left h]
/-! ### kinds -/
structure KdL (ks : List V) : Prop where
  kd : ∀ v ∈ ks, IsKd v
  nd : ks.Nodup
  lo : 1 ≤ ks.length
  hi : ks.length ≤ 5
section
variable {G : Gx} {H : Hp} {Q : VK} {E : XK} {a : Addr} {ks : List V}
theorem given_none (n : Nat) : given (fun _ => none) n = [] := by
  induction n with
  | zero => rfl
  | succ n ih => show given _ n ++ [] = []; rw [ih]; rfl
theorem u_are_kinds (ha : H a = some (.lst ks)) (hk : KdL ks) (h : ∀ H', Same H H' → Q (.bl true) H') : sp_are_kinds G [.ref a] H Q E := by
  refine ⟨rfl, ?_⟩
  unfold t_are_kinds
  wtm_at "wa"
  refine i_isiLL ha ?_
  wtm_at "wa"
  refine i_lenL (sq_of ha) ?_
  wtm_at "wa"
  have h1 := hk.lo
  have h5 := hk.hi
  refine i_T (by simp; omega) ?_
  wtm_at "wa"
  refine i_F (by simp; omega) ?_
  wtm_at "wa"
  refine i_lstA (sq_of ha) ?_
  refine lck_pure walk_list (by omega) (fun _ => none) (fun H' s => sq_of (s _ _ ha)) (fun i x H1 H2 KK NN hi s y hK hN => ?_) (fun p H1 np s1 e1 => ?_)
  · obtain ⟨rfl, hx⟩ := y
    wtm_at "w"
    refine ⟨rfl, ?_⟩
    wtm_at "w"
    refine u_is_kind (hk.kd x (List.mem_of_getElem? hx)) ?_
    wtm_at "w"
    exact hN _ rfl (fun _ _ z => z)
  · rw [given_none] at e1
    wtm_at "w"
    refine ⟨Nat.zero_le _, fun q nq => ?_⟩
    refine i_neL (xs := []) (ys := []) (sq_of (by rw [upd_ne (ne_of_none e1 nq)]; exact e1)) (sq_of upd_same) rfl rfl ?_
    wtm_at "w"
    have s2 : Same H (upd H1 q (.lst [])) := s1.trans (same_new nq)
    generalize upd H1 q (.lst []) = H2 at s2 ⊢
    refine i_enumA (sq_of (s2 _ _ ha)) ?_
    refine lck_pure walk_enum (by omega) (fun _ => none) (fun H' s => sq_of (s _ _ (s2 _ _ ha))) (fun i x H3 H4 KK NN hi s y hK hN => ?_) (fun p H3 np s3 e3 => ?_)
    · obtain ⟨T, x1, x2, rfl, nT, rfl, h1', h2'⟩ := y
      cases h1'
      have e4 : (upd H3 T (.tup [.int (i : Nat), x2])) a = some (.lst ks) := by
        rw [upd_ne (ne_of_none (s _ _ (s2 _ _ ha)) nT)]; exact s _ _ (s2 _ _ ha)
      have s4 : Same H3 (upd H3 T (.tup [.int (i : Nat), x2])) := same_new nT
      refine ⟨T, _, rfl, st_of upd_same, rfl, _, _, rfl, ?_⟩
      generalize upd H3 T (.tup [.int (i : Nat), x2]) = H4 at e4 s4 ⊢
      refine ⟨_, _, rfl, rfl, ?_⟩
      refine ⟨rfl, ?_⟩
      wtm_at "w"
      refine i_slL (sq_of e4) fun q2 nq2 => ?_
      rw [cut_take (by omega)]
      have hx2 : x2 ∈ ks := List.mem_of_getElem? h2'
      refine i_inL (sq_of upd_same) (kd_flat (hk.kd _ hx2)) (kds_flat fun v hv => hk.kd v (List.mem_of_mem_take hv)) ?_
      wtm_at "w"
      rw [inV_kd (hk.kd _ hx2) (fun v hv => hk.kd v (List.mem_of_mem_take hv))]
      refine i_F ?_ ?_
      · rw [decide_eq_false]
        intro hm
        obtain ⟨j, hj, ej⟩ := List.getElem_of_mem hm
        rw [List.length_take] at hj
        rw [List.getElem_take] at ej
        have e5 : ks[j]? = some x2 := by rw [List.getElem?_eq_getElem (by omega), ej]
        have := nd_ix hk.nd e5 h2'
        omega
      · exact hN _ rfl (s4.trans (same_new nq2))
    · rw [given_none] at e3
      wtm_at "w"
      refine ⟨Nat.zero_le _, fun q2 nq2 => ?_⟩
      refine i_eqL (xs := []) (ys := []) (sq_of (by rw [upd_ne (ne_of_none e3 nq2)]; exact e3)) (sq_of upd_same) rfl rfl ?_
      exact h _ ((s2.trans s3).trans (same_new nq2))
theorem u_need_kinds (ha : H a = some (.lst ks)) (hk : KdL ks) (h : ∀ H', Same H H' → Q .non H') : sp_need_kinds G [.ref a] H Q E := by
  refine ⟨rfl, ?_⟩
  unfold t_need_kinds
  wtm_at "w"
  refine u_are_kinds ha hk fun H' s => ?_
  wtm_at "w"
  exact h H' s
theorem u_need_to_most {n : Int} (h0 : 0 ≤ n) (h1 : n ≤ 200) (h : Q .non H) : sp_need_to_most G [.int n] H Q E := by
  refine ⟨rfl, ?_⟩
  unfold t_need_to_most
  wtm_at "wa"
  refine u_is_whole_int ?_
  wtm_at "wa"
  refine i_T (by simp; omega) ?_
  wtm_at "wa"
  refine i_F (by simp; omega) ?_
  wtm_at "wa"
  exact h
end
/-! ### a dict that is used as a set of ints -/
def insI (ks : List Int) (n : Int) : List Int := if n ∈ ks then ks else ks ++ [n]
theorem mem_insI {ks : List Int} {n x : Int} : x ∈ insI ks n ↔ x ∈ ks ∨ x = n := by
  unfold insI
  split
  · constructor
    · exact .inl
    · rintro (h | rfl)
      · exact h
      · assumption
  · simp
theorem nd_insI {ks : List Int} {n : Int} (h : ks.Nodup) : (insI ks n).Nodup := by
  unfold insI
  split
  · exact h
  · rename_i hn
    rw [List.nodup_append]
    refine ⟨h, by simp, fun a ha b hb => ?_⟩
    have : b = n := by simpa using hb
    subst this
    exact fun z => hn (z ▸ ha)
theorem len_insI (ks : List Int) (n : Int) : (insI ks n).length ≤ ks.length + 1 := by
  unfold insI
  split
  · omega
  · simp
theorem keys_put {kvs : List (Key × V)} {ks : List Int} (e : kvs.map (·.1) = ks.map Sum.inl) (n : Int) (v : V) : (putK kvs (Sum.inl n) v).map (·.1) = (insI ks n).map Sum.inl := by
  have hm : (kvs.any fun kv => decide (kv.1 = Sum.inl n)) = true ↔ n ∈ ks := by
    rw [List.any_eq_true]
    constructor
    · rintro ⟨kv, hk, z⟩
      have z' : kv.1 = Sum.inl n := of_decide_eq_true z
      have : kv.1 ∈ kvs.map (·.1) := List.mem_map.mpr ⟨kv, hk, rfl⟩
      rw [e, z'] at this
      simpa using this
    · intro h
      have : (Sum.inl n : Key) ∈ kvs.map (·.1) := by rw [e]; exact List.mem_map.mpr ⟨n, h, rfl⟩
      obtain ⟨kv, hk, z⟩ := List.mem_map.mp this
      exact ⟨kv, hk, by simpa using z⟩
  unfold putK insI
  by_cases h : n ∈ ks
  · rw [if_pos (hm.mpr h), if_pos h, List.map_map, ← e]
    refine List.map_congr_left fun kv _ => ?_
    show (if kv.1 = Sum.inl n then (kv.1, v) else kv).1 = kv.1
    split <;> rfl
  · rw [if_neg (fun z => h (hm.mp z)), if_neg h, List.map_append, List.map_append, e]; rfl
/-- at f a dict whose keys are the ints ks -/
def DI (H : Hp) (f : Addr) (ks : List Int) : Prop := ∃ kvs, H f = some (.dK kvs) ∧ kvs.map (·.1) = ks.map Sum.inl
theorem DI.same {H H' : Hp} {f : Addr} {ks : List Int} (d : DI H f ks) (s : Same H H') : DI H' f ks := by
  obtain ⟨kvs, e, k⟩ := d
  exact ⟨kvs, s _ _ e, k⟩
theorem DI.len {H : Hp} {f : Addr} {ks : List Int} {kvs : List (Key × V)} (k : kvs.map (·.1) = ks.map Sum.inl) : kvs.length = ks.length := by
  have := congrArg List.length k
  simpa using this
theorem i_setD {H : Hp} {f : Addr} {ks : List Int} {n : Int} {v : V} {R : Hp → Prop} (d : DI H f ks) (hl : ks.length < 1000000) (h : ∀ kvs, DI (upd H f (.dK kvs)) f (insI ks n) → R (upd H f (.dK kvs))) : uSet (.ref f) (.int n) v H R := by
  obtain ⟨kvs, e, k⟩ := d
  refine .inr ⟨f, _, rfl, DPut.k (k := Sum.inl n) e (sz_lt (by rw [DI.len (H := H) (f := f) k]; exact hl)), h _ ⟨_, upd_same, keys_put k n v⟩⟩
theorem i_sortedD {K : Fg} {H : Hp} {f : Addr} {ks : List Int} {Q : VK} (d : DI H f ks) (h : ∀ (ys : List Int) (p : Addr), ys.Perm ks → ys.Pairwise (· ≤ ·) → H p = none → Q (.ref p) (upd H p (.lst (ys.map V.int)))) : uSorted K [.ref f] H Q := by
  obtain ⟨kvs, e, k⟩ := d
  exact .inr ⟨f, kvs, ks, rfl, .inl e, k, h⟩
theorem i_sortedL {K : Fg} {H : Hp} {a : Addr} {ks : List Int} {Q : VK} (d : SqL K H a (ks.map V.int)) (h : ∀ (ys : List Int) (p : Addr), ys.Perm ks → ys.Pairwise (· ≤ ·) → H p = none → Q (.ref p) (upd H p (.lst (ys.map V.int)))) : uSorted K [.ref a] H Q := .inl ⟨a, ks, rfl, d, h⟩
/-! ### stocks -/
def IsDot (ks : List V) (x : Int) : Prop := ∃ v ∈ ks, ∃ k : Int, 1 ≤ k ∧ dotsV v k = x
structure StockOf (ks : List V) (b : Int) (L : List Int) : Prop where
  up : L.Pairwise (· < ·)
  mem : ∀ x, x ∈ L ↔ x ≤ b ∧ IsDot ks x
theorem lt_of_le_nd : ∀ {l : List Int}, l.Pairwise (· ≤ ·) → l.Nodup → l.Pairwise (· < ·)
  | [], _, _ => .nil
  | x :: r, h, n => by
    rw [List.pairwise_cons] at h ⊢
    rw [List.nodup_cons] at n
    exact ⟨fun y hy => by
      have h1 := h.1 y hy
      have h2 : x ≠ y := fun z => n.1 (z ▸ hy)
      omega, lt_of_le_nd h.2 n.2⟩
theorem up_ext : ∀ {l m : List Int}, l.Pairwise (· < ·) → m.Pairwise (· < ·) → (∀ x, x ∈ l ↔ x ∈ m) → l = m
  | [], [], _, _, _ => rfl
  | [], y :: q, _, _, h => by have := (h y).mpr (by simp); simp at this
  | x :: r, [], _, _, h => by have := (h x).mp (by simp); simp at this
  | x :: r, y :: q, h1, h2, h => by
    rw [List.pairwise_cons] at h1 h2
    have exy : x = y := by
      have a := (h x).mp (by simp)
      have b := (h y).mpr (by simp)
      rcases List.mem_cons.mp a with z | z
      · exact z
      · rcases List.mem_cons.mp b with w | w
        · exact w.symm
        · have := h2.1 x z
          have := h1.1 y w
          omega
    subst exy
    rw [up_ext h1.2 h2.2 fun z => ?_]
    have hz := h z
    constructor
    · intro m
      rcases List.mem_cons.mp (hz.mp (List.mem_cons_of_mem _ m)) with w | w
      · have := h1.1 z m; omega
      · exact w
    · intro m
      rcases List.mem_cons.mp (hz.mpr (List.mem_cons_of_mem _ m)) with w | w
      · have := h2.1 z m; omega
      · exact w
theorem StockOf.uniq {ks : List V} {b : Int} {L M : List Int} (h : StockOf ks b L) (g : StockOf ks b M) : L = M := up_ext h.up g.up fun x => by rw [h.mem, g.mem]
/-- ahead of kind i, and in kind i ahead of its k-th -/
def InSt (ks : List V) (b : Int) (i : Nat) (v : V) (k : Int) (x : Int) : Prop := x ≤ b ∧ (IsDot (ks.take i) x ∨ ∃ j : Int, 1 ≤ j ∧ j < k ∧ dotsV v j = x)
theorem isDot_take {ks : List V} {i : Nat} {v : V} (hi : ks[i]? = some v) (x : Int) : IsDot (ks.take (i + 1)) x ↔ IsDot (ks.take i) x ∨ ∃ j : Int, 1 ≤ j ∧ dotsV v j = x := by
  unfold IsDot
  rw [List.take_add_one, hi]
  constructor
  · rintro ⟨w, hw, k, h1, h2⟩
    rcases List.mem_append.mp hw with hw | hw
    · exact .inl ⟨w, hw, k, h1, h2⟩
    · have : w = v := by simpa using hw
      subst this
      exact .inr ⟨k, h1, h2⟩
  · rintro (⟨w, hw, k, h1, h2⟩ | ⟨j, h1, h2⟩)
    · exact ⟨w, List.mem_append_left _ hw, k, h1, h2⟩
    · exact ⟨v, List.mem_append_right _ (by simp), j, h1, h2⟩
section
variable {G : Gx} {H : Hp} {Q : VK} {E : XK} {a : Addr} {ks : List V}
def StkO (H : Hp) (a f : Addr) (ks : List V) (b : Int) (i : Nat) (σ : L2.St) (H' : Hp) : Prop := ∃ y3 y4 keys, σ = [some (.ref a), some (.int b), some (.ref f), y3, y4] ∧ Same H H' ∧ DI H' f keys ∧ keys.Nodup ∧ keys.length ≤ 1000 * i ∧ ∀ x, x ∈ keys ↔ x ≤ b ∧ IsDot (ks.take i) x
def StkI (H : Hp) (a f : Addr) (ks : List V) (b : Int) (i : Nat) (v : V) (m : Nat) (σ : L2.St) (H' : Hp) : Prop := ∃ (k : Int) (keys : List Int), σ = [some (.ref a), some (.int b), some (.ref f), some v, some (.int k)] ∧ 1 ≤ k ∧ k ≤ b + 1 ∧ m = (b + 1 - k).toNat ∧ Same H H' ∧ DI H' f keys ∧ keys.Nodup ∧ (keys.length : Int) ≤ 1000 * i + k ∧ ∀ x, x ∈ keys ↔ InSt ks b i v k x
theorem u_stock_of {b : Int} (ha : SqL G.K H a ks) (hk : ∀ v ∈ ks, IsKd v) (hn : ks.length ≤ 100) (h0 : 0 ≤ b) (h1 : b ≤ 900) (h : ∀ p L H', Same H H' → H p = none → H' p = some (.lst (L.map V.int)) → StockOf ks b L → Q (.ref p) H') : sp_stock_of G [.ref a, .int b] H Q E := by
  refine ⟨rfl, ?_⟩
  unfold t_stock_of
  wtm_at "w"
  intro f nf
  wtm_at "w"
  have s1 : Same H (upd H f (.dK [])) := same_new nf
  refine i_lstA (s1.seq ha) ?_
  refine lk_list (StkO H a f ks b) ⟨_, _, [], rfl, s1, ⟨[], upd_same, rfl⟩, List.nodup_nil, by simp, fun x => ?_⟩ (fun i σ H' _ ⟨_, _, _, _, s, _⟩ => s.seq ha) ?_ ?_
  · simp [IsDot]
  · rintro i v σ H2 hi ⟨y3, y4, keys, rfl, s, d, nd, hl, hm⟩
    have hv := hk v (List.mem_of_getElem? hi)
    have hi' : i < ks.length := (List.getElem?_eq_some_iff.mp hi).1
    wtm_at "w"
    refine i_while (StkI H a f ks b i v) b.toNat ⟨1, keys, rfl, by omega, by omega, by omega, s, d, nd, by omega, fun x => ?_⟩ ?_
    · rw [hm]
      unfold InSt
      constructor
      · rintro ⟨z1, z2⟩; exact ⟨z1, .inl z2⟩
      · rintro ⟨z1, z2 | ⟨j, z2, z3, _⟩⟩
        · exact ⟨z1, z2⟩
        · omega
    · rintro m σ H3 ⟨k, keys, rfl, k1, k2, em, s3, d3, nd3, hl3, hm3⟩
      have hge := dots_ge hv k1
      wtm_at "w"
      refine u_dots hv (by omega) (by omega) ?_
      wtm_at "w"
      refine i_ite (fun hle => ?_) (fun hle => ?_)
      · refine i_turn ?_
        wtm_at "w"
        refine u_dots hv (by omega) (by omega) ?_
        refine i_setD d3 (by omega) fun kvs d4 => ?_
        wtm_at "w"
        refine ⟨(b + 1 - (k + 1)).toNat, by omega, k + 1, insI keys (dotsV v k), rfl, by omega, by omega, rfl, same_mut s3 nf, d4, nd_insI nd3, by have := len_insI keys (dotsV v k); omega, fun x => ?_⟩
        rw [mem_insI, hm3]
        unfold InSt
        constructor
        · rintro (⟨z1, z2 | ⟨j, z2, z3, z4⟩⟩ | rfl)
          · exact ⟨z1, .inl z2⟩
          · exact ⟨z1, .inr ⟨j, z2, by omega, z4⟩⟩
          · exact ⟨hle, .inr ⟨k, k1, by omega, rfl⟩⟩
        · rintro ⟨z1, z2 | ⟨j, z2, z3, z4⟩⟩
          · exact .inl ⟨z1, .inl z2⟩
          · by_cases z : j = k
            · subst z; exact .inr z4.symm
            · exact .inl ⟨z1, .inr ⟨j, z2, by omega, z4⟩⟩
      · refine ⟨_, _, keys, rfl, s3, d3, nd3, by omega, fun x => ?_⟩
        rw [hm3, isDot_take hi]
        unfold InSt
        constructor
        · rintro ⟨z1, z2 | ⟨j, z2, z3, z4⟩⟩
          · exact ⟨z1, .inl z2⟩
          · exact ⟨z1, .inr ⟨j, z2, z4⟩⟩
        · rintro ⟨z1, z2 | ⟨j, z2, z4⟩⟩
          · exact ⟨z1, .inl z2⟩
          · refine ⟨z1, .inr ⟨j, z2, ?_, z4⟩⟩
            by_cases z : j < k
            · exact z
            · have := dots_le hv k1 (show k ≤ j by omega)
              omega
  · rintro σ H2 ⟨y3, y4, keys, rfl, s, d, nd, hl, hm⟩
    wtm_at "w"
    refine i_sortedD d fun ys p perm srt np => ?_
    refine h p ys _ (s.trans (same_new np)) (s.free np) upd_same ⟨lt_of_le_nd srt (perm.symm.nodup nd), fun x => ?_⟩
    rw [perm.mem_iff, hm, List.take_length]
end
/-! ### what stands in a heap -/
theorem upd_old {H : Hp} {a p : Addr} {o u : HO} (np : H p = none) (e : H a = some o) : upd H p u a = some o := by rw [upd_ne (ne_of_none e np)]; exact e
theorem same_at {H H' : Hp} {a : Addr} {o : HO} (s : Same H H') (e : H a = some o) : H' a = some o := s a o e
theorem upd_oth {H : Hp} {a p : Addr} {o u : HO} (n : a ≠ p) (e : H a = some o) : upd H p u a = some o := by rw [upd_ne n]; exact e
theorem i_tyL {K : Fg} {H : Hp} {a : Addr} {xs : List V} {P : Prop} (e : H a = some (.lst xs)) (h : P) : tyV K "list" (.ref a) H ∧ P := ⟨.inl ⟨rfl, _, sq_of e⟩, h⟩
theorem i_new {n : Nat} {P : Prop} (hn : n ≤ 1000) (h : P) : n ≤ sizeLine ∧ P := ⟨sz_le (by omega), h⟩
theorem i_popAt {H : Hp} {l : Addr} {xs : List V} {i : Int} {k : Nat} {Q : VK} (e : H l = some (.lst xs)) (ei : i = (k : Int)) (hk : k < xs.length) (hz : xs.length ≤ 1000) (h : Q xs[k] (upd H l (.lst (xs.eraseIdx k)))) : rPopAt (.ref l) [.int i] H Q :=
  ⟨l, xs, i, k, xs[k], rfl, rfl, e, by omega, by omega, by rw [seqIndex_of (by omega) (by omega), ei]; rfl, List.getElem?_eq_getElem hk, h⟩
theorem i_ulist {K : Fg} {H : Hp} {p : Addr} {ys : List V} {Q : VK} (e : SqL K H p ys) (h : ∀ l, H l = none → Q (.ref l) (upd H l (.lst ys))) : uList K [.ref p] H Q := .inl ⟨p, ys, rfl, .inl e, h⟩
local macro_rules | `(tactic| wtm_at "hp") => `(tactic| solve_by_elim (maxDepth := 14) only [*, upd_same, upd_old, same_at, sq_of, st_of])
/-! ### drawing -/
/-- what draws: of a part of the heap of its own -/
def Drw (W : Wd) (sp : Sp) (s : V) : Prop := ∀ (H : Hp) (many : Int) (Q : VK) (E : XK), W.I H → 0 < many → many < 2 ^ 64 → (∀ r H', 0 ≤ r → r < many → Kp W H H' → Q (.int r) H') → sp [s, .int many] H Q E
def kinds11 : List V := [.int 3, .int 4, .int 5, .int 6, .int 7, .int 8, .int 9, .int 10, .int 11, .int 12, .str "cubes"]
theorem kinds11_kd {x : V} (h : x ∈ kinds11) : IsKd x := by
  simp only [kinds11, List.mem_cons, List.not_mem_nil, or_false] at h
  rcases h with rfl | rfl | rfl | rfl | rfl | rfl | rfl | rfl | rfl | rfl | rfl
  all_goals first | exact .inr rfl | exact .inl ⟨_, rfl, by decide, by decide⟩
theorem kinds11_nd : kinds11.Nodup := by decide
theorem erase_perm : ∀ (l : List V) {k : Nat} (h : k < l.length), ([l[k]] ++ l.eraseIdx k).Perm l
  | [], _, h => absurd h (Nat.not_lt_zero _)
  | x :: r, 0, _ => List.Perm.refl _
  | x :: r, k + 1, h => by
    have h' : k < r.length := by simpa using h
    show (r[k] :: x :: r.eraseIdx k).Perm (x :: r)
    exact (List.Perm.swap _ _ _).trans ((erase_perm r h').cons x)
theorem perm_pop {ks rest : List V} {k : Nat} (hk : k < rest.length) : ((ks ++ [rest[k]]) ++ rest.eraseIdx k).Perm (ks ++ rest) := by
  rw [List.append_assoc]
  exact (erase_perm rest hk).append_left ks
theorem kdl_of {ks rest : List V} (p : (ks ++ rest).Perm kinds11) (h1 : 1 ≤ ks.length) (h5 : ks.length ≤ 5) : KdL ks :=
  ⟨fun v hv => kinds11_kd (p.mem_iff.mp (List.mem_append_left _ hv)), (List.nodup_append.mp (p.nodup_iff.mpr kinds11_nd)).1, h1, h5⟩
section
variable {G : Gx} {H H0 : Hp} {Q : VK} {E : XK} {W : Wd}
def PopT (W : Wd) (H0 H : Hp) (l D : Addr) (i : Nat) (H' : Hp) : Prop := H0 D = none ∧ D ≠ l ∧ Kp W H0 H' ∧ ∃ ks rest, H' D = some (.lst ks) ∧ H' l = some (.lst rest) ∧ ks.length = i ∧ rest.length = 11 - i ∧ (ks ++ rest).Perm kinds11
theorem lc_pop {sp : Sp} {s : V} {σ : L2.St} {iv il is m : Nat} {l : Addr} (dr : Drw W sp s) (i0 : W.I H0) (k0 : Kp W H0 H) (n0 : H0 l = none) (e : H l = some (.lst kinds11)) (hm : m ≤ 5)
    (h1 : ∀ x, ((wipe σ [iv]).set iv (some x))[il]? = some (some (.ref l))) (h2 : ∀ x, ((wipe σ [iv]).set iv (some x))[is]? = some (some s)) (h3 : ∀ x, wipe ((wipe σ [iv]).set iv (some x)) [iv] = wipe σ [iv])
    (fin : ∀ p ks rest H', Kp W H0 H' → H0 p = none → At W H' p (.lst ks) → (ks ++ rest).Perm kinds11 → ks.length = m → Q (.ref p) H') :
    LcK (Itr 0 m) (gName iv) tYes (tBM G.K "list" rPopAt (tVar il) (tCons (tCall sp [] E0 (tCons (tVar is) (tCons (tCB (uLen G.K) (tCons (tVar il) tNil)) tNil))) tNil)) [iv] σ H Q := by
  have rl : ¬ W.R l := Wd.notR i0 n0
  refine lck walk_range (fun D i H' => PopT W H0 H l D i H') (fun D hD => ⟨k0.free hD, (ne_of_none e hD).symm, k0.new hD, [], kinds11, upd_same, upd_old hD e, rfl, rfl, List.Perm.refl _⟩) (fun _ _ _ _ _ => trivial) (fun D i x H1 H2 hi p y => ?_) (fun D H' hD p => ?_)
  · obtain ⟨nD, nDl, k1, ks, rest, eD, el, l1, l2, pm⟩ := p
    obtain ⟨rfl, rfl⟩ := y
    have rD : ¬ W.R D := Wd.notR i0 nD
    wtm_at "w"
    refine ⟨h3 _, ?_⟩
    wtm_at "w"
    refine i_var (h1 _) ?_
    refine i_tyL el ?_
    wtm_at "w"
    refine i_var (h2 _) ?_
    wtm_at "w"
    refine i_var (h1 _) ?_
    wtm_at "w"
    refine i_lenL (sq_of el) ?_
    wtm_at "w"
    refine dr _ _ _ _ k1.i (by omega) (by omega) fun r H3 r0 r1 k3 => ?_
    wtm_at "w"
    have k13 := k1.trans k3
    have el3 := (k3.at ⟨el, rl⟩).h
    have eD3 := (k3.at ⟨eD, rD⟩).h
    refine i_popAt (k := r.toNat) el3 (by omega) (by omega) (by omega) ?_
    have hk : r.toNat < rest.length := by omega
    refine ⟨ks, by rw [upd_ne nDl]; exact eD3, sz_lt (by omega), nD, nDl, (k13.mut n0 rl).mut nD rD, ks ++ [rest[r.toNat]], rest.eraseIdx r.toNat, upd_same, by rw [upd_ne nDl.symm, upd_same], by simp [l1], by rw [List.length_eraseIdx_of_lt hk]; omega, (perm_pop hk).trans pm⟩
  · obtain ⟨nD, nDl, k1, ks, rest, eD, el, l1, l2, pm⟩ := p
    exact fin D ks rest H' k1 nD ⟨eD, Wd.notR i0 nD⟩ pm l1
end
section
variable {G : Gx} {H : Hp} {Q : VK} {E : XK} {d pl : Addr} {ps : List Addr}
theorem drw_deck : Drw (deckW d pl ps) (sp_law_draw G) (.ref d) := fun _ _ _ _ i h0 h1 h => u_law_draw i h0 h1 h
/-- one of a new list of three numbers, by a draw -/
theorem u_law_some_kinds (i : DkI d pl ps H) (h : ∀ p ks H', Kp (deckW d pl ps) H H' → H p = none → At (deckW d pl ps) H' p (.lst ks) → KdL ks → Q (.ref p) H') : sp_law_some_kinds G [.ref d] H Q E := by
  refine ⟨rfl, ?_⟩
  unfold t_law_some_kinds
  wtm_at "w"
  refine i_new (by simp) fun l nl => ?_
  wtm_at "w"
  have k1 : Kp (deckW d pl ps) H (upd H l (.lst kinds11)) := (Kp.refl (W := deckW d pl ps) i).new nl
  have e1 : (upd H l (.lst kinds11)) l = some (.lst kinds11) := upd_same
  show sp_law_draw _ _ (upd H l (.lst kinds11)) _ _
  generalize upd H l (.lst kinds11) = H1 at k1 e1 ⊢
  have rl : ¬ (deckW d pl ps).R l := Wd.notR (W := deckW d pl ps) i nl
  refine u_law_draw k1.i (by decide) (by decide) fun r2 H3 c1 c2 k3 => ?_
  wtm_at "w"
  refine i_new (by simp) fun q nq => ?_
  wtm_at "w"
  have k4 := (k1.trans k3).new (o := .lst [.int (1 + r2), .int 1, .int 2]) nq
  have e4 : At (deckW d pl ps) (upd H3 q (.lst [.int (1 + r2), .int 1, .int 2])) q (.lst [.int (1 + r2), .int 1, .int 2]) := At.new k3.i nq
  have el4 : At (deckW d pl ps) (upd H3 q (.lst [.int (1 + r2), .int 1, .int 2])) l (.lst kinds11) := (k3.at ⟨e1, rl⟩).same (same_new nq)
  generalize upd H3 q (.lst [.int (1 + r2), .int 1, .int 2]) = H4 at k4 e4 el4 ⊢
  refine u_law_draw k4.i (by decide) (by decide) fun r1 H5 b1 b2 k5 => ?_
  obtain ⟨m, em, m1, m5⟩ : ∃ m : Nat, atI [V.int (1 + r2), .int 1, .int 2] r1 = some (.int m) ∧ 1 ≤ m ∧ m ≤ 5 := by
    have hr : r1 = 0 ∨ r1 = 1 ∨ r1 = 2 := by omega
    rcases hr with rfl | rfl | rfl
    · exact ⟨(1 + r2).toNat, by rw [show ((1 + r2).toNat : Int) = 1 + r2 by omega]; rfl, by omega, by omega⟩
    · exact ⟨1, rfl, by omega, by omega⟩
    · exact ⟨2, rfl, by omega, by omega⟩
  refine i_ixL (sq_of (k5.at e4).h) em ?_
  wtm_at "w"
  refine i_rngA1 (by omega) ?_
  rw [Int.toNat_natCast]
  refine lc_pop (W := deckW d pl ps) (H0 := H) drw_deck i (k4.trans k5) nl (k5.at el4).h m5 (fun _ => rfl) (fun _ => rfl) (fun _ => rfl) fun p ks rest H' k np a pm hl => ?_
  exact h p ks H' k np a (kdl_of pm (by omega) (by omega))
theorem u_law_number (i : DkI d pl ps H) (h : ∀ (n : Int) H', Kp (deckW d pl ps) H H' → 0 ≤ n → n ≤ 200 → Q (.int n) H') : sp_law_number G [.ref d] H Q E := by
  refine ⟨rfl, ?_⟩
  unfold t_law_number
  wtm_at "w"
  refine u_law_draw i (by decide) (by decide) fun r1 H1 a1 a2 k1 => ?_
  wtm_at "w"
  refine u_law_draw k1.i (by decide) (by decide) fun r2 H2 b1 b2 k2 => ?_
  wtm_at "w"
  refine u_law_draw k2.i (by decide) (by decide) fun r3 H3 c1 c2 k3 => ?_
  wtm_at "w"
  refine i_new (by simp) fun q nq => ?_
  wtm_at "w"
  have k4 := ((k1.trans k2).trans k3).new (o := .lst [.int r1, .int r2, .int (200 - r3), .int 200]) nq
  have e4 : At (deckW d pl ps) (upd H3 q (.lst [.int r1, .int r2, .int (200 - r3), .int 200])) q (.lst [.int r1, .int r2, .int (200 - r3), .int 200]) := At.new k3.i nq
  generalize upd H3 q (.lst [.int r1, .int r2, .int (200 - r3), .int 200]) = H4 at k4 e4 ⊢
  refine u_law_draw k4.i (by decide) (by decide) fun r5 H5 d1 d2 k5 => ?_
  have hr : r5 = 0 ∨ r5 = 1 ∨ r5 = 2 ∨ r5 = 3 := by omega
  rcases hr with rfl | rfl | rfl | rfl
  · exact i_ixL (sq_of (k5.at e4).h) rfl (h _ _ (k4.trans k5) (by omega) (by omega))
  · exact i_ixL (sq_of (k5.at e4).h) rfl (h _ _ (k4.trans k5) (by omega) (by omega))
  · exact i_ixL (sq_of (k5.at e4).h) rfl (h _ _ (k4.trans k5) (by omega) (by omega))
  · exact i_ixL (sq_of (k5.at e4).h) rfl (h _ _ (k4.trans k5) (by omega) (by omega))
end
/-! ### the law's own stock -/
theorem mem_dotsN {v : V} {n : Nat} {x : Int} : x ∈ dotsN v n ↔ ∃ j < n, dotsV v ((j : Int) + 1) = x := by
  unfold dotsN
  simp only [List.mem_map, List.mem_range]
/-- of the first n of a kind, where the next is above b -/
theorem dots_to {v : V} (hv : IsKd v) {b : Int} {n : Nat} (h1 : ∀ j < n, dotsV v ((j : Int) + 1) ≤ b) (h2 : b < dotsV v ((n : Int) + 1)) (x : Int) : x ∈ dotsN v n ↔ x ≤ b ∧ ∃ k : Int, 1 ≤ k ∧ dotsV v k = x := by
  rw [mem_dotsN]
  constructor
  · rintro ⟨j, hj, rfl⟩
    exact ⟨h1 j hj, (j : Int) + 1, by omega, rfl⟩
  · rintro ⟨h3, k, hk, rfl⟩
    by_cases z : k ≤ n
    · exact ⟨(k - 1).toNat, by omega, by rw [show (((k - 1).toNat : Nat) : Int) + 1 = k by omega]⟩
    · have := dots_le hv (i := (n : Int) + 1) (j := k) (by omega) (by omega)
      omega
theorem dots_cnt {v : V} (hv : IsKd v) {b : Int} {n : Nat} (h1 : ∀ j < n, dotsV v ((j : Int) + 1) ≤ b) (h0 : 0 ≤ b) : (n : Int) ≤ b := by
  by_cases z : n = 0
  · omega
  · have h := h1 (n - 1) (by omega)
    have h2 := dots_ge hv (k := ((n - 1 : Nat) : Int) + 1) (by omega)
    omega
section
variable {G : Gx} {H : Hp} {Q : VK} {E : XK} {a : Addr} {ks : List V}
def LStI (H : Hp) (a f : Addr) (ks : List V) (b : Int) (i : Nat) (v : V) (l : Addr) (ds : List Int) (j : Nat) (σ : L2.St) (H' : Hp) : Prop := ∃ (y4 : Option V) (keys : List Int), σ = [some (.ref a), some (.int b), some (.ref f), some v, y4] ∧ Same H H' ∧ f ≠ l ∧ H' f = some (.lst (keys.map V.int)) ∧ H' l = some (.lst (ds.map V.int)) ∧ keys.Nodup ∧ keys.length ≤ 1000 * i + j ∧ ∀ x : Int, x ∈ keys ↔ (x ≤ b ∧ IsDot (ks.take i) x) ∨ x ∈ ds.take j
def LStO (H : Hp) (a f : Addr) (ks : List V) (b : Int) (i : Nat) (σ : L2.St) (H' : Hp) : Prop := ∃ (y3 y4 : Option V) (keys : List Int), σ = [some (.ref a), some (.int b), some (.ref f), y3, y4] ∧ Same H H' ∧ H' f = some (.lst (keys.map V.int)) ∧ keys.Nodup ∧ keys.length ≤ 1000 * i ∧ ∀ x : Int, x ∈ keys ↔ x ≤ b ∧ IsDot (ks.take i) x
theorem u_law_stock {b : Int} (ha : H a = some (.lst ks)) (hk : ∀ v ∈ ks, IsKd v) (hn : ks.length ≤ 100) (h0 : 0 ≤ b) (h1 : b ≤ 900) (h : ∀ p L H', Same H H' → H p = none → H' p = some (.lst (L.map V.int)) → StockOf ks b L → Q (.ref p) H') : sp_law_stock G [.ref a, .int b] H Q E := by
  refine ⟨rfl, ?_⟩
  unfold t_law_stock
  wtm_at "w"
  refine i_new (by simp) fun f nf => ?_
  wtm_at "w"
  have s1 : Same H (upd H f (.lst [])) := same_new nf
  refine i_lstA (sq_of (s1 _ _ ha)) ?_
  refine lk_list (LStO H a f ks b) ⟨_, _, [], rfl, s1, upd_same, List.nodup_nil, by simp, fun x => ?_⟩ (fun i σ H' _ ⟨_, _, _, _, s, _⟩ => sq_of (s _ _ ha)) ?_ ?_
  · simp [IsDot]
  · rintro i v σ H2 hi ⟨y3, y4, keys, rfl, s, d, nd, hl, hm⟩
    have hv := hk v (List.mem_of_getElem? hi)
    have hi' : i < ks.length := (List.getElem?_eq_some_iff.mp hi).1
    wtm_at "w"
    refine u_law_dots hv h0 (by omega) fun l n H3 s3 nl el g1 g2 => ?_
    refine i_lstA (sq_of el) ?_
    have hc := dots_cnt hv g1 h0
    refine lk_list (LStI H a f ks b i v l (dotsN v n)) ⟨_, keys, rfl, s.trans s3, ne_of_none d nl, s3 _ _ d, el, nd, by omega, fun x => ?_⟩ (fun i σ H' _ ⟨_, _, _, _, _, _, e, _⟩ => sq_of e) ?_ ?_
    · rw [hm]; simp
    · rintro j x σ H4 hj ⟨y4, keys, rfl, s4, nfl, e4, el4, nd4, hl4, hm4⟩
      rw [List.getElem?_map] at hj
      obtain ⟨x0, hx0, rfl⟩ := Option.map_eq_some_iff.mp hj
      have hj' : j < n := by have := (List.getElem?_eq_some_iff.mp hx0).1; rwa [dotsN_len] at this
      have tk : ∀ x : Int, x ∈ (dotsN v n).take (j + 1) ↔ x ∈ (dotsN v n).take j ∨ x = x0 := fun x => by
        rw [List.take_add_one, hx0]; simp
      wtm_at "w"
      refine i_ninL (sq_of e4) rfl (ints_flat _) ?_
      wtm_at "w"
      rw [inV_int]
      refine i_iteN (fun hin => ?_) (fun hin => ?_)
      · wtm_at "w"
        refine ⟨_, keys, rfl, s4, nfl, e4, el4, nd4, by omega, fun x => ?_⟩
        rw [hm4, tk]
        constructor
        · rintro (z | z)
          · exact .inl z
          · exact .inr (.inl z)
        · rintro (z | z | z)
          · exact .inl z
          · exact .inr z
          · subst z; exact (hm4 _).mp hin
      · wtm_at "w"
        refine i_tyL e4 ?_
        wtm_at "w"
        refine i_app e4 (sz_lt (by rw [List.length_map]; omega)) ?_
        refine ⟨_, keys ++ [x0], rfl, same_mut s4 nf, nfl, by rw [upd_same, List.map_append]; rfl, by rw [upd_ne nfl.symm]; exact el4, ?_, by simp; omega, fun x => ?_⟩
        · have := nd_insI (n := x0) nd4
          rwa [insI, if_neg hin] at this
        · rw [List.mem_append, hm4, tk]
          simp only [List.mem_singleton]
          constructor
          · rintro ((z | z) | z)
            · exact .inl z
            · exact .inr (.inl z)
            · exact .inr (.inr z)
          · rintro (z | z | z)
            · exact .inl (.inl z)
            · exact .inl (.inr z)
            · exact .inr z
    · rintro σ H4 ⟨y4, keys, rfl, s4, nfl, e4, el4, nd4, hl4, hm4⟩
      refine ⟨_, _, keys, rfl, s4, e4, nd4, by rw [List.length_map, dotsN_len] at hl4; omega, fun x => ?_⟩
      rw [hm4, isDot_take hi, List.length_map, List.take_length, dots_to hv g1 g2]
      constructor
      · rintro (⟨z1, z2⟩ | ⟨z1, z2⟩)
        · exact ⟨z1, .inl z2⟩
        · exact ⟨z1, .inr z2⟩
      · rintro ⟨z1, z2 | z2⟩
        · exact .inl ⟨z1, z2⟩
        · exact .inr ⟨z1, z2⟩
  · rintro σ H2 ⟨y3, y4, keys, rfl, s, d, nd, hl, hm⟩
    wtm_at "w"
    refine i_sortedL (sq_of d) fun ys p perm srt np => ?_
    refine h p ys _ (s.trans (same_new np)) (s.free np) upd_same ⟨lt_of_le_nd srt (perm.symm.nodup nd), fun x => ?_⟩
    rw [perm.mem_iff, hm, List.take_length]
end
/-! ### a store by a cell -/
/-! ### tables -/
def tab (n : Nat) (g : Nat → V) : List V := (List.range n).map g
theorem tab_len (n : Nat) (g : Nat → V) : (tab n g).length = n := by unfold tab; simp
theorem tab_get {n i : Nat} {g : Nat → V} (h : i < n) : (tab n g)[i]? = some (g i) := by
  unfold tab; rw [List.getElem?_map, List.getElem?_range h]; rfl
theorem tab_at {n i : Nat} {g : Nat → V} {j : Int} (e : j = (i : Int)) (h : i < n) : atI (tab n g) j = some (g i) := at_nat e (tab_get h)
theorem tab_ext {n : Nat} {f g : Nat → V} (h : ∀ i < n, f i = g i) : tab n f = tab n g := by
  unfold tab
  exact List.map_congr_left fun i hi => h i (List.mem_range.mp hi)
theorem tab_set {n i : Nat} {g : Nat → V} {v : V} : (tab n g).set i v = tab n fun u => if u = i then v else g u := by
  refine List.ext_getElem? fun j => ?_
  rw [List.getElem?_set, tab_len]
  by_cases hj : j < n
  · rw [tab_get hj, tab_get hj]
    by_cases z : i = j
    · subst z; simp [hj]
    · rw [if_neg z, if_neg (fun w => z w.symm)]
  · have e1 : (tab n g)[j]? = none := List.getElem?_eq_none (by rw [tab_len]; omega)
    have e2 : (tab n fun u => if u = i then v else g u)[j]? = none := List.getElem?_eq_none (by rw [tab_len]; omega)
    rw [e1, e2]
    split
    · split <;> first | rfl | omega
    · rfl
theorem ixN_nat {n : Nat} {i : Int} {k : Nat} (e : i = (k : Int)) (h : k < n) : ixN n i = some k := by
  unfold ixN
  rw [if_pos (by omega), if_pos (by omega), e]; rfl
theorem rep_one (v : V) (k : Nat) : (List.replicate k [v]).flatten = List.replicate k v := by
  induction k with
  | zero => rfl
  | succ k ih => rw [List.replicate_succ, List.replicate_succ, List.flatten_cons, ih]; rfl
/-! ### the fewest unlike ones -/
def lbase : Nat → Option Int := fun t => if t = 0 then some 0 else none
def lbest : Option Int → Option Int → Option Int
  | none, c => c
  | some a, none => some (a + 1)
  | some a, some c => if a + 1 < c then some (a + 1) else some c
def lstep (p : Nat) (f : Nat → Option Int) : Nat → Option Int := fun t => if p ≤ t then lbest (f (t - p)) (f t) else f t
def lrow (S : List Int) : Nat → Option Int := S.foldl (fun f p => lstep p.toNat f) lbase
theorem lrow_snoc {S : List Int} {i : Nat} {p : Int} (h : S[i]? = some p) : lrow (S.take (i + 1)) = lstep p.toNat (lrow (S.take i)) := by
  unfold lrow
  rw [List.take_add_one, h, List.foldl_append]; rfl
theorem StockOf.pos {ks : List V} {b : Int} {L : List Int} (h : StockOf ks b L) (hk : ∀ v ∈ ks, IsKd v) {x : Int} (hx : x ∈ L) : 1 ≤ x := by
  obtain ⟨_, v, hv, k, h1, rfl⟩ := (h.mem x).mp hx
  have := dots_ge (hk v hv) h1
  omega
theorem up_len : ∀ {l : List Int} {lo hi : Int}, l.Pairwise (· < ·) → (∀ x ∈ l, lo ≤ x ∧ x ≤ hi) → lo ≤ hi + 1 → (l.length : Int) ≤ hi + 1 - lo
  | [], lo, hi, _, _, h => by simp; omega
  | x :: r, lo, hi, p, h, hh => by
    rw [List.pairwise_cons] at p
    have h1 := h x (by simp)
    have h2 := up_len (l := r) (lo := x + 1) (hi := hi) p.2 (fun y hy => ⟨by have := p.1 y hy; omega, (h y (List.mem_cons_of_mem _ hy)).2⟩) (by omega)
    rw [List.length_cons]; omega
theorem StockOf.len {ks : List V} {b : Int} {L : List Int} (h : StockOf ks b L) (hk : ∀ v ∈ ks, IsKd v) (hb : 0 ≤ b) : (L.length : Int) ≤ b := by
  have := up_len (lo := 1) (hi := b) h.up (fun x hx => ⟨h.pos hk hx, ((h.mem x).mp hx).1⟩) (by omega)
  omega
/-- at qs the rows of a stock -/
structure LRows (H : Hp) (qs : List Addr) (f : Nat → Nat → V) (i n : Nat) : Prop where
  len : qs.length = i + 1
  row : ∀ j q, qs[j]? = some q → H q = some (.lst (tab (n + 1) (f j)))
theorem LRows.same {H H' : Hp} {qs : List Addr} {f : Nat → Nat → V} {i n : Nat} (r : LRows H qs f i n) (s : Same H H') : LRows H' qs f i n := ⟨r.len, fun j q h => s _ _ (r.row j q h)⟩
/-! ### the law's own rows of unlike ones -/
/-! [f(store) for turn in range(m)] -/
/-! ### more steps -/
section
variable {K : Fg} {D : Ends} {σ : L2.St} {H : Hp} {Q : VK} {R : L2.St → Hp → Prop}
theorem i_augS {to ti te : TE} {tget : V → V → Hp → VK → Prop} {tip : TIp} {tset : TSet} (h : to σ H fun o H1 => ti σ H1 fun i H2 => tget o i H2 fun x H3 => te σ H3 fun y H4 => tip x y H4 fun z H5 => tset o i z H5 fun H6 => D.nx σ H6) : tAugS to ti te tget tip tset D σ H := h
end
/-- a list that is all of its members, walked -/
theorem given_list {xs : List V} {g : V → Option V} : given (fun i => (xs[i]?).bind g) xs.length = xs.filterMap g := by
  have h : ∀ n ≤ xs.length, given (fun i => (xs[i]?).bind g) n = (xs.take n).filterMap g := by
    intro n
    induction n with
    | zero => intro _; rfl
    | succ n ih =>
      intro hn
      show given _ n ++ _ = _
      rw [ih (by omega), List.take_add_one, List.getElem?_eq_getElem (by omega), List.filterMap_append]
      congr 1
      show _ = List.filterMap g [xs[n]]
      have e1 : (xs[n]?).bind g = g xs[n] := by rw [List.getElem?_eq_getElem (by omega)]; rfl
      show (match (xs[n]?).bind g with | some y => [y] | none => []) = _
      rw [e1]
      cases e : g xs[n] <;> simp [e]
  rw [h _ (Nat.le_refl _), List.take_length]
/-! ### how many unlike sums -/
section
variable {G : Gx} {H : Hp} {Q : VK} {E : XK} {a : Addr} {ks : List V}
theorem StockOf.lim {b : Int} {L : List Int} (h : StockOf ks b L) (hk : ∀ v ∈ ks, IsKd v) (hb : b ≤ 1000) : ∀ x ∈ L, 1 ≤ x ∧ x ≤ 1000 := fun x hx => ⟨h.pos hk hx, by have := ((h.mem x).mp hx).1; omega⟩
end
/-! ### the fewest parts -/
open Classical in
noncomputable def minI (ns : List Int) : Int := if h : ∃ m, m ∈ ns ∧ ∀ y ∈ ns, m ≤ y then h.choose else 0
theorem minI_eq {ns : List Int} {m : Int} (h1 : m ∈ ns) (h2 : ∀ y ∈ ns, m ≤ y) : m = minI ns := by
  have h : ∃ m, m ∈ ns ∧ ∀ y ∈ ns, m ≤ y := ⟨m, h1, h2⟩
  unfold minI
  rw [dif_pos h]
  have a := h.choose_spec
  have := h2 _ a.1
  have := a.2 _ h1
  omega
theorem min_ex : ∀ {ns : List Int}, ns ≠ [] → ∃ m, m ∈ ns ∧ ∀ y ∈ ns, m ≤ y
  | [], h => absurd rfl h
  | [x], _ => ⟨x, by simp, by simp⟩
  | x :: y :: r, _ => by
    obtain ⟨m, h1, h2⟩ := min_ex (ns := y :: r) (by simp)
    by_cases z : x ≤ m
    · exact ⟨x, by simp, fun w hw => by
        rcases List.mem_cons.mp hw with e | e
        · omega
        · have := h2 w e; omega⟩
    · exact ⟨m, List.mem_cons_of_mem _ h1, fun w hw => by
        rcases List.mem_cons.mp hw with e | e
        · omega
        · exact h2 w e⟩
/-- what the fewest of n is the least of, but for the one part more -/
def befores (S : List Int) (f : Nat → Int) (n : Nat) : List Int := S.filterMap fun p => if p ≤ (n : Int) then some (f ((n : Int) - p).toNat) else none
noncomputable def fewT (S : List Int) : Nat → Nat → Int
  | 0 => fun _ => 0
  | n + 1 => fun t => if t = n + 1 then 1 + minI (befores S (fewT S n) (n + 1)) else fewT S n t
noncomputable def fewF (S : List Int) (n : Nat) : Int := fewT S n n
theorem fewT_eq (S : List Int) : ∀ (n t : Nat), t ≤ n → fewT S n t = fewF S t
  | 0, t, h => by
    have : t = 0 := by omega
    subst this; rfl
  | n + 1, t, h => by
    by_cases z : t = n + 1
    · subst z; rfl
    · show (if t = n + 1 then _ else fewT S n t) = _
      rw [if_neg z]
      exact fewT_eq S n t (by omega)
theorem fewF_zero (S : List Int) : fewF S 0 = 0 := rfl
theorem befores_ext {S : List Int} {f g : Nat → Int} {n : Nat} (hp : ∀ p ∈ S, 1 ≤ p) (h : ∀ t < n, f t = g t) : befores S f n = befores S g n := by
  unfold befores
  refine filterMap_ext S fun p hm => ?_
  by_cases z : p ≤ (n : Int)
  · rw [if_pos z, if_pos z, h _ (by have := hp p hm; omega)]
  · rw [if_neg z, if_neg z]
where
  filterMap_ext : ∀ {α β : Type} {f g : α → Option β} (l : List α), (∀ a ∈ l, f a = g a) → l.filterMap f = l.filterMap g
    | _, _, _, _, [], _ => rfl
    | _, _, f, g, a :: l, h => by
      rw [List.filterMap_cons, List.filterMap_cons, h a (by simp), filterMap_ext l fun b hb => h b (List.mem_cons_of_mem _ hb)]
theorem fewF_succ {S : List Int} (hp : ∀ p ∈ S, 1 ≤ p) (n : Nat) : fewF S (n + 1) = 1 + minI (befores S (fewF S) (n + 1)) := by
  show (if n + 1 = n + 1 then 1 + minI (befores S (fewT S n) (n + 1)) else _) = _
  rw [if_pos rfl, befores_ext hp fun t ht => fewT_eq S n t (by omega)]
theorem mem_befores {S : List Int} {f : Nat → Int} {n : Nat} {x : Int} : x ∈ befores S f n ↔ ∃ p ∈ S, p ≤ (n : Int) ∧ x = f ((n : Int) - p).toNat := by
  unfold befores
  rw [List.mem_filterMap]
  constructor
  · rintro ⟨p, hp, e⟩
    by_cases z : p ≤ (n : Int)
    · rw [if_pos z] at e
      exact ⟨p, hp, z, (Option.some.inj e).symm⟩
    · rw [if_neg z] at e; cases e
  · rintro ⟨p, hp, z, rfl⟩
    exact ⟨p, hp, by rw [if_pos z]⟩
theorem befores_ne {S : List Int} {f : Nat → Int} {n : Nat} (h1 : 1 ∈ S) (hn : 1 ≤ n) : befores S f n ≠ [] := fun e => by
  have : f ((n : Int) - 1).toNat ∈ befores S f n := mem_befores.mpr ⟨1, h1, by omega, rfl⟩
  rw [e] at this; cases this
theorem fewF_le {S : List Int} (hp : ∀ p ∈ S, 1 ≤ p) {n : Nat} {p : Nat} (hm : (p : Int) ∈ S) (hn : p ≤ n) : fewF S n ≤ fewF S (n - p) + 1 := by
  have hp1 := hp _ hm
  obtain ⟨m, rfl⟩ : ∃ m, n = m + 1 := ⟨n - 1, by omega⟩
  rw [fewF_succ hp]
  have hx : fewF S (m + 1 - p) ∈ befores S (fewF S) (m + 1) := mem_befores.mpr ⟨p, hm, by omega, by congr 1; omega⟩
  obtain ⟨v, h1, h2⟩ := min_ex (List.ne_nil_of_mem hx)
  rw [← minI_eq h1 h2]
  have := h2 _ hx
  omega
theorem fewF_ex {S : List Int} (hp : ∀ p ∈ S, 1 ≤ p) (h1 : 1 ∈ S) {n : Nat} (hn : 1 ≤ n) : ∃ p : Nat, (p : Int) ∈ S ∧ p ≤ n ∧ 1 ≤ p ∧ fewF S n = fewF S (n - p) + 1 := by
  obtain ⟨m, rfl⟩ : ∃ m, n = m + 1 := ⟨n - 1, by omega⟩
  rw [fewF_succ hp]
  obtain ⟨v, h3, h4⟩ := min_ex (befores_ne (f := fewF S) h1 hn)
  rw [← minI_eq h3 h4]
  obtain ⟨p, hm, hle, rfl⟩ := mem_befores.mp h3
  have := hp p hm
  refine ⟨p.toNat, by rw [show (p.toNat : Int) = p by omega]; exact hm, by omega, by omega, ?_⟩
  rw [show (((m + 1 : Nat) : Int) - p).toNat = m + 1 - p.toNat by omega]
  omega
theorem fewF_nn {S : List Int} (hp : ∀ p ∈ S, 1 ≤ p) (h1 : 1 ∈ S) : ∀ n, 0 ≤ fewF S n := by
  intro n
  induction n using Nat.strongRecOn with
  | _ n ih =>
    by_cases z : n = 0
    · subst z; rw [fewF_zero]; omega
    · obtain ⟨p, _, h2, h3, e⟩ := fewF_ex hp h1 (n := n) (by omega)
      have := ih (n - p) (by omega)
      omega
theorem fewF_pos {S : List Int} (hp : ∀ p ∈ S, 1 ≤ p) (h1 : 1 ∈ S) {n : Nat} (hn : 1 ≤ n) : 1 ≤ fewF S n := by
  obtain ⟨p, _, h2, h3, e⟩ := fewF_ex hp h1 hn
  have := fewF_nn hp h1 (n - p)
  omega
theorem fewF_bd {S : List Int} (hp : ∀ p ∈ S, 1 ≤ p) (h1 : 1 ∈ S) : ∀ n : Nat, fewF S n ≤ n
  | 0 => by rw [fewF_zero]; omega
  | n + 1 => by
    have h := fewF_le hp (n := n + 1) (p := 1) h1 (by omega)
    have := fewF_bd hp h1 n
    rw [Nat.add_sub_cancel] at h
    omega
theorem tab_snoc {n : Nat} {g : Nat → V} {v : V} (h : v = g n) : tab n g ++ [v] = tab (n + 1) g := by
  unfold tab
  rw [List.range_succ, List.map_append, h]; rfl
theorem given_ints {α : Type} {S : List α} {g : α → Option Int} : given (fun j => ((S[j]?).bind g).map V.int) S.length = (S.filterMap g).map V.int := by
  have h : ∀ n ≤ S.length, given (fun j => ((S[j]?).bind g).map V.int) n = ((S.take n).filterMap g).map V.int := by
    intro n
    induction n with
    | zero => intro _; rfl
    | succ n ih =>
      intro hn
      show given _ n ++ (match ((S[n]?).bind g).map V.int with | some y => [y] | none => []) = _
      rw [ih (by omega), List.take_add_one, List.getElem?_eq_getElem (by omega), List.filterMap_append, List.map_append]
      congr 1
      show (match ((some S[n]).bind g).map V.int with | some y => [y] | none => []) = (List.filterMap g [S[n]]).map V.int
      cases e : g S[n] <;> simp [e]
  rw [h _ (Nat.le_refl _), List.take_length]
theorem stock_one {ks : List V} {b : Int} {L : List Int} (h : StockOf ks b L) (hk : KdL ks) (hb : 1 ≤ b) : 1 ∈ L := by
  obtain ⟨v, hv⟩ : ∃ v, v ∈ ks := List.exists_mem_of_length_pos (by have := hk.lo; omega)
  exact (h.mem 1).mpr ⟨hb, v, hv, 1, by omega, dots_one (hk.kd v hv)⟩
section
variable {G : Gx} {H : Hp} {Q : VK} {E : XK} {a : Addr} {ks : List V}
theorem u_fewest_by {S : List Int} {b : Nat} (ha : H a = some (.lst (S.map V.int))) (hp : ∀ p ∈ S, 1 ≤ p) (h1 : 1 ≤ b → 1 ∈ S) (hb : b ≤ 900) (hl : S.length ≤ 1000)
    (h : ∀ p H', Same H H' → H p = none → H' p = some (.lst (tab (b + 1) fun u => .int (fewF S u))) → Q (.ref p) H') : sp_fewest_by G [.ref a, .int b] H Q E := by
  refine ⟨rfl, ?_⟩
  unfold t_fewest_by
  wtm_at "w"
  refine i_new (by simp) fun f nf => ?_
  wtm_at "w"
  refine i_rngA2 (by omega) ?_
  rw [show ((b : Int) + 1 - 1).toNat = b by omega]
  refine lk_range (fun i σ H' => ∃ y3 y4, σ = [some (.ref a), some (.int b), some (.ref f), y3, y4] ∧ Same H H' ∧ H' f = some (.lst (tab (i + 1) fun u => .int (fewF S u)))) ⟨_, _, rfl, same_new nf, by rw [upd_same]; rfl⟩ ?_ ?_
  · rintro i σ H1 hi ⟨y3, y4, rfl, s1, e1⟩
    wtm_at "w"
    refine i_tyL e1 ?_
    wtm_at "w"
    refine i_lstA (sq_of (s1 _ _ ha)) ?_
    refine lck_pure walk_list (by rw [List.length_map]; omega) (fun j => ((S[j]?).bind fun p => if p ≤ ((i + 1 : Nat) : Int) then some (fewF S (((i + 1 : Nat) : Int) - p).toNat) else none).map V.int) (fun H' s => sq_of (s _ _ (s1 _ _ ha))) (fun j x H5 H6 KK NN hj s y hK hN => ?_) (fun p H5 np s5 e5 => ?_)
    · obtain ⟨rfl, hx⟩ := y
      rw [List.getElem?_map] at hx
      obtain ⟨x0, hx0, rfl⟩ := Option.map_eq_some_iff.mp hx
      have hx1 := hp x0 (List.mem_of_getElem? hx0)
      wtm_at "w"
      refine ⟨rfl, ?_⟩
      wtm_at "w"
      refine i_ite (fun hle => ?_) (fun hle => ?_)
      · wtm_at "w"
        refine i_ixL (sq_of (s _ _ e1)) (tab_at (i := (((i + 1 : Nat) : Int) - x0).toNat) (by omega) (by omega)) ?_
        exact hK _ _ (by rw [hx0]; show Option.map V.int (if _ then _ else _) = _; rw [if_pos (by omega)]; rfl) (fun _ _ z => z)
      · exact hN _ (by rw [hx0]; show Option.map V.int (if _ then _ else _) = _; rw [if_neg (by omega)]; rfl) (fun _ _ z => z)
    · rw [List.length_map, given_ints] at e5
      refine i_minL (sq_of e5) (List.length_pos_iff.mpr (befores_ne (S := S) (f := fewF S) (n := i + 1) (h1 (by omega)) (by omega))) fun m hm1 hm2 => ?_
      wtm_at "w"
      refine i_app (s5 _ _ e1) (sz_lt (by rw [tab_len]; omega)) ?_
      refine ⟨_, _, rfl, same_mut (s1.trans s5) nf, ?_⟩
      rw [upd_same, tab_snoc]
      rw [fewF_succ hp]
      exact congrArg V.int (congrArg (1 + ·) (minI_eq hm1 hm2))
  · rintro σ H1 ⟨y3, y4, rfl, s1, e1⟩
    wtm_at "w"
    exact h f H1 s1 nf e1
end
/-! ### the first of unlike ones -/
def firstP (P : Nat → Bool) : Nat → Option Nat
  | 0 => none
  | t + 1 => match firstP P t with
    | some a => some a
    | none => if P t then some t else none
theorem firstP_some {P : Nat → Bool} : ∀ {t a : Nat}, firstP P t = some a → a < t ∧ P a = true ∧ ∀ j < a, P j = false
  | 0, _, h => by cases h
  | t + 1, a, h => by
    unfold firstP at h
    cases e : firstP P t with
    | some b =>
      rw [e] at h
      cases h
      obtain ⟨h1, h2, h3⟩ := firstP_some e
      exact ⟨by omega, h2, h3⟩
    | none =>
      rw [e] at h
      by_cases z : P t = true
      · simp only [z, if_true, Option.some.injEq] at h
        subst h
        refine ⟨by omega, z, fun j hj => ?_⟩
        exact firstP_none e j hj
      · simp only [z] at h
        cases h
where
  firstP_none {P : Nat → Bool} : ∀ {t : Nat}, firstP P t = none → ∀ j < t, P j = false
    | 0, _, j, hj => absurd hj (Nat.not_lt_zero _)
    | t + 1, h, j, hj => by
      unfold firstP at h
      cases e : firstP P t with
      | some b => rw [e] at h; cases h
      | none =>
        rw [e] at h
        by_cases z : P t = true
        · simp [z] at h
        · by_cases y : j = t
          · subst y; simpa using z
          · exact firstP_none e j (by omega)
theorem firstP_is {P : Nat → Bool} {t a : Nat} (h1 : a < t) (h2 : P a = true) (h3 : ∀ j < a, P j = false) : firstP P t = some a := by
  cases e : firstP P t with
  | none =>
    have := firstP_some.firstP_none e a h1
    rw [h2] at this; cases this
  | some b =>
    obtain ⟨g1, g2, g3⟩ := firstP_some e
    by_cases z : a < b
    · have := g3 a z; rw [h2] at this; cases this
    · by_cases y : b < a
      · have := h3 b y; rw [g2] at this; cases this
      · rw [show a = b by omega]
theorem firstP_ex {P : Nat → Bool} {t a : Nat} (h1 : a < t) (h2 : P a = true) : ∃ b, firstP P t = some b := by
  cases e : firstP P t with
  | none =>
    have := firstP_some.firstP_none e a h1
    rw [h2] at this; cases this
  | some b => exact ⟨b, rfl⟩
def uOk (S : List Int) (n : Nat) (m : Int) (j : Nat) : Bool := decide (S.getD j 0 ≤ (n : Int)) && decide (lrow (S.take j) (n - (S.getD j 0).toNat) = some m)
def greedy (S : List Int) : Nat → Nat → Nat → List Int
  | 0, _, _ => []
  | m + 1, top, n => match firstP (uOk S n (m : Int)) top with
    | some j => S.getD j 0 :: greedy S m j (n - (S.getD j 0).toNat)
    | none => []
theorem lrow_zero {m : Int} {n : Nat} (h : lrow [] n = some m) : m = 0 := by
  have h' : (if n = 0 then some (0 : Int) else none) = some m := h
  split at h'
  · cases h'; rfl
  · cases h'
/-- where m is the fewest and above 0, some one is the last part -/
theorem lrow_last {S : List Int} (hp : ∀ x ∈ S, 1 ≤ x) {n : Nat} {m : Nat} : ∀ {top : Nat}, top ≤ S.length → lrow (S.take top) n = some ((m + 1 : Nat) : Int) → ∃ j < top, uOk S n m j = true
  | 0, _, h => by
    have := lrow_zero (m := ((m + 1 : Nat) : Int)) (n := n) h
    omega
  | t + 1, ht, h => by
    have hg : S[t]? = some S[t] := List.getElem?_eq_getElem (by omega)
    have hd : S.getD t 0 = S[t] := by rw [List.getD_eq_getElem?_getD, hg]; rfl
    have hp1 := hp S[t] (List.getElem_mem _)
    rw [lrow_snoc hg] at h
    have old : lrow (S.take t) n = some ((m + 1 : Nat) : Int) → ∃ j < t + 1, uOk S n m j = true := fun e => by
      obtain ⟨j, hj, e⟩ := lrow_last hp (by omega) e
      exact ⟨j, by omega, e⟩
    unfold lstep at h
    by_cases z : S[t].toNat ≤ n
    · rw [if_pos z] at h
      have new : lrow (S.take t) (n - S[t].toNat) = some (m : Int) → ∃ j < t + 1, uOk S n m j = true := fun e => by
        refine ⟨t, by omega, ?_⟩
        unfold uOk
        rw [hd, decide_eq_true (by omega), decide_eq_true e]; rfl
      cases e1 : lrow (S.take t) (n - S[t].toNat) with
      | none => rw [e1] at h; exact old h
      | some a =>
        rw [e1] at h
        cases e2 : lrow (S.take t) n with
        | none =>
          rw [e2] at h
          have h' : a + 1 = ((m + 1 : Nat) : Int) := Option.some.inj h
          exact new (by rw [e1, show a = (m : Int) by omega])
        | some c =>
          rw [e2] at h
          have h' : (if a + 1 < c then some (a + 1) else some c) = some ((m + 1 : Nat) : Int) := h
          by_cases y : a + 1 < c
          · rw [if_pos y] at h'
            have h'' := Option.some.inj h'
            exact new (by rw [e1, show a = (m : Int) by omega])
          · rw [if_neg y] at h'
            exact old (by rw [e2, h'])
    · rw [if_neg z] at h
      exact old h
theorem LRows.at {H : Hp} {qs : List Addr} {f : Nat → Nat → V} {i n j : Nat} {jv : Int} (r : LRows H qs f i n) (e : jv = (j : Int)) (hj : j ≤ i) : ∃ q, atI (qs.map V.ref) jv = some (.ref q) ∧ H q = some (.lst (tab (n + 1) (f j))) := by
  have h : j < qs.length := by have := r.len; omega
  refine ⟨qs[j], at_nat e ?_, r.row j _ (List.getElem?_eq_getElem h)⟩
  rw [List.getElem?_map, List.getElem?_eq_getElem h]; rfl
theorem getD_mem {S : List Int} {j : Nat} (hj : j < S.length) : S.getD j 0 ∈ S := by
  rw [List.getD_eq_getElem?_getD, List.getElem?_eq_getElem hj]
  exact List.getElem_mem _
section
variable {G : Gx} {H : Hp} {Q : VK} {E : XK} {a : Addr} {ks : List V}
/-- where such a loop stands -/
structure GrI (S : List Int) (G0 : List Int) (fs : List Int) (m top n N : Nat) : Prop where
  g : fs ++ greedy S m top n = G0
  r : lrow (S.take top) n = some (m : Int)
  t : top ≤ S.length
  n : n ≤ N
theorem GrI.ex {S : List Int} (hp : ∀ x ∈ S, 1 ≤ x) {G0 fs : List Int} {m top n N : Nat} (i : GrI S G0 fs (m + 1) top n N) : ∃ j, firstP (uOk S n (m : Int)) top = some j := by
  obtain ⟨j, h1, h2⟩ := lrow_last hp i.t i.r
  exact firstP_ex h1 h2
end
/-! ### a list of draws -/
theorem i_setLe {H : Hp} {a : Addr} {xs ys : List V} {i : Int} {v : V} {R : Hp → Prop} {n : Nat} (hs : H a = some (.lst xs)) (hi : ixN xs.length i = some n) (e : xs.set n v = ys) (h : R (upd H a (.lst ys))) : uSet (.ref a) (.int i) v H R := .inl ⟨a, xs, i, n, rfl, rfl, hs, hi, by rw [e]; exact h⟩
/-! ### levels of the fewest -/
theorem few_up {S : List Int} (hp : ∀ p ∈ S, 1 ≤ p) {m : Nat} {c : Int} (h1 : 1 ≤ m → 1 ∈ S) (hc : 0 ≤ c) : fewF S m = c + 1 ↔ c < fewF S m ∧ ∃ p : Nat, (p : Int) ∈ S ∧ p ≤ m ∧ fewF S (m - p) = c := by
  constructor
  · intro h
    have hm : 1 ≤ m := by
      by_cases z : m = 0
      · subst z; rw [fewF_zero] at h; omega
      · omega
    obtain ⟨p, h2, h3, h4, h5⟩ := fewF_ex hp (h1 hm) hm
    exact ⟨by omega, p, h2, h3, by omega⟩
  · rintro ⟨h2, p, h3, h4, h5⟩
    have := fewF_le hp h3 h4
    omega
section
variable {G : Gx} {H : Hp} {Q : VK} {E : XK} {a : Addr} {ks : List V}
theorem rep_tab {n : Nat} {v : V} : List.replicate n v = tab n fun _ => v := by
  unfold tab
  rw [List.map_const', List.length_range]
end
/-! ### which need so many -/
theorem tab_ints {n : Nat} {f : Nat → Int} : (tab n fun u => .int (f u)) = ((List.range n).map f).map V.int := by
  unfold tab; rw [List.map_map]; rfl
/-! ### places -/
theorem dots_zero {v : V} (hv : IsKd v) : dotsV v 0 = 0 := by
  rcases hv with ⟨s, rfl, h1, h2⟩ | rfl
  · show 0 + (s - 2) * (0 * (0 - 1) / 2) = 0
    rw [show (0 * (0 - 1) / 2 : Int) = 0 by decide]; omega
  · rfl
theorem dots_mon {v : V} (hv : IsKd v) {i j : Int} (h1 : 0 ≤ i) (h2 : i ≤ j) : dotsV v i + (j - i) ≤ dotsV v j := by
  by_cases z : i = 0
  · subst z
    rw [dots_zero hv]
    by_cases y : j = 0
    · subst y; rw [dots_zero hv]; omega
    · have := dots_ge hv (k := j) (by omega); omega
  · exact dots_le hv (by omega) h2
structure IsPl (v : V) (n k : Int) : Prop where
  one : 1 ≤ k
  up : n ≤ dotsV v k
  lo : dotsV v (k - 1) < n
theorem IsPl.uniq {v : V} (hv : IsKd v) {n k j : Int} (a : IsPl v n k) (b : IsPl v n j) : k = j := by
  have a1 := a.one
  have b1 := b.one
  have a2 := a.up
  have b2 := b.up
  have a3 := a.lo
  have b3 := b.lo
  by_cases z : k < j
  · have := dots_mon hv (i := k) (j := j - 1) (by omega) (by omega)
    omega
  · by_cases y : j < k
    · have := dots_mon hv (i := j) (j := k - 1) (by omega) (by omega)
      omega
    · omega
/-! ### bits -/
section
variable {H : Hp} {Q : VK}
theorem i_shlN {X P : Nat} {n : Nat} {j : Int} (ej : j = (P : Int)) (hX : X < 2 ^ n) (hn : n + P ≤ 100000) (h : Q (.int ((X <<< P : Nat) : Int)) H) : uShl (.int X) (.int j) H Q := by
  subst ej
  refine i_shl (shl_ok (n := n) (by simpa using hX) (by omega)) ?_
  rw [Int.toNat_natCast, show ((X : Int) * 2 ^ P) = ((X <<< P : Nat) : Int) by rw [Nat.shiftLeft_eq]; push_cast; rfl]
  exact h
theorem i_shrN {X P : Nat} {j : Int} (ej : j = (P : Int)) (h : Q (.int ((X / 2 ^ P : Nat) : Int)) H) : uShr (.int X) (.int j) H Q := by
  subst ej
  refine i_shr (by omega) ?_
  rw [Int.toNat_natCast, show ((X : Int) / 2 ^ P) = ((X / 2 ^ P : Nat) : Int) by push_cast; rfl]
  exact h
theorem band_N {X Y : Nat} : Builtin.bitAnd (X : Int) (Y : Int) = ((X &&& Y : Nat) : Int) := by rw [bitAnd_pp (by omega) (by omega), Int.toNat_natCast, Int.toNat_natCast]
theorem bor_N {X Y : Nat} : Builtin.bitOr (X : Int) (Y : Int) = ((X ||| Y : Nat) : Int) := by
  have e := nat_or_add_and X Y
  rw [bitOr_and, band_N]
  omega
theorem bit_N {X P : Nat} : Builtin.bitAnd ((X / 2 ^ P : Nat) : Int) 1 = if X.testBit P then 1 else 0 := by
  rw [show (1 : Int) = ((1 : Nat) : Int) from rfl, band_N, Nat.and_one_is_mod, Nat.testBit_eq_decide_div_mod_eq]
  by_cases z : X / 2 ^ P % 2 = 1
  · rw [decide_eq_true z, if_pos rfl, z]
  · rw [decide_eq_false z, if_neg (by decide)]
    have : X / 2 ^ P % 2 = 0 := by omega
    rw [this]; rfl
end
theorem bits_lt {X n : Nat} (h : ∀ i, n ≤ i → X.testBit i = false) : X < 2 ^ n := Nat.lt_pow_two_of_testBit X h
theorem allbits (b : Nat) : ((1 <<< (b + 1) : Nat) : Int) - 1 = ((2 ^ (b + 1) - 1 : Nat) : Int) := by
  have : 0 < 2 ^ (b + 1) := Nat.two_pow_pos _
  rw [Nat.shiftLeft_eq, Nat.one_mul]
  omega
/-- the numbers to b that need at most c -/
structure BLev (S : List Int) (b : Nat) (c : Int) (X : Nat) : Prop where
  nn : 0 ≤ c
  bit : ∀ u, X.testBit u = true ↔ u ≤ b ∧ fewF S u ≤ c
theorem BLev.lt {S : List Int} {b : Nat} {c : Int} {X : Nat} (l : BLev S b c X) : X < 2 ^ (b + 1) := bits_lt fun i hi => by
  cases e : X.testBit i with
  | false => rfl
  | true => have := ((l.bit i).mp e).1; omega
theorem BLev.all {S : List Int} {b : Nat} {c : Int} {X : Nat} (l : BLev S b c X) : X = 2 ^ (b + 1) - 1 ↔ ∀ u ≤ b, fewF S u ≤ c := by
  constructor
  · intro h u hu
    have e : X.testBit u = true := by rw [h, Nat.testBit_two_pow_sub_one]; simp; omega
    exact ((l.bit u).mp e).2
  · intro h
    refine Nat.eq_of_testBit_eq fun i => ?_
    rw [Nat.testBit_two_pow_sub_one, Bool.eq_iff_iff, l.bit]
    simp only [decide_eq_true_eq]
    constructor
    · rintro ⟨h1, _⟩; omega
    · intro h1; exact ⟨by omega, h i (by omega)⟩
theorem few_most {S : List Int} (hp : ∀ p ∈ S, 1 ≤ p) {m : Nat} {c : Int} (h1 : 1 ≤ m → 1 ∈ S) (hc : 0 ≤ c) : fewF S m ≤ c + 1 ↔ fewF S m ≤ c ∨ ∃ p : Nat, (p : Int) ∈ S ∧ p ≤ m ∧ fewF S (m - p) ≤ c := by
  constructor
  · intro h
    by_cases z : fewF S m ≤ c
    · exact .inl z
    · have e : fewF S m = c + 1 := by omega
      obtain ⟨_, p, a, b, d⟩ := (few_up hp h1 hc).mp e
      exact .inr ⟨p, a, b, by omega⟩
  · rintro (h | ⟨p, a, b, d⟩)
    · omega
    · have := fewF_le hp a b; omega
section
variable {G : Gx} {H : Hp} {Q : VK} {E : XK} {a : Addr} {ks : List V}
theorem u_law_needs {S : List Int} {b : Nat} (ha : H a = some (.lst (S.map V.int))) (hp : ∀ p ∈ S, 1 ≤ p ∧ p ≤ 1000) (hone : ∀ u, 1 ≤ u → u ≤ b → 1 ∈ S) (hb : b ≤ 900) (hl : S.length ≤ 1000)
    (h : ∀ p H', Same H H' → H p = none → H' p = some (.lst (tab (b + 1) fun u => .int (fewF S u))) → Q (.ref p) H') : sp_law_needs G [.ref a, .int b] H Q E := by
  refine ⟨rfl, ?_⟩
  unfold t_law_needs
  have hp1 : ∀ p ∈ S, 1 ≤ p := fun p hm => (hp p hm).1
  have nn : ∀ u, u ≤ b → 0 ≤ fewF S u := fun u hu => by
    by_cases z : u = 0
    · subst z; rw [fewF_zero]; omega
    · exact fewF_nn hp1 (hone u (by omega) hu) u
  wtm_at "w"
  refine i_new (by simp) fun p1 n1 => ?_
  wtm_at "w"
  refine i_rep upd_same (by omega) (by omega) (sz_le (by simp; omega)) fun f nf => ?_
  rw [rep_one, show ((b : Int) + 1).toNat = b + 1 by omega, rep_tab]
  have s1 : Same H (upd H p1 (.lst [.int 0])) := same_new n1
  generalize upd H p1 (.lst [.int 0]) = H1 at s1 nf ⊢
  have nf0 : H f = none := s1.free nf
  have s3 : Same H (upd H1 f (.lst (tab (b + 1) fun _ => .int 0))) := s1.trans (same_new nf)
  have e3 : (upd H1 f (.lst (tab (b + 1) fun _ => .int 0))) f = some (.lst (tab (b + 1) fun _ => .int 0)) := upd_same
  generalize upd H1 f (.lst (tab (b + 1) fun _ => .int 0)) = H3 at s3 e3 ⊢
  wtm_at "w"
  refine i_shlN (X := 1) (P := b + 1) (n := 1) (by omega) (by decide) (by omega) ?_
  wtm_at "w"
  rw [allbits]
  generalize hA : (2 ^ (b + 1) - 1 : Nat) = A
  have W0 : BLev S b 0 1 := ⟨by omega, fun u => by
    constructor
    · intro e
      by_cases z : u = 0
      · subst z; exact ⟨by omega, by rw [fewF_zero]; omega⟩
      · rw [show (1 : Nat) = 2 ^ 0 from rfl, Nat.testBit_two_pow] at e
        simp at e; omega
    · rintro ⟨hu, e⟩
      by_cases z : u = 0
      · subst z; decide
      · have := fewF_pos hp1 (hone u (by omega) hu) (n := u) (by omega)
        omega⟩
  refine i_while (fun m σ H' => ∃ (c : Int) (X : Nat) (y6 y7 y8 : Option V), σ = [some (.ref a), some (.int b), some (.ref f), some (.int X), some (.int A), some (.int c), y6, y7, y8] ∧ m = (b - c).toNat ∧ Same H H' ∧ H' f = some (.lst (tab (b + 1) fun u => .int (if fewF S u ≤ c then fewF S u else 0))) ∧ BLev S b c X) b ⟨0, 1, _, _, _, rfl, by omega, s3, ?_, W0⟩ ?_
  · rw [e3]
    refine congrArg (fun z => some (HO.lst z)) (tab_ext fun u hu => ?_)
    split
    · have := nn u (by omega); congr 1; omega
    · rfl
  · rintro m σ H4 ⟨c, X, y6, y7, y8, rfl, rfl, s4, ef, lev⟩
    wtm_at "w"
    have hall := lev.all
    rw [hA] at hall
    refine i_iteN (fun hem => ?_) (fun hne => ?_)
    · wtm_at "w"
      have hX : X = A := by omega
      refine h f H4 s4 nf0 ?_
      rw [ef]
      refine congrArg (fun z => some (HO.lst z)) (tab_ext fun u hu => ?_)
      rw [if_pos (hall.mp hX u (by omega))]
    · have hcb : c < b := by
        have hn : ¬ ∀ u ≤ b, fewF S u ≤ c := fun z => hne (by rw [hall.mpr z])
        by_cases z : c < b
        · exact z
        · refine absurd (fun u hu => ?_) hn
          by_cases y : u = 0
          · subst y; rw [fewF_zero]; exact lev.nn
          · have := fewF_bd hp1 (hone u (by omega) hu) u
            omega
      have hc0 := lev.nn
      have hXlt := lev.lt
      refine i_turn ?_
      wtm_at "w"
      refine i_lstA (sq_of (s4 _ _ ha)) ?_
      refine lk_list (fun i σ H' => ∃ (Y : Nat) (y7 : Option V), σ = [some (.ref a), some (.int b), some (.ref f), some (.int X), some (.int A), some (.int (c + 1)), some (.int Y), y7, y8] ∧ H' = H4 ∧ ∀ u, Y.testBit u = true ↔ X.testBit u = true ∨ ∃ p : Nat, (p : Int) ∈ S.take i ∧ p ≤ u ∧ X.testBit (u - p) = true) ⟨X, _, rfl, rfl, fun u => by simp⟩ (fun i σ H' _ ⟨_, _, _, e, _⟩ => by rw [e]; exact sq_of (s4 _ _ ha)) ?_ ?_
      · rintro i x σ H5 hi ⟨Y, y7, rfl, rfl, hY⟩
        rw [List.getElem?_map] at hi
        obtain ⟨p0, hp0, rfl⟩ := Option.map_eq_some_iff.mp hi
        have hp2 := hp p0 (List.mem_of_getElem? hp0)
        obtain ⟨P, rfl⟩ : ∃ P : Nat, p0 = (P : Int) := ⟨p0.toNat, by omega⟩
        wtm_at "w"
        refine i_shlN (P := P) rfl hXlt (by omega) ?_
        wtm_at "w"
        rw [bor_N]
        refine ⟨Y ||| X <<< P, _, rfl, rfl, fun u => ?_⟩
        rw [Nat.testBit_or, Nat.testBit_shiftLeft, Bool.or_eq_true, hY, Bool.and_eq_true, List.take_add_one, hp0]
        simp only [Option.toList, List.mem_append, List.mem_singleton, ge_iff_le, decide_eq_true_eq]
        constructor
        · rintro ((z | ⟨p, z1, z2⟩) | ⟨z1, z2⟩)
          · exact .inl z
          · exact .inr ⟨p, .inl z1, z2⟩
          · exact .inr ⟨P, .inr rfl, z1, z2⟩
        · rintro (z | ⟨p, z1 | z1, z2⟩)
          · exact .inl (.inl z)
          · exact .inl (.inr ⟨p, z1, z2⟩)
          · have : p = P := by omega
            subst this
            exact .inr z2
      · rintro σ H5 ⟨Y, y7, rfl, rfl, hY⟩
        rw [List.length_map, List.take_length] at hY
        wtm_at "w"
        rw [band_N]
        have nlev : BLev S b (c + 1) (Y &&& A) := ⟨by omega, fun u => by
          rw [Nat.testBit_and, Bool.and_eq_true, hY, ← hA, Nat.testBit_two_pow_sub_one, decide_eq_true_eq, lev.bit]
          constructor
          · rintro ⟨z, hu⟩
            refine ⟨by omega, (few_most hp1 (fun y => hone u y (by omega)) hc0).mpr ?_⟩
            rcases z with z | ⟨p, z1, z2, z3⟩
            · exact .inl z.2
            · exact .inr ⟨p, z1, z2, ((lev.bit _).mp z3).2⟩
          · rintro ⟨hu, z⟩
            refine ⟨?_, by omega⟩
            rcases (few_most hp1 (fun y => hone u y (by omega)) hc0).mp z with z | ⟨p, z1, z2, z3⟩
            · exact .inl ⟨hu, z⟩
            · exact .inr ⟨p, z1, z2, (lev.bit _).mpr ⟨by omega, z3⟩⟩⟩
        generalize (Y &&& A) = Z at nlev ⊢
        refine i_rngA1 (by omega) ?_
        rw [show ((b : Int) + 1).toNat = b + 1 by omega]
        refine lk_range (fun i σ H' => ∃ (y7 y8 : Option V), σ = [some (.ref a), some (.int b), some (.ref f), some (.int X), some (.int A), some (.int (c + 1)), some (.int Z), y7, y8] ∧ Same H H' ∧ H' f = some (.lst (tab (b + 1) fun u => .int (if fewF S u ≤ c ∨ (u < i ∧ fewF S u ≤ c + 1) then fewF S u else 0)))) ⟨_, _, rfl, s4, ?_⟩ ?_ ?_
        · rw [ef]
          refine congrArg (fun z => some (HO.lst z)) (tab_ext fun u hu => ?_)
          by_cases z : fewF S u ≤ c
          · rw [if_pos z, if_pos (.inl z)]
          · rw [if_neg z, if_neg (fun y => y.elim z fun w => absurd w.1 (Nat.not_lt_zero _))]
        · rintro i σ H6 hi ⟨y7, y8, rfl, s6, ef6⟩
          have e0 : (0 : Int) + (i : Nat) = ((i : Nat) : Int) := by omega
          wtm_at "wa"
          refine i_shrN (P := i) e0 ?_
          wtm_at "wa"
          rw [bit_N]
          have keep : ¬ (fewF S i = c + 1) → (tab (b + 1) fun u => .int (if fewF S u ≤ c ∨ (u < i ∧ fewF S u ≤ c + 1) then fewF S u else 0)) = tab (b + 1) fun u => V.int (if fewF S u ≤ c ∨ (u < i + 1 ∧ fewF S u ≤ c + 1) then fewF S u else 0) := fun hne => tab_ext fun u hu => by
            have : (fewF S u ≤ c ∨ (u < i ∧ fewF S u ≤ c + 1)) ↔ (fewF S u ≤ c ∨ (u < i + 1 ∧ fewF S u ≤ c + 1)) := by
              constructor
              · rintro (z | ⟨z1, z2⟩)
                · exact .inl z
                · exact .inr ⟨by omega, z2⟩
              · rintro (z | ⟨z1, z2⟩)
                · exact .inl z
                · by_cases w : u = i
                  · subst w; exact .inl (by omega)
                  · exact .inr ⟨by omega, z2⟩
            by_cases w : (fewF S u ≤ c ∨ (u < i ∧ fewF S u ≤ c + 1))
            · rw [if_pos w, if_pos (this.mp w)]
            · rw [if_neg w, if_neg fun y => w (this.mpr y)]
          cases eZ : Z.testBit i with
          | false =>
            refine i_F (by simp) ?_
            wtm_at "wa"
            refine ⟨_, _, rfl, s6, ?_⟩
            rw [ef6, keep fun z => by
              have := (nlev.bit i).mpr ⟨by omega, by omega⟩
              rw [eZ] at this; cases this]
          | true =>
            refine i_T (by simp) ?_
            wtm_at "wa"
            refine i_shrN (P := i) e0 ?_
            wtm_at "wa"
            rw [bit_N]
            cases eX : X.testBit i with
            | true =>
              refine i_F (by simp) ?_
              wtm_at "wa"
              refine ⟨_, _, rfl, s6, ?_⟩
              rw [ef6, keep fun z => by
                have := ((lev.bit i).mp eX).2
                omega]
            | false =>
              refine i_T (by simp) ?_
              wtm_at "wa"
              have h1 := ((nlev.bit i).mp eZ).2
              have h2 : ¬ fewF S i ≤ c := fun z => by
                have := (lev.bit i).mpr ⟨by omega, z⟩
                rw [eX] at this; cases this
              refine i_setL ef6 (n := i) (by rw [tab_len]; exact ixN_nat e0 (by omega)) ?_
              refine ⟨_, _, rfl, same_mut s6 nf0, ?_⟩
              rw [upd_same, tab_set]
              refine congrArg (fun z => some (HO.lst z)) (tab_ext fun u hu => ?_)
              by_cases w : u = i
              · subst w
                rw [if_pos rfl, if_pos (.inr ⟨by omega, h1⟩)]
                congr 1; omega
              · rw [if_neg w]
                have : (fewF S u ≤ c ∨ (u < i ∧ fewF S u ≤ c + 1)) ↔ (fewF S u ≤ c ∨ (u < i + 1 ∧ fewF S u ≤ c + 1)) := by
                  constructor
                  · rintro (z | ⟨z1, z2⟩)
                    · exact .inl z
                    · exact .inr ⟨by omega, z2⟩
                  · rintro (z | ⟨z1, z2⟩)
                    · exact .inl z
                    · exact .inr ⟨by omega, z2⟩
                by_cases w : (fewF S u ≤ c ∨ (u < i ∧ fewF S u ≤ c + 1))
                · rw [if_pos w, if_pos (this.mp w)]
                · rw [if_neg w, if_neg fun y => w (this.mpr y)]
        · rintro σ H6 ⟨y7, y8, rfl, s6, ef6⟩
          wtm_at "w"
          refine ⟨(b - (c + 1)).toNat, by omega, c + 1, Z, _, _, _, rfl, rfl, s6, ?_, nlev⟩
          rw [ef6]
          refine congrArg (fun z => some (HO.lst z)) (tab_ext fun u hu => ?_)
          by_cases w : fewF S u ≤ c + 1
          · rw [if_pos w, if_pos (.inr ⟨hu, w⟩)]
          · rw [if_neg w, if_neg (fun y => by rcases y with y | y <;> omega)]
end
/-! ### of one kind -/
/-! ### the fewest, looked at -/
/-! ### sums as lists -/
def XS (S : List Int) (m : Nat) (t : Int) : Prop := ∃ l : List Int, (∀ x ∈ l, x ∈ S) ∧ l.length = m ∧ l.sum = t
theorem sum_erase {p : Int} : ∀ {l : List Int}, p ∈ l → (l.erase p).sum + p = l.sum
  | [], h => by cases h
  | x :: r, h => by
    rw [List.erase_cons]
    by_cases e : x = p
    · subst e; simp; omega
    · have hr : p ∈ r := by
        rcases List.mem_cons.mp h with z | z
        · exact absurd z.symm e
        · exact z
      have ih := sum_erase hr
      rw [if_neg (by simpa using e), List.sum_cons, List.sum_cons]
      omega
theorem sum_nn : ∀ {l : List Int}, (∀ x ∈ l, 1 ≤ x) → (l.length : Int) ≤ l.sum
  | [], _ => by simp
  | x :: r, h => by
    have := sum_nn (l := r) fun y hy => h y (List.mem_cons_of_mem _ hy)
    have := h x (by simp)
    rw [List.sum_cons, List.length_cons]
    omega
section
variable {S S' : List Int} {m : Nat} {t p : Int}
theorem XS.zero : XS S 0 t ↔ t = 0 := by
  constructor
  · rintro ⟨l, _, h, e⟩
    have : l = [] := List.eq_nil_of_length_eq_zero h
    subst this
    exact e.symm
  · rintro rfl
    exact ⟨[], by simp, rfl, rfl⟩
theorem XS.mono (h : ∀ x ∈ S, x ∈ S') : XS S m t → XS S' m t := by
  rintro ⟨l, h1, h2, h3⟩
  exact ⟨l, fun x hx => h x (h1 x hx), h2, h3⟩
theorem XS.cons (hm : p ∈ S) (h : XS S m (t - p)) : XS S (m + 1) t := by
  obtain ⟨l, h1, h2, h3⟩ := h
  refine ⟨p :: l, fun x hx => ?_, by simp [h2], by rw [List.sum_cons]; omega⟩
  rcases List.mem_cons.mp hx with rfl | z
  · exact hm
  · exact h1 x z
theorem XS.nn (hp : ∀ x ∈ S, 1 ≤ x) (h : XS S m t) : (m : Int) ≤ t := by
  obtain ⟨l, h1, h2, h3⟩ := h
  have := sum_nn (l := l) fun x hx => hp x (h1 x hx)
  omega
theorem XS.ex (h : XS S (m + 1) t) : ∃ p ∈ S, XS S m (t - p) := by
  obtain ⟨l, h1, h2, h3⟩ := h
  cases l with
  | nil => simp at h2
  | cons x r => exact ⟨x, h1 x (by simp), r, fun y hy => h1 y (List.mem_cons_of_mem _ hy), by simpa using h2, by rw [List.sum_cons] at h3; omega⟩
theorem XS.step (hS : ∀ x, x ∈ S' ↔ x ∈ S ∨ x = p) : XS S' (m + 1) t ↔ XS S (m + 1) t ∨ XS S' m (t - p) := by
  constructor
  · rintro ⟨l, h1, h2, h3⟩
    by_cases hp : p ∈ l
    · refine .inr ⟨l.erase p, fun x hx => h1 x (List.mem_of_mem_erase hx), ?_, ?_⟩
      · rw [List.length_erase_of_mem hp]; omega
      · have := sum_erase hp; omega
    · refine .inl ⟨l, fun x hx => ?_, h2, h3⟩
      rcases (hS x).mp (h1 x hx) with z | z
      · exact z
      · subst z; exact absurd hx hp
  · rintro (h | h)
    · exact h.mono fun x hx => (hS x).mpr (.inl hx)
    · exact h.cons ((hS p).mpr (.inr rfl))
theorem few_xs (hp : ∀ x ∈ S, 1 ≤ x) : ∀ n : Nat, (1 ≤ n → 1 ∈ S) → XS S (fewF S n).toNat n := by
  intro n
  induction n using Nat.strongRecOn with
  | ind n ih =>
    intro h1
    by_cases z : n = 0
    · subst z; rw [fewF_zero]; exact XS.zero.mpr rfl
    · have h1' := h1 (by omega)
      obtain ⟨q, a1, a2, a3, a4⟩ := fewF_ex hp h1' (n := n) (by omega)
      have := ih (n - q) (by omega) (fun _ => h1')
      have hn := fewF_nn hp h1' (n - q)
      rw [a4, show (fewF S (n - q) + 1).toNat = (fewF S (n - q)).toNat + 1 by omega]
      refine XS.cons a1 ?_
      rw [show ((n : Nat) : Int) - (q : Nat) = ((n - q : Nat) : Int) by omega]
      exact this
theorem few_min (hp : ∀ x ∈ S, 1 ≤ x) : ∀ (m n : Nat), XS S m n → fewF S n ≤ m
  | 0, n, h => by
    have := XS.zero.mp h
    have : n = 0 := by omega
    subst this
    rw [fewF_zero]; exact Int.le_refl _
  | m + 1, n, h => by
    obtain ⟨p, hm, h2⟩ := h.ex
    have h3 := h2.nn hp
    have p1 := hp p hm
    obtain ⟨q, rfl⟩ : ∃ q : Nat, p = (q : Int) := ⟨p.toNat, by omega⟩
    rw [show ((n : Nat) : Int) - (q : Nat) = ((n - q : Nat) : Int) by omega] at h2
    have := few_min hp m (n - q) h2
    have := fewF_le hp hm (n := n) (by omega)
    omega
theorem few_sub (hp : ∀ x ∈ S', 1 ≤ x) (hs : ∀ x ∈ S, x ∈ S') {n : Nat} (h1 : 1 ≤ n → 1 ∈ S) : fewF S' n ≤ fewF S n := by
  have hpS : ∀ x ∈ S, 1 ≤ x := fun x hx => hp x (hs x hx)
  have := few_min hp _ _ ((few_xs hpS n h1).mono hs)
  by_cases z : n = 0
  · subst z; rw [fewF_zero, fewF_zero]; exact Int.le_refl _
  · have := fewF_nn hpS (h1 (by omega)) n
    omega
end
theorem take_mem {S : List Int} {j : Nat} {p : Int} (h : S[j]? = some p) (x : Int) : x ∈ S.take (j + 1) ↔ x ∈ S.take j ∨ x = p := by
  rw [List.take_succ, h]
  simp
/-! ### the first of the fewest -/
noncomputable def fOk (S : List Int) (n : Nat) (m : Int) (j : Nat) : Bool := decide (S.getD j 0 ≤ (n : Int)) && decide (fewF (S.take (j + 1)) (n - (S.getD j 0).toNat) = m)
noncomputable def fsum (S : List Int) : Nat → Nat → List Int
  | 0, _ => []
  | m + 1, n => match firstP (fOk S n m) S.length with
    | some j => S.getD j 0 :: fsum S m (n - (S.getD j 0).toNat)
    | none => []
theorem fOk_of {S : List Int} {n j : Nat} {m : Int} (h : fOk S n m j = true) : S.getD j 0 ≤ (n : Int) ∧ fewF (S.take (j + 1)) (n - (S.getD j 0).toNat) = m := by
  unfold fOk at h
  rw [Bool.and_eq_true] at h
  exact ⟨of_decide_eq_true h.1, of_decide_eq_true h.2⟩
theorem getD_get {S : List Int} {j : Nat} (h : j < S.length) : S[j]? = some (S.getD j 0) := by
  rw [List.getD_eq_getElem?_getD, List.getElem?_eq_getElem h]; rfl
/-- a stock to look at: its first is 1, all from 1 on -/
structure Stk (S : List Int) : Prop where
  pos : ∀ x ∈ S, 1 ≤ x
  one : S[0]? = some 1
theorem Stk.lt {S : List Int} (k : Stk S) : 0 < S.length := by
  have := k.one
  cases S with
  | nil => simp at this
  | cons x r => simp
theorem Stk.mem1 {S : List Int} (k : Stk S) {j : Nat} : 1 ∈ S.take (j + 1) := by
  have := k.one
  cases S with
  | nil => simp at this
  | cons x r => have e : x = 1 := by simpa using this
                subst e; simp
theorem Stk.tpos {S : List Int} (k : Stk S) {j : Nat} : ∀ x ∈ S.take j, 1 ≤ x := fun x hx => k.pos x (List.mem_of_mem_take hx)
theorem Stk.mem {S : List Int} (k : Stk S) : 1 ∈ S := List.mem_of_mem_take (i := 0 + 1) k.mem1
/-- by which numbers so many come to -/
theorem fOk_xs {S : List Int} (k : Stk S) {n m j : Nat} (hj : j < S.length) (h : fOk S n m j = true) : XS (S.take (j + 1)) (m + 1) n := by
  obtain ⟨h1, h2⟩ := fOk_of h
  have hp := k.pos _ (getD_mem hj)
  have a := few_xs (k.tpos (j := j + 1)) (n - (S.getD j 0).toNat) (fun _ => k.mem1)
  rw [h2, Int.toNat_natCast] at a
  refine XS.cons (p := S.getD j 0) ((take_mem (getD_get hj) _).mpr (.inr rfl)) ?_
  rw [show (n : Int) - S.getD j 0 = ((n - (S.getD j 0).toNat : Nat) : Int) by omega]
  exact a
theorem xs_fOk {S : List Int} (k : Stk S) {n m j : Nat} (hj : j < S.length) (hn : fewF S n = ((m + 1 : Nat) : Int)) (h : XS (S.take (j + 1)) (m + 1) n) (h2 : ¬ XS (S.take j) (m + 1) n) : fOk S n m j = true := by
  have hp := k.pos _ (getD_mem hj)
  rcases (XS.step (take_mem (getD_get hj))).mp h with z | z
  · exact absurd z h2
  · have hn1 := z.nn k.tpos
    rw [show (n : Int) - S.getD j 0 = ((n - (S.getD j 0).toNat : Nat) : Int) by omega] at z
    have a := few_min k.tpos _ _ z
    have b := few_sub k.pos (S := S.take (j + 1)) (fun x hx => List.mem_of_mem_take hx) (n := n - (S.getD j 0).toNat) (fun _ => k.mem1)
    have c := fewF_le k.pos (p := (S.getD j 0).toNat) (n := n) (by rw [show (((S.getD j 0).toNat : Nat) : Int) = S.getD j 0 by omega]; exact getD_mem hj) (by omega)
    unfold fOk
    rw [Bool.and_eq_true]
    exact ⟨decide_eq_true (by omega), decide_eq_true (by omega)⟩
/-- the first place by either look -/
theorem first_xs {S : List Int} (k : Stk S) {n m : Nat} (hn : fewF S n = ((m + 1 : Nat) : Int)) {P : Nat → Bool} (hP : ∀ j, j < S.length → (P j = true ↔ XS (S.take (j + 1)) (m + 1) n)) : ∃ j, j < S.length ∧ firstP P S.length = some j ∧ firstP (fOk S n m) S.length = some j := by
  have hl := k.lt
  have n0 : n ≠ 0 := fun z => by subst z; rw [fewF_zero] at hn; omega
  have a := few_xs k.pos n (fun _ => k.mem)
  rw [hn, Int.toNat_natCast] at a
  have hlast : P (S.length - 1) = true := (hP _ (by omega)).mpr (by rw [show S.length - 1 + 1 = S.length by omega, List.take_length]; exact a)
  obtain ⟨j, hj⟩ := firstP_ex (P := P) (t := S.length) (by omega) hlast
  obtain ⟨b1, b2, b3⟩ := firstP_some hj
  refine ⟨j, b1, hj, firstP_is b1 (xs_fOk k b1 hn ((hP j b1).mp b2) fun z => ?_) fun i hi => ?_⟩
  · cases j with
    | zero =>
      obtain ⟨p, hp, _⟩ := z.ex
      simp at hp
    | succ i => have := (hP i (by omega)).mpr z; rw [b3 i (by omega)] at this; cases this
  · cases e : fOk S n m i with
    | false => rfl
    | true =>
      have := (hP i (by omega)).mpr (fOk_xs k (by omega) e)
      rw [b3 i hi] at this; cases this
theorem first_ok {S : List Int} (k : Stk S) {n m : Nat} (hn : fewF S n = ((m + 1 : Nat) : Int)) : ∃ j, j < S.length ∧ firstP (fOk S n m) S.length = some j := by
  classical
  obtain ⟨j, h1, _, h2⟩ := first_xs k hn (P := fun j => decide (XS (S.take (j + 1)) (m + 1) n)) (fun j _ => by simp)
  exact ⟨j, h1, h2⟩
theorem few_pos {S : List Int} (k : Stk S) {n : Nat} (h : 0 < n) : ∃ m : Nat, fewF S n = ((m + 1 : Nat) : Int) := by
  have := fewF_pos k.pos k.mem (n := n) h
  exact ⟨(fewF S n).toNat - 1, by omega⟩
/-! ### rows of rows -/
structure QRows (H : Hp) (qs : List Addr) (f : Nat → Nat → V) (i w : Nat) : Prop where
  len : qs.length = i
  row : ∀ j q, qs[j]? = some q → H q = some (.lst (tab w (f j)))
section
variable {H H' : Hp} {qs : List Addr} {f : Nat → Nat → V} {i w : Nat}
theorem QRows.same (r : QRows H qs f i w) (s : Same H H') : QRows H' qs f i w := ⟨r.len, fun j q h => s _ _ (r.row j q h)⟩
theorem QRows.at {j : Nat} {jv : Int} (r : QRows H qs f i w) (e : jv = (j : Int)) (hj : j < i) : ∃ q, atI (qs.map V.ref) jv = some (.ref q) ∧ H q = some (.lst (tab w (f j))) := by
  have h : j < qs.length := by have := r.len; omega
  exact ⟨qs[j], at_nat e (by rw [List.getElem?_map, List.getElem?_eq_getElem h]; rfl), r.row j _ (List.getElem?_eq_getElem h)⟩
theorem QRows.keep (c : QRows H qs f i w) (k : ∀ q ∈ qs, ∀ o, H q = some o → H' q = some o) : QRows H' qs f i w := ⟨c.len, fun j q h => k q (List.mem_of_getElem? h) _ (c.row j q h)⟩
theorem QRows.old (c : QRows H qs f i w) : ∀ q ∈ qs, ∃ o, H q = some o := fun q hq => by
  obtain ⟨j, hj, rfl⟩ := List.mem_iff_getElem.mp hq
  exact ⟨_, c.row j _ (List.getElem?_eq_getElem hj)⟩
theorem QRows.ne (c : QRows H qs f i w) {x : Addr} (n : H x = none) : ∀ q ∈ qs, q ≠ x := fun q hq => by
  obtain ⟨o, e⟩ := c.old q hq
  exact ne_of_none e n
theorem QRows.nil : QRows H [] f 0 w := ⟨rfl, fun j q h => by simp at h⟩
end
/-! ### == of lists of lists of ints -/
/-! ### tables of the fewest -/
/-! ### the first sum -/
structure FsI (S G0 fs : List Int) (c left N : Nat) : Prop where
  g : fs ++ fsum S c left = G0
  f : fewF S left = (c : Int)
  n : left ≤ N
  l : fs.length + c ≤ N
theorem FsI.ex {S G0 fs : List Int} {c left N : Nat} (k : Stk S) (i : FsI S G0 fs (c + 1) left N) : ∃ j, j < S.length ∧ firstP (fOk S left (c : Int)) S.length = some j := first_ok k i.f
theorem FsI.pos {S G0 fs : List Int} {c left N : Nat} (k : Stk S) (i : FsI S G0 fs c left N) (h : 0 < left) : ∃ c', c = c' + 1 := by
  obtain ⟨m, hm⟩ := few_pos k h
  have := i.f
  exact ⟨m, by omega⟩
/-! ### so many parts, as bits -/
/-! ### the fewest, reckoned -/
/-! ### papers -/
section
variable {G : Gx} {H : Hp} {Q : VK} {E : XK} {a t : Addr} {ks : List V}
def revA (K : Fg) (x : V) (H : Hp) (Q : VK) : Prop := ∃ a xs, x = .ref a ∧ SqL K H a xs ∧ ∀ p, H p = none → Q (.ref p) (upd H p (.lst xs.reverse))
theorem i_revL {σ : L2.St} {te : TE} (h : te σ H fun x H1 => revA G.K x H1 Q) : tRevL G.K te σ H Q := h
end
/-! ### given lists -/
theorem KdL.more {ks : List V} {v : V} (h : KdL ks) (h4 : ks.length ≤ 4) (hv : v ∈ kinds11.filter fun v => decide (v ∉ ks)) : KdL (ks ++ [v]) := by
  obtain ⟨h1, h2⟩ := List.mem_filter.mp hv
  have h2 := of_decide_eq_true h2
  refine ⟨fun w hw => ?_, ?_, by simp, by simp; omega⟩
  · rcases List.mem_append.mp hw with z | z
    · exact h.kd w z
    · rw [List.mem_singleton.mp z]; exact kinds11_kd h1
  · rw [List.nodup_append]
    refine ⟨h.nd, by simp, fun a ha b hb => ?_⟩
    rw [List.mem_singleton.mp hb]
    exact fun z => h2 (z ▸ ha)
section
variable {G : Gx} {H : Hp} {Q : VK} {E : XK} {a : Addr} {ks : List V}
/-- [kind for kind in all kinds if kind not in kinds] -/
theorem lc_rest {σ : L2.St} {iv ik : Nat} {p : Addr} (h2 : ∀ x, ((wipe σ [iv]).set iv (some x))[iv]? = some (some x)) (h4 : ∀ x, ((wipe σ [iv]).set iv (some x))[ik]? = some (some (.ref a))) (h3 : ∀ x, wipe ((wipe σ [iv]).set iv (some x)) [iv] = wipe σ [iv])
    (e : H p = some (.lst kinds11)) (ha : H a = some (.lst ks)) (hk : ∀ v ∈ ks, IsKd v) (h : ∀ q H', Same H H' → H q = none → H' q = some (.lst (kinds11.filter fun v => decide (v ∉ ks))) → Q (.ref q) H') :
    LcK (Itl G.K p) (gName iv) (tTest (tOp (uNotIn G.K) (tVar iv) (tVar ik))) (tVar iv) [iv] σ H Q := by
  refine lck_pure walk_list (by decide) (fun i => (kinds11[i]?).bind fun v => if v ∈ ks then none else some v) (fun H' s => sq_of (s _ _ e)) (fun i x H3 H4 KK NN hi s y hK hN => ?_) (fun q H5 nq s5 eq => ?_)
  · obtain ⟨rfl, hx⟩ := y
    have hxk := kinds11_kd (List.mem_of_getElem? hx)
    wtm_at "w"
    refine ⟨h3 _, ?_⟩
    wtm_at "w"
    refine i_var (h2 _) ?_
    refine i_var (h4 _) ?_
    refine i_ninL (sq_of (s _ _ ha)) (kd_flat hxk) (kds_flat hk) ?_
    rw [inV_kd hxk hk]
    wtm_at "w"
    refine i_iteN (fun hz => ?_) (fun hz => ?_)
    · exact hN _ (by rw [hx]; show (if x ∈ ks then none else some x) = none; rw [if_pos hz]) (fun _ _ z => z)
    · refine i_var (h2 _) ?_
      exact hK _ _ (by rw [hx]; show (if x ∈ ks then none else some x) = some x; rw [if_neg hz]) (fun _ _ z => z)
  · rw [given_list] at eq
    refine h q H5 s5 nq ?_
    rw [eq]
    congr 2
    have : ∀ l : List V, l.filterMap (fun v => if v ∈ ks then none else some v) = l.filter fun v => decide (v ∉ ks) := by
      intro l
      induction l with
      | nil => rfl
      | cons x r ih =>
        by_cases z : x ∈ ks
        · rw [List.filterMap_cons_none (by rw [if_pos z]), List.filter_cons_of_neg (by simpa using z), ih]
        · rw [List.filterMap_cons_some (by rw [if_neg z]), List.filter_cons_of_pos (by simpa using z), ih]
    exact this _
end
/-! ### a Keeper -/
def kfs (ol : Addr) (b : Int) : List (Str × V) := putF "bound" (.int b) (putF "own" (.ref ol) [])
theorem kfs_own (ol : Addr) (b : Int) : (kfs ol b).lookup ("own" : Str) = some (.ref ol) := by
  unfold kfs
  rw [lookup_putF, if_neg (by decide +kernel), lookup_putF, if_pos rfl]
theorem kfs_bound (ol : Addr) (b : Int) : (kfs ol b).lookup ("bound" : Str) = some (.int b) := by
  unfold kfs
  rw [lookup_putF, if_pos rfl]
theorem kfs_no (ol : Addr) (b : Int) {m : Str} (h1 : ¬ m = "bound") (h2 : ¬ m = "own") : (kfs ol b).lookup m = none := by
  unfold kfs
  rw [lookup_putF, if_neg h1, lookup_putF, if_neg h2]
  rfl
structure Kpr (C : Addr) (H : Hp) (kk ol : Addr) (b : Nat) (ks : List V) : Prop where
  o : ∃ dx, H kk = some (.ins C dx (kfs ol b))
  l : H ol = some (.lst ks)
theorem Kpr.same {C : Addr} {H H' : Hp} {kk ol : Addr} {b : Nat} {ks : List V} (k : Kpr C H kk ol b ks) (s : Same H H') : Kpr C H' kk ol b ks := by
  obtain ⟨dx, e⟩ := k.o
  exact ⟨⟨dx, s _ _ e⟩, s _ _ k.l⟩
theorem Kpr.ne {C : Addr} {H : Hp} {kk ol : Addr} {b : Nat} {ks : List V} (k : Kpr C H kk ol b ks) : kk ≠ ol := fun z => by
  obtain ⟨dx, e⟩ := k.o
  have := k.l
  rw [← z, e] at this
  cases this
theorem Kpr.keep {R : Addr → Prop} {C : Addr} {H H' : Hp} {kk ol : Addr} {b : Nat} {ks : List V} (k : Kpr C H kk ol b ks) (s : Keep R H H') (h1 : ¬ R kk) (h2 : ¬ R ol) : Kpr C H' kk ol b ks := by
  obtain ⟨dx, e⟩ := k.o
  exact ⟨⟨dx, s _ _ h1 e⟩, s _ _ h2 k.l⟩
/-- the most that is needed -/
structure IsMost (L : List Int) (b : Nat) (m : Int) : Prop where
  ex : ∃ u ≤ b, fewF L u = m
  ge : ∀ u ≤ b, fewF L u ≤ m
theorem IsMost.uniq {L : List Int} {b : Nat} {m n : Int} (x : IsMost L b m) (y : IsMost L b n) : m = n := by
  obtain ⟨u, hu, e⟩ := x.ex
  obtain ⟨v, hv, f⟩ := y.ex
  have := x.ge v hv
  have := y.ge u hu
  omega
section
variable {G : Gx} {H : Hp} {Q : VK} {E : XK} {kk ol : Addr} {ks : List V} {b : Nat}
theorem i_maxTab {K : Fg} {p : Addr} {f : Nat → Int} {L : List Int} (e : H p = some (.lst (tab (b + 1) fun u => .int (fewF L u)))) (h : ∀ m, IsMost L b m → Q (.int m) H) : uMax K [.ref p] H Q := by
  refine i_maxL (ns := (List.range (b + 1)).map (fewF L)) (by rw [← tab_ints]; exact sq_of e) (by simp) fun m h1 h2 => ?_
  obtain ⟨u, hu, rfl⟩ := List.mem_map.mp h1
  exact h _ ⟨⟨u, by have := List.mem_range.mp hu; omega, rfl⟩, fun v hv => h2 _ (List.mem_map.mpr ⟨v, List.mem_range.mpr (by omega), rfl⟩)⟩
theorem u_Keeper_needs (k : Kpr (G.C "Keeper") H kk ol b ks) (hk : KdL ks) (hb : b ≤ 200) (h : ∀ p L H', Same H H' → H p = none → StockOf ks b L → H' p = some (.lst (tab (b + 1) fun u => .int (fewF L u))) → Q (.ref p) H') : sp_Keeper_needs G [.ref kk] H Q E := by
  refine ⟨rfl, ?_⟩
  unfold t_Keeper_needs
  obtain ⟨dx, e⟩ := k.o
  have hk5 := hk.hi
  wtm_at "w"
  refine i_flA e (kfs_own _ _) ?_
  wtm_at "w"
  refine i_flA e (kfs_bound _ _) ?_
  wtm_at "w"
  refine u_stock_of (sq_of k.l) hk.kd (by omega) (by omega) (by omega) fun sp L H1 s1 nsp e1 hL => ?_
  wtm_at "w"
  refine i_flA (s1 _ _ e) (kfs_bound _ _) ?_
  wtm_at "w"
  have hlen := hL.len hk.kd (by omega)
  refine u_fewest_by e1 (fun p hp => hL.pos hk.kd hp) (fun z => stock_one hL hk (by omega)) (by omega) (by omega) fun p H2 s2 np e2 => ?_
  exact h p L H2 (s1.trans s2) (s1.free np) hL e2
theorem u_Keeper_kinds (k : Kpr (G.C "Keeper") H kk ol b ks) (h : ∀ p, H p = none → Q (.ref p) (upd H p (.lst ks))) : sp_Keeper_kinds G [.ref kk] H Q E := by
  refine ⟨rfl, ?_⟩
  unfold t_Keeper_kinds
  obtain ⟨dx, e⟩ := k.o
  wtm_at "w"
  refine i_flA e (kfs_own _ _) ?_
  wtm_at "w"
  exact i_ulist (sq_of k.l) h
theorem u_Keeper_stock (k : Kpr (G.C "Keeper") H kk ol b ks) (hk : KdL ks) (hb : b ≤ 200) (h : ∀ p L H', Same H H' → H p = none → H' p = some (.lst (L.map V.int)) → StockOf ks b L → Q (.ref p) H') : sp_Keeper_stock G [.ref kk] H Q E := by
  refine ⟨rfl, ?_⟩
  unfold t_Keeper_stock
  obtain ⟨dx, e⟩ := k.o
  have hk5 := hk.hi
  wtm_at "w"
  refine i_flA e (kfs_own _ _) ?_
  wtm_at "w"
  refine i_flA e (kfs_bound _ _) ?_
  wtm_at "w"
  exact u_stock_of (sq_of k.l) hk.kd (by omega) (by omega) (by omega) h
theorem u_Keeper_fewest {n : Nat} (k : Kpr (G.C "Keeper") H kk ol b ks) (hk : KdL ks) (hb : b ≤ 200) (hn : n ≤ b) (h : ∀ L H', Same H H' → StockOf ks b L → Q (.int (fewF L n)) H') : sp_Keeper_fewest G [.ref kk, .int n] H Q E := by
  refine ⟨rfl, ?_⟩
  unfold t_Keeper_fewest
  obtain ⟨dx, e⟩ := k.o
  wtm_at "wa"
  refine u_is_whole_int ?_
  wtm_at "wa"
  refine i_flA e (kfs_bound _ _) ?_
  wtm_at "wa"
  rw [decide_eq_true (show (n : Int) ≤ (b : Int) by omega)]
  wtm_at "wa"
  refine i_mtA e (kfs_no _ _ (by decide +kernel) (by decide +kernel)) ?_
  wtm_at "wa"
  refine u_Keeper_needs k hk hb fun p L H1 s1 np hL e1 => ?_
  wtm_at "wa"
  refine i_ixL (sq_of e1) (tab_at (i := n) rfl (by omega)) ?_
  exact h L H1 s1 hL
theorem keep_same {R : Addr → Prop} {H0 H H' : Hp} (k : Keep R H0 H) (s : Same H H') : Keep R H0 H' := fun a o n e => s _ _ (k a o n e)
theorem u_Keeper_come {v : V} (k : Kpr (G.C "Keeper") H kk ol b ks) (hk : KdL ks) (hb : b ≤ 200) (h4 : ks.length ≤ 4) (hv : IsKd v) (hkv : KdL (ks ++ [v])) (h : ∀ T L L' m m' H', Keep (fun a => a = ol) H H' → Kpr (G.C "Keeper") H' kk ol b (ks ++ [v]) → H T = none → H' T = some (.tup [.int m, .int m']) → StockOf ks b L → IsMost L b m → StockOf (ks ++ [v]) b L' → IsMost L' b m' → Q (.ref T) H') : sp_Keeper_come G [.ref kk, v] H Q E := by
  refine ⟨rfl, ?_⟩
  unfold t_Keeper_come
  obtain ⟨dx, e⟩ := k.o
  have hno : v ∉ ks := fun z => by
    have := hkv.nd
    rw [List.nodup_append] at this
    exact this.2.2 v z v (by simp) rfl
  wtm_at "w"
  refine i_flA e (kfs_own _ _) ?_
  wtm_at "w"
  refine i_lenL (sq_of k.l) ?_
  wtm_at "w"
  refine i_F (by simp; omega) ?_
  wtm_at "wa"
  refine u_is_kind hv ?_
  wtm_at "wa"
  refine i_flA e (kfs_own _ _) ?_
  refine i_inL (sq_of k.l) (kd_flat hv) (kds_flat hk.kd) ?_
  rw [inV_kd hv hk.kd, decide_eq_false hno]
  wtm_at "wa"
  refine i_mtA e (kfs_no _ _ (by decide +kernel) (by decide +kernel)) ?_
  wtm_at "wa"
  refine u_Keeper_needs k hk hb fun p L H1 s1 np hL e1 => ?_
  wtm_at "wa"
  refine i_maxTab (f := fewF L) e1 fun m hm => ?_
  wtm_at "wa"
  have k1 := k.same s1
  refine i_flA (s1 _ _ e) (kfs_own _ _) ?_
  refine i_tyL k1.l ?_
  wtm_at "wa"
  refine i_app k1.l (sz_lt (by omega)) ?_
  have kp2 : Keep (fun a => a = ol) H (upd H1 ol (.lst (ks ++ [v]))) := keep_in (fun a o _ z => s1 a o z) rfl
  have e2 : (upd H1 ol (.lst (ks ++ [v]))) kk = some (.ins (G.C "Keeper") dx (kfs ol b)) := upd_oth k.ne (s1 _ _ e)
  have k2 : Kpr (G.C "Keeper") (upd H1 ol (.lst (ks ++ [v]))) kk ol b (ks ++ [v]) := ⟨⟨dx, e2⟩, upd_same⟩
  generalize upd H1 ol (.lst (ks ++ [v])) = H2 at kp2 e2 k2 ⊢
  wtm_at "wa"
  refine i_mtA e2 (kfs_no _ _ (by decide +kernel) (by decide +kernel)) ?_
  wtm_at "wa"
  refine u_Keeper_needs k2 hkv hb fun p3 L3 H3 s3 np3 hL3 e3 => ?_
  wtm_at "wa"
  refine i_maxTab (f := fewF L3) e3 fun m3 hm3 => ?_
  wtm_at "wa"
  refine i_new (by simp) fun T nT => ?_
  have kp3 := keep_same kp2 s3
  refine h T L L3 m m3 _ (keep_same kp3 (same_new nT)) ((k2.same s3).same (same_new nT)) ?_ upd_same hL hm hL3 hm3
  cases eT : H T with
  | none => rfl
  | some o =>
    by_cases z : T = ol
    · subst z
      rw [s3 _ _ k2.l] at nT; cases nT
    · rw [kp3 T o z eT] at nT; cases nT
theorem u_Keeper_go {j : Nat} {v : V} (k : Kpr (G.C "Keeper") H kk ol b ks) (hk : KdL ks) (hb : b ≤ 200) (h2 : 2 ≤ ks.length) (hj : ks[j]? = some v) (hkv : KdL (ks.eraseIdx j)) (h : ∀ T L L' m m' H', Keep (fun a => a = ol) H H' → Kpr (G.C "Keeper") H' kk ol b (ks.eraseIdx j) → H T = none → H' T = some (.tup [.int m, .int m']) → StockOf ks b L → IsMost L b m → StockOf (ks.eraseIdx j) b L' → IsMost L' b m' → Q (.ref T) H') : sp_Keeper_go G [.ref kk, v] H Q E := by
  refine ⟨rfl, ?_⟩
  unfold t_Keeper_go
  obtain ⟨dx, e⟩ := k.o
  have hm := List.mem_of_getElem? hj
  have hv := hk.kd v hm
  have hk5 := hk.hi
  wtm_at "wa"
  refine u_is_kind hv ?_
  wtm_at "wa"
  refine i_flA e (kfs_own _ _) ?_
  refine i_ninL (sq_of k.l) (kd_flat hv) (kds_flat hk.kd) ?_
  rw [inV_kd hv hk.kd, decide_eq_true hm]
  wtm_at "wa"
  refine i_flA e (kfs_own _ _) ?_
  wtm_at "wa"
  refine i_lenL (sq_of k.l) ?_
  wtm_at "wa"
  refine i_F (by simp; omega) ?_
  wtm_at "wa"
  refine i_mtA e (kfs_no _ _ (by decide +kernel) (by decide +kernel)) ?_
  wtm_at "wa"
  refine u_Keeper_needs k hk hb fun p L H1 s1 np hL e1 => ?_
  wtm_at "wa"
  refine i_maxTab (f := fewF L) e1 fun m hm => ?_
  wtm_at "wa"
  have k1 := k.same s1
  refine i_flA (s1 _ _ e) (kfs_own _ _) ?_
  refine i_tyL k1.l ?_
  wtm_at "wa"
  refine i_rmV (j := j) k1.l (kd_flat hv) (kds_flat hk.kd) hj (by rw [eqV_kd hv hv]; simp) (fun q z' hq hz' => ?_) ?_
  · rw [eqV_kd (hk.kd _ (List.mem_of_getElem? hz')) hv]
    refine decide_eq_false fun z => ?_
    subst z
    obtain ⟨q1, q2⟩ := List.getElem?_eq_some_iff.mp hz'
    obtain ⟨j1, j2⟩ := List.getElem?_eq_some_iff.mp hj
    have := (List.pairwise_iff_getElem.mp hk.nd) q j q1 j1 hq
    exact this (q2.trans j2.symm)
  have kp2 : Keep (fun a => a = ol) H (upd H1 ol (.lst (ks.eraseIdx j))) := keep_in (fun a o _ z => s1 a o z) rfl
  have e2 : (upd H1 ol (.lst (ks.eraseIdx j))) kk = some (.ins (G.C "Keeper") dx (kfs ol b)) := upd_oth k.ne (s1 _ _ e)
  have k2 : Kpr (G.C "Keeper") (upd H1 ol (.lst (ks.eraseIdx j))) kk ol b (ks.eraseIdx j) := ⟨⟨dx, e2⟩, upd_same⟩
  generalize upd H1 ol (.lst (ks.eraseIdx j)) = H2 at kp2 e2 k2 ⊢
  wtm_at "wa"
  refine i_mtA e2 (kfs_no _ _ (by decide +kernel) (by decide +kernel)) ?_
  wtm_at "wa"
  refine u_Keeper_needs k2 hkv hb fun p3 L3 H3 s3 np3 hL3 e3 => ?_
  wtm_at "wa"
  refine i_maxTab (f := fewF L3) e3 fun m3 hm3 => ?_
  wtm_at "wa"
  refine i_new (by simp) fun T nT => ?_
  have kp3 := keep_same kp2 s3
  refine h T L L3 m m3 _ (keep_same kp3 (same_new nT)) ((k2.same s3).same (same_new nT)) ?_ upd_same hL hm hL3 hm3
  cases eT : H T with
  | none => rfl
  | some o =>
    by_cases z : T = ol
    · subst z
      rw [s3 _ _ k2.l] at nT; cases nT
    · rw [kp3 T o z eT] at nT; cases nT
theorem u_Keeper_make {hd : Addr} (ha : H hd = some (.lst ks)) (hk : KdL ks) (hb : b ≤ 200) (h : ∀ kk ol H', Same H H' → H kk = none → H ol = none → Kpr (G.C "Keeper") H' kk ol b ks → Q (.ref kk) H') : MkA (G.C "Keeper") (sp_Keeper___init__ G) E [.ref hd, .int b] H Q := by
  intro x dx nx ndx nex
  refine ⟨rfl, ?_⟩
  unfold t_Keeper___init__
  have s1 : Same H (upd (upd H dx (.own x)) x (.ins (G.C "Keeper") dx [])) := fun a o e => by
    rw [upd_ne (ne_of_none e nx), upd_ne (ne_of_none e ndx)]; exact e
  have e1 : (upd (upd H dx (.own x)) x (.ins (G.C "Keeper") dx [])) x = some (.ins (G.C "Keeper") dx []) := upd_same
  generalize upd (upd H dx (.own x)) x (.ins (G.C "Keeper") dx []) = H1 at s1 e1 ⊢
  wtm_at "w"
  refine u_need_kinds (s1 _ _ ha) hk fun H2 s2 => ?_
  wtm_at "w"
  refine u_need_to_most (by omega) (by omega) ?_
  wtm_at "w"
  have s12 := s1.trans s2
  refine i_ulist (sq_of (s12 _ _ ha)) fun ol nol => ?_
  wtm_at "w"
  have nol0 := s12.free nol
  have hxo : x ≠ ol := ne_of_none (s2 _ _ e1) nol
  refine i_flsA (upd_old nol (s2 _ _ e1)) (by simp) ?_
  wtm_at "w"
  refine i_flsA upd_same (by simp [putF]) ?_
  refine ⟨rfl, h x ol _ ?_ nx nol0 ⟨⟨dx, upd_same⟩, ?_⟩⟩
  · intro a o e
    have n1 : a ≠ x := ne_of_none e nx
    rw [upd_ne n1, upd_ne n1, upd_ne (ne_of_none e nol0)]
    exact s12 _ _ e
  · rw [upd_ne hxo.symm, upd_ne hxo.symm, upd_same]
theorem u_law_rest {a : Addr} (ha : H a = some (.lst ks)) (hk : ∀ v ∈ ks, IsKd v) (h : ∀ q H', Same H H' → H q = none → H' q = some (.lst (kinds11.filter fun v => decide (v ∉ ks))) → Q (.ref q) H') : sp_law_rest G [.ref a] H Q E := by
  refine ⟨rfl, ?_⟩
  unfold t_law_rest
  wtm_at "w"
  refine i_new (by simp) fun q1 nq1 => ?_
  have s1 : Same H (upd H q1 (.lst kinds11)) := same_new nq1
  have e1 : (upd H q1 (.lst kinds11)) q1 = some (.lst kinds11) := upd_same
  show LstA _ _ (upd H q1 (.lst kinds11)) _
  generalize upd H q1 (.lst kinds11) = H1 at s1 e1 ⊢
  refine i_lstA (sq_of e1) ?_
  refine lc_rest (fun _ => rfl) (fun _ => rfl) (fun _ => rfl) e1 (s1 _ _ ha) hk fun q2 H2 s2 n2 e2 => ?_
  exact h q2 H2 (s1.trans s2) (s1.free n2) e2
end
/-! ### how many need so many -/
noncomputable def cntF (L : List Int) (b : Nat) (c : Int) : Nat := ((List.range (b + 1)).filter fun u => decide (fewF L u = c)).length
section
variable {H : Hp} {Q : VK} {σ : L2.St} {ty td : TE} {f : Addr} {ks : List Int} {n : Int}
theorem DI.ne {H : Hp} {f g : Addr} {ks : List Int} {xs : List V} (d : DI H f ks) (e : H g = some (.lst xs)) : f ≠ g := fun z => by
  obtain ⟨kvs, ek, _⟩ := d
  rw [z, e] at ek; cases ek
theorem DI.some {H : Hp} {f : Addr} {ks : List Int} (d : DI H f ks) : ∃ o, H f = some o := by
  obtain ⟨kvs, e, _⟩ := d
  exact ⟨_, e⟩
end
/-- the numbers of a level, each once -/
structure LevN (L : List Int) (b : Nat) (c : Int) (xs : List Int) : Prop where
  nd : xs.Nodup
  mem : ∀ x, x ∈ xs ↔ ∃ u : Nat, x = u ∧ u ≤ b ∧ fewF L u = c
theorem LevN.len {L : List Int} {b : Nat} {c : Int} {xs : List Int} (l : LevN L b c xs) : xs.length = cntF L b c := by
  have e : xs.Perm (((List.range (b + 1)).filter fun u => decide (fewF L u = c)).map fun (u : Nat) => (u : Int)) := by
    refine (List.perm_ext_iff_of_nodup l.nd ?_).mpr fun x => ?_
    · unfold List.Nodup
      rw [List.pairwise_map]
      exact ((List.nodup_range).filter _).imp fun h z => h (by exact_mod_cast z)
    · rw [l.mem, List.mem_map]
      constructor
      · rintro ⟨u, rfl, hu, e⟩
        exact ⟨u, List.mem_filter.mpr ⟨List.mem_range.mpr (by omega), decide_eq_true e⟩, rfl⟩
      · rintro ⟨u, hu, rfl⟩
        obtain ⟨h1, h2⟩ := List.mem_filter.mp hu
        exact ⟨u, rfl, by have := List.mem_range.mp h1; omega, of_decide_eq_true h2⟩
  rw [e.length_eq, List.length_map]; rfl
/-! ### a Keeper asked -/
theorem deck_keepA {R : Addr → Prop} {d pl : Addr} {ps : List Addr} {H H' : Hp} (i : DkI d pl ps H) (k : Keep R H H') (hd : ∀ a, DkR d pl ps a → ¬ R a) : DkI d pl ps H' := by
  refine ⟨?_, k _ _ (hd pl (.inr (.inl rfl))) i.l, i.ne, i.le, fun p hp => ?_⟩
  · obtain ⟨m, e⟩ := i.n; exact ⟨m, k _ _ (hd d (.inl rfl)) e⟩
  · obtain ⟨c, f, m, e⟩ := i.p p hp; exact ⟨c, f, m, k _ _ (hd p (.inr (.inr hp))) e⟩
section
variable {G : Gx} {H : Hp} {Q : VK} {E : XK} {d pl : Addr} {ps : List Addr} {kk ol kp : Addr} {ks : List V} {b : Nat}
theorem u_law_asked_all (i : DkI d pl ps H) (k : Kpr (G.C "Keeper") H kk ol b ks) (r1 : ¬ DkR d pl ps kk) (r2 : ¬ DkR d pl ps ol) (ek : At (deckW d pl ps) H kp (.lst ks)) (hk : KdL ks) (hb : b ≤ 200)
    (h : ∀ H', Kp (deckW d pl ps) H H' → Q (.bl true) H') : sp_law_asked_all G [.ref d, .ref kk, .ref kp, .int b] H Q E := by
  refine ⟨rfl, ?_⟩
  unfold t_law_asked_all
  have hk5 := hk.hi
  wtm_at "w"
  refine u_law_draw i (by decide) (by decide) fun r H1 ra rb k1 => ?_
  wtm_at "w"
  refine i_new (by simp) fun q0 n0 => ?_
  wtm_at "w"
  refine i_new (by simp) fun q1 n1 => ?_
  wtm_at "w"
  refine i_new (by simp) fun q2 n2 => ?_
  wtm_at "w"
  refine i_new (by simp) fun q3 n3 => ?_
  wtm_at "w"
  refine i_new (by simp) fun q4 n4 => ?_
  wtm_at "w"
  refine i_new (by simp) fun qo no => ?_
  wtm_at "w"
  have g0 := upd_old (u := .lst [.ref q0, .ref q1, .ref q2, .ref q3, .ref q4]) no (upd_old (u := .lst [.int 2, .int 1, .int 0]) n4 (upd_old (u := .lst [.int 0, .int 1, .int 2]) n3 (upd_old (u := .lst [.int 2]) n2 (upd_old (u := .lst [.int 1]) n1 (upd_same (H := H1) (a := q0) (o := .lst [.int 0]))))))
  have g1 := upd_old (u := .lst [.ref q0, .ref q1, .ref q2, .ref q3, .ref q4]) no (upd_old (u := .lst [.int 2, .int 1, .int 0]) n4 (upd_old (u := .lst [.int 0, .int 1, .int 2]) n3 (upd_old (u := .lst [.int 2]) n2 (upd_same (H := upd H1 q0 (.lst [.int 0])) (a := q1) (o := .lst [.int 1])))))
  have g2 := upd_old (u := .lst [.ref q0, .ref q1, .ref q2, .ref q3, .ref q4]) no (upd_old (u := .lst [.int 2, .int 1, .int 0]) n4 (upd_old (u := .lst [.int 0, .int 1, .int 2]) n3 (upd_same (H := upd (upd H1 q0 (.lst [.int 0])) q1 (.lst [.int 1])) (a := q2) (o := .lst [.int 2]))))
  have g3 := upd_old (u := .lst [.ref q0, .ref q1, .ref q2, .ref q3, .ref q4]) no (upd_old (u := .lst [.int 2, .int 1, .int 0]) n4 (upd_same (H := upd (upd (upd H1 q0 (.lst [.int 0])) q1 (.lst [.int 1])) q2 (.lst [.int 2])) (a := q3) (o := .lst [.int 0, .int 1, .int 2])))
  have g4 := upd_old (u := .lst [.ref q0, .ref q1, .ref q2, .ref q3, .ref q4]) no (upd_same (H := upd (upd (upd (upd H1 q0 (.lst [.int 0])) q1 (.lst [.int 1])) q2 (.lst [.int 2])) q3 (.lst [.int 0, .int 1, .int 2])) (a := q4) (o := .lst [.int 2, .int 1, .int 0]))
  have s12 : Same H1 (upd (upd (upd (upd (upd (upd H1 q0 (.lst [.int 0])) q1 (.lst [.int 1])) q2 (.lst [.int 2])) q3 (.lst [.int 0, .int 1, .int 2])) q4 (.lst [.int 2, .int 1, .int 0])) qo (.lst [.ref q0, .ref q1, .ref q2, .ref q3, .ref q4])) := ((((((same_new n0).trans (same_new n1)).trans (same_new n2)).trans (same_new n3)).trans (same_new n4)).trans (same_new no))
  have eo : (upd (upd (upd (upd (upd (upd H1 q0 (.lst [.int 0])) q1 (.lst [.int 1])) q2 (.lst [.int 2])) q3 (.lst [.int 0, .int 1, .int 2])) q4 (.lst [.int 2, .int 1, .int 0])) qo (.lst [.ref q0, .ref q1, .ref q2, .ref q3, .ref q4])) qo = some (.lst [.ref q0, .ref q1, .ref q2, .ref q3, .ref q4]) := upd_same
  have nn1 := (same_new (o := .lst [.int 0]) n0).free n1
  have nn2 := ((same_new (o := .lst [.int 0]) n0).trans (same_new (o := .lst [.int 1]) n1)).free n2
  have nn3 := (((same_new (o := .lst [.int 0]) n0).trans (same_new (o := .lst [.int 1]) n1)).trans (same_new (o := .lst [.int 2]) n2)).free n3
  have nn4 := ((((same_new (o := .lst [.int 0]) n0).trans (same_new (o := .lst [.int 1]) n1)).trans (same_new (o := .lst [.int 2]) n2)).trans (same_new (o := .lst [.int 0, .int 1, .int 2]) n3)).free n4
  generalize upd (upd (upd (upd (upd (upd H1 q0 (.lst [.int 0])) q1 (.lst [.int 1])) q2 (.lst [.int 2])) q3 (.lst [.int 0, .int 1, .int 2])) q4 (.lst [.int 2, .int 1, .int 0])) qo (.lst [.ref q0, .ref q1, .ref q2, .ref q3, .ref q4]) = H2 at g0 g1 g2 g3 g4 s12 eo ⊢
  obtain ⟨q, xs, eq, nq, hq, hxs⟩ : ∃ q xs, atI [V.ref q0, .ref q1, .ref q2, .ref q3, .ref q4] r = some (.ref q) ∧ H1 q = none ∧ H2 q = some (.lst xs) ∧ ∀ x ∈ xs, x = V.int 0 ∨ x = V.int 1 ∨ x = V.int 2 := by
    have hr : r = 0 ∨ r = 1 ∨ r = 2 ∨ r = 3 ∨ r = 4 := by omega
    rcases hr with rfl | rfl | rfl | rfl | rfl
    · exact ⟨q0, _, rfl, n0, g0, by simp⟩
    · exact ⟨q1, _, rfl, nn1, g1, by simp⟩
    · exact ⟨q2, _, rfl, nn2, g2, by simp⟩
    · exact ⟨q3, _, rfl, nn3, g3, by simp⟩
    · exact ⟨q4, _, rfl, nn4, g4, by simp⟩
  have k2 := k1.same s12
  have aq : At (deckW d pl ps) H2 q (.lst xs) := ⟨hq, Wd.notR k1.i nq⟩
  refine i_ixL (sq_of eo) eq ?_
  refine i_lstA (sq_of aq.h) ?_
  refine lk_list (fun j σ H' => ∃ y5 y6 y7, σ = [some (.ref d), some (.ref kk), some (.ref kp), some (.int b), some (.int r), y5, y6, y7] ∧ Kp (deckW d pl ps) H2 H') ⟨_, _, _, rfl, Kp.refl k2.i⟩ (fun j σ H' _ ⟨_, _, _, _, k⟩ => sq_of (k.at aq).h) ?_ ?_
  · rintro j x σ H3 hj ⟨y5, y6, y7, rfl, k3⟩
    have k03 := k2.trans k3
    have kr3 : Kpr (G.C "Keeper") H3 kk ol b ks := k.keep k03.k r1 r2
    obtain ⟨dx, eo3⟩ := kr3.o
    have ek3 := k03.at ek
    rcases hxs x (List.mem_of_getElem? hj) with rfl | rfl | rfl
    · wtm_at "wa"
      refine i_mtA eo3 (kfs_no _ _ (by decide +kernel) (by decide +kernel)) ?_
      wtm_at "wa"
      refine u_Keeper_kinds kr3 fun p np => ?_
      wtm_at "wa"
      refine i_neL (sq_of upd_same) (sq_of (upd_old np ek3.h)) (kds_sV hk.kd) (kds_sV hk.kd) ?_
      wtm_at "wa"
      refine i_F (by simp) ?_
      wtm_at "wa"
      exact ⟨_, _, _, rfl, k3.new np⟩
    · wtm_at "wa"
      refine i_mtA eo3 (kfs_no _ _ (by decide +kernel) (by decide +kernel)) ?_
      wtm_at "wa"
      refine u_Keeper_stock kr3 hk hb fun p L H4 s4 np e4 hL => ?_
      wtm_at "wa"
      refine u_law_stock (s4 _ _ ek3.h) hk.kd (by omega) (by omega) (by omega) fun p1 L2 H5 s5 n5 e5 hL2 => ?_
      have eL := hL.uniq hL2
      subst eL
      refine i_neL (sq_of (s5 _ _ e4)) (sq_of e5) (ints_sV _) (ints_sV _) ?_
      wtm_at "wa"
      refine i_F (by simp) ?_
      wtm_at "wa"
      exact ⟨_, _, _, rfl, k3.same (s4.trans s5)⟩
    · wtm_at "wa"
      refine u_law_stock ek3.h hk.kd (by omega) (by omega) (by omega) fun p1 L H4 s4 n4 e4 hL => ?_
      wtm_at "wa"
      have hlen := hL.len hk.kd (by omega)
      refine u_law_needs e4 (hL.lim hk.kd (by omega)) (fun u u1 u2 => stock_one hL hk (by omega)) (by omega) (by omega) fun due H5 s5 n5 e5 => ?_
      have s35 := s4.trans s5
      have k5 := k3.same s35
      have ad : At (deckW d pl ps) H5 due (.lst (tab (b + 1) fun u => .int (fewF L u))) := ⟨e5, Wd.notR (k3.same s4).i n5⟩
      wtm_at "wa"
      refine u_law_draw k5.i (by omega) (by omega) fun rr H6 ra rb k6 => ?_
      wtm_at "wa"
      refine i_new (by simp) fun lp nlp => ?_
      have k57 := k6.new (o := .lst [.int b, .int rr]) nlp
      have e7 : (upd H6 lp (.lst [.int b, .int rr])) lp = some (.lst ([(b : Int), rr].map V.int)) := upd_same
      generalize upd H6 lp (.lst [.int b, .int rr]) = H7 at k57 e7 ⊢
      have k07 := (k03.same s35).trans k57
      have kr7 : Kpr (G.C "Keeper") H7 kk ol b ks := k.keep k07.k r1 r2
      have ad7 := k57.at ad
      refine i_lstA (sq_of e7) ?_
      refine lk_list (fun j2 σ H' => ∃ y7, σ = [some (.ref d), some (.ref kk), some (.ref kp), some (.int b), some (.int r), some (.int 2), some (.ref due), y7] ∧ Same H7 H') ⟨_, rfl, fun _ _ z => z⟩ (fun _ _ _ _ ⟨_, _, s⟩ => sq_of (s _ _ e7)) ?_ ?_
      · rintro j2 x σ H8 hj2 ⟨y7, rfl, s8⟩
        rw [List.getElem?_map] at hj2
        obtain ⟨n, hn, rfl⟩ := Option.map_eq_some_iff.mp hj2
        obtain ⟨m, rfl, hm⟩ : ∃ m : Nat, n = (m : Int) ∧ m ≤ b := by
          have hx := List.mem_of_getElem? hn
          simp only [List.mem_cons, List.not_mem_nil, or_false] at hx
          rcases hx with rfl | rfl
          · exact ⟨b, rfl, by omega⟩
          · exact ⟨n.toNat, by omega, by omega⟩
        have kr8 := kr7.same s8
        obtain ⟨dx8, eo8⟩ := kr8.o
        wtm_at "wa"
        refine i_mtA eo8 (kfs_no _ _ (by decide +kernel) (by decide +kernel)) ?_
        wtm_at "wa"
        refine u_Keeper_fewest kr8 hk hb hm fun L2 H9 s9 hL2 => ?_
        have eL := hL.uniq hL2
        subst eL
        wtm_at "wa"
        refine i_ixL (sq_of (s9 _ _ (s8 _ _ ad7.h))) (tab_at (i := m) rfl (by omega)) ?_
        wtm_at "wa"
        refine i_F (by simp) ?_
        wtm_at "wa"
        exact ⟨_, rfl, s8.trans s9⟩
      · rintro σ H8 ⟨y7, rfl, s8⟩
        exact ⟨_, _, _, rfl, (k5.trans k57).same s8⟩
  · rintro σ H3 ⟨y5, y6, y7, rfl, k3⟩
    wtm_at "w"
    exact h _ (k2.trans k3)
end
theorem i_seqJ {t u : TS} {D : Ends} {σ : L2.St} {H : Hp} (P : L2.St → Hp → Prop) (h2 : ∀ σ H, P σ H → u D σ H) (h1 : (∀ σ H, P σ H → u D σ H) → t { D with nx := u D } σ H) : tSeq t u D σ H := h1 h2
theorem i_ifJ {c : Bool} {t u : TS} {D : Ends} {σ : L2.St} {H : Hp} (P : L2.St → Hp → Prop) (h2 : ∀ σ H, P σ H → D.nx σ H) (h1 : c = true → (∀ σ H, P σ H → D.nx σ H) → t D σ H) (h3 : c = false → (∀ σ H, P σ H → D.nx σ H) → u D σ H) : if c = true then t D σ H else u D σ H := by
  cases c
  · exact i_F rfl (h3 rfl h2)
  · exact i_T rfl (h1 rfl h2)
theorem i_testJ {c : TT} {σ : L2.St} {H : Hp} {QB : Bool → Hp → Prop} (R : Bool → Hp → Prop) (h1 : ∀ b H', R b H' → QB b H') (h2 : (∀ b H', R b H' → QB b H') → c σ H QB) : c σ H QB := h2 h1
theorem kd_in {v : V} (h : IsKd v) : v ∈ kinds11 := by
  rcases h with ⟨s, rfl, h1, h2⟩ | rfl
  · have : s = 3 ∨ s = 4 ∨ s = 5 ∨ s = 6 ∨ s = 7 ∨ s = 8 ∨ s = 9 ∨ s = 10 ∨ s = 11 ∨ s = 12 := by omega
    rcases this with rfl | rfl | rfl | rfl | rfl | rfl | rfl | rfl | rfl | rfl <;> simp [kinds11]
  · simp [kinds11]
theorem rest_len {ks : List V} (h : KdL ks) : (kinds11.filter fun v => decide (v ∉ ks)).length = 11 - ks.length := by
  have e1 : (kinds11.filter fun v => decide (v ∈ ks)).length = ks.length := by
    refine List.Perm.length_eq ((List.perm_ext_iff_of_nodup (kinds11_nd.filter _) h.nd).mpr fun v => ?_)
    rw [List.mem_filter, decide_eq_true_iff]
    exact ⟨fun z => z.2, fun z => ⟨kd_in (h.kd v z), z⟩⟩
  have e2 := List.length_eq_countP_add_countP (p := fun v => decide (v ∈ ks)) (l := kinds11)
  rw [List.countP_eq_length_filter, List.countP_eq_length_filter] at e2
  have e3 : (kinds11.filter fun v => decide (v ∉ ks)) = kinds11.filter fun a => decide ¬ (decide (a ∈ ks)) = true := by
    refine List.filter_congr fun v _ => ?_
    by_cases z : v ∈ ks <;> simp [z]
  rw [e3]
  have e4 : kinds11.length = 11 := rfl
  omega
theorem i_neKd {K : Fg} {H : Hp} {Q : VK} {v w : V} (hv : IsKd v) (hw : IsKd w) (h : Q (.bl (!decide (v = w))) H) : uNe K v w H Q := by
  rcases hv with ⟨s, rfl, _⟩ | rfl <;> rcases hw with ⟨t, rfl, _⟩ | rfl
  · exact .inl ⟨rfl, h⟩
  · exact .inl ⟨rfl, h⟩
  · exact .inl ⟨rfl, h⟩
  · exact .inl ⟨rfl, h⟩
theorem erase_filter {v : V} : ∀ {ks : List V} {j : Nat}, ks.Nodup → ks[j]? = some v → ks.filter (fun w => decide (¬ w = v)) = ks.eraseIdx j
  | [], j, _, h => by simp at h
  | x :: r, 0, hn, h => by
    have e : x = v := by simpa using h
    subst e
    have hx := (List.nodup_cons.mp hn).1
    rw [List.filter_cons_of_neg (by simp), List.eraseIdx_cons_zero]
    refine List.filter_eq_self.mpr fun w hw => ?_
    exact decide_eq_true fun z => hx (z ▸ hw)
  | x :: r, j + 1, hn, h => by
    have h' : r[j]? = some v := by simpa using h
    have hx := (List.nodup_cons.mp hn).1
    have ne : ¬ x = v := fun z => hx (z ▸ List.mem_of_getElem? h')
    rw [List.filter_cons_of_pos (by simpa using ne), List.eraseIdx_cons_succ, erase_filter (List.nodup_cons.mp hn).2 h']
theorem KdL.del {ks : List V} {j : Nat} (h : KdL ks) (h2 : 2 ≤ ks.length) (hj : j < ks.length) : KdL (ks.eraseIdx j) := by
  refine ⟨fun v hv => h.kd v (List.mem_of_mem_eraseIdx hv), h.nd.sublist (List.eraseIdx_sublist ks j), ?_, ?_⟩
  · rw [List.length_eraseIdx_of_lt hj]; omega
  · rw [List.length_eraseIdx_of_lt hj]; have := h.hi; omega
def two (f : Bool → V) : List V := [f false, f true]
theorem two_at {f : Bool → V} {t : Bool} {i : Int} (e : i = if t then 1 else 0) : atI (two f) i = some (f t) := by
  subst e; cases t <;> rfl
theorem two_set {f : Bool → V} {t : Bool} {v : V} : (two f).set (if t then 1 else 0) v = two fun u => if u = t then v else f u := by cases t <;> rfl
structure K33 (C d pl : Addr) (ps : List Addr) (H : Hp) (kpl bl kl : Addr) (kk ol : Bool → Addr) (bd : Bool → Nat) (c : Bool → Addr) (ks : Bool → List V) : Prop where
  i : DkI d pl ps H
  e1 : At (deckW d pl ps) H kpl (.lst (two fun t => .ref (kk t)))
  e2 : At (deckW d pl ps) H bl (.lst (two fun t => .int (bd t)))
  e3 : At (deckW d pl ps) H kl (.lst (two fun t => .ref (c t)))
  k : ∀ t, Kpr C H (kk t) (ol t) (bd t) (ks t)
  ec : ∀ t, At (deckW d pl ps) H (c t) (.lst (ks t))
  hk : ∀ t, KdL (ks t)
  hb : ∀ t, bd t ≤ 200
  rk : ∀ t, ¬ DkR d pl ps (kk t)
  ro : ∀ t, ¬ DkR d pl ps (ol t)
  oo : ol false ≠ ol true
  oc : ∀ t u, c u ≠ ol t
  ob : ∀ t, bl ≠ ol t
  kn : kpl ≠ kl
section
variable {G : Gx} {H H' : Hp} {Q : VK} {E : XK} {C d pl : Addr} {ps : List Addr} {kpl bl kl : Addr} {kk ol : Bool → Addr} {bd : Bool → Nat} {c : Bool → Addr} {ks : Bool → List V}
theorem ref_kd {H : Hp} {p q x y : Addr} {ks : List V} (h : KdL ks) (e : H p = some (.lst [.ref x, .ref y])) (f : H q = some (.lst ks)) : p ≠ q := fun z => by
  rw [z, f] at e
  have e2 : ks = [.ref x, .ref y] := HO.lst.inj (Option.some.inj e)
  subst e2
  rcases h.kd (.ref x) (by simp) with ⟨s, z, _⟩ | z <;> cases z
theorem K33.drawn (x : K33 C d pl ps H kpl bl kl kk ol bd c ks) (k : Kp (deckW d pl ps) H H') : K33 C d pl ps H' kpl bl kl kk ol bd c ks :=
  ⟨k.i, k.at x.e1, k.at x.e2, k.at x.e3, fun t => (x.k t).keep k.k (x.rk t) (x.ro t), fun t => k.at (x.ec t), x.hk, x.hb, x.rk, x.ro, x.oo, x.oc, x.ob, x.kn⟩
theorem K33.same (x : K33 C d pl ps H kpl bl kl kk ol bd c ks) (s : Same H H') : K33 C d pl ps H' kpl bl kl kk ol bd c ks := x.drawn ((Kp.refl (W := deckW d pl ps) x.i).same s)
/-- an object that is none of these is changed -/
theorem K33.mut (x : K33 C d pl ps H kpl bl kl kk ol bd c ks) {p : Addr} {o : HO} (r : ¬ DkR d pl ps p) (n1 : kpl ≠ p) (n2 : bl ≠ p) (n3 : kl ≠ p) (n4 : ∀ t, kk t ≠ p) (n5 : ∀ t, ol t ≠ p) (n6 : ∀ t, c t ≠ p) : K33 C d pl ps (upd H p o) kpl bl kl kk ol bd c ks :=
  ⟨(deckW d pl ps).up _ _ _ x.i r, x.e1.upd n1, x.e2.upd n2, x.e3.upd n3, fun t => (x.k t).keep (R := fun a => a = p) (keep_in (Keep.refl _ _) rfl) (n4 t) (n5 t), fun t => (x.ec t).upd (n6 t), x.hk, x.hb, x.rk, x.ro, x.oo, x.oc, x.ob, x.kn⟩
theorem K33.deed (x : K33 C d pl ps H kpl bl kl kk ol bd c ks) {t : Bool} {H1 H2 : Hp} {cn : Addr} {ks' : List V} (kp : Keep (fun a => a = ol t) H H1) (k1 : Kpr C H1 (kk t) (ol t) (bd t) ks') (s : Same H1 H2) (n : H1 cn = none) (e : H2 cn = some (.lst ks')) (hk : KdL ks') :
    K33 C d pl ps (upd H2 kl (.lst (two fun u => .ref (if u = t then cn else c u)))) kpl bl kl kk ol bd (fun u => if u = t then cn else c u) (fun u => if u = t then ks' else ks u) := by
  have nd : ∀ a, DkR d pl ps a → ¬ a = ol t := fun a r z => x.ro t (z ▸ r)
  have i1 := deck_keepA x.i kp nd
  have n0 : ∀ a o, H a = some o → a ≠ ol t → H2 a = some o := fun a o ea na => s _ _ (kp a o na ea)
  have klo : ∀ u, kl ≠ ol u := fun u => ref_kd (x.hk u) x.e3.h (x.k u).l
  have kpo : ∀ u, kpl ≠ ol u := fun u => ref_kd (x.hk u) x.e1.h (x.k u).l
  have kkkl : ∀ u, kk u ≠ kl := fun u z => by
    obtain ⟨dx, ek⟩ := (x.k u).o
    rw [z, x.e3.h] at ek; cases ek
  have kpkl : kpl ≠ kl := x.kn
  have rcn : ¬ DkR d pl ps cn := Wd.notR (W := deckW d pl ps) i1 n
  have e3H1 : H1 kl = some _ := kp _ _ (klo t) x.e3.h
  have ncnkl : cn ≠ kl := fun z => by rw [z, e3H1] at n; cases n
  have ncnol : ∀ u, cn ≠ ol u := fun u z => by
    by_cases w : u = t
    · subst w; rw [z, k1.l] at n; cases n
    · have : ol u ≠ ol t := fun q => by
        cases u <;> cases t <;> first | exact w rfl | exact x.oo q | exact x.oo q.symm
      rw [z, kp _ _ this (x.k u).l] at n; cases n
  refine ⟨(deckW d pl ps).up _ _ _ ((deckW d pl ps).sm _ _ i1 s) x.e3.r, ⟨upd_oth kpkl (n0 _ _ x.e1.h (kpo t)), x.e1.r⟩, ⟨upd_oth ?_ (n0 _ _ x.e2.h (x.ob t)), x.e2.r⟩, ⟨upd_same, x.e3.r⟩, fun u => ?_, fun u => ?_, fun u => ?_, x.hb, x.rk, x.ro, x.oo, fun u v => ?_, x.ob, x.kn⟩
  · intro z
    have := x.e2.h
    rw [z, x.e3.h] at this
    have := HO.lst.inj (Option.some.inj this)
    simp [two] at this
  · by_cases w : u = t
    · subst w
      obtain ⟨dx, ek⟩ := k1.o
      show Kpr C _ (kk u) (ol u) (bd u) (if u = u then ks' else ks u)
      rw [if_pos rfl]
      exact ⟨⟨dx, upd_oth (kkkl u) (s _ _ ek)⟩, upd_oth (klo u).symm (s _ _ k1.l)⟩
    · have nu : ol u ≠ ol t := fun q => by
        cases u <;> cases t <;> first | exact w rfl | exact x.oo q | exact x.oo q.symm
      have nk : kk u ≠ ol t := fun q => by
        obtain ⟨dx, ek⟩ := (x.k u).o
        rw [q, (x.k t).l] at ek; cases ek
      obtain ⟨dx, ek⟩ := (x.k u).o
      show Kpr C _ (kk u) (ol u) (bd u) (if u = t then ks' else ks u)
      rw [if_neg w]
      exact ⟨⟨dx, upd_oth (kkkl u) (n0 _ _ ek nk)⟩, upd_oth (klo u).symm (n0 _ _ (x.k u).l nu)⟩
  · by_cases w : u = t
    · show At _ _ (if u = t then cn else c u) (.lst (if u = t then ks' else ks u))
      rw [if_pos w, if_pos w]
      exact ⟨upd_oth ncnkl e, rcn⟩
    · show At _ _ (if u = t then cn else c u) (.lst (if u = t then ks' else ks u))
      rw [if_neg w, if_neg w]
      exact ⟨upd_oth (ref_kd (x.hk u) x.e3.h (x.ec u).h).symm (n0 _ _ (x.ec u).h (x.oc t u)), (x.ec u).r⟩
  · show KdL (if u = t then ks' else ks u)
    split
    · exact hk
    · exact x.hk u
  · show (if v = t then cn else c v) ≠ ol u
    split
    · exact ncnol u
    · exact x.oc u v
theorem law_k33_ok {a : Addr} {ns : List Int} (hs : SqL G.K H a (ns.map V.int)) (hl : ns.length ≤ 63) (hq : ∀ H', Q (.bl true) H') : sp_law_k33 G [.ref a] H Q E := by
  refine ⟨rfl, ?_⟩
  unfold t_law_k33
  wtm_at "w"
  refine u_law_deck hs hl fun d pl ps H1 s1 i1 => ?_
  wtm_at "w"
  refine i_rngA1 (by decide) ?_
  refine lk_range (fun i σ H' => ∃ y2 y3 y4 y5 y6 y7 y8 y9 y10 y11 y12 y13 y14, σ = [some (.ref a), some (.ref d), y2, y3, y4, y5, y6, y7, y8, y9, y10, y11, y12, y13, y14] ∧ DkI d pl ps H') ⟨_, _, _, _, _, _, _, _, _, _, _, _, _, rfl, i1⟩ ?_ ?_
  · rintro i σ H2 hi ⟨y2, y3, y4, y5, y6, y7, y8, y9, y10, y11, y12, y13, y14, rfl, i2⟩
    wtm_at "w"
    refine u_law_some_kinds i2 fun fp ks0 H3 k3 nfp e3 hk0 => ?_
    wtm_at "w"
    refine i_ulist (sq_of e3.h) fun f2 nf2 => ?_
    have k4 := k3.new (o := .lst ks0) nf2
    have e4 := e3.same (same_new (o := .lst ks0) nf2)
    have g4 : At (deckW d pl ps) (upd H3 f2 (.lst ks0)) f2 (.lst ks0) := At.new k3.i nf2
    generalize upd H3 f2 (.lst ks0) = H4 at k4 e4 g4 ⊢
    wtm_at "w"
    refine u_law_some_kinds k4.i fun sp ksb H5 k5 nsp e5 hkb => ?_
    wtm_at "w"
    refine i_new (by simp) fun l1 nl1 => ?_
    have k6 := k5.new (o := .lst [.ref f2, .ref sp]) nl1
    have s56 : Same H5 (upd H5 l1 (.lst [.ref f2, .ref sp])) := same_new nl1
    have l6 : At (deckW d pl ps) (upd H5 l1 (.lst [.ref f2, .ref sp])) l1 (.lst [.ref f2, .ref sp]) := At.new k5.i nl1
    have f6 := (k5.at e4).same s56
    have g6 := (k5.at g4).same s56
    have p6 := e5.same s56
    generalize upd H5 l1 (.lst [.ref f2, .ref sp]) = H6 at k6 l6 f6 g6 p6 ⊢
    wtm_at "w"
    refine u_law_draw k6.i (by decide) (by decide) fun r H7 r0 r1 k7 => ?_
    have f7 := k7.at f6
    obtain ⟨s2, ks1, es, a7, hk1⟩ : ∃ s2 ks1, atI [V.ref f2, .ref sp] r = some (.ref s2) ∧ At (deckW d pl ps) H7 s2 (.lst ks1) ∧ KdL ks1 := by
      have hr : r = 0 ∨ r = 1 := by omega
      rcases hr with rfl | rfl
      · exact ⟨f2, ks0, rfl, k7.at g6, hk0⟩
      · exact ⟨sp, ksb, rfl, k7.at p6, hkb⟩
    refine i_ixL (sq_of (k7.at l6).h) es ?_
    wtm_at "w"
    refine u_law_number k7.i fun n0 H8 k8 n0a n0b => ?_
    wtm_at "w"
    refine u_law_number k8.i fun n1 H9 k9 n1a n1b => ?_
    wtm_at "w"
    refine i_new (by simp) fun bl nbl => ?_
    have k79 := k8.trans k9
    have k710 := k79.new (o := .lst [.int n0, .int n1]) nbl
    have b10 : At (deckW d pl ps) (upd H9 bl (.lst [.int n0, .int n1])) bl (.lst [.int n0, .int n1]) := At.new k9.i nbl
    have f10 := (k79.at f7).same (same_new (o := .lst [.int n0, .int n1]) nbl)
    have a10 := (k79.at a7).same (same_new (o := .lst [.int n0, .int n1]) nbl)
    have nfb : fp ≠ bl := (k79.at f7).ne nbl
    have nsb : s2 ≠ bl := (k79.at a7).ne nbl
    generalize upd H9 bl (.lst [.int n0, .int n1]) = H10 at k710 b10 f10 a10 ⊢
    clear nbl
    wtm_at "w"
    refine u_law_draw k710.i (by decide) (by decide) fun r2 H11 r20 r21 k11 => ?_
    have f11 := k11.at f10
    have a11 := k11.at a10
    have b11 := k11.at b10
    wtm_at "w"
    refine i_ifJ (P := fun σ H' => σ = [some (.ref a), some (.ref d), some (.int (0 + (i : Nat))), some (.ref fp), some (.ref s2), some (.ref bl), y6, y7, y8, y9, y10, y11, y12, y13, y14] ∧ DkI d pl ps H' ∧ At (deckW d pl ps) H' fp (.lst ks0) ∧ At (deckW d pl ps) H' s2 (.lst ks1) ∧ ∃ bd : Bool → Nat, At (deckW d pl ps) H' bl (.lst (two fun t => .int (bd t))) ∧ ∀ t, bd t ≤ 200) ?_ (fun hz hj => ?_) (fun hz hj => ?_)
    rotate_left
    · wtm_at "w"
      refine i_ixL (sq_of b11.h) rfl ?_
      wtm_at "w"
      refine i_setL b11.h (n := 1) rfl ?_
      refine hj _ _ ⟨rfl, (deckW d pl ps).up _ _ _ k11.i b11.r, f11.upd nfb, a11.upd nsb, fun _ => n0.toNat, ⟨?_, b11.r⟩, fun _ => (by omega : n0.toNat ≤ 200)⟩
      rw [upd_same]
      show some (HO.lst [V.int n0, .int n0]) = some (HO.lst [V.int ((n0.toNat : Nat) : Int), .int ((n0.toNat : Nat) : Int)])
      rw [show ((n0.toNat : Nat) : Int) = n0 by omega]
    · refine i_next ?_
      refine hj _ _ ⟨rfl, k11.i, f11, a11, fun t => if t then n1.toNat else n0.toNat, ⟨?_, b11.r⟩, fun t => by cases t <;> simp <;> omega⟩
      rw [b11.h]
      show some (HO.lst [V.int n0, .int n1]) = some (HO.lst [V.int ((n0.toNat : Nat) : Int), .int ((n1.toNat : Nat) : Int)])
      rw [show ((n0.toNat : Nat) : Int) = n0 by omega, show ((n1.toNat : Nat) : Int) = n1 by omega]
    rintro σ H12 ⟨rfl, i12, f12, a12, bd, b12, hbd⟩
    wtm_at "w"
    refine i_new (by simp) fun hd0 nhd0 => ?_
    wtm_at "w"
    have s13 : Same H12 (upd H12 hd0 (.lst [.ref fp, .ref s2])) := same_new nhd0
    have h13 : At (deckW d pl ps) (upd H12 hd0 (.lst [.ref fp, .ref s2])) hd0 (.lst [.ref fp, .ref s2]) := At.new (W := deckW d pl ps) i12 nhd0
    have i13 : DkI d pl ps (upd H12 hd0 (.lst [.ref fp, .ref s2])) := (deckW d pl ps).sm _ _ i12 s13
    have f13 := f12.same s13
    have a13 := a12.same s13
    have b13 := b12.same s13
    generalize upd H12 hd0 (.lst [.ref fp, .ref s2]) = H13 at s13 h13 i13 f13 a13 b13 ⊢
    refine i_eqL (sq_of f13.h) (sq_of a13.h) (kds_sV hk0.kd) (kds_sV hk1.kd) ?_
    wtm_at "w"
    refine i_ifJ (P := fun σ H' => ∃ hd s3, σ = [some (.ref a), some (.ref d), some (.int (0 + (i : Nat))), some (.ref fp), some (.ref s2), some (.ref bl), some (.ref hd), y7, y8, y9, y10, y11, y12, y13, y14] ∧ DkI d pl ps H' ∧ At (deckW d pl ps) H' fp (.lst ks0) ∧ At (deckW d pl ps) H' s2 (.lst ks1) ∧ At (deckW d pl ps) H' bl (.lst (two fun t => .int (bd t))) ∧ At (deckW d pl ps) H' hd (.lst [.ref fp, .ref s3]) ∧ At (deckW d pl ps) H' s3 (.lst ks1)) ?_ (fun hz hj => ?_) (fun hz hj => ?_)
    rotate_left
    · have eks : ks0 = ks1 := of_decide_eq_true hz
      wtm_at "w"
      refine i_new (by simp) fun hd1 nhd1 => ?_
      have s14 : Same H13 (upd H13 hd1 (.lst [.ref fp, .ref fp])) := same_new nhd1
      refine hj _ _ ⟨hd1, fp, rfl, (deckW d pl ps).sm _ _ i13 s14, f13.same s14, a13.same s14, b13.same s14, At.new (W := deckW d pl ps) i13 nhd1, ?_⟩
      rw [← eks]; exact f13.same s14
    · refine i_next ?_
      exact hj _ _ ⟨hd0, s2, rfl, i13, f13, a13, b13, h13, a13⟩
    rintro σ H14 ⟨hd, s3, rfl, i14, f14, a14, b14, h14, c14⟩
    wtm_at "w"
    refine i_ulist (sq_of f14.h) fun c0 nc0 => ?_
    have k15 := (Kp.refl (W := deckW d pl ps) i14).new (o := .lst ks0) nc0
    have s15 : Same H14 (upd H14 c0 (.lst ks0)) := same_new nc0
    have d15 : At (deckW d pl ps) (upd H14 c0 (.lst ks0)) c0 (.lst ks0) := At.new (W := deckW d pl ps) i14 nc0
    generalize upd H14 c0 (.lst ks0) = H15 at k15 s15 d15 ⊢
    wtm_at "w"
    refine i_ulist (sq_of (s15 _ _ a14.h)) fun c1 nc1 => ?_
    have s16 : Same H15 (upd H15 c1 (.lst ks1)) := same_new nc1
    have k16 := k15.same s16
    have d16 : At (deckW d pl ps) (upd H15 c1 (.lst ks1)) c1 (.lst ks1) := At.new k15.i nc1
    generalize upd H15 c1 (.lst ks1) = H16 at s16 k16 d16 ⊢
    wtm_at "w"
    refine i_new (by simp) fun kl nkl => ?_
    have s17 : Same H16 (upd H16 kl (.lst [.ref c0, .ref c1])) := same_new nkl
    have k17 := k16.same s17
    have l17 : At (deckW d pl ps) (upd H16 kl (.lst [.ref c0, .ref c1])) kl (.lst [.ref c0, .ref c1]) := At.new k16.i nkl
    generalize upd H16 kl (.lst [.ref c0, .ref c1]) = H17 at s17 k17 l17 ⊢
    have s1417 := (s15.trans s16).trans s17
    have h17 := h14.same s1417
    have b17 := b14.same s1417
    have f17 := f14.same s1417
    have q17 := c14.same s1417
    have d0 := (d15.same s16).same s17
    have d1 := d16.same s17
    wtm_at "w"
    refine i_ixL (sq_of h17.h) rfl ?_
    wtm_at "w"
    refine i_ixL (sq_of b17.h) (two_at (t := false) rfl) ?_
    wtm_at "w"
    refine u_Keeper_make f17.h hk0 (hbd false) fun kk0 ol0 H18 s18 nkk0 nol0 kr0 => ?_
    have k18 := k17.same s18
    wtm_at "w"
    refine i_ixL (sq_of (s18 _ _ h17.h)) rfl ?_
    wtm_at "w"
    refine i_ixL (sq_of (s18 _ _ b17.h)) (two_at (t := true) rfl) ?_
    wtm_at "w"
    refine u_Keeper_make (s18 _ _ q17.h) hk1 (hbd true) fun kk1 ol1 H19 s19 nkk1 nol1 kr1 => ?_
    have k19 := k18.same s19
    wtm_at "w"
    refine i_new (by simp) fun kpl nkpl => ?_
    have s20 : Same H19 (upd H19 kpl (.lst [.ref kk0, .ref kk1])) := same_new nkpl
    have p20 : At (deckW d pl ps) (upd H19 kpl (.lst [.ref kk0, .ref kk1])) kpl (.lst [.ref kk0, .ref kk1]) := At.new k19.i nkpl
    have k20 := k19.same s20
    have s1720 := (s18.trans s19).trans s20
    have hkpl : kpl ≠ kl := (((l17.same s18).same s19).ne nkpl).symm
    have nfkpl : fp ≠ kpl := ((f17.same s18).same s19).ne nkpl
    have x20 : K33 (G.C "Keeper") d pl ps (upd H19 kpl (.lst [.ref kk0, .ref kk1])) kpl bl kl (fun t => if t then kk1 else kk0) (fun t => if t then ol1 else ol0) bd (fun t => if t then c1 else c0) (fun t => if t then ks1 else ks0) := by
      refine ⟨k20.i, p20, b17.same s1720, l17.same s1720, fun t => ?_, fun t => ?_, fun t => ?_, hbd, fun t => ?_, fun t => ?_, ?_, fun t u => ?_, fun t => ?_, hkpl⟩
      · cases t
        · exact (kr0.same s19).same s20
        · exact kr1.same s20
      · cases t
        · exact d0.same s1720
        · exact d1.same s1720
      · cases t
        · exact hk0
        · exact hk1
      · cases t
        · exact Wd.notR (W := deckW d pl ps) k17.i nkk0
        · exact Wd.notR (W := deckW d pl ps) k18.i nkk1
      · cases t
        · exact Wd.notR (W := deckW d pl ps) k17.i nol0
        · exact Wd.notR (W := deckW d pl ps) k18.i nol1
      · exact ne_of_none kr0.l nol1
      · cases t <;> cases u
        · exact d0.ne nol0
        · exact d1.ne nol0
        · exact (d0.same s18).ne nol1
        · exact (d1.same s18).ne nol1
      · cases t
        · exact b17.ne nol0
        · exact (b17.same s18).ne nol1
    have f20 := f17.same s1720
    have h20 := h17.same s1720
    have nf1 : ∀ t : Bool, (if t then kk1 else kk0 : Addr) ≠ fp := fun t => by
      cases t
      · exact (f17.ne nkk0).symm
      · exact ((f17.same s18).ne nkk1).symm
    have nf2 : ∀ t : Bool, (if t then ol1 else ol0 : Addr) ≠ fp := fun t => by
      cases t
      · exact (f17.ne nol0).symm
      · exact ((f17.same s18).ne nol1).symm
    have nf3 : ∀ t : Bool, (if t then c1 else c0 : Addr) ≠ fp := fun t => by
      cases t
      · exact (f14.ne nc0).symm
      · exact ((f14.same s15).ne nc1).symm
    have nf4 : kl ≠ fp := (((f14.same s15).same s16).ne nkl).symm
    generalize upd H19 kpl (.lst [.ref kk0, .ref kk1]) = H20 at x20 f20 h20 ⊢
    wtm_at "w"
    refine i_ixL (sq_of h20.h) rfl ?_
    refine i_tyL f20.h ?_
    wtm_at "w"
    refine i_app f20.h (sz_lt (by have := hk0.hi; omega)) ?_
    have x21 := x20.mut (o := .lst (ks0 ++ [.str "cubes"])) f20.r nfkpl.symm nfb.symm nf4 nf1 nf2 nf3
    generalize upd H20 fp (.lst (ks0 ++ [.str "cubes"])) = H21 at x21 ⊢
    wtm_at "w"
    refine u_law_draw x21.i (by decide) (by decide) fun r3 H22 r30 r31 k22 => ?_
    have x22 := x21.drawn k22
    wtm_at "w"
    refine i_rngA1 (by omega) ?_
    generalize (fun t => if t = true then kk1 else kk0 : Bool → Addr) = kk at x22
    generalize (fun t => if t = true then ol1 else ol0 : Bool → Addr) = ol at x22
    refine lk_range (fun t σ H' => ∃ y9 y10 y11 y12 y13 y14 c ks, σ = [some (.ref a), some (.ref d), some (.int (0 + (i : Nat))), some (.ref fp), some (.ref s2), some (.ref bl), some (.ref hd), some (.ref kl), some (.ref kpl), y9, y10, y11, y12, y13, y14] ∧ K33 (G.C "Keeper") d pl ps H' kpl bl kl kk ol bd c ks) ⟨_, _, _, _, _, _, _, _, rfl, x22⟩ ?_ ?_
    · rintro t σ H23 ht ⟨y9, y10, y11, y12, y13, y14, c, ks, rfl, x23⟩
      wtm_at "w"
      refine u_law_draw x23.i (by decide) (by decide) fun w H24 w0 w1 k24 => ?_
      have x24 := x23.drawn k24
      obtain ⟨u, rfl⟩ : ∃ u : Bool, w = if u then 1 else 0 := by
        have hw : w = 0 ∨ w = 1 := by omega
        rcases hw with rfl | rfl
        · exact ⟨false, rfl⟩
        · exact ⟨true, rfl⟩
      with_reducible refine i_gname ?_
      with_reducible refine i_seq ?_
      with_reducible refine i_asg ?_
      with_reducible refine i_op ?_
      with_reducible refine i_var rfl ?_
      with_reducible refine i_var rfl ?_
      refine i_ixL (sq_of x24.e3.h) (two_at (t := u) rfl) ?_
      with_reducible refine i_gname ?_
      with_reducible refine i_seqJ (P := fun σ H' => ∃ y12 y13 y14 c' ks', σ = [some (.ref a), some (.ref d), some (.int (0 + (i : Nat))), some (.ref fp), some (.ref s2), some (.ref bl), some (.ref hd), some (.ref kl), some (.ref kpl), some (.int (0 + (t : Nat))), some (.int (if u then 1 else 0)), some (.ref (c u)), y12, y13, y14] ∧ K33 (G.C "Keeper") d pl ps H' kpl bl kl kk ol bd c' ks') ?_ (fun hj => ?_)
      · rintro σ H25 ⟨y12, y13, y14, c', ks', rfl, x25⟩
        obtain ⟨dx, eo⟩ := (x25.k u).o
        wtm_at "w"
        refine i_ixL (sq_of x25.e1.h) (two_at (t := u) rfl) ?_
        refine i_mtA eo (kfs_no _ _ (by decide +kernel) (by decide +kernel)) ?_
        wtm_at "w"
        refine u_Keeper_kinds (x25.k u) fun tp ntp => ?_
        have x26 := x25.same (same_new (o := .lst (ks' u)) ntp)
        have t26 : (upd H25 tp (.lst (ks' u))) tp = some (.lst (ks' u)) := upd_same
        wtm_at "w"
        refine i_tyL t26 ?_
        wtm_at "w"
        refine i_app t26 (sz_lt (by have := (x25.hk u).hi; omega)) ?_
        have x27 : K33 (G.C "Keeper") d pl ps (upd (upd H25 tp (.lst (ks' u))) tp (.lst (ks' u ++ [.int 3]))) kpl bl kl kk ol bd c' ks' := x26.mut (Wd.notR (W := deckW d pl ps) x25.i ntp) (x25.e1.ne ntp) (x25.e2.ne ntp) (x25.e3.ne ntp) (fun v => by
          obtain ⟨dx, eo⟩ := (x25.k v).o
          exact ne_of_none eo ntp) (fun v => ne_of_none (x25.k v).l ntp) (fun v => (x25.ec v).ne ntp)
        generalize upd (upd H25 tp (.lst (ks' u))) tp (.lst (ks' u ++ [.int 3])) = H27 at x27 ⊢
        wtm_at "w"
        refine i_new (by simp) fun lp nlp => ?_
        have x28 := x27.same (same_new (o := .lst [.int (if u then 1 else 0), .int (1 - if u then 1 else 0)]) nlp)
        have l28 : At (deckW d pl ps) (upd H27 lp (.lst [.int (if u then 1 else 0), .int (1 - if u then 1 else 0)])) lp (.lst ([(if u then 1 else 0 : Int), 1 - if u then 1 else 0].map V.int)) := At.new (W := deckW d pl ps) x27.i nlp
        generalize upd H27 lp (.lst [.int (if u then 1 else 0), .int (1 - if u then 1 else 0)]) = H28 at x28 l28 ⊢
        refine i_lstA (sq_of l28.h) ?_
        refine lk_list (fun j σ H' => ∃ y14, σ = [some (.ref a), some (.ref d), some (.int (0 + (i : Nat))), some (.ref fp), some (.ref s2), some (.ref bl), some (.ref hd), some (.ref kl), some (.ref kpl), some (.int (0 + (t : Nat))), some (.int (if u then 1 else 0)), some (.ref (c u)), y12, some (.ref tp), y14] ∧ Kp (deckW d pl ps) H28 H') ⟨_, rfl, Kp.refl (W := deckW d pl ps) x28.i⟩ (fun _ _ _ _ ⟨_, _, k⟩ => sq_of (k.at l28).h) ?_ ?_
        · rintro j x σ H29 hj ⟨y14, rfl, k29⟩
          rw [List.getElem?_map] at hj
          obtain ⟨n, hn, rfl⟩ := Option.map_eq_some_iff.mp hj
          obtain ⟨v, rfl⟩ : ∃ v : Bool, n = if v then 1 else 0 := by
            have hx := List.mem_of_getElem? hn
            simp only [List.mem_cons, List.not_mem_nil, or_false] at hx
            rcases hx with rfl | rfl
            · exact ⟨u, rfl⟩
            · exact ⟨!u, by cases u <;> rfl⟩
          have x29 := x28.drawn k29
          wtm_at "w"
          refine i_ixL (sq_of x29.e1.h) (two_at (t := v) rfl) ?_
          wtm_at "w"
          refine i_ixL (sq_of x29.e3.h) (two_at (t := v) rfl) ?_
          wtm_at "w"
          refine i_ixL (sq_of x29.e2.h) (two_at (t := v) rfl) ?_
          wtm_at "w"
          refine u_law_asked_all x29.i (x29.k v) (x29.rk v) (x29.ro v) (x29.ec v) (x29.hk v) (x29.hb v) fun H30 k30 => ?_
          wtm_at "w"
          exact ⟨_, rfl, k29.trans k30⟩
        · rintro σ H29 ⟨y14, rfl, k29⟩
          exact ⟨_, _, _, _, _, _, c', ks', rfl, x28.drawn k29⟩
      · have hk := x24.hk u
        have hlo := hk.lo
        have hhi := hk.hi
        with_reducible refine i_ifS ?_
        refine i_testJ (R := fun b H' => K33 (G.C "Keeper") d pl ps H' kpl bl kl kk ol bd c ks ∧ (b = true → (ks u).length ≤ 4) ∧ (b = false → 2 ≤ (ks u).length)) ?_ (fun hR => ?_)
        · rintro bb H25 ⟨x25, hc, hg⟩
          obtain ⟨dx, eo⟩ := (x25.k u).o
          cases bb with
          | true =>
            have h4 := hc rfl
            wtm_at "w"
            refine u_law_rest (x25.ec u).h hk.kd fun q H26 s26 nq eq => ?_
            have x26 := x25.same s26
            have aq : At (deckW d pl ps) H26 q (.lst (kinds11.filter fun v => decide (v ∉ ks u))) := ⟨eq, Wd.notR (W := deckW d pl ps) x25.i nq⟩
            have hrl := rest_len hk
            wtm_at "w"
            refine i_lenL (sq_of (x26.ec u).h) ?_
            wtm_at "w"
            refine u_law_draw x26.i (by omega) (by omega) fun rr H27 ra rb k27 => ?_
            have x27 := x26.drawn k27
            obtain ⟨R, rfl⟩ : ∃ R : Nat, rr = (R : Int) := ⟨rr.toNat, by omega⟩
            have hR : R < (kinds11.filter fun v => decide (v ∉ ks u)).length := by rw [hrl]; omega
            refine i_ixL (sq_of (k27.at aq).h) (at_nat (n := R) rfl (List.getElem?_eq_getElem hR)) ?_
            have hv := List.getElem_mem hR
            generalize (kinds11.filter fun v => decide (v ∉ ks u))[R] = v at hv ⊢
            have hkv := hk.more h4 hv
            have hvk : IsKd v := hkv.kd v (by simp)
            obtain ⟨dx7, eo7⟩ := (x27.k u).o
            wtm_at "w"
            refine i_ixL (sq_of x27.e1.h) (two_at (t := u) rfl) ?_
            refine i_mtA eo7 (kfs_no _ _ (by decide +kernel) (by decide +kernel)) ?_
            wtm_at "w"
            refine u_Keeper_come (x27.k u) hk (x27.hb u) h4 hvk hkv fun T L L' m m' H28 kp28 kr28 nT eT _ _ _ _ => ?_
            wtm_at "w"
            refine i_new (by simp) fun z nz => ?_
            have s28 : Same H28 (upd H28 z (.lst [v])) := same_new nz
            have ec28 : H28 (c u) = some (.lst (ks u)) := kp28 _ _ (x27.oc u u) (x27.ec u).h
            refine i_addL (xs := ks u) (ys := [v]) (s28 _ _ ec28) upd_same (sz_le (by simp; omega)) fun cn ncn => ?_
            have s29 := s28.trans (same_new (o := .lst (ks u ++ [v])) ncn)
            have ncn28 := s28.free ncn
            have e3' : H28 kl = some (.lst (two fun t => .ref (c t))) := kp28 _ _ (ref_kd hk x27.e3.h (x27.k u).l) x27.e3.h
            wtm_at "w"
            refine i_setLe (n := if u then 1 else 0) (s29 _ _ e3') (by cases u <;> rfl) two_set ?_
            have x29 := x27.deed kp28 kr28 s29 ncn28 upd_same hkv
            have efn : (two fun w => if w = u then V.ref cn else .ref (c w)) = two fun w => .ref (if w = u then cn else c w) := by
              unfold two; cases u <;> rfl
            rw [efn]
            exact hj _ _ ⟨_, _, _, _, _, rfl, x29⟩
          | false =>
            have h2 := hg rfl
            wtm_at "w"
            refine i_lenL (sq_of (x25.ec u).h) ?_
            wtm_at "w"
            refine u_law_draw x25.i (by omega) (by omega) fun rr H27 ra rb k27 => ?_
            have x27 := x25.drawn k27
            obtain ⟨R, rfl⟩ : ∃ R : Nat, rr = (R : Int) := ⟨rr.toNat, by omega⟩
            have hR : R < (ks u).length := by omega
            have hRv := List.getElem?_eq_getElem hR
            refine i_ixL (sq_of (x27.ec u).h) (at_nat (n := R) rfl hRv) ?_
            generalize (ks u)[R] = v at hRv ⊢
            have hkd := hk.del h2 hR
            obtain ⟨dx7, eo7⟩ := (x27.k u).o
            wtm_at "w"
            refine i_ixL (sq_of x27.e1.h) (two_at (t := u) rfl) ?_
            refine i_mtA eo7 (kfs_no _ _ (by decide +kernel) (by decide +kernel)) ?_
            wtm_at "w"
            refine u_Keeper_go (x27.k u) hk (x27.hb u) h2 hRv hkd fun T L L' m m' H28 kp28 kr28 nT eT _ _ _ _ => ?_
            have ec28 : H28 (c u) = some (.lst (ks u)) := kp28 _ _ (x27.oc u u) (x27.ec u).h
            have hv := hk.kd v (List.mem_of_getElem? hRv)
            wtm_at "w"
            refine i_lstA (sq_of ec28) ?_
            refine lck_pure walk_list (by omega) (fun q => ((ks u)[q]?).bind fun w => if w = v then none else some w) (fun H' s => sq_of (s _ _ ec28)) (fun q x H5 H6 KK NN hq s y hK hN => ?_) (fun cn H29 ncn s29 ecn => ?_)
            · obtain ⟨rfl, hx⟩ := y
              have hxk := hk.kd x (List.mem_of_getElem? hx)
              wtm_at "w"
              refine ⟨rfl, ?_⟩
              wtm_at "w"
              refine i_neKd hxk hv ?_
              wtm_at "w"
              refine i_iteN (fun hz => ?_) (fun hz => ?_)
              · exact hN _ (by rw [hx]; show (if x = v then none else some x) = none; rw [if_pos hz]) (fun _ _ z => z)
              · wtm_at "w"
                exact hK _ _ (by rw [hx]; show (if x = v then none else some x) = some x; rw [if_neg hz]) (fun _ _ z => z)
            · rw [given_list] at ecn
              have ef : (ks u).filterMap (fun w => if w = v then none else some w) = (ks u).eraseIdx R := by
                rw [← erase_filter hk.nd hRv]
                have : ∀ l : List V, l.filterMap (fun w => if w = v then none else some w) = l.filter fun w => decide (¬ w = v) := by
                  intro l
                  induction l with
                  | nil => rfl
                  | cons x r ih =>
                    by_cases z : x = v
                    · rw [List.filterMap_cons_none (by rw [if_pos z]), List.filter_cons_of_neg (by simpa using z), ih]
                    · rw [List.filterMap_cons_some (by rw [if_neg z]), List.filter_cons_of_pos (by simpa using z), ih]
                exact this _
              rw [ef] at ecn
              have e3' : H28 kl = some (.lst (two fun t => .ref (c t))) := kp28 _ _ (ref_kd hk x27.e3.h (x27.k u).l) x27.e3.h
              wtm_at "w"
              refine i_setLe (n := if u then 1 else 0) (s29 _ _ e3') (by cases u <;> rfl) two_set ?_
              have x29 := x27.deed kp28 kr28 s29 ncn ecn hkd
              have efn : (two fun w => if w = u then V.ref cn else .ref (c w)) = two fun w => .ref (if w = u then cn else c w) := by
                unfold two; cases u <;> rfl
              rw [efn]
              exact hj _ _ ⟨_, _, _, _, _, rfl, x29⟩
        · wtm_at "wa"
          refine i_lenL (sq_of (x24.ec u).h) ?_
          wtm_at "wa"
          refine i_ite (fun hz => ?_) (fun hz => ?_)
          · exact hR true _ ⟨x24, fun _ => by omega, fun z => by cases z⟩
          · wtm_at "wa"
            refine i_lenL (sq_of (x24.ec u).h) ?_
            wtm_at "wa"
            refine i_ite (fun hy => ?_) (fun hy => ?_)
            · wtm_at "wa"
              refine u_law_draw x24.i (by decide) (by decide) fun rr H25 ra rb k25 => ?_
              wtm_at "wa"
              exact hR _ _ ⟨x24.drawn k25, fun _ => by omega, fun _ => by omega⟩
            · exact hR false _ ⟨x24, fun z => (by cases z), fun _ => by omega⟩
    · rintro σ H23 ⟨y9, y10, y11, y12, y13, y14, c, ks, rfl, x23⟩
      exact ⟨_, _, _, _, _, _, _, _, _, _, _, _, _, rfl, x23.i⟩
  · rintro σ H2 ⟨y2, y3, y4, y5, y6, y7, y8, y9, y10, y11, y12, y13, y14, rfl, i2⟩
    wtm_at "w"
    exact hq _
end
/-! ### the text of the row -/
def topS (i : Nat) : Stmt := PySem.Challenge.pw_fewshapes_k33_keepers_apart.main.body.getD i (.Pass ⟨0, 0, 0, 0⟩)
abbrev s_is_whole : Stmt := topS 12
theorem sc_is_whole : FnScope ["thing"] ["thing"] (defScope s_is_whole) := ⟨rfl, rfl, rfl, by decide +kernel, rfl, by decide +kernel, by decide +kernel⟩
abbrev s_is_kind : Stmt := topS 13
theorem sc_is_kind : FnScope ["thing"] ["thing"] (defScope s_is_kind) := ⟨rfl, rfl, rfl, by decide +kernel, rfl, by decide +kernel, by decide +kernel⟩
abbrev s_are_kinds : Stmt := topS 14
theorem sc_are_kinds : FnScope ["thing", "kind", "k"] ["thing"] (defScope s_are_kinds) := ⟨rfl, rfl, rfl, by decide +kernel, rfl, by decide +kernel, by decide +kernel⟩
abbrev s_need_kinds : Stmt := topS 15
theorem sc_need_kinds : FnScope ["thing"] ["thing"] (defScope s_need_kinds) := ⟨rfl, rfl, rfl, by decide +kernel, rfl, by decide +kernel, by decide +kernel⟩
abbrev s_need_to_most : Stmt := topS 16
theorem sc_need_to_most : FnScope ["thing"] ["thing"] (defScope s_need_to_most) := ⟨rfl, rfl, rfl, by decide +kernel, rfl, by decide +kernel, by decide +kernel⟩
abbrev s_dots : Stmt := topS 17
theorem sc_dots : FnScope ["kind", "k"] ["kind", "k"] (defScope s_dots) := ⟨rfl, rfl, rfl, by decide +kernel, rfl, by decide +kernel, by decide +kernel⟩
abbrev s_stock_of : Stmt := topS 18
theorem sc_stock_of : FnScope ["kinds", "b", "found", "kind", "k"] ["kinds", "b"] (defScope s_stock_of) := ⟨rfl, rfl, rfl, by decide +kernel, rfl, by decide +kernel, by decide +kernel⟩
abbrev s_fewest_by : Stmt := topS 20
theorem sc_fewest_by : FnScope ["stock", "b", "found", "n", "part"] ["stock", "b"] (defScope s_fewest_by) := ⟨rfl, rfl, rfl, by decide +kernel, rfl, by decide +kernel, by decide +kernel⟩
abbrev s_Keeper___init__ : Stmt := inClass (topS 22) 0
theorem sc_Keeper___init__ : FnScope ["self", "kinds", "b"] ["self", "kinds", "b"] (defScope s_Keeper___init__) := ⟨rfl, rfl, rfl, by decide +kernel, rfl, by decide +kernel, by decide +kernel⟩
abbrev s_Keeper_needs : Stmt := inClass (topS 22) 1
theorem sc_Keeper_needs : FnScope ["self"] ["self"] (defScope s_Keeper_needs) := ⟨rfl, rfl, rfl, by decide +kernel, rfl, by decide +kernel, by decide +kernel⟩
abbrev s_Keeper_come : Stmt := inClass (topS 22) 2
theorem sc_Keeper_come : FnScope ["self", "kind", "before"] ["self", "kind"] (defScope s_Keeper_come) := ⟨rfl, rfl, rfl, by decide +kernel, rfl, by decide +kernel, by decide +kernel⟩
abbrev s_Keeper_go : Stmt := inClass (topS 22) 3
theorem sc_Keeper_go : FnScope ["self", "kind", "before"] ["self", "kind"] (defScope s_Keeper_go) := ⟨rfl, rfl, rfl, by decide +kernel, rfl, by decide +kernel, by decide +kernel⟩
abbrev s_Keeper_kinds : Stmt := inClass (topS 22) 4
theorem sc_Keeper_kinds : FnScope ["self"] ["self"] (defScope s_Keeper_kinds) := ⟨rfl, rfl, rfl, by decide +kernel, rfl, by decide +kernel, by decide +kernel⟩
abbrev s_Keeper_stock : Stmt := inClass (topS 22) 5
theorem sc_Keeper_stock : FnScope ["self"] ["self"] (defScope s_Keeper_stock) := ⟨rfl, rfl, rfl, by decide +kernel, rfl, by decide +kernel, by decide +kernel⟩
abbrev s_Keeper_fewest : Stmt := inClass (topS 22) 6
theorem sc_Keeper_fewest : FnScope ["self", "n"] ["self", "n"] (defScope s_Keeper_fewest) := ⟨rfl, rfl, rfl, by decide +kernel, rfl, by decide +kernel, by decide +kernel⟩
abbrev s_law_deck : Stmt := topS 24
theorem sc_law_deck : FnScope ["script", "pools", "k", "cell"] ["script"] (defScope s_law_deck) := ⟨rfl, rfl, rfl, by decide +kernel, rfl, by decide +kernel, by decide +kernel⟩
abbrev s_law_draw : Stmt := topS 25
theorem sc_law_draw : FnScope ["deck", "many", "pool", "found", "number"] ["deck", "many"] (defScope s_law_draw) := ⟨rfl, rfl, rfl, by decide +kernel, rfl, by decide +kernel, by decide +kernel⟩
abbrev s_law_some_kinds : Stmt := topS 26
theorem sc_law_some_kinds : FnScope ["deck", "left", "k"] ["deck"] (defScope s_law_some_kinds) := ⟨rfl, rfl, rfl, by decide +kernel, rfl, by decide +kernel, by decide +kernel⟩
abbrev s_law_dots : Stmt := topS 27
theorem sc_law_dots : FnScope ["kind", "most", "found", "k", "number", "more"] ["kind", "most"] (defScope s_law_dots) := ⟨rfl, rfl, rfl, by decide +kernel, rfl, by decide +kernel, by decide +kernel⟩
abbrev s_law_stock : Stmt := topS 28
theorem sc_law_stock : FnScope ["kinds", "most", "found", "kind", "number"] ["kinds", "most"] (defScope s_law_stock) := ⟨rfl, rfl, rfl, by decide +kernel, rfl, by decide +kernel, by decide +kernel⟩
abbrev s_law_number : Stmt := topS 29
theorem sc_law_number : FnScope ["deck"] ["deck"] (defScope s_law_number) := ⟨rfl, rfl, rfl, by decide +kernel, rfl, by decide +kernel, by decide +kernel⟩
abbrev s_law_needs : Stmt := topS 30
theorem sc_law_needs : FnScope ["stock", "most", "found", "there", "all_bits", "parts", "more", "part", "number"] ["stock", "most"] (defScope s_law_needs) := ⟨rfl, rfl, rfl, by decide +kernel, rfl, by decide +kernel, by decide +kernel⟩
abbrev s_law_rest : Stmt := topS 31
theorem sc_law_rest : FnScope ["kinds", "kind"] ["kinds"] (defScope s_law_rest) := ⟨rfl, rfl, rfl, by decide +kernel, rfl, by decide +kernel, by decide +kernel⟩
abbrev s_law_asked_all : Stmt := topS 32
theorem sc_law_asked_all : FnScope ["deck", "keeper", "kinds", "b", "way", "turn", "needs", "n"] ["deck", "keeper", "kinds", "b"] (defScope s_law_asked_all) := ⟨rfl, rfl, rfl, by decide +kernel, rfl, by decide +kernel, by decide +kernel⟩
abbrev s_law_k33 : Stmt := topS 33
theorem sc_law_k33 : FnScope ["script", "deck", "k", "first", "second", "bounds", "handed", "kinds", "keepers", "turn", "at", "own", "kind", "told", "one"] ["script"] (defScope s_law_k33) := ⟨rfl, rfl, rfl, by decide +kernel, rfl, by decide +kernel, by decide +kernel⟩
/-- what the top has left -/
structure Txt (G : Gx) (mg : Str → Option Value) where
  a_is_whole : Addr
  d_is_whole : FuncData
  F_is_whole : Fun G.K "is_whole" "is_whole" s_is_whole a_is_whole d_is_whole
  b_is_whole : Binds G.K d_is_whole ["thing"] []
  g_is_whole : mg "is_whole" = some (.ref a_is_whole)
  a_is_kind : Addr
  d_is_kind : FuncData
  F_is_kind : Fun G.K "is_kind" "is_kind" s_is_kind a_is_kind d_is_kind
  b_is_kind : Binds G.K d_is_kind ["thing"] []
  g_is_kind : mg "is_kind" = some (.ref a_is_kind)
  a_are_kinds : Addr
  d_are_kinds : FuncData
  F_are_kinds : Fun G.K "are_kinds" "are_kinds" s_are_kinds a_are_kinds d_are_kinds
  b_are_kinds : Binds G.K d_are_kinds ["thing"] []
  g_are_kinds : mg "are_kinds" = some (.ref a_are_kinds)
  a_need_kinds : Addr
  d_need_kinds : FuncData
  F_need_kinds : Fun G.K "need_kinds" "need_kinds" s_need_kinds a_need_kinds d_need_kinds
  b_need_kinds : Binds G.K d_need_kinds ["thing"] []
  g_need_kinds : mg "need_kinds" = some (.ref a_need_kinds)
  a_need_to_most : Addr
  d_need_to_most : FuncData
  F_need_to_most : Fun G.K "need_to_most" "need_to_most" s_need_to_most a_need_to_most d_need_to_most
  b_need_to_most : Binds G.K d_need_to_most ["thing"] []
  g_need_to_most : mg "need_to_most" = some (.ref a_need_to_most)
  a_dots : Addr
  d_dots : FuncData
  F_dots : Fun G.K "dots" "dots" s_dots a_dots d_dots
  b_dots : Binds G.K d_dots ["kind", "k"] []
  g_dots : mg "dots" = some (.ref a_dots)
  a_stock_of : Addr
  d_stock_of : FuncData
  F_stock_of : Fun G.K "stock_of" "stock_of" s_stock_of a_stock_of d_stock_of
  b_stock_of : Binds G.K d_stock_of ["kinds", "b"] []
  g_stock_of : mg "stock_of" = some (.ref a_stock_of)
  a_fewest_by : Addr
  d_fewest_by : FuncData
  F_fewest_by : Fun G.K "fewest_by" "fewest_by" s_fewest_by a_fewest_by d_fewest_by
  b_fewest_by : Binds G.K d_fewest_by ["stock", "b"] []
  g_fewest_by : mg "fewest_by" = some (.ref a_fewest_by)
  a_Keeper___init__ : Addr
  d_Keeper___init__ : FuncData
  F_Keeper___init__ : Fun G.K "__init__" "Keeper.__init__" s_Keeper___init__ a_Keeper___init__ d_Keeper___init__
  b_Keeper___init__ : Binds G.K d_Keeper___init__ ["self", "kinds", "b"] []
  a_Keeper_needs : Addr
  d_Keeper_needs : FuncData
  F_Keeper_needs : Fun G.K "needs" "Keeper.needs" s_Keeper_needs a_Keeper_needs d_Keeper_needs
  b_Keeper_needs : Binds G.K d_Keeper_needs ["self"] []
  mm_Keeper_needs : Meth G.K (G.C "Keeper") "needs" a_Keeper_needs
  a_Keeper_come : Addr
  d_Keeper_come : FuncData
  F_Keeper_come : Fun G.K "come" "Keeper.come" s_Keeper_come a_Keeper_come d_Keeper_come
  b_Keeper_come : Binds G.K d_Keeper_come ["self", "kind"] []
  mm_Keeper_come : Meth G.K (G.C "Keeper") "come" a_Keeper_come
  a_Keeper_go : Addr
  d_Keeper_go : FuncData
  F_Keeper_go : Fun G.K "go" "Keeper.go" s_Keeper_go a_Keeper_go d_Keeper_go
  b_Keeper_go : Binds G.K d_Keeper_go ["self", "kind"] []
  mm_Keeper_go : Meth G.K (G.C "Keeper") "go" a_Keeper_go
  a_Keeper_kinds : Addr
  d_Keeper_kinds : FuncData
  F_Keeper_kinds : Fun G.K "kinds" "Keeper.kinds" s_Keeper_kinds a_Keeper_kinds d_Keeper_kinds
  b_Keeper_kinds : Binds G.K d_Keeper_kinds ["self"] []
  mm_Keeper_kinds : Meth G.K (G.C "Keeper") "kinds" a_Keeper_kinds
  a_Keeper_stock : Addr
  d_Keeper_stock : FuncData
  F_Keeper_stock : Fun G.K "stock" "Keeper.stock" s_Keeper_stock a_Keeper_stock d_Keeper_stock
  b_Keeper_stock : Binds G.K d_Keeper_stock ["self"] []
  mm_Keeper_stock : Meth G.K (G.C "Keeper") "stock" a_Keeper_stock
  a_Keeper_fewest : Addr
  d_Keeper_fewest : FuncData
  F_Keeper_fewest : Fun G.K "fewest" "Keeper.fewest" s_Keeper_fewest a_Keeper_fewest d_Keeper_fewest
  b_Keeper_fewest : Binds G.K d_Keeper_fewest ["self", "n"] []
  mm_Keeper_fewest : Meth G.K (G.C "Keeper") "fewest" a_Keeper_fewest
  a_law_deck : Addr
  d_law_deck : FuncData
  F_law_deck : Fun G.K "_law_deck" "_law_deck" s_law_deck a_law_deck d_law_deck
  b_law_deck : Binds G.K d_law_deck ["script"] []
  g_law_deck : mg "_law_deck" = some (.ref a_law_deck)
  a_law_draw : Addr
  d_law_draw : FuncData
  F_law_draw : Fun G.K "_law_draw" "_law_draw" s_law_draw a_law_draw d_law_draw
  b_law_draw : Binds G.K d_law_draw ["deck", "many"] []
  g_law_draw : mg "_law_draw" = some (.ref a_law_draw)
  a_law_some_kinds : Addr
  d_law_some_kinds : FuncData
  F_law_some_kinds : Fun G.K "_law_some_kinds" "_law_some_kinds" s_law_some_kinds a_law_some_kinds d_law_some_kinds
  b_law_some_kinds : Binds G.K d_law_some_kinds ["deck"] []
  g_law_some_kinds : mg "_law_some_kinds" = some (.ref a_law_some_kinds)
  a_law_dots : Addr
  d_law_dots : FuncData
  F_law_dots : Fun G.K "_law_dots" "_law_dots" s_law_dots a_law_dots d_law_dots
  b_law_dots : Binds G.K d_law_dots ["kind", "most"] []
  g_law_dots : mg "_law_dots" = some (.ref a_law_dots)
  a_law_stock : Addr
  d_law_stock : FuncData
  F_law_stock : Fun G.K "_law_stock" "_law_stock" s_law_stock a_law_stock d_law_stock
  b_law_stock : Binds G.K d_law_stock ["kinds", "most"] []
  g_law_stock : mg "_law_stock" = some (.ref a_law_stock)
  a_law_number : Addr
  d_law_number : FuncData
  F_law_number : Fun G.K "_law_number" "_law_number" s_law_number a_law_number d_law_number
  b_law_number : Binds G.K d_law_number ["deck"] []
  g_law_number : mg "_law_number" = some (.ref a_law_number)
  a_law_needs : Addr
  d_law_needs : FuncData
  F_law_needs : Fun G.K "_law_needs" "_law_needs" s_law_needs a_law_needs d_law_needs
  b_law_needs : Binds G.K d_law_needs ["stock", "most"] []
  g_law_needs : mg "_law_needs" = some (.ref a_law_needs)
  a_law_rest : Addr
  d_law_rest : FuncData
  F_law_rest : Fun G.K "_law_rest" "_law_rest" s_law_rest a_law_rest d_law_rest
  b_law_rest : Binds G.K d_law_rest ["kinds"] []
  g_law_rest : mg "_law_rest" = some (.ref a_law_rest)
  a_law_asked_all : Addr
  d_law_asked_all : FuncData
  F_law_asked_all : Fun G.K "_law_asked_all" "_law_asked_all" s_law_asked_all a_law_asked_all d_law_asked_all
  b_law_asked_all : Binds G.K d_law_asked_all ["deck", "keeper", "kinds", "b"] []
  g_law_asked_all : mg "_law_asked_all" = some (.ref a_law_asked_all)
  a_law_k33 : Addr
  d_law_k33 : FuncData
  F_law_k33 : Fun G.K "law" "law" s_law_k33 a_law_k33 d_law_k33
  b_law_k33 : Binds G.K d_law_k33 ["script"] []
  g_law : mg "law" = some (.ref a_law_k33)
  cl_Keeper : Cls G.K (G.C "Keeper")
  g_Keeper : mg "Keeper" = some (.ref (G.C "Keeper"))
  mk_Keeper : Mk G.K (G.C "Keeper") a_Keeper___init__
  nf_Keeper_bound : NoAttr G.K (G.C "Keeper") "bound"
  nf_Keeper_own : NoAttr G.K (G.C "Keeper") "own"
  n_bool : mg "bool" = none
  n_enumerate : mg "enumerate" = none
  n_int : mg "int" = none
  n_isinstance : mg "isinstance" = none
  n_len : mg "len" = none
  n_list : mg "list" = none
  n_max : mg "max" = none
  n_min : mg "min" = none
  n_range : mg "range" = none
  n_sorted : mg "sorted" = none
  n_str : mg "str" = none
  k_CUBES : Tok
  c_CUBES : mg "CUBES" = some (.str "cubes" k_CUBES)
  k_FEWEST_CORNERS : Tok
  c_FEWEST_CORNERS : mg "FEWEST_CORNERS" = some (.int 3 k_FEWEST_CORNERS)
  k_MOST : Tok
  c_MOST : mg "MOST" = some (.int 200 k_MOST)
  k_MOST_CORNERS : Tok
  c_MOST_CORNERS : mg "MOST_CORNERS" = some (.int 12 k_MOST_CORNERS)
  k_MOST_KINDS : Tok
  c_MOST_KINDS : mg "MOST_KINDS" = some (.int 5 k_MOST_KINDS)
section
variable {P : Program} {w : World} {G : Gx} {mg : Str → Option Value} {base : Heap}
theorem ok_is_whole (T : Txt G mg) : FnOk P w G.K mg base CX0 1 T.a_is_whole T.d_is_whole ["thing"] (sp0 (sp_is_whole G)) := by
  refine T.F_is_whole.ok sc_is_whole (fun vs H Q E h => h.1) (fun cdv A outer s H vs Q E hr h => ⟨t_is_whole G E0, ?_, h.2⟩)
  exact (pss_one (ps_ret (pe_and (pe_callB k_isi (by rfl) T.n_isinstance (by decide +kernel) (pa_cons (pv 0) (pa_cons (pe_bltn (by rfl) T.n_int (by decide +kernel) rfl) pa_nil))) (pe_one (pe_not (pe_callB k_isi (by rfl) T.n_isinstance (by decide +kernel) (pa_cons (pv 0) (pa_cons (pe_bltn (by rfl) T.n_bool (by decide +kernel) rfl) pa_nil))))))))
theorem ok_is_kind (T : Txt G mg) : FnOk P w G.K mg base CX0 2 T.a_is_kind T.d_is_kind ["thing"] (sp0 (sp_is_kind G)) := by
  refine T.F_is_kind.ok sc_is_kind (fun vs H Q E h => h.1) (fun cdv A outer s H vs Q E hr h => ⟨t_is_kind G E0, ?_, h.2⟩)
  exact (pss_cons (ps_if (pt_val (pe_callB k_isi (by rfl) T.n_isinstance (by decide +kernel) (pa_cons (pv 0) (pa_cons (pe_bltn (by rfl) T.n_str (by decide +kernel) rfl) pa_nil)))) (pss_one (ps_ret (pe_cmpR (o_eq hr.units) (pv 0) (pe_glob (by rfl) T.c_CUBES ⟨_, rfl⟩) (nomark _)))) pss_nil)
      (pss_one (ps_ret (pe_and (pcall (ok_is_whole T) (hr.mono (by decide)) (by rfl) T.g_is_whole T.F_is_whole.kp T.b_is_whole (pa_cons (pv 0) pa_nil)) (pe_one (pe_chain o_le o_le (pe_glob (by rfl) T.c_FEWEST_CORNERS ⟨_, rfl⟩) (pv 0) (pe_glob (by rfl) T.c_MOST_CORNERS ⟨_, rfl⟩)))))))
theorem ok_are_kinds (T : Txt G mg) : FnOk P w G.K mg base CX0 3 T.a_are_kinds T.d_are_kinds ["thing"] (sp0 (sp_are_kinds G)) := by
  refine T.F_are_kinds.ok sc_are_kinds (fun vs H Q E h => h.1) (fun cdv A outer s H vs Q E hr h => ⟨t_are_kinds G E0, ?_, h.2⟩)
  exact (pss_cons (ps_if (PW.pt (pw_or (pt_not (pt_val (pe_callB k_isi (by rfl) T.n_isinstance (by decide +kernel) (pa_cons (pv 0) (pa_cons (pe_bltn (by rfl) T.n_list (by decide +kernel) rfl) pa_nil))))) (pw_or1 (pt_not (pt_chain o_le o_le pe_int (pe_callB k_len (by rfl) T.n_len (by decide +kernel) (pa_cons (pv 0) pa_nil)) (pe_glob (by rfl) T.c_MOST_KINDS ⟨_, rfl⟩)))))) (pss_one (ps_ret pe_bl)) pss_nil)
      (pss_cons (ps_if (pt_cmpR (o_ne hr.units) (pe_lc (own := [("kind", 1)]) (g := (gName 1)) (tt := (tNot (tB (tCall (sp_is_kind G) [] E0 (tCons (tVar 1) tNil))))) (by rfl) sc_are_kinds.nd  (pi_list (pv 0)) (blkOk_by (own := [("kind", 1)]) (N := ["thing", "kind", "k"]) (sc := defScope s_are_kinds) (by decide +kernel)) (fun _ _ _ _ _ => (pgn 1 sc_are_kinds.nd)) (fun _ _ _ _ _ => (pts_one (pt_not (pt_val (pcall (ok_is_kind T) (hr.mono (by decide)) (by rfl) T.g_is_kind T.F_is_kind.kp T.b_is_kind (pa_cons (pv 1) pa_nil)))))) (fun _ _ _ _ _ => (pv 1))) (pe_lst pa_nil) (nomark _)) (pss_one (ps_ret pe_bl)) pss_nil)
      (pss_one (ps_ret (pe_cmpR (o_eq hr.units) (pe_lc (own := [("k", 2), ("kind", 1)]) (g := (gTup G.K 2 (gCons (gName 2) (gCons (gName 1) gNil)))) (tt := (tTest (tOp (uIn G.K) (tVar 1) (tSl (uSl G.K) (tVar 0) tNoPart (tPart (tVar 2)))))) (by rfl) sc_are_kinds.nd  (pi_enum (by rfl) T.n_enumerate (pa_cons (pv 0) pa_nil)) (blkOk_by (own := [("k", 2), ("kind", 1)]) (N := ["thing", "kind", "k"]) (sc := defScope s_are_kinds) (by decide +kernel)) (fun _ _ _ _ _ => (pg_tup (by rfl) (pgs_cons (pgn 2 sc_are_kinds.nd) (pgs_cons (pgn 1 sc_are_kinds.nd) pgs_nil)))) (fun _ _ _ _ _ => (pts_one (pt_cmpR o_in (pv 1) (pe_slice o_sl (pv 0) po_none (po_some (pv 2))) (by rfl)))) (fun _ _ _ _ _ => (pv 2))) (pe_lst pa_nil) (nomark _))))))
theorem ok_need_kinds (T : Txt G mg) : FnOk P w G.K mg base CX0 4 T.a_need_kinds T.d_need_kinds ["thing"] (sp0 (sp_need_kinds G)) := by
  refine T.F_need_kinds.ok sc_need_kinds (fun vs H Q E h => h.1) (fun cdv A outer s H vs Q E hr h => ⟨t_need_kinds G E0, ?_, h.2⟩)
  exact (pss_one (ps_if (pt_not (pt_val (pcall (ok_are_kinds T) (hr.mono (by decide)) (by rfl) T.g_are_kinds T.F_are_kinds.kp T.b_are_kinds (pa_cons (pv 0) pa_nil)))) (pss_one prz0) pss_nil))
theorem ok_need_to_most (T : Txt G mg) : FnOk P w G.K mg base CX0 2 T.a_need_to_most T.d_need_to_most ["thing"] (sp0 (sp_need_to_most G)) := by
  refine T.F_need_to_most.ok sc_need_to_most (fun vs H Q E h => h.1) (fun cdv A outer s H vs Q E hr h => ⟨t_need_to_most G E0, ?_, h.2⟩)
  exact (pss_one (ps_if (PW.pt (pw_or (pt_not (pt_val (pcall (ok_is_whole T) (hr.mono (by decide)) (by rfl) T.g_is_whole T.F_is_whole.kp T.b_is_whole (pa_cons (pv 0) pa_nil)))) (pw_or1 (pt_not (pt_chain o_le o_le pe_int (pv 0) (pe_glob (by rfl) T.c_MOST ⟨_, rfl⟩)))))) (pss_one prz0) pss_nil))
theorem ok_dots (T : Txt G mg) : FnOk P w G.K mg base CX0 1 T.a_dots T.d_dots ["kind", "k"] (sp0 (sp_dots G)) := by
  refine T.F_dots.ok sc_dots (fun vs H Q E h => h.1) (fun cdv A outer s H vs Q E hr h => ⟨t_dots G E0, ?_, h.2⟩)
  exact (pss_cons (ps_if (pt_cmpR (o_eq hr.units) (pv 0) (pe_glob (by rfl) T.c_CUBES ⟨_, rfl⟩) (nomark _)) (pss_one (ps_ret (pe_op o_mul (pe_op o_mul (pv 1) (pv 1)) (pv 1)))) pss_nil)
      (pss_one (ps_ret (pe_op o_add (pv 1) (pe_op o_mul (pe_op o_sub (pv 0) pe_int) (pe_op o_div (pe_op o_mul (pv 1) (pe_op o_sub (pv 1) pe_int)) pe_int))))))
theorem ok_stock_of (T : Txt G mg) : FnOk P w G.K mg base CX0 2 T.a_stock_of T.d_stock_of ["kinds", "b"] (sp0 (sp_stock_of G)) := by
  refine T.F_stock_of.ok sc_stock_of (fun vs H Q E h => h.1) (fun cdv A outer s H vs Q E hr h => ⟨t_stock_of G E0, ?_, h.2⟩)
  exact (pss_cons (pst 2 sc_stock_of.nd pe_dnewK)
      (pss_cons (ps_for PassesOwn.never (by rfl) (pi_list (pv 0)) (pgn 3 sc_stock_of.nd) (pss_cons (pst 4 sc_stock_of.nd pe_int)
      (pss_one (ps_while PassesOwn.never (pt_cmpR o_le (pcall (ok_dots T) (hr.mono (by decide)) (by rfl) T.g_dots T.F_dots.kp T.b_dots (pa_cons (pv 3) (pa_cons (pv 4) pa_nil))) (pv 1) (nomark _)) (pss_cons (ps_asg pe_bl (pg_sub (pv 2) (pcall (ok_dots T) (hr.mono (by decide)) (by rfl) T.g_dots T.F_dots.kp T.b_dots (pa_cons (pv 3) (pa_cons (pv 4) pa_nil))) (s_any (hu_of hr))))
      (pss_one (pau 4 sc_stock_of.nd pe_int ip_add)))))))
      (pss_one (ps_ret (pe_callB (k_sorted (by rfl)) (by rfl) T.n_sorted (by decide +kernel) (pa_cons (pv 2) pa_nil))))))
theorem ok_fewest_by (T : Txt G mg) : FnOk P w G.K mg base CX0 1 T.a_fewest_by T.d_fewest_by ["stock", "b"] (sp0 (sp_fewest_by G)) := by
  refine T.F_fewest_by.ok sc_fewest_by (fun vs H Q E h => h.1) (fun cdv A outer s H vs Q E hr h => ⟨t_fewest_by G E0, ?_, h.2⟩)
  exact (pss_cons (pst 2 sc_fewest_by.nd (pe_lst (pa_cons pe_int pa_nil)))
      (pss_cons (ps_for PassesOwn.never (by rfl) (pi_range2 (by rfl) T.n_range (pa_cons pe_int (pa_cons (pe_op o_add (pv 1) pe_int) pa_nil))) (pgn 3 sc_fewest_by.nd) (pss_one (ps_expr (pe_bm PySem.F.plainAttrs_list PySem.F.slot_list_append PySem.F.type_list_append mt_append (pv 2) (pa_cons (pe_op o_add pe_int (pe_callB (k_min (by rfl)) (by rfl) T.n_min (by decide +kernel) (pa_cons (pe_lc (own := [("part", 4)]) (g := (gName 4)) (tt := (tTest (tOp uLe (tVar 4) (tVar 3)))) (by rfl) sc_fewest_by.nd  (pi_list (pv 0)) (blkOk_by (own := [("part", 4)]) (N := ["stock", "b", "found", "n", "part"]) (sc := defScope s_fewest_by) (by decide +kernel)) (fun _ _ _ _ _ => (pgn 4 sc_fewest_by.nd)) (fun _ _ _ _ _ => (pts_one (pt_cmpR o_le (pv 4) (pv 3) (nomark _)))) (fun _ _ _ _ _ => (pe_ix o_ix (pv 2) (pe_op o_sub (pv 3) (pv 4)) (fun _ _ => rfl)))) pa_nil))) pa_nil)))))
      (pss_one (ps_ret (pv 2)))))
theorem ok_Keeper___init__ (T : Txt G mg) : FnOk P w G.K mg base CX0 5 T.a_Keeper___init__ T.d_Keeper___init__ ["self", "kinds", "b"] (sp0 (sp_Keeper___init__ G)) := by
  refine T.F_Keeper___init__.ok sc_Keeper___init__ (fun vs H Q E h => h.1) (fun cdv A outer s H vs Q E hr h => ⟨t_Keeper___init__ G E0, ?_, h.2⟩)
  exact (pss_cons (ps_expr (pcall (ok_need_kinds T) (hr.mono (by decide)) (by rfl) T.g_need_kinds T.F_need_kinds.kp T.b_need_kinds (pa_cons (pv 1) pa_nil)))
      (pss_cons (ps_expr (pcall (ok_need_to_most T) (hr.mono (by decide)) (by rfl) T.g_need_to_most T.F_need_to_most.kp T.b_need_to_most (pa_cons (pv 2) pa_nil)))
      (pss_cons (pfls T.cl_Keeper T.nf_Keeper_own (pv 0) (pe_callTy (k_list (by rfl)) (by rfl) T.n_list (by decide +kernel) (pa_cons (pv 1) pa_nil)) rfl)
      (pss_one (pfls T.cl_Keeper T.nf_Keeper_bound (pv 0) (pv 2) rfl)))))
theorem ok_Keeper_needs (T : Txt G mg) : FnOk P w G.K mg base CX0 3 T.a_Keeper_needs T.d_Keeper_needs ["self"] (sp0 (sp_Keeper_needs G)) := by
  refine T.F_Keeper_needs.ok sc_Keeper_needs (fun vs H Q E h => h.1) (fun cdv A outer s H vs Q E hr h => ⟨t_Keeper_needs G E0, ?_, h.2⟩)
  exact (pss_one (ps_ret (pcall (ok_fewest_by T) (hr.mono (by decide)) (by rfl) T.g_fewest_by T.F_fewest_by.kp T.b_fewest_by (pa_cons (pcall (ok_stock_of T) (hr.mono (by decide)) (by rfl) T.g_stock_of T.F_stock_of.kp T.b_stock_of (pa_cons (pfl T.cl_Keeper T.nf_Keeper_own (pv 0) rfl) (pa_cons (pfl T.cl_Keeper T.nf_Keeper_bound (pv 0) rfl) pa_nil))) (pa_cons (pfl T.cl_Keeper T.nf_Keeper_bound (pv 0) rfl) pa_nil)))))
theorem ok_Keeper_come (T : Txt G mg) : FnOk P w G.K mg base CX0 4 T.a_Keeper_come T.d_Keeper_come ["self", "kind"] (sp0 (sp_Keeper_come G)) := by
  refine T.F_Keeper_come.ok sc_Keeper_come (fun vs H Q E h => h.1) (fun cdv A outer s H vs Q E hr h => ⟨t_Keeper_come G E0, ?_, h.2⟩)
  exact (pss_cons (ps_if (pt_cmpR (o_eq hr.units) (pe_callB k_len (by rfl) T.n_len (by decide +kernel) (pa_cons (pfl T.cl_Keeper T.nf_Keeper_own (pv 0) rfl) pa_nil)) (pe_glob (by rfl) T.c_MOST_KINDS ⟨_, rfl⟩) (nomark _)) (pss_one prz0) pss_nil)
      (pss_cons (ps_if (PW.pt (pw_or (pt_not (pt_val (pcall (ok_is_kind T) (hr.mono (by decide)) (by rfl) T.g_is_kind T.F_is_kind.kp T.b_is_kind (pa_cons (pv 1) pa_nil)))) (pw_or1 (pt_cmpR o_in (pv 1) (pfl T.cl_Keeper T.nf_Keeper_own (pv 0) rfl) (by rfl))))) (pss_one prz0) pss_nil)
      (pss_cons (pst 2 sc_Keeper_come.nd (pe_callB (k_max (by rfl)) (by rfl) T.n_max (by decide +kernel) (pa_cons (pmt0 (pv 0) T.cl_Keeper T.mm_Keeper_needs (ok_Keeper_needs T) (hr.mono (by decide)) T.b_Keeper_needs) pa_nil)))
      (pss_cons (ps_expr (pe_bm PySem.F.plainAttrs_list PySem.F.slot_list_append PySem.F.type_list_append mt_append (pfl T.cl_Keeper T.nf_Keeper_own (pv 0) rfl) (pa_cons (pv 1) pa_nil)))
      (pss_one (ps_ret (pe_tup (pa_cons (pv 2) (pa_cons (pe_callB (k_max (by rfl)) (by rfl) T.n_max (by decide +kernel) (pa_cons (pmt0 (pv 0) T.cl_Keeper T.mm_Keeper_needs (ok_Keeper_needs T) (hr.mono (by decide)) T.b_Keeper_needs) pa_nil)) pa_nil)))))))))
theorem ok_Keeper_go (T : Txt G mg) : FnOk P w G.K mg base CX0 4 T.a_Keeper_go T.d_Keeper_go ["self", "kind"] (sp0 (sp_Keeper_go G)) := by
  refine T.F_Keeper_go.ok sc_Keeper_go (fun vs H Q E h => h.1) (fun cdv A outer s H vs Q E hr h => ⟨t_Keeper_go G E0, ?_, h.2⟩)
  exact (pss_cons (ps_if (PW.pt (pw_or (pt_not (pt_val (pcall (ok_is_kind T) (hr.mono (by decide)) (by rfl) T.g_is_kind T.F_is_kind.kp T.b_is_kind (pa_cons (pv 1) pa_nil)))) (pw_or (pt_cmpR o_notIn (pv 1) (pfl T.cl_Keeper T.nf_Keeper_own (pv 0) rfl) (by rfl)) (pw_or1 (pt_cmpR (o_eq hr.units) (pe_callB k_len (by rfl) T.n_len (by decide +kernel) (pa_cons (pfl T.cl_Keeper T.nf_Keeper_own (pv 0) rfl) pa_nil)) pe_int (nomark _)))))) (pss_one prz0) pss_nil)
      (pss_cons (pst 2 sc_Keeper_go.nd (pe_callB (k_max (by rfl)) (by rfl) T.n_max (by decide +kernel) (pa_cons (pmt0 (pv 0) T.cl_Keeper T.mm_Keeper_needs (ok_Keeper_needs T) (hr.mono (by decide)) T.b_Keeper_needs) pa_nil)))
      (pss_cons (ps_expr (pe_bm PySem.F.plainAttrs_list PySem.F.slot_list_remove PySem.F.type_list_remove mt_rmV (pfl T.cl_Keeper T.nf_Keeper_own (pv 0) rfl) (pa_cons (pv 1) pa_nil)))
      (pss_one (ps_ret (pe_tup (pa_cons (pv 2) (pa_cons (pe_callB (k_max (by rfl)) (by rfl) T.n_max (by decide +kernel) (pa_cons (pmt0 (pv 0) T.cl_Keeper T.mm_Keeper_needs (ok_Keeper_needs T) (hr.mono (by decide)) T.b_Keeper_needs) pa_nil)) pa_nil))))))))
theorem ok_Keeper_kinds (T : Txt G mg) : FnOk P w G.K mg base CX0 1 T.a_Keeper_kinds T.d_Keeper_kinds ["self"] (sp0 (sp_Keeper_kinds G)) := by
  refine T.F_Keeper_kinds.ok sc_Keeper_kinds (fun vs H Q E h => h.1) (fun cdv A outer s H vs Q E hr h => ⟨t_Keeper_kinds G E0, ?_, h.2⟩)
  exact (pss_one (ps_ret (pe_callTy (k_list (by rfl)) (by rfl) T.n_list (by decide +kernel) (pa_cons (pfl T.cl_Keeper T.nf_Keeper_own (pv 0) rfl) pa_nil))))
theorem ok_Keeper_stock (T : Txt G mg) : FnOk P w G.K mg base CX0 3 T.a_Keeper_stock T.d_Keeper_stock ["self"] (sp0 (sp_Keeper_stock G)) := by
  refine T.F_Keeper_stock.ok sc_Keeper_stock (fun vs H Q E h => h.1) (fun cdv A outer s H vs Q E hr h => ⟨t_Keeper_stock G E0, ?_, h.2⟩)
  exact (pss_one (ps_ret (pcall (ok_stock_of T) (hr.mono (by decide)) (by rfl) T.g_stock_of T.F_stock_of.kp T.b_stock_of (pa_cons (pfl T.cl_Keeper T.nf_Keeper_own (pv 0) rfl) (pa_cons (pfl T.cl_Keeper T.nf_Keeper_bound (pv 0) rfl) pa_nil)))))
theorem ok_Keeper_fewest (T : Txt G mg) : FnOk P w G.K mg base CX0 4 T.a_Keeper_fewest T.d_Keeper_fewest ["self", "n"] (sp0 (sp_Keeper_fewest G)) := by
  refine T.F_Keeper_fewest.ok sc_Keeper_fewest (fun vs H Q E h => h.1) (fun cdv A outer s H vs Q E hr h => ⟨t_Keeper_fewest G E0, ?_, h.2⟩)
  exact (pss_cons (ps_if (PW.pt (pw_or (pt_not (pt_val (pcall (ok_is_whole T) (hr.mono (by decide)) (by rfl) T.g_is_whole T.F_is_whole.kp T.b_is_whole (pa_cons (pv 1) pa_nil)))) (pw_or1 (pt_not (pt_chain o_le o_le pe_int (pv 1) (pfl T.cl_Keeper T.nf_Keeper_bound (pv 0) rfl)))))) (pss_one prz0) pss_nil)
      (pss_one (ps_ret (pe_ix o_ix (pmt0 (pv 0) T.cl_Keeper T.mm_Keeper_needs (ok_Keeper_needs T) (hr.mono (by decide)) T.b_Keeper_needs) (pv 1) (fun _ _ => rfl)))))
theorem ok_law_deck (T : Txt G mg) : FnOk P w G.K mg base CX0 1 T.a_law_deck T.d_law_deck ["script"] (sp0 (sp_law_deck G)) := by
  refine T.F_law_deck.ok sc_law_deck (fun vs H Q E h => h.1) (fun cdv A outer s H vs Q E hr h => ⟨t_law_deck G E0, ?_, h.2⟩)
  exact (pss_cons (pst 1 sc_law_deck.nd (pe_lst pa_nil))
      (pss_cons (ps_for PassesOwn.never (by rfl) (pi_range1 (by rfl) T.n_range (pa_cons (pe_callB (k_max (by rfl)) (by rfl) T.n_max (by decide +kernel) (pa_cons pe_int (pa_cons (pe_callB (k_min (by rfl)) (by rfl) T.n_min (by decide +kernel) (pa_cons pe_int (pa_cons (pe_callB k_len (by rfl) T.n_len (by decide +kernel) (pa_cons (pv 0) pa_nil)) pa_nil))) pa_nil))) pa_nil)) (pgn 2 sc_law_deck.nd) (pss_cons (pst 3 sc_law_deck.nd pe_int)
      (pss_cons (ps_if (pt_cmpR o_lt (pv 2) (pe_callB k_len (by rfl) T.n_len (by decide +kernel) (pa_cons (pv 0) pa_nil)) (nomark _)) (pss_one (pst 3 sc_law_deck.nd (pe_ix o_ix (pv 0) (pv 2) (fun _ _ => rfl)))) pss_nil)
      (pss_one (ps_expr (pe_bm PySem.F.plainAttrs_list PySem.F.slot_list_append PySem.F.type_list_append mt_append (pv 1) (pa_cons (pe_lst (pa_cons (pv 3) (pa_cons (pe_callTy k_int (by rfl) T.n_int (by decide +kernel) (pa_cons (pe_cmpR o_ge (pv 3) (pe_op o_pow pe_int pe_int) (nomark _)) pa_nil)) (pa_cons (pe_op o_mul pe_int (pv 2)) pa_nil)))) pa_nil)))))))
      (pss_one (ps_ret (pe_lst (pa_cons (pv 1) (pa_cons pe_int pa_nil)))))))
theorem ok_law_draw (T : Txt G mg) : FnOk P w G.K mg base CX0 1 T.a_law_draw T.d_law_draw ["deck", "many"] (sp0 (sp_law_draw G)) := by
  refine T.F_law_draw.ok sc_law_draw (fun vs H Q E h => h.1) (fun cdv A outer s H vs Q E hr h => ⟨t_law_draw G E0, ?_, h.2⟩)
  exact (pss_cons (pst 2 sc_law_draw.nd (pe_ix o_ix (pe_ix o_ix (pv 0) pe_int (fun _ _ => rfl)) (pe_op o_mod (pe_ix o_ix (pv 0) pe_int (fun _ _ => rfl)) (pe_callB k_len (by rfl) T.n_len (by decide +kernel) (pa_cons (pe_ix o_ix (pv 0) pe_int (fun _ _ => rfl)) pa_nil))) (fun _ _ => rfl)))
      (pss_cons (ps_asg (pe_op o_add (pe_ix o_ix (pv 0) pe_int (fun _ _ => rfl)) pe_int) (pg_sub (pv 0) pe_int (s_any (hu_of hr))))
      (pss_cons (ps_if (PW.pt (pw_and (pt_cmpR (o_eq hr.units) (pe_ix o_ix (pv 2) pe_int (fun _ _ => rfl)) pe_int (nomark _)) (pw_and1 (pt_cmpR o_gt (pe_ix o_ix (pv 2) pe_int (fun _ _ => rfl)) pe_int (nomark _))))) (pss_cons (pst 3 sc_law_draw.nd (pe_op o_mod (pe_ix o_ix (pv 2) pe_int (fun _ _ => rfl)) (pv 1)))
      (pss_cons (ps_asg (pe_op o_div (pe_ix o_ix (pv 2) pe_int (fun _ _ => rfl)) (pv 1)) (pg_sub (pv 2) pe_int (s_any (hu_of hr))))
      (pss_one (ps_ret (pv 3))))) pss_nil)
      (pss_cons (ps_asg (pe_op o_add (pe_ix o_ix (pv 2) pe_int (fun _ _ => rfl)) pe_int) (pg_sub (pv 2) pe_int (s_any (hu_of hr))))
      (pss_cons (pst 4 sc_law_draw.nd (pe_op o_mod (pe_op o_add (pe_op o_mod (pe_ix o_ix (pv 2) pe_int (fun _ _ => rfl)) pe_int) (pe_op o_mul pe_int (pe_ix o_ix (pv 2) pe_int (fun _ _ => rfl)))) pe_int))
      (pss_cons (pst 4 sc_law_draw.nd (pe_op o_mod (pe_op o_mul (pv 4) (pv 4)) pe_int))
      (pss_cons (pst 4 sc_law_draw.nd (pe_op o_mod (pe_op o_mul (pv 4) (pe_op o_add (pv 4) pe_int)) pe_int))
      (pss_one (ps_ret (pe_op o_mod (pe_op o_div (pv 4) pe_int) (pv 1)))))))))))
theorem ok_law_some_kinds (T : Txt G mg) : FnOk P w G.K mg base CX0 2 T.a_law_some_kinds T.d_law_some_kinds ["deck"] (sp0 (sp_law_some_kinds G)) := by
  refine T.F_law_some_kinds.ok sc_law_some_kinds (fun vs H Q E h => h.1) (fun cdv A outer s H vs Q E hr h => ⟨t_law_some_kinds G E0, ?_, h.2⟩)
  exact (pss_cons (pst 1 sc_law_some_kinds.nd (pe_lst (pa_cons pe_int (pa_cons pe_int (pa_cons pe_int (pa_cons pe_int (pa_cons pe_int (pa_cons pe_int (pa_cons pe_int (pa_cons pe_int (pa_cons pe_int (pa_cons pe_int (pa_cons pe_str pa_nil)))))))))))))
      (pss_one (ps_ret (pe_lc (own := [("k", 2)]) (g := (gName 2)) (tt := tYes) (by rfl) sc_law_some_kinds.nd  (pi_range1 (by rfl) T.n_range (pa_cons (pe_ix o_ix (pe_lst (pa_cons (pe_op o_add pe_int (pcall (ok_law_draw T) (hr.mono (by decide)) (by rfl) T.g_law_draw T.F_law_draw.kp T.b_law_draw (pa_cons (pv 0) (pa_cons pe_int pa_nil)))) (pa_cons pe_int (pa_cons pe_int pa_nil)))) (pcall (ok_law_draw T) (hr.mono (by decide)) (by rfl) T.g_law_draw T.F_law_draw.kp T.b_law_draw (pa_cons (pv 0) (pa_cons pe_int pa_nil))) (fun _ _ => rfl)) pa_nil)) (blkOk_by (own := [("k", 2)]) (N := ["deck", "left", "k"]) (sc := defScope s_law_some_kinds) (by decide +kernel)) (fun _ _ _ _ _ => (pgn 2 sc_law_some_kinds.nd)) (fun _ _ _ _ _ => pts_nil) (fun _ _ _ _ _ => (pe_bm PySem.F.plainAttrs_list PySem.F.slot_list_pop PySem.F.type_list_pop mt_popAt (pv 1) (pa_cons (pcall (ok_law_draw T) (hr.mono (by decide)) (by rfl) T.g_law_draw T.F_law_draw.kp T.b_law_draw (pa_cons (pv 0) (pa_cons (pe_callB k_len (by rfl) T.n_len (by decide +kernel) (pa_cons (pv 1) pa_nil)) pa_nil))) pa_nil)))))))
theorem ok_law_dots (T : Txt G mg) : FnOk P w G.K mg base CX0 1 T.a_law_dots T.d_law_dots ["kind", "most"] (sp0 (sp_law_dots G)) := by
  refine T.F_law_dots.ok sc_law_dots (fun vs H Q E h => h.1) (fun cdv A outer s H vs Q E hr h => ⟨t_law_dots G E0, ?_, h.2⟩)
  exact (pss_cons (pst 2 sc_law_dots.nd (pe_lst pa_nil))
      (pss_cons (pst 3 sc_law_dots.nd pe_int)
      (pss_cons (pst 4 sc_law_dots.nd pe_int)
      (pss_cons (pst 5 sc_law_dots.nd pe_int)
      (pss_cons (ps_while PassesOwn.never (pt_cmpR o_le (pv 4) (pv 1) (nomark _)) (pss_cons (ps_expr (pe_bm PySem.F.plainAttrs_list PySem.F.slot_list_append PySem.F.type_list_append mt_append (pv 2) (pa_cons (pv 4) pa_nil)))
      (pss_cons (pst 3 sc_law_dots.nd (pe_op o_add (pv 3) pe_int))
      (pss_one (ps_if (pt_cmpR (o_eq hr.units) (pv 0) pe_str (nomark _)) (pss_one (pst 4 sc_law_dots.nd (pe_op o_pow (pv 3) pe_int))) (pss_cons (pst 5 sc_law_dots.nd (pe_op o_sub (pe_op o_add (pv 5) (pv 0)) pe_int))
      (pss_one (pst 4 sc_law_dots.nd (pe_op o_add (pv 4) (pv 5))))))))))
      (pss_one (ps_ret (pv 2))))))))
theorem ok_law_stock (T : Txt G mg) : FnOk P w G.K mg base CX0 2 T.a_law_stock T.d_law_stock ["kinds", "most"] (sp0 (sp_law_stock G)) := by
  refine T.F_law_stock.ok sc_law_stock (fun vs H Q E h => h.1) (fun cdv A outer s H vs Q E hr h => ⟨t_law_stock G E0, ?_, h.2⟩)
  exact (pss_cons (pst 2 sc_law_stock.nd (pe_lst pa_nil))
      (pss_cons (ps_for PassesOwn.never (by rfl) (pi_list (pv 0)) (pgn 3 sc_law_stock.nd) (pss_one (ps_for PassesOwn.never (by rfl) (pi_list (pcall (ok_law_dots T) (hr.mono (by decide)) (by rfl) T.g_law_dots T.F_law_dots.kp T.b_law_dots (pa_cons (pv 3) (pa_cons (pv 1) pa_nil)))) (pgn 4 sc_law_stock.nd) (pss_one (ps_if (pt_cmpR o_notIn (pv 4) (pv 2) (by rfl)) (pss_one (ps_expr (pe_bm PySem.F.plainAttrs_list PySem.F.slot_list_append PySem.F.type_list_append mt_append (pv 2) (pa_cons (pv 4) pa_nil)))) pss_nil)))))
      (pss_one (ps_ret (pe_callB (k_sorted (by rfl)) (by rfl) T.n_sorted (by decide +kernel) (pa_cons (pv 2) pa_nil))))))
theorem ok_law_number (T : Txt G mg) : FnOk P w G.K mg base CX0 2 T.a_law_number T.d_law_number ["deck"] (sp0 (sp_law_number G)) := by
  refine T.F_law_number.ok sc_law_number (fun vs H Q E h => h.1) (fun cdv A outer s H vs Q E hr h => ⟨t_law_number G E0, ?_, h.2⟩)
  exact (pss_one (ps_ret (pe_ix o_ix (pe_lst (pa_cons (pcall (ok_law_draw T) (hr.mono (by decide)) (by rfl) T.g_law_draw T.F_law_draw.kp T.b_law_draw (pa_cons (pv 0) (pa_cons pe_int pa_nil))) (pa_cons (pcall (ok_law_draw T) (hr.mono (by decide)) (by rfl) T.g_law_draw T.F_law_draw.kp T.b_law_draw (pa_cons (pv 0) (pa_cons pe_int pa_nil))) (pa_cons (pe_op o_sub pe_int (pcall (ok_law_draw T) (hr.mono (by decide)) (by rfl) T.g_law_draw T.F_law_draw.kp T.b_law_draw (pa_cons (pv 0) (pa_cons pe_int pa_nil)))) (pa_cons pe_int pa_nil))))) (pcall (ok_law_draw T) (hr.mono (by decide)) (by rfl) T.g_law_draw T.F_law_draw.kp T.b_law_draw (pa_cons (pv 0) (pa_cons pe_int pa_nil))) (fun _ _ => rfl))))
theorem ok_law_needs (T : Txt G mg) : FnOk P w G.K mg base CX0 1 T.a_law_needs T.d_law_needs ["stock", "most"] (sp0 (sp_law_needs G)) := by
  refine T.F_law_needs.ok sc_law_needs (fun vs H Q E h => h.1) (fun cdv A outer s H vs Q E hr h => ⟨t_law_needs G E0, ?_, h.2⟩)
  exact (pss_cons (pst 2 sc_law_needs.nd (pe_op o_mul (pe_lst (pa_cons pe_int pa_nil)) (pe_op o_add (pv 1) pe_int)))
      (pss_cons (pst 3 sc_law_needs.nd pe_int)
      (pss_cons (pst 4 sc_law_needs.nd (pe_op o_sub (pe_op o_shl pe_int (pe_op o_add (pv 1) pe_int)) pe_int))
      (pss_cons (pst 5 sc_law_needs.nd pe_int)
      (pss_cons (ps_while PassesOwn.never (pt_cmpR (o_ne hr.units) (pv 3) (pv 4) (nomark _)) (pss_cons (pst 5 sc_law_needs.nd (pe_op o_add (pv 5) pe_int))
      (pss_cons (pst 6 sc_law_needs.nd (pv 3))
      (pss_cons (ps_for PassesOwn.never (by rfl) (pi_list (pv 0)) (pgn 7 sc_law_needs.nd) (pss_one (pst 6 sc_law_needs.nd (pe_op o_or (pv 6) (pe_op o_shl (pv 3) (pv 7))))))
      (pss_cons (pst 6 sc_law_needs.nd (pe_op o_and (pv 6) (pv 4)))
      (pss_cons (ps_for PassesOwn.never (by rfl) (pi_range1 (by rfl) T.n_range (pa_cons (pe_op o_add (pv 1) pe_int) pa_nil)) (pgn 8 sc_law_needs.nd) (pss_one (ps_if (PW.pt (pw_and (pt_cmpR (o_eq hr.units) (pe_op o_and (pe_op o_shr (pv 6) (pv 8)) pe_int) pe_int (nomark _)) (pw_and1 (pt_cmpR (o_eq hr.units) (pe_op o_and (pe_op o_shr (pv 3) (pv 8)) pe_int) pe_int (nomark _))))) (pss_one (ps_asg (pv 5) (pg_sub (pv 2) (pv 8) (s_any (hu_of hr))))) pss_nil)))
      (pss_one (pst 3 sc_law_needs.nd (pv 6)))))))))
      (pss_one (ps_ret (pv 2))))))))
theorem ok_law_rest (T : Txt G mg) : FnOk P w G.K mg base CX0 1 T.a_law_rest T.d_law_rest ["kinds"] (sp0 (sp_law_rest G)) := by
  refine T.F_law_rest.ok sc_law_rest (fun vs H Q E h => h.1) (fun cdv A outer s H vs Q E hr h => ⟨t_law_rest G E0, ?_, h.2⟩)
  exact (pss_one (ps_ret (pe_lc (own := [("kind", 1)]) (g := (gName 1)) (tt := (tTest (tOp (uNotIn G.K) (tVar 1) (tVar 0)))) (by rfl) sc_law_rest.nd  (pi_list (pe_lst (pa_cons pe_int (pa_cons pe_int (pa_cons pe_int (pa_cons pe_int (pa_cons pe_int (pa_cons pe_int (pa_cons pe_int (pa_cons pe_int (pa_cons pe_int (pa_cons pe_int (pa_cons pe_str pa_nil))))))))))))) (blkOk_by (own := [("kind", 1)]) (N := ["kinds", "kind"]) (sc := defScope s_law_rest) (by decide +kernel)) (fun _ _ _ _ _ => (pgn 1 sc_law_rest.nd)) (fun _ _ _ _ _ => (pts_one (pt_cmpR o_notIn (pv 1) (pv 0) (by rfl)))) (fun _ _ _ _ _ => (pv 1)))))
theorem ok_law_asked_all (T : Txt G mg) : FnOk P w G.K mg base CX0 5 T.a_law_asked_all T.d_law_asked_all ["deck", "keeper", "kinds", "b"] (sp0 (sp_law_asked_all G)) := by
  refine T.F_law_asked_all.ok sc_law_asked_all (fun vs H Q E h => h.1) (fun cdv A outer s H vs Q E hr h => ⟨t_law_asked_all G E0, ?_, h.2⟩)
  exact (pss_cons (pst 4 sc_law_asked_all.nd (pcall (ok_law_draw T) (hr.mono (by decide)) (by rfl) T.g_law_draw T.F_law_draw.kp T.b_law_draw (pa_cons (pv 0) (pa_cons pe_int pa_nil))))
      (pss_cons (ps_for PassesOwn.never (by rfl) (pi_list (pe_ix o_ix (pe_lst (pa_cons (pe_lst (pa_cons pe_int pa_nil)) (pa_cons (pe_lst (pa_cons pe_int pa_nil)) (pa_cons (pe_lst (pa_cons pe_int pa_nil)) (pa_cons (pe_lst (pa_cons pe_int (pa_cons pe_int (pa_cons pe_int pa_nil)))) (pa_cons (pe_lst (pa_cons pe_int (pa_cons pe_int (pa_cons pe_int pa_nil)))) pa_nil)))))) (pv 4) (fun _ _ => rfl))) (pgn 5 sc_law_asked_all.nd) (pss_cons (ps_if (PW.pt (pw_and (pt_cmpR (o_eq hr.units) (pv 5) pe_int (nomark _)) (pw_and1 (pt_cmpR (o_ne hr.units) (pmt0 (pv 1) T.cl_Keeper T.mm_Keeper_kinds (ok_Keeper_kinds T) (hr.mono (by decide)) T.b_Keeper_kinds) (pv 2) (nomark _))))) (pss_one (ps_ret pe_bl)) pss_nil)
      (pss_cons (ps_if (PW.pt (pw_and (pt_cmpR (o_eq hr.units) (pv 5) pe_int (nomark _)) (pw_and1 (pt_cmpR (o_ne hr.units) (pmt0 (pv 1) T.cl_Keeper T.mm_Keeper_stock (ok_Keeper_stock T) (hr.mono (by decide)) T.b_Keeper_stock) (pcall (ok_law_stock T) (hr.mono (by decide)) (by rfl) T.g_law_stock T.F_law_stock.kp T.b_law_stock (pa_cons (pv 2) (pa_cons (pv 3) pa_nil))) (nomark _))))) (pss_one (ps_ret pe_bl)) pss_nil)
      (pss_one (ps_if (pt_cmpR (o_eq hr.units) (pv 5) pe_int (nomark _)) (pss_cons (pst 6 sc_law_asked_all.nd (pcall (ok_law_needs T) (hr.mono (by decide)) (by rfl) T.g_law_needs T.F_law_needs.kp T.b_law_needs (pa_cons (pcall (ok_law_stock T) (hr.mono (by decide)) (by rfl) T.g_law_stock T.F_law_stock.kp T.b_law_stock (pa_cons (pv 2) (pa_cons (pv 3) pa_nil))) (pa_cons (pv 3) pa_nil))))
      (pss_one (ps_for PassesOwn.never (by rfl) (pi_list (pe_lst (pa_cons (pv 3) (pa_cons (pcall (ok_law_draw T) (hr.mono (by decide)) (by rfl) T.g_law_draw T.F_law_draw.kp T.b_law_draw (pa_cons (pv 0) (pa_cons (pe_op o_add (pv 3) pe_int) pa_nil))) pa_nil)))) (pgn 7 sc_law_asked_all.nd) (pss_one (ps_if (pt_cmpR (o_ne hr.units) (pmt (pv 1) T.cl_Keeper T.mm_Keeper_fewest (ok_Keeper_fewest T) (hr.mono (by decide)) T.b_Keeper_fewest (pa_cons (pv 7) pa_nil)) (pe_ix o_ix (pv 6) (pv 7) (fun _ _ => rfl)) (nomark _)) (pss_one (ps_ret pe_bl)) pss_nil))))) pss_nil)))))
      (pss_one (ps_ret pe_bl))))
theorem ok_law_k33 (T : Txt G mg) : FnOk P w G.K mg base CX0 7 T.a_law_k33 T.d_law_k33 ["script"] (sp0 (sp_law_k33 G)) := by
  refine T.F_law_k33.ok sc_law_k33 (fun vs H Q E h => h.1) (fun cdv A outer s H vs Q E hr h => ⟨t_law_k33 G E0, ?_, h.2⟩)
  exact (pss_cons (pst 1 sc_law_k33.nd (pcall (ok_law_deck T) (hr.mono (by decide)) (by rfl) T.g_law_deck T.F_law_deck.kp T.b_law_deck (pa_cons (pv 0) pa_nil)))
      (pss_cons (ps_for PassesOwn.never (by rfl) (pi_range1 (by rfl) T.n_range (pa_cons pe_int pa_nil)) (pgn 2 sc_law_k33.nd) (pss_cons (pst 3 sc_law_k33.nd (pcall (ok_law_some_kinds T) (hr.mono (by decide)) (by rfl) T.g_law_some_kinds T.F_law_some_kinds.kp T.b_law_some_kinds (pa_cons (pv 1) pa_nil)))
      (pss_cons (pst 4 sc_law_k33.nd (pe_ix o_ix (pe_lst (pa_cons (pe_callTy (k_list (by rfl)) (by rfl) T.n_list (by decide +kernel) (pa_cons (pv 3) pa_nil)) (pa_cons (pcall (ok_law_some_kinds T) (hr.mono (by decide)) (by rfl) T.g_law_some_kinds T.F_law_some_kinds.kp T.b_law_some_kinds (pa_cons (pv 1) pa_nil)) pa_nil))) (pcall (ok_law_draw T) (hr.mono (by decide)) (by rfl) T.g_law_draw T.F_law_draw.kp T.b_law_draw (pa_cons (pv 1) (pa_cons pe_int pa_nil))) (fun _ _ => rfl)))
      (pss_cons (pst 5 sc_law_k33.nd (pe_lst (pa_cons (pcall (ok_law_number T) (hr.mono (by decide)) (by rfl) T.g_law_number T.F_law_number.kp T.b_law_number (pa_cons (pv 1) pa_nil)) (pa_cons (pcall (ok_law_number T) (hr.mono (by decide)) (by rfl) T.g_law_number T.F_law_number.kp T.b_law_number (pa_cons (pv 1) pa_nil)) pa_nil))))
      (pss_cons (ps_if (pt_cmpR (o_eq hr.units) (pcall (ok_law_draw T) (hr.mono (by decide)) (by rfl) T.g_law_draw T.F_law_draw.kp T.b_law_draw (pa_cons (pv 1) (pa_cons pe_int pa_nil))) pe_int (nomark _)) (pss_one (ps_asg (pe_ix o_ix (pv 5) pe_int (fun _ _ => rfl)) (pg_sub (pv 5) pe_int (s_any (hu_of hr))))) pss_nil)
      (pss_cons (pst 6 sc_law_k33.nd (pe_lst (pa_cons (pv 3) (pa_cons (pv 4) pa_nil))))
      (pss_cons (ps_if (pt_cmpR (o_eq hr.units) (pv 3) (pv 4) (nomark _)) (pss_one (pst 6 sc_law_k33.nd (pe_lst (pa_cons (pv 3) (pa_cons (pv 3) pa_nil))))) pss_nil)
      (pss_cons (pst 7 sc_law_k33.nd (pe_lst (pa_cons (pe_callTy (k_list (by rfl)) (by rfl) T.n_list (by decide +kernel) (pa_cons (pv 3) pa_nil)) (pa_cons (pe_callTy (k_list (by rfl)) (by rfl) T.n_list (by decide +kernel) (pa_cons (pv 4) pa_nil)) pa_nil))))
      (pss_cons (pst 8 sc_law_k33.nd (pe_lst (pa_cons (pmk T.mk_Keeper (ok_Keeper___init__ T) (hr.mono (by decide)) (by rfl) T.g_Keeper T.b_Keeper___init__ (pa_cons (pe_ix o_ix (pv 6) pe_int (fun _ _ => rfl)) (pa_cons (pe_ix o_ix (pv 5) pe_int (fun _ _ => rfl)) pa_nil))) (pa_cons (pmk T.mk_Keeper (ok_Keeper___init__ T) (hr.mono (by decide)) (by rfl) T.g_Keeper T.b_Keeper___init__ (pa_cons (pe_ix o_ix (pv 6) pe_int (fun _ _ => rfl)) (pa_cons (pe_ix o_ix (pv 5) pe_int (fun _ _ => rfl)) pa_nil))) pa_nil))))
      (pss_cons (ps_expr (pe_bm PySem.F.plainAttrs_list PySem.F.slot_list_append PySem.F.type_list_append mt_append (pe_ix o_ix (pv 6) pe_int (fun _ _ => rfl)) (pa_cons pe_str pa_nil)))
      (pss_one (ps_for PassesOwn.never (by rfl) (pi_range1 (by rfl) T.n_range (pa_cons (pe_op o_add pe_int (pcall (ok_law_draw T) (hr.mono (by decide)) (by rfl) T.g_law_draw T.F_law_draw.kp T.b_law_draw (pa_cons (pv 1) (pa_cons pe_int pa_nil)))) pa_nil)) (pgn 9 sc_law_k33.nd) (pss_cons (pst 10 sc_law_k33.nd (pcall (ok_law_draw T) (hr.mono (by decide)) (by rfl) T.g_law_draw T.F_law_draw.kp T.b_law_draw (pa_cons (pv 1) (pa_cons pe_int pa_nil))))
      (pss_cons (pst 11 sc_law_k33.nd (pe_ix o_ix (pv 7) (pv 10) (fun _ _ => rfl)))
      (pss_cons (ps_if (PW.pt (pw_or (pt_cmpR o_lt (pe_callB k_len (by rfl) T.n_len (by decide +kernel) (pa_cons (pv 11) pa_nil)) pe_int (nomark _)) (pw_or1 (PW.pt (pw_and (pt_cmpR o_lt (pe_callB k_len (by rfl) T.n_len (by decide +kernel) (pa_cons (pv 11) pa_nil)) pe_int (nomark _)) (pw_and1 (pt_cmpR (o_eq hr.units) (pcall (ok_law_draw T) (hr.mono (by decide)) (by rfl) T.g_law_draw T.F_law_draw.kp T.b_law_draw (pa_cons (pv 1) (pa_cons pe_int pa_nil))) pe_int (nomark _)))))))) (pss_cons (pst 12 sc_law_k33.nd (pe_ix o_ix (pcall (ok_law_rest T) (hr.mono (by decide)) (by rfl) T.g_law_rest T.F_law_rest.kp T.b_law_rest (pa_cons (pv 11) pa_nil)) (pcall (ok_law_draw T) (hr.mono (by decide)) (by rfl) T.g_law_draw T.F_law_draw.kp T.b_law_draw (pa_cons (pv 1) (pa_cons (pe_op o_sub pe_int (pe_callB k_len (by rfl) T.n_len (by decide +kernel) (pa_cons (pv 11) pa_nil))) pa_nil))) (fun _ _ => rfl)))
      (pss_cons (ps_expr (pmt (pe_ix o_ix (pv 8) (pv 10) (fun _ _ => rfl)) T.cl_Keeper T.mm_Keeper_come (ok_Keeper_come T) (hr.mono (by decide)) T.b_Keeper_come (pa_cons (pv 12) pa_nil)))
      (pss_one (ps_asg (pe_op o_add (pv 11) (pe_lst (pa_cons (pv 12) pa_nil))) (pg_sub (pv 7) (pv 10) (s_any (hu_of hr))))))) (pss_cons (pst 12 sc_law_k33.nd (pe_ix o_ix (pv 11) (pcall (ok_law_draw T) (hr.mono (by decide)) (by rfl) T.g_law_draw T.F_law_draw.kp T.b_law_draw (pa_cons (pv 1) (pa_cons (pe_callB k_len (by rfl) T.n_len (by decide +kernel) (pa_cons (pv 11) pa_nil)) pa_nil))) (fun _ _ => rfl)))
      (pss_cons (ps_expr (pmt (pe_ix o_ix (pv 8) (pv 10) (fun _ _ => rfl)) T.cl_Keeper T.mm_Keeper_go (ok_Keeper_go T) (hr.mono (by decide)) T.b_Keeper_go (pa_cons (pv 12) pa_nil)))
      (pss_one (ps_asg (pe_lc (own := [("one", 14)]) (g := (gName 14)) (tt := (tTest (tOp (uNe G.K) (tVar 14) (tVar 12)))) (by rfl) sc_law_k33.nd  (pi_list (pv 11)) (blkOk_by (own := [("one", 14)]) (N := ["script", "deck", "k", "first", "second", "bounds", "handed", "kinds", "keepers", "turn", "at", "own", "kind", "told", "one"]) (sc := defScope s_law_k33) (by decide +kernel)) (fun _ _ _ _ _ => (pgn 14 sc_law_k33.nd)) (fun _ _ _ _ _ => (pts_one (pt_cmpR (o_ne hr.units) (pv 14) (pv 12) (nomark _)))) (fun _ _ _ _ _ => (pv 14))) (pg_sub (pv 7) (pv 10) (s_any (hu_of hr))))))))
      (pss_cons (pst 13 sc_law_k33.nd (pmt0 (pe_ix o_ix (pv 8) (pv 10) (fun _ _ => rfl)) T.cl_Keeper T.mm_Keeper_kinds (ok_Keeper_kinds T) (hr.mono (by decide)) T.b_Keeper_kinds))
      (pss_cons (ps_expr (pe_bm PySem.F.plainAttrs_list PySem.F.slot_list_append PySem.F.type_list_append mt_append (pv 13) (pa_cons pe_int pa_nil)))
      (pss_one (ps_for PassesOwn.never (by rfl) (pi_list (pe_lst (pa_cons (pv 10) (pa_cons (pe_op o_sub pe_int (pv 10)) pa_nil)))) (pgn 14 sc_law_k33.nd) (pss_one (ps_if (pt_not (pt_val (pcall (ok_law_asked_all T) (hr.mono (by decide)) (by rfl) T.g_law_asked_all T.F_law_asked_all.kp T.b_law_asked_all (pa_cons (pv 1) (pa_cons (pe_ix o_ix (pv 8) (pv 14) (fun _ _ => rfl)) (pa_cons (pe_ix o_ix (pv 7) (pv 14) (fun _ _ => rfl)) (pa_cons (pe_ix o_ix (pv 5) (pv 14) (fun _ _ => rfl)) pa_nil))))))) (pss_one (ps_ret pe_bl)) pss_nil)))))))))))))))))))))
      (pss_one (ps_ret pe_bl))))
end
theorem txt_mk {K : PySem.W.Frag} {h : Heap} {mg : Str → Option Value} (X : K.In h) (Gs : h.Ns mainGlobals mg)
    {C1 : Addr}
    {f1 : Addr} {od1 an1 : Option Addr} {sl1 : Array (Option Value)} {oc1 kV1 dc1 pm1 cd1 ct1 : Value}
    {f2 : Addr} {od2 an2 : Option Addr} {sl2 : Array (Option Value)} {oc2 kV2 dc2 pm2 cd2 ct2 : Value}
    {f3 : Addr} {od3 an3 : Option Addr} {sl3 : Array (Option Value)} {oc3 kV3 dc3 pm3 cd3 ct3 : Value}
    {f4 : Addr} {od4 an4 : Option Addr} {sl4 : Array (Option Value)} {oc4 kV4 dc4 pm4 cd4 ct4 : Value}
    {f5 : Addr} {od5 an5 : Option Addr} {sl5 : Array (Option Value)} {oc5 kV5 dc5 pm5 cd5 ct5 : Value}
    {f6 : Addr} {od6 an6 : Option Addr} {sl6 : Array (Option Value)} {oc6 kV6 dc6 pm6 cd6 ct6 : Value}
    {f7 : Addr} {od7 an7 : Option Addr} {sl7 : Array (Option Value)} {oc7 kV7 dc7 pm7 cd7 ct7 : Value}
    {f8 : Addr} {od8 an8 : Option Addr} {sl8 : Array (Option Value)} {oc8 kV8 dc8 pm8 cd8 ct8 : Value}
    {f9 : Addr} {od9 an9 : Option Addr} {sl9 : Array (Option Value)} {oc9 kV9 dc9 pm9 cd9 ct9 : Value}
    {f10 : Addr} {od10 an10 : Option Addr} {sl10 : Array (Option Value)} {oc10 kV10 dc10 pm10 cd10 ct10 : Value}
    {f11 : Addr} {od11 an11 : Option Addr} {sl11 : Array (Option Value)} {oc11 kV11 dc11 pm11 cd11 ct11 : Value}
    {f12 : Addr} {od12 an12 : Option Addr} {sl12 : Array (Option Value)} {oc12 kV12 dc12 pm12 cd12 ct12 : Value}
    {f13 : Addr} {od13 an13 : Option Addr} {sl13 : Array (Option Value)} {oc13 kV13 dc13 pm13 cd13 ct13 : Value}
    {f14 : Addr} {od14 an14 : Option Addr} {sl14 : Array (Option Value)} {oc14 kV14 dc14 pm14 cd14 ct14 : Value}
    {f15 : Addr} {od15 an15 : Option Addr} {sl15 : Array (Option Value)} {oc15 kV15 dc15 pm15 cd15 ct15 : Value}
    {f16 : Addr} {od16 an16 : Option Addr} {sl16 : Array (Option Value)} {oc16 kV16 dc16 pm16 cd16 ct16 : Value}
    {f17 : Addr} {od17 an17 : Option Addr} {sl17 : Array (Option Value)} {oc17 kV17 dc17 pm17 cd17 ct17 : Value}
    {f18 : Addr} {od18 an18 : Option Addr} {sl18 : Array (Option Value)} {oc18 kV18 dc18 pm18 cd18 ct18 : Value}
    {f19 : Addr} {od19 an19 : Option Addr} {sl19 : Array (Option Value)} {oc19 kV19 dc19 pm19 cd19 ct19 : Value}
    {f20 : Addr} {od20 an20 : Option Addr} {sl20 : Array (Option Value)} {oc20 kV20 dc20 pm20 cd20 ct20 : Value}
    {f21 : Addr} {od21 an21 : Option Addr} {sl21 : Array (Option Value)} {oc21 kV21 dc21 pm21 cd21 ct21 : Value}
    {f22 : Addr} {od22 an22 : Option Addr} {sl22 : Array (Option Value)} {oc22 kV22 dc22 pm22 cd22 ct22 : Value}
    {f23 : Addr} {od23 an23 : Option Addr} {sl23 : Array (Option Value)} {oc23 kV23 dc23 pm23 cd23 ct23 : Value}
    {f24 : Addr} {od24 an24 : Option Addr} {sl24 : Array (Option Value)} {oc24 kV24 dc24 pm24 cd24 ct24 : Value}
    {f25 : Addr} {od25 an25 : Option Addr} {sl25 : Array (Option Value)} {oc25 kV25 dc25 pm25 cd25 ct25 : Value}
    {tk0 : Tok}
    {tk1 : Tok}
    {tk2 : Tok}
    {tk3 : Tok}
    {tk4 : Tok}
    (aC1 : PySem.W.nsIn K mainGlobals "Keeper" = some (some (.ref C1)))
    (a1 : PySem.W.nsIn K mainGlobals "is_whole" = some (some (.ref f1)))
    (l1 : K.lookup f1 = some ⟨oc1, od1, .func (PySem.W.fnOf "is_whole" "is_whole" (defArgs s_is_whole) (defBody s_is_whole) (defScope s_is_whole) .none kV1 dc1 pm1 an1 cd1 ct1), sl1⟩)
    (c1 : PySem.W.codeIn K cd1 "is_whole" = true)
    (k1 : PySem.W.keepIn K (.ref f1) = true)
    (a2 : PySem.W.nsIn K mainGlobals "is_kind" = some (some (.ref f2)))
    (l2 : K.lookup f2 = some ⟨oc2, od2, .func (PySem.W.fnOf "is_kind" "is_kind" (defArgs s_is_kind) (defBody s_is_kind) (defScope s_is_kind) .none kV2 dc2 pm2 an2 cd2 ct2), sl2⟩)
    (c2 : PySem.W.codeIn K cd2 "is_kind" = true)
    (k2 : PySem.W.keepIn K (.ref f2) = true)
    (a3 : PySem.W.nsIn K mainGlobals "are_kinds" = some (some (.ref f3)))
    (l3 : K.lookup f3 = some ⟨oc3, od3, .func (PySem.W.fnOf "are_kinds" "are_kinds" (defArgs s_are_kinds) (defBody s_are_kinds) (defScope s_are_kinds) .none kV3 dc3 pm3 an3 cd3 ct3), sl3⟩)
    (c3 : PySem.W.codeIn K cd3 "are_kinds" = true)
    (k3 : PySem.W.keepIn K (.ref f3) = true)
    (a4 : PySem.W.nsIn K mainGlobals "need_kinds" = some (some (.ref f4)))
    (l4 : K.lookup f4 = some ⟨oc4, od4, .func (PySem.W.fnOf "need_kinds" "need_kinds" (defArgs s_need_kinds) (defBody s_need_kinds) (defScope s_need_kinds) .none kV4 dc4 pm4 an4 cd4 ct4), sl4⟩)
    (c4 : PySem.W.codeIn K cd4 "need_kinds" = true)
    (k4 : PySem.W.keepIn K (.ref f4) = true)
    (a5 : PySem.W.nsIn K mainGlobals "need_to_most" = some (some (.ref f5)))
    (l5 : K.lookup f5 = some ⟨oc5, od5, .func (PySem.W.fnOf "need_to_most" "need_to_most" (defArgs s_need_to_most) (defBody s_need_to_most) (defScope s_need_to_most) .none kV5 dc5 pm5 an5 cd5 ct5), sl5⟩)
    (c5 : PySem.W.codeIn K cd5 "need_to_most" = true)
    (k5 : PySem.W.keepIn K (.ref f5) = true)
    (a6 : PySem.W.nsIn K mainGlobals "dots" = some (some (.ref f6)))
    (l6 : K.lookup f6 = some ⟨oc6, od6, .func (PySem.W.fnOf "dots" "dots" (defArgs s_dots) (defBody s_dots) (defScope s_dots) .none kV6 dc6 pm6 an6 cd6 ct6), sl6⟩)
    (c6 : PySem.W.codeIn K cd6 "dots" = true)
    (k6 : PySem.W.keepIn K (.ref f6) = true)
    (a7 : PySem.W.nsIn K mainGlobals "stock_of" = some (some (.ref f7)))
    (l7 : K.lookup f7 = some ⟨oc7, od7, .func (PySem.W.fnOf "stock_of" "stock_of" (defArgs s_stock_of) (defBody s_stock_of) (defScope s_stock_of) .none kV7 dc7 pm7 an7 cd7 ct7), sl7⟩)
    (c7 : PySem.W.codeIn K cd7 "stock_of" = true)
    (k7 : PySem.W.keepIn K (.ref f7) = true)
    (a8 : PySem.W.nsIn K mainGlobals "fewest_by" = some (some (.ref f8)))
    (l8 : K.lookup f8 = some ⟨oc8, od8, .func (PySem.W.fnOf "fewest_by" "fewest_by" (defArgs s_fewest_by) (defBody s_fewest_by) (defScope s_fewest_by) .none kV8 dc8 pm8 an8 cd8 ct8), sl8⟩)
    (c8 : PySem.W.codeIn K cd8 "fewest_by" = true)
    (k8 : PySem.W.keepIn K (.ref f8) = true)
    (a9 : PySem.W.findIn K (.ref C1) "__init__" = some (some (.ref f9)))
    (i9 : PySem.W.isFn K (.ref f9) = true)
    (l9 : K.lookup f9 = some ⟨oc9, od9, .func (PySem.W.fnOf "__init__" "Keeper.__init__" (defArgs s_Keeper___init__) (defBody s_Keeper___init__) (defScope s_Keeper___init__) .none kV9 dc9 pm9 an9 cd9 ct9), sl9⟩)
    (c9 : PySem.W.codeIn K cd9 "Keeper.__init__" = true)
    (k9 : PySem.W.keepIn K (.ref f9) = true)
    (mk1 : PySem.W.makesIn K C1 = true)
    (kc1 : PySem.W.keepIn K (.ref C1) = true)
    (a10 : PySem.W.findIn K (.ref C1) "needs" = some (some (.ref f10)))
    (i10 : PySem.W.isFn K (.ref f10) = true)
    (l10 : K.lookup f10 = some ⟨oc10, od10, .func (PySem.W.fnOf "needs" "Keeper.needs" (defArgs s_Keeper_needs) (defBody s_Keeper_needs) (defScope s_Keeper_needs) .none kV10 dc10 pm10 an10 cd10 ct10), sl10⟩)
    (c10 : PySem.W.codeIn K cd10 "Keeper.needs" = true)
    (k10 : PySem.W.keepIn K (.ref f10) = true)
    (a11 : PySem.W.findIn K (.ref C1) "come" = some (some (.ref f11)))
    (i11 : PySem.W.isFn K (.ref f11) = true)
    (l11 : K.lookup f11 = some ⟨oc11, od11, .func (PySem.W.fnOf "come" "Keeper.come" (defArgs s_Keeper_come) (defBody s_Keeper_come) (defScope s_Keeper_come) .none kV11 dc11 pm11 an11 cd11 ct11), sl11⟩)
    (c11 : PySem.W.codeIn K cd11 "Keeper.come" = true)
    (k11 : PySem.W.keepIn K (.ref f11) = true)
    (a12 : PySem.W.findIn K (.ref C1) "go" = some (some (.ref f12)))
    (i12 : PySem.W.isFn K (.ref f12) = true)
    (l12 : K.lookup f12 = some ⟨oc12, od12, .func (PySem.W.fnOf "go" "Keeper.go" (defArgs s_Keeper_go) (defBody s_Keeper_go) (defScope s_Keeper_go) .none kV12 dc12 pm12 an12 cd12 ct12), sl12⟩)
    (c12 : PySem.W.codeIn K cd12 "Keeper.go" = true)
    (k12 : PySem.W.keepIn K (.ref f12) = true)
    (a13 : PySem.W.findIn K (.ref C1) "kinds" = some (some (.ref f13)))
    (i13 : PySem.W.isFn K (.ref f13) = true)
    (l13 : K.lookup f13 = some ⟨oc13, od13, .func (PySem.W.fnOf "kinds" "Keeper.kinds" (defArgs s_Keeper_kinds) (defBody s_Keeper_kinds) (defScope s_Keeper_kinds) .none kV13 dc13 pm13 an13 cd13 ct13), sl13⟩)
    (c13 : PySem.W.codeIn K cd13 "Keeper.kinds" = true)
    (k13 : PySem.W.keepIn K (.ref f13) = true)
    (a14 : PySem.W.findIn K (.ref C1) "stock" = some (some (.ref f14)))
    (i14 : PySem.W.isFn K (.ref f14) = true)
    (l14 : K.lookup f14 = some ⟨oc14, od14, .func (PySem.W.fnOf "stock" "Keeper.stock" (defArgs s_Keeper_stock) (defBody s_Keeper_stock) (defScope s_Keeper_stock) .none kV14 dc14 pm14 an14 cd14 ct14), sl14⟩)
    (c14 : PySem.W.codeIn K cd14 "Keeper.stock" = true)
    (k14 : PySem.W.keepIn K (.ref f14) = true)
    (a15 : PySem.W.findIn K (.ref C1) "fewest" = some (some (.ref f15)))
    (i15 : PySem.W.isFn K (.ref f15) = true)
    (l15 : K.lookup f15 = some ⟨oc15, od15, .func (PySem.W.fnOf "fewest" "Keeper.fewest" (defArgs s_Keeper_fewest) (defBody s_Keeper_fewest) (defScope s_Keeper_fewest) .none kV15 dc15 pm15 an15 cd15 ct15), sl15⟩)
    (c15 : PySem.W.codeIn K cd15 "Keeper.fewest" = true)
    (k15 : PySem.W.keepIn K (.ref f15) = true)
    (a16 : PySem.W.nsIn K mainGlobals "_law_deck" = some (some (.ref f16)))
    (l16 : K.lookup f16 = some ⟨oc16, od16, .func (PySem.W.fnOf "_law_deck" "_law_deck" (defArgs s_law_deck) (defBody s_law_deck) (defScope s_law_deck) .none kV16 dc16 pm16 an16 cd16 ct16), sl16⟩)
    (c16 : PySem.W.codeIn K cd16 "_law_deck" = true)
    (k16 : PySem.W.keepIn K (.ref f16) = true)
    (a17 : PySem.W.nsIn K mainGlobals "_law_draw" = some (some (.ref f17)))
    (l17 : K.lookup f17 = some ⟨oc17, od17, .func (PySem.W.fnOf "_law_draw" "_law_draw" (defArgs s_law_draw) (defBody s_law_draw) (defScope s_law_draw) .none kV17 dc17 pm17 an17 cd17 ct17), sl17⟩)
    (c17 : PySem.W.codeIn K cd17 "_law_draw" = true)
    (k17 : PySem.W.keepIn K (.ref f17) = true)
    (a18 : PySem.W.nsIn K mainGlobals "_law_some_kinds" = some (some (.ref f18)))
    (l18 : K.lookup f18 = some ⟨oc18, od18, .func (PySem.W.fnOf "_law_some_kinds" "_law_some_kinds" (defArgs s_law_some_kinds) (defBody s_law_some_kinds) (defScope s_law_some_kinds) .none kV18 dc18 pm18 an18 cd18 ct18), sl18⟩)
    (c18 : PySem.W.codeIn K cd18 "_law_some_kinds" = true)
    (k18 : PySem.W.keepIn K (.ref f18) = true)
    (a19 : PySem.W.nsIn K mainGlobals "_law_dots" = some (some (.ref f19)))
    (l19 : K.lookup f19 = some ⟨oc19, od19, .func (PySem.W.fnOf "_law_dots" "_law_dots" (defArgs s_law_dots) (defBody s_law_dots) (defScope s_law_dots) .none kV19 dc19 pm19 an19 cd19 ct19), sl19⟩)
    (c19 : PySem.W.codeIn K cd19 "_law_dots" = true)
    (k19 : PySem.W.keepIn K (.ref f19) = true)
    (a20 : PySem.W.nsIn K mainGlobals "_law_stock" = some (some (.ref f20)))
    (l20 : K.lookup f20 = some ⟨oc20, od20, .func (PySem.W.fnOf "_law_stock" "_law_stock" (defArgs s_law_stock) (defBody s_law_stock) (defScope s_law_stock) .none kV20 dc20 pm20 an20 cd20 ct20), sl20⟩)
    (c20 : PySem.W.codeIn K cd20 "_law_stock" = true)
    (k20 : PySem.W.keepIn K (.ref f20) = true)
    (a21 : PySem.W.nsIn K mainGlobals "_law_number" = some (some (.ref f21)))
    (l21 : K.lookup f21 = some ⟨oc21, od21, .func (PySem.W.fnOf "_law_number" "_law_number" (defArgs s_law_number) (defBody s_law_number) (defScope s_law_number) .none kV21 dc21 pm21 an21 cd21 ct21), sl21⟩)
    (c21 : PySem.W.codeIn K cd21 "_law_number" = true)
    (k21 : PySem.W.keepIn K (.ref f21) = true)
    (a22 : PySem.W.nsIn K mainGlobals "_law_needs" = some (some (.ref f22)))
    (l22 : K.lookup f22 = some ⟨oc22, od22, .func (PySem.W.fnOf "_law_needs" "_law_needs" (defArgs s_law_needs) (defBody s_law_needs) (defScope s_law_needs) .none kV22 dc22 pm22 an22 cd22 ct22), sl22⟩)
    (c22 : PySem.W.codeIn K cd22 "_law_needs" = true)
    (k22 : PySem.W.keepIn K (.ref f22) = true)
    (a23 : PySem.W.nsIn K mainGlobals "_law_rest" = some (some (.ref f23)))
    (l23 : K.lookup f23 = some ⟨oc23, od23, .func (PySem.W.fnOf "_law_rest" "_law_rest" (defArgs s_law_rest) (defBody s_law_rest) (defScope s_law_rest) .none kV23 dc23 pm23 an23 cd23 ct23), sl23⟩)
    (c23 : PySem.W.codeIn K cd23 "_law_rest" = true)
    (k23 : PySem.W.keepIn K (.ref f23) = true)
    (a24 : PySem.W.nsIn K mainGlobals "_law_asked_all" = some (some (.ref f24)))
    (l24 : K.lookup f24 = some ⟨oc24, od24, .func (PySem.W.fnOf "_law_asked_all" "_law_asked_all" (defArgs s_law_asked_all) (defBody s_law_asked_all) (defScope s_law_asked_all) .none kV24 dc24 pm24 an24 cd24 ct24), sl24⟩)
    (c24 : PySem.W.codeIn K cd24 "_law_asked_all" = true)
    (k24 : PySem.W.keepIn K (.ref f24) = true)
    (a25 : PySem.W.nsIn K mainGlobals "law" = some (some (.ref f25)))
    (l25 : K.lookup f25 = some ⟨oc25, od25, .func (PySem.W.fnOf "law" "law" (defArgs s_law_k33) (defBody s_law_k33) (defScope s_law_k33) .none kV25 dc25 pm25 an25 cd25 ct25), sl25⟩)
    (c25 : PySem.W.codeIn K cd25 "law" = true)
    (k25 : PySem.W.keepIn K (.ref f25) = true)
    (pg1 : PySem.W.plainGet K C1 Str.empty = true)
    (hd1 : PySem.W.hasDictIn K C1 = true)
    (po1 : PySem.W.plainOver K C1 = true)
    (sa1 : PySem.W.findIn K (.ref C1) "__setattr__" = some (some (.builtin "object.__setattr__")))
    (nf1_0 : PySem.W.findIn K (.ref C1) "bound" = some none)
    (nf1_1 : PySem.W.findIn K (.ref C1) "own" = some none)
    (z0 : PySem.W.nsIn K mainGlobals "bool" = some none)
    (z1 : PySem.W.nsIn K mainGlobals "enumerate" = some none)
    (z2 : PySem.W.nsIn K mainGlobals "int" = some none)
    (z3 : PySem.W.nsIn K mainGlobals "isinstance" = some none)
    (z4 : PySem.W.nsIn K mainGlobals "len" = some none)
    (z5 : PySem.W.nsIn K mainGlobals "list" = some none)
    (z6 : PySem.W.nsIn K mainGlobals "max" = some none)
    (z7 : PySem.W.nsIn K mainGlobals "min" = some none)
    (z8 : PySem.W.nsIn K mainGlobals "range" = some none)
    (z9 : PySem.W.nsIn K mainGlobals "sorted" = some none)
    (z10 : PySem.W.nsIn K mainGlobals "str" = some none)
    (y0 : PySem.W.nsIn K mainGlobals "CUBES" = some (some (.str "cubes" tk0)))
    (y1 : PySem.W.nsIn K mainGlobals "FEWEST_CORNERS" = some (some (.int 3 tk1)))
    (y2 : PySem.W.nsIn K mainGlobals "MOST" = some (some (.int 200 tk2)))
    (y3 : PySem.W.nsIn K mainGlobals "MOST_CORNERS" = some (some (.int 12 tk3)))
    (y4 : PySem.W.nsIn K mainGlobals "MOST_KINDS" = some (some (.int 5 tk4))) :
    ∃ T : Txt ⟨K, cAt [("Keeper", C1)]⟩ mg, mg "law" = some (.ref T.a_law_k33) ∧ T.d_law_k33 = PySem.W.fnOf "law" "law" (defArgs s_law_k33) (defBody s_law_k33) (defScope s_law_k33) .none kV25 dc25 pm25 an25 cd25 ct25 := by
  refine ⟨{
    g_Keeper := PySem.W.mg_of X Gs aC1
    a_is_whole := f1
    d_is_whole := _
    F_is_whole := fun_mk l1 c1 k1
    b_is_whole := (fun_mk (st := s_is_whole) l1 c1 k1).binds (ps := ["thing"]) (fun _ _ _ _ _ _ us hl => match us, hl with | [_], _ => rfl)
    g_is_whole := PySem.W.mg_of X Gs a1
    a_is_kind := f2
    d_is_kind := _
    F_is_kind := fun_mk l2 c2 k2
    b_is_kind := (fun_mk (st := s_is_kind) l2 c2 k2).binds (ps := ["thing"]) (fun _ _ _ _ _ _ us hl => match us, hl with | [_], _ => rfl)
    g_is_kind := PySem.W.mg_of X Gs a2
    a_are_kinds := f3
    d_are_kinds := _
    F_are_kinds := fun_mk l3 c3 k3
    b_are_kinds := (fun_mk (st := s_are_kinds) l3 c3 k3).binds (ps := ["thing"]) (fun _ _ _ _ _ _ us hl => match us, hl with | [_], _ => rfl)
    g_are_kinds := PySem.W.mg_of X Gs a3
    a_need_kinds := f4
    d_need_kinds := _
    F_need_kinds := fun_mk l4 c4 k4
    b_need_kinds := (fun_mk (st := s_need_kinds) l4 c4 k4).binds (ps := ["thing"]) (fun _ _ _ _ _ _ us hl => match us, hl with | [_], _ => rfl)
    g_need_kinds := PySem.W.mg_of X Gs a4
    a_need_to_most := f5
    d_need_to_most := _
    F_need_to_most := fun_mk l5 c5 k5
    b_need_to_most := (fun_mk (st := s_need_to_most) l5 c5 k5).binds (ps := ["thing"]) (fun _ _ _ _ _ _ us hl => match us, hl with | [_], _ => rfl)
    g_need_to_most := PySem.W.mg_of X Gs a5
    a_dots := f6
    d_dots := _
    F_dots := fun_mk l6 c6 k6
    b_dots := (fun_mk (st := s_dots) l6 c6 k6).binds (ps := ["kind", "k"]) (fun _ _ _ _ _ _ us hl => match us, hl with | [_, _], _ => rfl)
    g_dots := PySem.W.mg_of X Gs a6
    a_stock_of := f7
    d_stock_of := _
    F_stock_of := fun_mk l7 c7 k7
    b_stock_of := (fun_mk (st := s_stock_of) l7 c7 k7).binds (ps := ["kinds", "b"]) (fun _ _ _ _ _ _ us hl => match us, hl with | [_, _], _ => rfl)
    g_stock_of := PySem.W.mg_of X Gs a7
    a_fewest_by := f8
    d_fewest_by := _
    F_fewest_by := fun_mk l8 c8 k8
    b_fewest_by := (fun_mk (st := s_fewest_by) l8 c8 k8).binds (ps := ["stock", "b"]) (fun _ _ _ _ _ _ us hl => match us, hl with | [_, _], _ => rfl)
    g_fewest_by := PySem.W.mg_of X Gs a8
    a_Keeper___init__ := f9
    d_Keeper___init__ := _
    F_Keeper___init__ := fun_mk l9 c9 k9
    b_Keeper___init__ := (fun_mk (st := s_Keeper___init__) l9 c9 k9).binds (ps := ["self", "kinds", "b"]) (fun _ _ _ _ _ _ us hl => match us, hl with | [_, _, _], _ => rfl)
    mk_Keeper := ⟨mk1, a9, i9, kc1⟩
    a_Keeper_needs := f10
    d_Keeper_needs := _
    F_Keeper_needs := fun_mk l10 c10 k10
    b_Keeper_needs := (fun_mk (st := s_Keeper_needs) l10 c10 k10).binds (ps := ["self"]) (fun _ _ _ _ _ _ us hl => match us, hl with | [_], _ => rfl)
    mm_Keeper_needs := ⟨a10, i10, k10⟩
    a_Keeper_come := f11
    d_Keeper_come := _
    F_Keeper_come := fun_mk l11 c11 k11
    b_Keeper_come := (fun_mk (st := s_Keeper_come) l11 c11 k11).binds (ps := ["self", "kind"]) (fun _ _ _ _ _ _ us hl => match us, hl with | [_, _], _ => rfl)
    mm_Keeper_come := ⟨a11, i11, k11⟩
    a_Keeper_go := f12
    d_Keeper_go := _
    F_Keeper_go := fun_mk l12 c12 k12
    b_Keeper_go := (fun_mk (st := s_Keeper_go) l12 c12 k12).binds (ps := ["self", "kind"]) (fun _ _ _ _ _ _ us hl => match us, hl with | [_, _], _ => rfl)
    mm_Keeper_go := ⟨a12, i12, k12⟩
    a_Keeper_kinds := f13
    d_Keeper_kinds := _
    F_Keeper_kinds := fun_mk l13 c13 k13
    b_Keeper_kinds := (fun_mk (st := s_Keeper_kinds) l13 c13 k13).binds (ps := ["self"]) (fun _ _ _ _ _ _ us hl => match us, hl with | [_], _ => rfl)
    mm_Keeper_kinds := ⟨a13, i13, k13⟩
    a_Keeper_stock := f14
    d_Keeper_stock := _
    F_Keeper_stock := fun_mk l14 c14 k14
    b_Keeper_stock := (fun_mk (st := s_Keeper_stock) l14 c14 k14).binds (ps := ["self"]) (fun _ _ _ _ _ _ us hl => match us, hl with | [_], _ => rfl)
    mm_Keeper_stock := ⟨a14, i14, k14⟩
    a_Keeper_fewest := f15
    d_Keeper_fewest := _
    F_Keeper_fewest := fun_mk l15 c15 k15
    b_Keeper_fewest := (fun_mk (st := s_Keeper_fewest) l15 c15 k15).binds (ps := ["self", "n"]) (fun _ _ _ _ _ _ us hl => match us, hl with | [_, _], _ => rfl)
    mm_Keeper_fewest := ⟨a15, i15, k15⟩
    a_law_deck := f16
    d_law_deck := _
    F_law_deck := fun_mk l16 c16 k16
    b_law_deck := (fun_mk (st := s_law_deck) l16 c16 k16).binds (ps := ["script"]) (fun _ _ _ _ _ _ us hl => match us, hl with | [_], _ => rfl)
    g_law_deck := PySem.W.mg_of X Gs a16
    a_law_draw := f17
    d_law_draw := _
    F_law_draw := fun_mk l17 c17 k17
    b_law_draw := (fun_mk (st := s_law_draw) l17 c17 k17).binds (ps := ["deck", "many"]) (fun _ _ _ _ _ _ us hl => match us, hl with | [_, _], _ => rfl)
    g_law_draw := PySem.W.mg_of X Gs a17
    a_law_some_kinds := f18
    d_law_some_kinds := _
    F_law_some_kinds := fun_mk l18 c18 k18
    b_law_some_kinds := (fun_mk (st := s_law_some_kinds) l18 c18 k18).binds (ps := ["deck"]) (fun _ _ _ _ _ _ us hl => match us, hl with | [_], _ => rfl)
    g_law_some_kinds := PySem.W.mg_of X Gs a18
    a_law_dots := f19
    d_law_dots := _
    F_law_dots := fun_mk l19 c19 k19
    b_law_dots := (fun_mk (st := s_law_dots) l19 c19 k19).binds (ps := ["kind", "most"]) (fun _ _ _ _ _ _ us hl => match us, hl with | [_, _], _ => rfl)
    g_law_dots := PySem.W.mg_of X Gs a19
    a_law_stock := f20
    d_law_stock := _
    F_law_stock := fun_mk l20 c20 k20
    b_law_stock := (fun_mk (st := s_law_stock) l20 c20 k20).binds (ps := ["kinds", "most"]) (fun _ _ _ _ _ _ us hl => match us, hl with | [_, _], _ => rfl)
    g_law_stock := PySem.W.mg_of X Gs a20
    a_law_number := f21
    d_law_number := _
    F_law_number := fun_mk l21 c21 k21
    b_law_number := (fun_mk (st := s_law_number) l21 c21 k21).binds (ps := ["deck"]) (fun _ _ _ _ _ _ us hl => match us, hl with | [_], _ => rfl)
    g_law_number := PySem.W.mg_of X Gs a21
    a_law_needs := f22
    d_law_needs := _
    F_law_needs := fun_mk l22 c22 k22
    b_law_needs := (fun_mk (st := s_law_needs) l22 c22 k22).binds (ps := ["stock", "most"]) (fun _ _ _ _ _ _ us hl => match us, hl with | [_, _], _ => rfl)
    g_law_needs := PySem.W.mg_of X Gs a22
    a_law_rest := f23
    d_law_rest := _
    F_law_rest := fun_mk l23 c23 k23
    b_law_rest := (fun_mk (st := s_law_rest) l23 c23 k23).binds (ps := ["kinds"]) (fun _ _ _ _ _ _ us hl => match us, hl with | [_], _ => rfl)
    g_law_rest := PySem.W.mg_of X Gs a23
    a_law_asked_all := f24
    d_law_asked_all := _
    F_law_asked_all := fun_mk l24 c24 k24
    b_law_asked_all := (fun_mk (st := s_law_asked_all) l24 c24 k24).binds (ps := ["deck", "keeper", "kinds", "b"]) (fun _ _ _ _ _ _ us hl => match us, hl with | [_, _, _, _], _ => rfl)
    g_law_asked_all := PySem.W.mg_of X Gs a24
    a_law_k33 := f25
    d_law_k33 := _
    F_law_k33 := fun_mk l25 c25 k25
    b_law_k33 := (fun_mk (st := s_law_k33) l25 c25 k25).binds (ps := ["script"]) (fun _ _ _ _ _ _ us hl => match us, hl with | [_], _ => rfl)
    g_law := PySem.W.mg_of X Gs a25
    cl_Keeper := ⟨pg1, hd1, po1, sa1⟩
    nf_Keeper_bound := nf1_0
    nf_Keeper_own := nf1_1
    n_bool := PySem.W.mg_none_of X Gs z0
    n_enumerate := PySem.W.mg_none_of X Gs z1
    n_int := PySem.W.mg_none_of X Gs z2
    n_isinstance := PySem.W.mg_none_of X Gs z3
    n_len := PySem.W.mg_none_of X Gs z4
    n_list := PySem.W.mg_none_of X Gs z5
    n_max := PySem.W.mg_none_of X Gs z6
    n_min := PySem.W.mg_none_of X Gs z7
    n_range := PySem.W.mg_none_of X Gs z8
    n_sorted := PySem.W.mg_none_of X Gs z9
    n_str := PySem.W.mg_none_of X Gs z10
    k_CUBES := tk0
    c_CUBES := PySem.W.mg_of X Gs y0
    k_FEWEST_CORNERS := tk1
    c_FEWEST_CORNERS := PySem.W.mg_of X Gs y1
    k_MOST := tk2
    c_MOST := PySem.W.mg_of X Gs y2
    k_MOST_CORNERS := tk3
    c_MOST_CORNERS := PySem.W.mg_of X Gs y3
    k_MOST_KINDS := tk4
    c_MOST_KINDS := PySem.W.mg_of X Gs y4 }, PySem.W.mg_of X Gs a25, rfl⟩
/-- the law, as its caller asks it -/
def spLaw (K : PySem.W.Frag) : Sp := fun vs H Q _ => ∃ (a : Addr) (ns : List Int), vs = [.ref a] ∧ SqL K H a (ns.map V.int) ∧ ns.length ≤ 63 ∧ ∀ H', Q (.bl true) H'
/-- the law of the readings -/
def LawHolds : Prop := ∀ (G : Gx) (H : Hp) (a : Addr) (ns : List Int) (Q : VK), SqL G.K H a (ns.map V.int) → ns.length ≤ 63 → (∀ H', Q (.bl true) H') → sp_law_k33 G [.ref a] H Q E0
theorem law_holds : LawHolds := fun G H a ns Q hs hl hq => law_k33_ok hs hl hq
theorem all_mk (HL : LawHolds) {l : PySem.W.OpenLaw} {w : World} {K : PySem.W.Frag} {h : Heap} {mg : Str → Option Value} {fa : Addr} (X : K.In h) (Gs : h.Ns mainGlobals mg) (hfa : mg "law" = some (.ref fa))
    {C1 : Addr}
    {f1 : Addr} {od1 an1 : Option Addr} {sl1 : Array (Option Value)} {oc1 kV1 dc1 pm1 cd1 ct1 : Value}
    {f2 : Addr} {od2 an2 : Option Addr} {sl2 : Array (Option Value)} {oc2 kV2 dc2 pm2 cd2 ct2 : Value}
    {f3 : Addr} {od3 an3 : Option Addr} {sl3 : Array (Option Value)} {oc3 kV3 dc3 pm3 cd3 ct3 : Value}
    {f4 : Addr} {od4 an4 : Option Addr} {sl4 : Array (Option Value)} {oc4 kV4 dc4 pm4 cd4 ct4 : Value}
    {f5 : Addr} {od5 an5 : Option Addr} {sl5 : Array (Option Value)} {oc5 kV5 dc5 pm5 cd5 ct5 : Value}
    {f6 : Addr} {od6 an6 : Option Addr} {sl6 : Array (Option Value)} {oc6 kV6 dc6 pm6 cd6 ct6 : Value}
    {f7 : Addr} {od7 an7 : Option Addr} {sl7 : Array (Option Value)} {oc7 kV7 dc7 pm7 cd7 ct7 : Value}
    {f8 : Addr} {od8 an8 : Option Addr} {sl8 : Array (Option Value)} {oc8 kV8 dc8 pm8 cd8 ct8 : Value}
    {f9 : Addr} {od9 an9 : Option Addr} {sl9 : Array (Option Value)} {oc9 kV9 dc9 pm9 cd9 ct9 : Value}
    {f10 : Addr} {od10 an10 : Option Addr} {sl10 : Array (Option Value)} {oc10 kV10 dc10 pm10 cd10 ct10 : Value}
    {f11 : Addr} {od11 an11 : Option Addr} {sl11 : Array (Option Value)} {oc11 kV11 dc11 pm11 cd11 ct11 : Value}
    {f12 : Addr} {od12 an12 : Option Addr} {sl12 : Array (Option Value)} {oc12 kV12 dc12 pm12 cd12 ct12 : Value}
    {f13 : Addr} {od13 an13 : Option Addr} {sl13 : Array (Option Value)} {oc13 kV13 dc13 pm13 cd13 ct13 : Value}
    {f14 : Addr} {od14 an14 : Option Addr} {sl14 : Array (Option Value)} {oc14 kV14 dc14 pm14 cd14 ct14 : Value}
    {f15 : Addr} {od15 an15 : Option Addr} {sl15 : Array (Option Value)} {oc15 kV15 dc15 pm15 cd15 ct15 : Value}
    {f16 : Addr} {od16 an16 : Option Addr} {sl16 : Array (Option Value)} {oc16 kV16 dc16 pm16 cd16 ct16 : Value}
    {f17 : Addr} {od17 an17 : Option Addr} {sl17 : Array (Option Value)} {oc17 kV17 dc17 pm17 cd17 ct17 : Value}
    {f18 : Addr} {od18 an18 : Option Addr} {sl18 : Array (Option Value)} {oc18 kV18 dc18 pm18 cd18 ct18 : Value}
    {f19 : Addr} {od19 an19 : Option Addr} {sl19 : Array (Option Value)} {oc19 kV19 dc19 pm19 cd19 ct19 : Value}
    {f20 : Addr} {od20 an20 : Option Addr} {sl20 : Array (Option Value)} {oc20 kV20 dc20 pm20 cd20 ct20 : Value}
    {f21 : Addr} {od21 an21 : Option Addr} {sl21 : Array (Option Value)} {oc21 kV21 dc21 pm21 cd21 ct21 : Value}
    {f22 : Addr} {od22 an22 : Option Addr} {sl22 : Array (Option Value)} {oc22 kV22 dc22 pm22 cd22 ct22 : Value}
    {f23 : Addr} {od23 an23 : Option Addr} {sl23 : Array (Option Value)} {oc23 kV23 dc23 pm23 cd23 ct23 : Value}
    {f24 : Addr} {od24 an24 : Option Addr} {sl24 : Array (Option Value)} {oc24 kV24 dc24 pm24 cd24 ct24 : Value}
    {f25 : Addr} {od25 an25 : Option Addr} {sl25 : Array (Option Value)} {oc25 kV25 dc25 pm25 cd25 ct25 : Value}
    {tk0 : Tok}
    {tk1 : Tok}
    {tk2 : Tok}
    {tk3 : Tok}
    {tk4 : Tok}
    (aC1 : PySem.W.nsIn K mainGlobals "Keeper" = some (some (.ref C1)))
    (a1 : PySem.W.nsIn K mainGlobals "is_whole" = some (some (.ref f1)))
    (l1 : K.lookup f1 = some ⟨oc1, od1, .func (PySem.W.fnOf "is_whole" "is_whole" (defArgs s_is_whole) (defBody s_is_whole) (defScope s_is_whole) .none kV1 dc1 pm1 an1 cd1 ct1), sl1⟩)
    (c1 : PySem.W.codeIn K cd1 "is_whole" = true)
    (k1 : PySem.W.keepIn K (.ref f1) = true)
    (a2 : PySem.W.nsIn K mainGlobals "is_kind" = some (some (.ref f2)))
    (l2 : K.lookup f2 = some ⟨oc2, od2, .func (PySem.W.fnOf "is_kind" "is_kind" (defArgs s_is_kind) (defBody s_is_kind) (defScope s_is_kind) .none kV2 dc2 pm2 an2 cd2 ct2), sl2⟩)
    (c2 : PySem.W.codeIn K cd2 "is_kind" = true)
    (k2 : PySem.W.keepIn K (.ref f2) = true)
    (a3 : PySem.W.nsIn K mainGlobals "are_kinds" = some (some (.ref f3)))
    (l3 : K.lookup f3 = some ⟨oc3, od3, .func (PySem.W.fnOf "are_kinds" "are_kinds" (defArgs s_are_kinds) (defBody s_are_kinds) (defScope s_are_kinds) .none kV3 dc3 pm3 an3 cd3 ct3), sl3⟩)
    (c3 : PySem.W.codeIn K cd3 "are_kinds" = true)
    (k3 : PySem.W.keepIn K (.ref f3) = true)
    (a4 : PySem.W.nsIn K mainGlobals "need_kinds" = some (some (.ref f4)))
    (l4 : K.lookup f4 = some ⟨oc4, od4, .func (PySem.W.fnOf "need_kinds" "need_kinds" (defArgs s_need_kinds) (defBody s_need_kinds) (defScope s_need_kinds) .none kV4 dc4 pm4 an4 cd4 ct4), sl4⟩)
    (c4 : PySem.W.codeIn K cd4 "need_kinds" = true)
    (k4 : PySem.W.keepIn K (.ref f4) = true)
    (a5 : PySem.W.nsIn K mainGlobals "need_to_most" = some (some (.ref f5)))
    (l5 : K.lookup f5 = some ⟨oc5, od5, .func (PySem.W.fnOf "need_to_most" "need_to_most" (defArgs s_need_to_most) (defBody s_need_to_most) (defScope s_need_to_most) .none kV5 dc5 pm5 an5 cd5 ct5), sl5⟩)
    (c5 : PySem.W.codeIn K cd5 "need_to_most" = true)
    (k5 : PySem.W.keepIn K (.ref f5) = true)
    (a6 : PySem.W.nsIn K mainGlobals "dots" = some (some (.ref f6)))
    (l6 : K.lookup f6 = some ⟨oc6, od6, .func (PySem.W.fnOf "dots" "dots" (defArgs s_dots) (defBody s_dots) (defScope s_dots) .none kV6 dc6 pm6 an6 cd6 ct6), sl6⟩)
    (c6 : PySem.W.codeIn K cd6 "dots" = true)
    (k6 : PySem.W.keepIn K (.ref f6) = true)
    (a7 : PySem.W.nsIn K mainGlobals "stock_of" = some (some (.ref f7)))
    (l7 : K.lookup f7 = some ⟨oc7, od7, .func (PySem.W.fnOf "stock_of" "stock_of" (defArgs s_stock_of) (defBody s_stock_of) (defScope s_stock_of) .none kV7 dc7 pm7 an7 cd7 ct7), sl7⟩)
    (c7 : PySem.W.codeIn K cd7 "stock_of" = true)
    (k7 : PySem.W.keepIn K (.ref f7) = true)
    (a8 : PySem.W.nsIn K mainGlobals "fewest_by" = some (some (.ref f8)))
    (l8 : K.lookup f8 = some ⟨oc8, od8, .func (PySem.W.fnOf "fewest_by" "fewest_by" (defArgs s_fewest_by) (defBody s_fewest_by) (defScope s_fewest_by) .none kV8 dc8 pm8 an8 cd8 ct8), sl8⟩)
    (c8 : PySem.W.codeIn K cd8 "fewest_by" = true)
    (k8 : PySem.W.keepIn K (.ref f8) = true)
    (a9 : PySem.W.findIn K (.ref C1) "__init__" = some (some (.ref f9)))
    (i9 : PySem.W.isFn K (.ref f9) = true)
    (l9 : K.lookup f9 = some ⟨oc9, od9, .func (PySem.W.fnOf "__init__" "Keeper.__init__" (defArgs s_Keeper___init__) (defBody s_Keeper___init__) (defScope s_Keeper___init__) .none kV9 dc9 pm9 an9 cd9 ct9), sl9⟩)
    (c9 : PySem.W.codeIn K cd9 "Keeper.__init__" = true)
    (k9 : PySem.W.keepIn K (.ref f9) = true)
    (mk1 : PySem.W.makesIn K C1 = true)
    (kc1 : PySem.W.keepIn K (.ref C1) = true)
    (a10 : PySem.W.findIn K (.ref C1) "needs" = some (some (.ref f10)))
    (i10 : PySem.W.isFn K (.ref f10) = true)
    (l10 : K.lookup f10 = some ⟨oc10, od10, .func (PySem.W.fnOf "needs" "Keeper.needs" (defArgs s_Keeper_needs) (defBody s_Keeper_needs) (defScope s_Keeper_needs) .none kV10 dc10 pm10 an10 cd10 ct10), sl10⟩)
    (c10 : PySem.W.codeIn K cd10 "Keeper.needs" = true)
    (k10 : PySem.W.keepIn K (.ref f10) = true)
    (a11 : PySem.W.findIn K (.ref C1) "come" = some (some (.ref f11)))
    (i11 : PySem.W.isFn K (.ref f11) = true)
    (l11 : K.lookup f11 = some ⟨oc11, od11, .func (PySem.W.fnOf "come" "Keeper.come" (defArgs s_Keeper_come) (defBody s_Keeper_come) (defScope s_Keeper_come) .none kV11 dc11 pm11 an11 cd11 ct11), sl11⟩)
    (c11 : PySem.W.codeIn K cd11 "Keeper.come" = true)
    (k11 : PySem.W.keepIn K (.ref f11) = true)
    (a12 : PySem.W.findIn K (.ref C1) "go" = some (some (.ref f12)))
    (i12 : PySem.W.isFn K (.ref f12) = true)
    (l12 : K.lookup f12 = some ⟨oc12, od12, .func (PySem.W.fnOf "go" "Keeper.go" (defArgs s_Keeper_go) (defBody s_Keeper_go) (defScope s_Keeper_go) .none kV12 dc12 pm12 an12 cd12 ct12), sl12⟩)
    (c12 : PySem.W.codeIn K cd12 "Keeper.go" = true)
    (k12 : PySem.W.keepIn K (.ref f12) = true)
    (a13 : PySem.W.findIn K (.ref C1) "kinds" = some (some (.ref f13)))
    (i13 : PySem.W.isFn K (.ref f13) = true)
    (l13 : K.lookup f13 = some ⟨oc13, od13, .func (PySem.W.fnOf "kinds" "Keeper.kinds" (defArgs s_Keeper_kinds) (defBody s_Keeper_kinds) (defScope s_Keeper_kinds) .none kV13 dc13 pm13 an13 cd13 ct13), sl13⟩)
    (c13 : PySem.W.codeIn K cd13 "Keeper.kinds" = true)
    (k13 : PySem.W.keepIn K (.ref f13) = true)
    (a14 : PySem.W.findIn K (.ref C1) "stock" = some (some (.ref f14)))
    (i14 : PySem.W.isFn K (.ref f14) = true)
    (l14 : K.lookup f14 = some ⟨oc14, od14, .func (PySem.W.fnOf "stock" "Keeper.stock" (defArgs s_Keeper_stock) (defBody s_Keeper_stock) (defScope s_Keeper_stock) .none kV14 dc14 pm14 an14 cd14 ct14), sl14⟩)
    (c14 : PySem.W.codeIn K cd14 "Keeper.stock" = true)
    (k14 : PySem.W.keepIn K (.ref f14) = true)
    (a15 : PySem.W.findIn K (.ref C1) "fewest" = some (some (.ref f15)))
    (i15 : PySem.W.isFn K (.ref f15) = true)
    (l15 : K.lookup f15 = some ⟨oc15, od15, .func (PySem.W.fnOf "fewest" "Keeper.fewest" (defArgs s_Keeper_fewest) (defBody s_Keeper_fewest) (defScope s_Keeper_fewest) .none kV15 dc15 pm15 an15 cd15 ct15), sl15⟩)
    (c15 : PySem.W.codeIn K cd15 "Keeper.fewest" = true)
    (k15 : PySem.W.keepIn K (.ref f15) = true)
    (a16 : PySem.W.nsIn K mainGlobals "_law_deck" = some (some (.ref f16)))
    (l16 : K.lookup f16 = some ⟨oc16, od16, .func (PySem.W.fnOf "_law_deck" "_law_deck" (defArgs s_law_deck) (defBody s_law_deck) (defScope s_law_deck) .none kV16 dc16 pm16 an16 cd16 ct16), sl16⟩)
    (c16 : PySem.W.codeIn K cd16 "_law_deck" = true)
    (k16 : PySem.W.keepIn K (.ref f16) = true)
    (a17 : PySem.W.nsIn K mainGlobals "_law_draw" = some (some (.ref f17)))
    (l17 : K.lookup f17 = some ⟨oc17, od17, .func (PySem.W.fnOf "_law_draw" "_law_draw" (defArgs s_law_draw) (defBody s_law_draw) (defScope s_law_draw) .none kV17 dc17 pm17 an17 cd17 ct17), sl17⟩)
    (c17 : PySem.W.codeIn K cd17 "_law_draw" = true)
    (k17 : PySem.W.keepIn K (.ref f17) = true)
    (a18 : PySem.W.nsIn K mainGlobals "_law_some_kinds" = some (some (.ref f18)))
    (l18 : K.lookup f18 = some ⟨oc18, od18, .func (PySem.W.fnOf "_law_some_kinds" "_law_some_kinds" (defArgs s_law_some_kinds) (defBody s_law_some_kinds) (defScope s_law_some_kinds) .none kV18 dc18 pm18 an18 cd18 ct18), sl18⟩)
    (c18 : PySem.W.codeIn K cd18 "_law_some_kinds" = true)
    (k18 : PySem.W.keepIn K (.ref f18) = true)
    (a19 : PySem.W.nsIn K mainGlobals "_law_dots" = some (some (.ref f19)))
    (l19 : K.lookup f19 = some ⟨oc19, od19, .func (PySem.W.fnOf "_law_dots" "_law_dots" (defArgs s_law_dots) (defBody s_law_dots) (defScope s_law_dots) .none kV19 dc19 pm19 an19 cd19 ct19), sl19⟩)
    (c19 : PySem.W.codeIn K cd19 "_law_dots" = true)
    (k19 : PySem.W.keepIn K (.ref f19) = true)
    (a20 : PySem.W.nsIn K mainGlobals "_law_stock" = some (some (.ref f20)))
    (l20 : K.lookup f20 = some ⟨oc20, od20, .func (PySem.W.fnOf "_law_stock" "_law_stock" (defArgs s_law_stock) (defBody s_law_stock) (defScope s_law_stock) .none kV20 dc20 pm20 an20 cd20 ct20), sl20⟩)
    (c20 : PySem.W.codeIn K cd20 "_law_stock" = true)
    (k20 : PySem.W.keepIn K (.ref f20) = true)
    (a21 : PySem.W.nsIn K mainGlobals "_law_number" = some (some (.ref f21)))
    (l21 : K.lookup f21 = some ⟨oc21, od21, .func (PySem.W.fnOf "_law_number" "_law_number" (defArgs s_law_number) (defBody s_law_number) (defScope s_law_number) .none kV21 dc21 pm21 an21 cd21 ct21), sl21⟩)
    (c21 : PySem.W.codeIn K cd21 "_law_number" = true)
    (k21 : PySem.W.keepIn K (.ref f21) = true)
    (a22 : PySem.W.nsIn K mainGlobals "_law_needs" = some (some (.ref f22)))
    (l22 : K.lookup f22 = some ⟨oc22, od22, .func (PySem.W.fnOf "_law_needs" "_law_needs" (defArgs s_law_needs) (defBody s_law_needs) (defScope s_law_needs) .none kV22 dc22 pm22 an22 cd22 ct22), sl22⟩)
    (c22 : PySem.W.codeIn K cd22 "_law_needs" = true)
    (k22 : PySem.W.keepIn K (.ref f22) = true)
    (a23 : PySem.W.nsIn K mainGlobals "_law_rest" = some (some (.ref f23)))
    (l23 : K.lookup f23 = some ⟨oc23, od23, .func (PySem.W.fnOf "_law_rest" "_law_rest" (defArgs s_law_rest) (defBody s_law_rest) (defScope s_law_rest) .none kV23 dc23 pm23 an23 cd23 ct23), sl23⟩)
    (c23 : PySem.W.codeIn K cd23 "_law_rest" = true)
    (k23 : PySem.W.keepIn K (.ref f23) = true)
    (a24 : PySem.W.nsIn K mainGlobals "_law_asked_all" = some (some (.ref f24)))
    (l24 : K.lookup f24 = some ⟨oc24, od24, .func (PySem.W.fnOf "_law_asked_all" "_law_asked_all" (defArgs s_law_asked_all) (defBody s_law_asked_all) (defScope s_law_asked_all) .none kV24 dc24 pm24 an24 cd24 ct24), sl24⟩)
    (c24 : PySem.W.codeIn K cd24 "_law_asked_all" = true)
    (k24 : PySem.W.keepIn K (.ref f24) = true)
    (a25 : PySem.W.nsIn K mainGlobals "law" = some (some (.ref f25)))
    (l25 : K.lookup f25 = some ⟨oc25, od25, .func (PySem.W.fnOf "law" "law" (defArgs s_law_k33) (defBody s_law_k33) (defScope s_law_k33) .none kV25 dc25 pm25 an25 cd25 ct25), sl25⟩)
    (c25 : PySem.W.codeIn K cd25 "law" = true)
    (k25 : PySem.W.keepIn K (.ref f25) = true)
    (pg1 : PySem.W.plainGet K C1 Str.empty = true)
    (hd1 : PySem.W.hasDictIn K C1 = true)
    (po1 : PySem.W.plainOver K C1 = true)
    (sa1 : PySem.W.findIn K (.ref C1) "__setattr__" = some (some (.builtin "object.__setattr__")))
    (nf1_0 : PySem.W.findIn K (.ref C1) "bound" = some none)
    (nf1_1 : PySem.W.findIn K (.ref C1) "own" = some none)
    (z0 : PySem.W.nsIn K mainGlobals "bool" = some none)
    (z1 : PySem.W.nsIn K mainGlobals "enumerate" = some none)
    (z2 : PySem.W.nsIn K mainGlobals "int" = some none)
    (z3 : PySem.W.nsIn K mainGlobals "isinstance" = some none)
    (z4 : PySem.W.nsIn K mainGlobals "len" = some none)
    (z5 : PySem.W.nsIn K mainGlobals "list" = some none)
    (z6 : PySem.W.nsIn K mainGlobals "max" = some none)
    (z7 : PySem.W.nsIn K mainGlobals "min" = some none)
    (z8 : PySem.W.nsIn K mainGlobals "range" = some none)
    (z9 : PySem.W.nsIn K mainGlobals "sorted" = some none)
    (z10 : PySem.W.nsIn K mainGlobals "str" = some none)
    (y0 : PySem.W.nsIn K mainGlobals "CUBES" = some (some (.str "cubes" tk0)))
    (y1 : PySem.W.nsIn K mainGlobals "FEWEST_CORNERS" = some (some (.int 3 tk1)))
    (y2 : PySem.W.nsIn K mainGlobals "MOST" = some (some (.int 200 tk2)))
    (y3 : PySem.W.nsIn K mainGlobals "MOST_CORNERS" = some (some (.int 12 tk3)))
    (y4 : PySem.W.nsIn K mainGlobals "MOST_KINDS" = some (some (.int 5 tk4))) :
    ∃ fd : FuncData, (∀ (s : Shared) (v : Value), BindsTo s fd ⟨[v], []⟩ [("script", v)]) ∧ ∀ base : Heap, K.In base → base.Ns mainGlobals mg → FnOk l.prog w K mg base CX0 7 fa fd ["script"] (spLaw K) := by
  obtain ⟨T, e1, e2⟩ := txt_mk X Gs aC1 a1 l1 c1 k1 a2 l2 c2 k2 a3 l3 c3 k3 a4 l4 c4 k4 a5 l5 c5 k5 a6 l6 c6 k6 a7 l7 c7 k7 a8 l8 c8 k8 a9 i9 l9 c9 k9 mk1 kc1 a10 i10 l10 c10 k10 a11 i11 l11 c11 k11 a12 i12 l12 c12 k12 a13 i13 l13 c13 k13 a14 i14 l14 c14 k14 a15 i15 l15 c15 k15 a16 l16 c16 k16 a17 l17 c17 k17 a18 l18 c18 k18 a19 l19 c19 k19 a20 l20 c20 k20 a21 l21 c21 k21 a22 l22 c22 k22 a23 l23 c23 k23 a24 l24 c24 k24 a25 l25 c25 k25 pg1 hd1 po1 sa1 nf1_0 nf1_1 z0 z1 z2 z3 z4 z5 z6 z7 z8 z9 z10 y0 y1 y2 y3 y4
  have e := hfa.symm.trans e1
  cases e
  refine ⟨T.d_law_k33, fun s v => ?_, fun base _ _ => ?_⟩
  · rw [e2]
    exact .of_eq rfl
  · refine (ok_law_k33 (P := l.prog) (w := w) (base := base) T).imp fun vs H Q E h => ?_
    obtain ⟨a, ns, rfl, hS, hl, q⟩ := h
    exact HL ⟨K, cAt [("Keeper", C1)]⟩ H a ns Q hS hl q
end Fs
open PySem PySem.W PyProof.Rows
set_option maxHeartbeats 0 in
theorem PySem.Challenge.cw_fewshapes_k33_keepers_apart_holds : PySem.Challenge.rw_fewshapes_k33_keepers_apart.Holds := by
  w_on; o_law; k_head; (case hw => w_witness2)
  k_fill
  refine L2.walk_of (l := PySem.Challenge.rw_fewshapes_k33_keepers_apart) (n := 63) (k := 7) (x := "script") (CX := fun _ => L2.CX0) (sp := fun w => Fs.spLaw _) rfl (by decide) rfl ⟨rfl, by decide, by decide⟩ (fun w h Y => PySem.W.kIn_of Y) ?F (fun _ _ a ns hl _ hS => ⟨a, ns, rfl, hS, hl, fun _ => rfl⟩) (fun _ _ _ _ _ h => h)
  case F =>
    intro w mg fa h KX G hmg
    refine' Fs.all_mk Fs.law_holds KX G hmg ?aC1 ?a1 ?l1 ?c1 ?k1 ?a2 ?l2 ?c2 ?k2 ?a3 ?l3 ?c3 ?k3 ?a4 ?l4 ?c4 ?k4 ?a5 ?l5 ?c5 ?k5 ?a6 ?l6 ?c6 ?k6 ?a7 ?l7 ?c7 ?k7 ?a8 ?l8 ?c8 ?k8 ?a9 ?i9 ?l9 ?c9 ?k9 ?mk1 ?kc1 ?a10 ?i10 ?l10 ?c10 ?k10 ?a11 ?i11 ?l11 ?c11 ?k11 ?a12 ?i12 ?l12 ?c12 ?k12 ?a13 ?i13 ?l13 ?c13 ?k13 ?a14 ?i14 ?l14 ?c14 ?k14 ?a15 ?i15 ?l15 ?c15 ?k15 ?a16 ?l16 ?c16 ?k16 ?a17 ?l17 ?c17 ?k17 ?a18 ?l18 ?c18 ?k18 ?a19 ?l19 ?c19 ?k19 ?a20 ?l20 ?c20 ?k20 ?a21 ?l21 ?c21 ?k21 ?a22 ?l22 ?c22 ?k22 ?a23 ?l23 ?c23 ?k23 ?a24 ?l24 ?c24 ?k24 ?a25 ?l25 ?c25 ?k25 ?pg1 ?hd1 ?po1 ?sa1 ?nf1_0 ?nf1_1 ?z0 ?z1 ?z2 ?z3 ?z4 ?z5 ?z6 ?z7 ?z8 ?z9 ?z10 ?y0 ?y1 ?y2 ?y3 ?y4
    (case aC1 => k_is)
    (case a1 => k_is)
    (case l1 => k_is)
    (case c1 => k_is)
    (case k1 => k_is)
    (case a2 => k_is)
    (case l2 => k_is)
    (case c2 => k_is)
    (case k2 => k_is)
    (case a3 => k_is)
    (case l3 => k_is)
    (case c3 => k_is)
    (case k3 => k_is)
    (case a4 => k_is)
    (case l4 => k_is)
    (case c4 => k_is)
    (case k4 => k_is)
    (case a5 => k_is)
    (case l5 => k_is)
    (case c5 => k_is)
    (case k5 => k_is)
    (case a6 => k_is)
    (case l6 => k_is)
    (case c6 => k_is)
    (case k6 => k_is)
    (case a7 => k_is)
    (case l7 => k_is)
    (case c7 => k_is)
    (case k7 => k_is)
    (case a8 => k_is)
    (case l8 => k_is)
    (case c8 => k_is)
    (case k8 => k_is)
    (case a9 => k_is)
    (case i9 => k_is)
    (case l9 => k_is)
    (case c9 => k_is)
    (case k9 => k_is)
    (case mk1 => k_is)
    (case kc1 => k_is)
    (case a10 => k_is)
    (case i10 => k_is)
    (case l10 => k_is)
    (case c10 => k_is)
    (case k10 => k_is)
    (case a11 => k_is)
    (case i11 => k_is)
    (case l11 => k_is)
    (case c11 => k_is)
    (case k11 => k_is)
    (case a12 => k_is)
    (case i12 => k_is)
    (case l12 => k_is)
    (case c12 => k_is)
    (case k12 => k_is)
    (case a13 => k_is)
    (case i13 => k_is)
    (case l13 => k_is)
    (case c13 => k_is)
    (case k13 => k_is)
    (case a14 => k_is)
    (case i14 => k_is)
    (case l14 => k_is)
    (case c14 => k_is)
    (case k14 => k_is)
    (case a15 => k_is)
    (case i15 => k_is)
    (case l15 => k_is)
    (case c15 => k_is)
    (case k15 => k_is)
    (case a16 => k_is)
    (case l16 => k_is)
    (case c16 => k_is)
    (case k16 => k_is)
    (case a17 => k_is)
    (case l17 => k_is)
    (case c17 => k_is)
    (case k17 => k_is)
    (case a18 => k_is)
    (case l18 => k_is)
    (case c18 => k_is)
    (case k18 => k_is)
    (case a19 => k_is)
    (case l19 => k_is)
    (case c19 => k_is)
    (case k19 => k_is)
    (case a20 => k_is)
    (case l20 => k_is)
    (case c20 => k_is)
    (case k20 => k_is)
    (case a21 => k_is)
    (case l21 => k_is)
    (case c21 => k_is)
    (case k21 => k_is)
    (case a22 => k_is)
    (case l22 => k_is)
    (case c22 => k_is)
    (case k22 => k_is)
    (case a23 => k_is)
    (case l23 => k_is)
    (case c23 => k_is)
    (case k23 => k_is)
    (case a24 => k_is)
    (case l24 => k_is)
    (case c24 => k_is)
    (case k24 => k_is)
    (case a25 => k_is)
    (case l25 => k_is)
    (case c25 => k_is)
    (case k25 => k_is)
    (case pg1 => k_is)
    (case hd1 => k_is)
    (case po1 => k_is)
    (case sa1 => k_is)
    (case nf1_0 => k_is)
    (case nf1_1 => k_is)
    (case z0 => k_is)
    (case z1 => k_is)
    (case z2 => k_is)
    (case z3 => k_is)
    (case z4 => k_is)
    (case z5 => k_is)
    (case z6 => k_is)
    (case z7 => k_is)
    (case z8 => k_is)
    (case z9 => k_is)
    (case z10 => k_is)
    (case y0 => k_is)
    (case y1 => k_is)
    (case y2 => k_is)
    (case y3 => k_is)
    (case y4 => k_is)
