import PyProof.Rows.All
import Wide.All
import OpenK.AllK
import Wide.FinOn
import HandS.ForMost
import HandS.Exc
import HandS.TryOnly
import HandS.ExcOwn
import HandS.WordsExc
import HandS.IsInst
import HandS.Wide
import HandS.WideBits
import HandS.SortInts
import HandS.Style
import HandS.More
import HandS.Conv
import HandS.Small
import HandS.RaiseMore
import HandS.TupMul
import HandS.Walk
import HandS.SetFor
import KE.DataFind
import KE.DataCmp
import KE.SortData
import HandS.Deep
import HandS.Strs
import HandS.Text
import HandS.MapJoin
import HandS.SortKw
import HandS.Steps
import PyProof.ReprRoads
import PyProof.CallFns
import HandS.Replace
import PyProof.ToksMono
import PyProof.StrLawsRepr
import PyProof.ReprLen
import HandS.ExcValue
import HandS.ExcIs
import PySem.Challenge.RW_fewshapes_k07_sums_judged
set_option Elab.async false
set_option linter.all false
set_option maxRecDepth 100000
set_option maxHeartbeats 4000000
namespace Fs
open PySem PySem.Spec PyProof.Rows L2
abbrev Fg := PySem.W.Frag
theorem tuple_mul1 (l : Addr) (items : Array Value) (n : Nat) (dd : Option Addr) (sl : Array (Option Value)) (u : Tok) :
    Meets (Builtin.«tuple.__mul__» ⟨[.ref l, .int 1 u], []⟩) (fun _ R s => s.heap.get? l = some { cls := .type "tuple", dict := dd, data := .seq items n, slots := sl } ∧
      R (.ok (.ret (Value.ref l))) s) :=
  .of_wp fun prog w A R s h => by
    obtain ⟨hp, g, d, tk, os⟩ := s
    obtain ⟨hl, h⟩ := h
    have f1 := AutoSeq1.idx_int
    wp_walk using wpAny_loadPart' hl
    repeat (first
      | (refine wpAny_ite_true (decide_eq_true (by simp)) ?_; wp_walk using wpAny_loadPart' hl)
      | (refine wpAny_ite_false (decide_eq_false (by simp)) ?_; wp_walk using wpAny_loadPart' hl))
    exact ⟨_, rfl, h⟩
theorem tuple_mul0 (l : Addr) (items : Array Value) (n : Nat) (dd : Option Addr) (sl : Array (Option Value)) (hne : items.isEmpty = false) (u : Tok) :
    Meets (Builtin.«tuple.__mul__» ⟨[.ref l, .int 0 u], []⟩) (fun _ R s => s.heap.get? l = some { cls := .type "tuple", dict := dd, data := .seq items n, slots := sl } ∧
      R (.ok (.ret (Value.ref s.heap.objs.size))) { s with heap := s.heap.push { cls := Value.type "tuple", data := Data.seq #[] }, toks := s.toks }) :=
  .of_wp fun prog w A R s h => by
    obtain ⟨hp, g, d, tk, os⟩ := s
    obtain ⟨hl, h⟩ := h
    have f1 := AutoSeq1.idx_int
    wp_walk using wpAny_loadPart' hl
    repeat (first
      | (refine wpAny_ite_false (decide_eq_false (by rw [hne]; decide)) ?_; wp_walk using wpAny_loadPart' hl)
      | (refine wpAny_ite_true (decide_eq_true (by simp)) ?_; wp_walk using wpAny_loadPart' hl)
      | (refine wpAny_ite_false (decide_eq_false (by simp)) ?_; wp_walk using wpAny_loadPart' hl))
    exact ⟨_, rfl, h⟩
/-- tuple * int -/
def rRepU : R2 := fun x y H Q => ∃ l k xs, x = .ref l ∧ y = .int k ∧ H l = some (.tup xs) ∧ xs ≠ [] ∧ xs.length ≤ 1000 ∧ k ≤ 1000 ∧
  ((2 ≤ k ∧ ∀ p, H p = none → Q (.ref p) (upd H p (.tup (List.replicate k.toNat xs).flatten))) ∨ (k = 1 ∧ Q (.ref l) H) ∨ (k = 0 ∧ ∀ p, H p = none → Q (.ref p) (upd H p (.tup []))))
theorem op_repU {X : Cx} : OpR X (binaryOp .Mult) rRepU := by
  intro pins s σ H x y v u Q I rx ry h
  obtain ⟨l, k, xs, rfl, rfl, hT, hne, hz, h2, h⟩ := h
  rcases h with ⟨h1, q⟩ | ⟨rfl, q⟩ | ⟨rfl, q⟩
  · exact op_repT _ _ _ _ _ _ _ _ _ I rx ry ⟨l, k, xs, rfl, rfl, SqT.of hT, hne, h1, h2, hz, q⟩
  · cases rx
    obtain ⟨t, rfl⟩ := ry
    obtain ⟨its, r, ⟨⟨cls, dd, data, sl⟩, ho, hc, n, hd⟩, hs⟩ := I.tuple (SqT.of hT)
    simp only at hc hd
    subst hc hd
    refine wpAny_binaryOp_repeat_ref (T := "tuple") (U := "int") (by decide) ⟨_, ho, rfl⟩ (fun s' => typeIs_int s' 1 t) noFill_tuple_mul F.fills_int_mul F.slot_int_rmul repeat_tuple F.slot_int_index.lookup
      (call_meets F.slot_int_rmul (typeIs_int s 1 t) F.entry_int_rmul (F.args_int_rmul_2 _ _) (int_rmul_tuple 1 t l its.toArray n dd sl)
        ⟨ho, rfl, ⟨_, ho, rfl⟩, call_meets F.slot_tuple_mul ⟨_, ho, rfl⟩ F.entry_tuple_mul (F.args_tuple_mul_2 _ _) (tuple_mul1 l its.toArray n dd sl t) ⟨ho, ?_⟩⟩)
    exact ⟨.ref l, _, I, rfl, q⟩
  · cases rx
    obtain ⟨t, rfl⟩ := ry
    obtain ⟨its, r, ⟨⟨cls, dd, data, sl⟩, ho, hc, n, hd⟩, hs⟩ := I.tuple (SqT.of hT)
    simp only at hc hd
    subst hc hd
    have hle : its.length = xs.length := r.length.symm
    have hn : its ≠ [] := fun e => hne (by
      rw [e] at hle
      exact List.eq_nil_of_length_eq_zero hle.symm)
    have hi : its.toArray.isEmpty = false := by
      cases its with
      | nil => exact absurd rfl hn
      | cons a b => rfl
    refine wpAny_binaryOp_repeat_ref (T := "tuple") (U := "int") (by decide) ⟨_, ho, rfl⟩ (fun s' => typeIs_int s' 0 t) noFill_tuple_mul F.fills_int_mul F.slot_int_rmul repeat_tuple F.slot_int_index.lookup
      (call_meets F.slot_int_rmul (typeIs_int s 0 t) F.entry_int_rmul (F.args_int_rmul_2 _ _) (int_rmul_tuple 0 t l its.toArray n dd sl)
        ⟨ho, rfl, ⟨_, ho, rfl⟩, call_meets F.slot_tuple_mul ⟨_, ho, rfl⟩ F.entry_tuple_mul (F.args_tuple_mul_2 _ _) (tuple_mul0 l its.toArray n dd sl hi t) ⟨ho, ?_⟩⟩)
    refine ⟨.ref s.heap.objs.size, _, I.laid (t' := s.toks) (o := .tup []) (fun b ob q => Heap.get?_push_of_some _ q) (Nat.le_refl _) ?_, rfl, q _ (I.hok.fresh (Nat.le_refl _))⟩
    exact ⟨Nat.zero_le _, [], .nil, IsTup.new _ _⟩
/-! ### readings: one name an operation, whatever the kinds -/
def rAddS : R2 := fun x y H Q => ∃ i j, x = .str i ∧ y = .str j ∧ i.length + j.length ≤ sizeLine ∧ Q (.str (i ++ j)) H
def uAdd : R2 := fun x y H Q => rI0 (fun i j => .int (i + j)) x y H Q ∨ (rAddS x y H Q ∨ rCat x y H Q)
def uSub : R2 := rI0 fun i j => .int (i - j)
def uMul : R2 := fun x y H Q => rI CMulX (fun i j => .int (i * j)) x y H Q ∨ (rI CMul (fun i j => .int (i * j)) x y H Q ∨ (rRep x y H Q ∨ rRepU x y H Q))
def uDiv : R2 := rI CDivW fun i j => .int (i / j)
def uMod : R2 := rI (fun _ j => 0 < j) fun i j => .int (i % j)
def uPow : R2 := rI CPow fun i j => .int (i ^ j.toNat)
def uAnd : R2 := rI0 fun i j => .int (Builtin.bitAnd i j)
def uOr : R2 := rI0 fun i j => .int (Builtin.bitOr i j)
def uLt : R2 := rI0 fun i j => .bl (decide (i < j))
def uLe : R2 := rI0 fun i j => .bl (decide (i ≤ j))
def uGt : R2 := rI0 fun i j => .bl (decide (j < i))
def uGe : R2 := rI0 fun i j => .bl (decide (j ≤ i))
/-- two lists of unlike lengths, whatever stands in them -/
def LenNe (K : Fg) (x y : V) (H : Hp) : Prop := ∃ a b xs ys, x = .ref a ∧ y = .ref b ∧ SqL K H a xs ∧ SqL K H b ys ∧ xs.length ≠ ys.length
def rEqG (K : Fg) : R2 := fun x y H Q => rEqD K x y H Q ∨ (LenNe K x y H ∧ Q (.bl false) H)
def rNeG (K : Fg) : R2 := fun x y H Q => rNeD K x y H Q ∨ (LenNe K x y H ∧ Q (.bl true) H)
def uEq (K : Fg) : R2 := fun x y H Q => rEq x y H Q ∨ rEqG K x y H Q
def uNe (K : Fg) : R2 := fun x y H Q => rNe x y H Q ∨ rNeG K x y H Q
def uIn (K : Fg) : R2 := rIn K false
def uNotIn (K : Fg) : R2 := rIn K true
def rIsN : R2 := fun x y H Q => y = .non ∧ Q (.bl (decide (x = .non))) H
def rNotN : R2 := fun x y H Q => y = .non ∧ Q (.bl (!decide (x = .non))) H
def uIs : R2 := fun x y H Q => rIsN x y H Q ∨ rIsB x y H Q
def uIsNot : R2 := fun x y H Q => rNotN x y H Q ∨ rNotB x y H Q
def uIx (K : Fg) : R2 := rIx K
def uSl (K : Fg) : V → Option Int → Option Int → Hp → VK → Prop := fun x lo hi H Q => rSlL K x lo hi H Q ∨ rSlS x lo hi H Q
def uNeg : V → Hp → VK → Prop := rU fun i => .int (-i)
abbrev RC := List V → Hp → VK → Prop
def uLen (K : Fg) : RC := fun xs H Q => ∃ x n, xs = [x] ∧ LenV K x H n ∧ Q (.int n) H
def rMax2 : RC := fun xs H Q => ∃ i j, xs = [.int i, .int j] ∧ Q (.int (if j > i then j else i)) H
def rMin2 : RC := fun xs H Q => ∃ i j, xs = [.int i, .int j] ∧ Q (.int (if j < i then j else i)) H
def uMax (K : Fg) : RC := fun xs H Q => rMax2 xs H Q ∨ rMax K xs H Q
def uMin (K : Fg) : RC := fun xs H Q => rMin2 xs H Q ∨ rMin K xs H Q
def rInt1 : RC := fun xs H Q => (∃ i, xs = [.int i] ∧ Q (.int i) H) ∨ ∃ k, xs = [.bl k] ∧ Q (.int (if k then 1 else 0)) H
def rIntS : RC := fun xs H Q => ∃ a n, xs = [.str a] ∧ PySem.intText? a = some n ∧ a.length ≤ 640 ∧ Q (.int n) H
def uInt : RC := fun xs H Q => rInt1 xs H Q ∨ rIntS xs H Q
def uAbs : RC := fun xs H Q => ∃ i, xs = [.int i] ∧ Q (.int (if i < 0 then -i else i)) H
def uIsi (K : Fg) : RC := rIsi K
def uSum (K : Fg) : RC := rSum K
def rListOf (K : Fg) : RC := fun xs H Q => ∃ p ys, xs = [.ref p] ∧ (SqL K H p ys ∨ SqT K H p ys) ∧ ∀ l, H l = none → Q (.ref l) (upd H l (.lst ys))
def uSet : TSet := fun o i v H Q => rSetL o i v H Q ∨ rSetD o i v H Q
/-- sorted(d), the keys ints, any number of them -/
def rSortedDA : RC := fun xs H Q => ∃ (a : Addr) (kvs : List (Key × V)) (ks : List Int), xs = [.ref a] ∧ Rd H a (.dK kvs) ∧ kvs.map (·.1) = ks.map Sum.inl ∧
    ∀ (ys : List Int) (p : Addr), ys.Perm ks → ys.Pairwise (· ≤ ·) → H p = none → Q (.ref p) (upd H p (.lst (ys.map V.int)))
def uSorted (K : Fg) : RC := fun xs H Q => rSortedI K xs H Q ∨ rSortedDA xs H Q
def uList (K : Fg) : RC := fun xs H Q => rListOf K xs H Q ∨ rListD xs H Q
def rStrI : RC := fun xs H Q => ∃ i, xs = [.int i] ∧ i.natAbs.log2 < 1920 ∧ Q (.str (toString i)) H
def rStrS : RC := fun xs H Q => ∃ a, xs = [.str a] ∧ Q (.str a) H
def uStr : RC := fun xs H Q => rStrI xs H Q ∨ rStrS xs H Q
def uTuple (K : Fg) : RC := fun xs H Q => ∃ p ys, xs = [.ref p] ∧ ((SqL K H p ys ∧ ∀ l, H l = none → Q (.ref l) (upd H l (.tup ys))) ∨ (SqT K H p ys ∧ Q (.ref p) H))
/-- raise C(..): the wish of an error of the class at C -/
def tRz (E : XK) (C : Addr) : TS := fun _ _ H => E (.ref C) none H
/-- a promise at calls that let nothing out -/
def sp0 (sp : Sp) : Sp := fun vs H Q _ => sp vs H Q E0
/-- what the readings lean on: the written part, where the classes stand -/
structure Gx where
  K : Fg
  C : String → Addr
section
variable {X : Cx}
theorem o_add : OpR X (binaryOp .Add) uAdd := op_add.or (op_add_str.or op_cat)
theorem o_sub : OpR X (binaryOp .Sub) uSub := op_sub
theorem o_mul : OpR X (binaryOp .Mult) uMul := op_mulX.or (op_mul.or (op_rep.or op_repU))
theorem o_div : OpR X (binaryOp .FloorDiv) uDiv := op_fdivW
theorem o_mod : OpR X (binaryOp .Mod) uMod := op_mod
theorem o_pow : OpR X (binaryOp .Pow) uPow := op_pow
theorem o_lt : OpR X (compareOp .Lt) uLt := op_lt
theorem o_le : OpR X (compareOp .LtE) uLe := op_le
theorem o_gt : OpR X (compareOp .Gt) uGt := op_gt
theorem o_ge : OpR X (compareOp .GtE) uGe := op_ge
theorem op_eqLen (hu : X.A.units + 64 < cLine) : OpR X (compareOp .Eq) (fun x y H Q => LenNe X.K x y H ∧ Q (.bl false) H) := by
  rintro pins s σ H x y v u Q I rx ry ⟨⟨a, b, xs, ys, rfl, rfl, h1, h2, hne⟩, q⟩
  cases rx
  cases ry
  obtain ⟨i1, r1, l1, _⟩ := I.list h1
  obtain ⟨i2, r2, l2, _⟩ := I.list h2
  have e1 := r1.length
  have e2 := r2.length
  exact SeqAt.eq_list_lengthsAt l1.isList l2.isList (by simp only [List.size_toArray, bne_iff_ne]; omega) (by omega) ⟨.bl false, H, I, rfl, q⟩
theorem op_neLen (hu : X.A.units + 64 < cLine) : OpR X (compareOp .NotEq) (fun x y H Q => LenNe X.K x y H ∧ Q (.bl true) H) := by
  rintro pins s σ H x y v u Q I rx ry ⟨⟨a, b, xs, ys, rfl, rfl, h1, h2, hne⟩, q⟩
  cases rx
  cases ry
  obtain ⟨i1, r1, l1, _⟩ := I.list h1
  obtain ⟨i2, r2, l2, _⟩ := I.list h2
  have e1 := r1.length
  have e2 := r2.length
  exact SeqAt.RcNeAt.lists_lengths l1.isList l2.isList (by simp only [List.size_toArray, bne_iff_ne]; omega) (by omega) X.prog X.w X.xe _ ⟨.bl true, H, I, rfl, q⟩
theorem o_eq (hu : X.A.units + 64 < cLine) : OpR X (compareOp .Eq) (uEq X.K) := op_eq.or ((op_eqD hu).or (op_eqLen hu))
theorem o_ne (hu : X.A.units + 64 < cLine) : OpR X (compareOp .NotEq) (uNe X.K) := op_ne.or ((op_neD hu).or (op_neLen hu))
theorem o_in : OpR X (compareOp .In) (uIn X.K) := op_in_seq
theorem o_notIn : OpR X (compareOp .NotIn) (uNotIn X.K) := op_notIn_seq
theorem o_isNot : OpR X (compareOp .IsNot) uIsNot := op_notN.or op_notBl
theorem o_ix : IxR X (uIx X.K) := ix_seq
theorem o_sl : SlR X (uSl X.K) := sl_list.or sl_str
theorem o_neg : UnR X (unaryOp .USub) uNeg := un_neg
theorem k_len : CallR X (.builtin "len") (uLen X.K) := call_len
theorem k_max (hc : X.calm = true) : CallR X (.builtin "max") (uMax X.K) := (call_max2 hc).or (cr_max hc)
theorem k_min (hc : X.calm = true) : CallR X (.builtin "min") (uMin X.K) := (call_min2 hc).or (cr_min hc)
theorem k_int : CallR X (.type "int") uInt := call_int1.or call_int_str
theorem k_isi : CallR X (.builtin "isinstance") (uIsi X.K) := call_isi
theorem k_sum (hc : X.calm = true) : CallR X (.builtin "sum") (uSum X.K) := cr_sum hc
theorem s_any (hu : X.A.units + 1 < cLine) : PSet X uSet := by
  intro pins s σ H o i v ov iv u Q I ro ri rv h
  rcases h with h | h
  · exact set_list pins s σ H o i v ov iv u Q I ro ri rv h
  · exact set_dict hu pins s σ H o i v ov iv u Q I ro ri rv h
theorem k_sortedDA (hcalm : X.calm = true) : CallR X (.builtin "sorted") rSortedDA := by
  intro pins s σ H xs us Q I r q
  obtain ⟨a, kvs, ks, ex, hd, hks, q⟩ := q
  subst ex
  obtain ⟨u, eu, rx⟩ := vals1 r
  subst eu
  cases rx
  obtain ⟨z, lo, vs, rel, dd⟩ := dk_rd I.hok hd
  obtain ⟨ep, hat⟩ := dd.dictAt
  have hkeys : vs.map (·.1) = ks.map Sum.inl := rel.keys.symm.trans hks
  have hl : vs.length = ks.length := by
    have e := congrArg List.length hkeys
    rw [List.length_map, List.length_map] at e
    exact e
  have h16 : vs.length ≤ sizeLine := by rw [← rel.length]; exact z
  refine Calls.call_function_entry PyProof.Rows.kind_sorted PyProof.Rows.plain_sorted PyProof.Rows.entry_sorted (PyProof.Rows.args_sorted1 _) ?_
  unfold Builtin.«sorted»
  refine wpAny_bind (m := checkCount "sorted" 1 1 _) (wpAny_pure ?_)
  refine wpAny_bind (PySem.W.kdu_collect (A := X.A.in1) (PySem.W.kdl_dict (knd := mixKind X.prog X.w) (kvs := vs) (ep := ep) lo) (I.ok.hd hcalm) hat h16 fun h' tk acc hk hacc => ?_)
  have hal : acc.toList.length = ks.length := by rw [Array.length_toList, hacc.1, hl]
  have hS : IntsAre acc.toList ks := ints_each hal fun j v e => by
    obtain ⟨k, x, e1, e2⟩ := hacc.2 j v (by rw [← Array.getElem?_toList]; exact e)
    have e3 : (vs.map (·.1))[j]? = some k := by rw [List.getElem?_map, e1]; rfl
    rw [hkeys, List.getElem?_map] at e3
    cases e4 : ks[j]? with
    | none => rw [e4] at e3; cases e3
    | some y =>
      rw [e4] at e3
      have e5 : Sum.inl y = k := Option.some.inj e3
      subst e5
      rcases keyIs_shape (show keyIs (Sum.inl y) v = true from e2) with ⟨i, t, ek, ev⟩ | ⟨z, t, ek, ev⟩
      · cases ek
        exact ⟨y, t, rfl, ev⟩
      · cases ek
  have I1 : Inv X pins σ H { s with heap := h', toks := tk } := I.kept hk
  have hz2 : acc.toList.length ≤ sizeLine := by rw [hal, ← hl]; exact h16
  refine wpAny_bind (wpAny_newList ?_ hz2)
  have hoL : (h'.push (seqObj "list" acc.toList.toArray 0)).get? h'.objs.size = some (seqObj "list" acc.toList.toArray 0) := Heap.get?_push_size _ rfl
  show wpAny _ _ _ _ _ { s with heap := h'.push (seqObj "list" acc.toList.toArray 0), toks := tk }
  refine wpAny_bind (wpAny_holding (wpAny_call_entry PyProof.Rows.slot_list_sort ⟨_, hoL, rfl⟩ PyProof.Rows.entry_list_sort
    (SrtO.list_sort_ord (s := { s with heap := h'.push (seqObj "list" acc.toList.toArray 0), toks := tk }) SrtO.swo_int hoL hz2 (fun h2 => SrtO.ints_sortable hS h2) fun out g1 g2 => ⟨_, rfl, ?_⟩) (PyProof.Rows.args_list_sort _)))
  obtain ⟨k1, k2, k3⟩ := SrtO.ints_out hS g1 g2
  obtain ⟨e', he'⟩ := PyProof.Rows.sortedHeap_at (vs := acc.toList) (out := out.toArray) hoL
  have hlen : ((out.map SrtO.iv).map V.int).length ≤ sizeLine := by
    rw [List.length_map, k2.length_eq, ← hl]
    exact h16
  refine wpAny_pure ⟨_, rfl, .ref h'.objs.size, upd H h'.objs.size (.lst ((out.map SrtO.iv).map V.int)), I1.laid (t' := tk) (fun b u e => ?_) (Nat.le_refl _)
    (show ObjOk X.prog X.w _ _ _ (.lst ((out.map SrtO.iv).map V.int)) from ⟨hlen, out, e', vals_of_ints k1, he'⟩), rfl, q _ _ k2 k3 (I1.hok.fresh (Nat.le_refl _))⟩
  have hb : b < h'.objs.size := Heap.lt_size e
  rw [PyProof.Rows.sortedHeap_old (Nat.ne_of_lt hb) (by rw [size_push']; exact Nat.lt_succ_of_lt hb)]
  exact Heap.get?_push_of_some _ e
theorem k_sorted (hc : X.calm = true) : CallR X (.builtin "sorted") (uSorted X.K) := cr_sortedI.or (k_sortedDA hc)
theorem k_list (hc : X.calm = true) : CallR X (.type "list") (uList X.K) := call_list_of.or (call_list_dK hc)
theorem k_str : CallR X (.type "str") uStr := call_str_int.or SkE.call_str_str
theorem k_tuple : CallR X (.type "tuple") (uTuple X.K) := call_tuple_of
/-- slots of names -/
theorem pgn (i : Nat) {x : Str} {pos : Pos} (hN : X.N.Nodup) (hi : X.N[i]? = some x := by rfl) (hx : Loc X.env.scope x := by first | exact Or.inl rfl | exact Or.inr rfl) (hf : X.fn x = true ∨ X.env.scope.names.lookup x = some .local := by first | exact .inl rfl | exact .inr rfl) : PG X (.Name x pos) (gName i) := pg_name hN hi hx hf
theorem pst (i : Nat) {x : Str} {e : Expr} {te : TE} {pos pos' : Pos} (hN : X.N.Nodup) (he : PE X e te) (hi : X.N[i]? = some x := by rfl) (hx : Loc X.env.scope x := by first | exact Or.inl rfl | exact Or.inr rfl) (hs : swapsWith e (some (.Name x pos')) pos.line X.env = pure false := by rfl) (hf : X.fn x = true ∨ X.env.scope.names.lookup x = some .local := by first | exact .inl rfl | exact .inr rfl) :
    PS X (.Assign [.Name x pos'] e pos) (tAsg te (gName i)) := ps_set hN hi hx he hs hf
theorem pau (i : Nat) {x : Str} {e : Expr} {te : TE} {op : Operator} {ti : TIp} {pos pos' : Pos} (hN : X.N.Nodup) (he : PE X e te) (ho : PIp X op ti) (hi : X.N[i]? = some x := by rfl) (hx : Loc X.env.scope x := by first | exact Or.inl rfl | exact Or.inr rfl) (hf : X.fn x = true ∨ X.env.scope.names.lookup x = some .local := by first | exact .inl rfl | exact .inr rfl) :
    PS X (.AugAssign (.Name x pos') op e pos) (tAug i te ti) := ps_aug hN hi hx he ho hf
end
/-! ### calls that let nothing out -/
section
variable {X : Cx} {k : Nat} {f : Addr} {fd : FuncData} {ps : List Str} {sp : Sp} {x : Str} {p pos : Pos} {e : Expr} {es : List Expr} {t : TA}
theorem pcall (F : FnOk X.prog X.w X.K X.mg X.base CX0 k f fd ps (sp0 sp)) (hr : Room k X.A) (hg : Gl X x) (hm : X.mg x = some (.ref f)) (hk : PySem.W.keepIn X.K (.ref f) = true) (hb : Binds X.K fd ps []) (ha : PA X (e :: es) t)
    (hdb : (x == ("__debug__" : Str)) = false := by decide) (he : starEach (e :: es) X.env = (false, eval e X.env) :: starEach es X.env := by rfl) (hpl : (backTo pos (starEach es X.env)).any (·.1) = false := by rfl) :
    PE X (.Call (.Name x p) (e :: es) [] pos) (tCall sp [] E0 t) := pe_call (sp := sp0 sp) F hr hg hm hk hb .nil pass0 ha hdb he hpl
theorem prz0 {st : Stmt} {C : Addr} : PS X st (tRz E0 C) := ⟨fun _ _ _ _ _ _ h => h.elim⟩
end
/-! ### steps of a reading -/
section
variable {K : Fg} {D : Ends} {σ : L2.St} {H : Hp} {t u : TS} {te ta tb tc : TE} {c c2 : TT} {g : TG} {Q : VK} {QB : Bool → Hp → Prop} {QA : List V → Hp → Prop} {x y v : V} {i j : Int} {b : Bool} {a p l : Addr} {xs ys : List V} {z s : Str}
theorem i_seq (h : t { D with nx := u D } σ H) : tSeq t u D σ H := h
theorem i_next (h : D.nx σ H) : tNext D σ H := h
theorem i_asg (h : te σ H fun x H1 => g x σ H1 D.nx) : tAsg te g D σ H := h
theorem i_gname {n : Nat} {R : L2.St → Hp → Prop} (h : R (σ.set n (some v)) H) : gName n v σ H R := h
theorem i_ifS (h : c σ H fun b H1 => if b = true then t D σ H1 else u D σ H1) : tIfS c t u D σ H := h
theorem i_ret (h : te σ H D.rt) : tRet te D σ H := h
theorem i_retN (h : D.rt .non H) : tRetN D σ H := h
theorem i_drop (h : te σ H fun _ H1 => D.nx σ H1) : tDrop te D σ H := h
theorem i_brk (h : D.bk σ H) : tBreak D σ H := h
theorem i_aug {n : Nat} {ti : TIp} (hx : σ[n]? = some (some x)) (h : te σ H fun y H1 => ti x y H1 fun z H2 => D.nx (σ.set n (some z)) H2) : tAug n te ti D σ H := ⟨x, hx, h⟩
theorem i_ipI {f : Int → Int → Int} (h : Q (.int (f i j)) H) : ipI f (.int i) (.int j) H Q := ⟨i, j, rfl, rfl, h⟩
theorem i_var {n : Nat} (hx : σ[n]? = some (some v)) (h : Q v H) : tVar n σ H Q := ⟨v, hx, h⟩
theorem i_c (h : Q v H) : tC v σ H Q := h
theorem i_op {r : R2} (h : ta σ H fun x H1 => tb σ H1 fun y H2 => r x y H2 Q) : tOp r ta tb σ H Q := h
theorem i_un {r : V → Hp → VK → Prop} (h : ta σ H fun x H1 => r x H1 Q) : tUn r ta σ H Q := h
theorem i_call {sp : Sp} {E : XK} {t : TA} (h : t σ H fun vs H1 => sp vs H1 Q E) : tCall sp [] E t σ H Q := by
  have e : (fun vs H1 => sp (vs ++ []) H1 Q E) = fun vs H1 => sp vs H1 Q E := by
    funext vs H1
    rw [List.append_nil]
  show t σ H fun vs H1 => sp (vs ++ []) H1 Q E
  rw [e]
  exact h
theorem i_cb {r : RC} {t : TA} (h : t σ H fun vs H1 => r vs H1 Q) : tCB r t σ H Q := h
theorem i_nil (h : QA [] H) : tNil σ H QA := h
theorem i_cons {tr : TA} (h : ta σ H fun x H1 => tr σ H1 fun xs H2 => QA (x :: xs) H2) : tCons ta tr σ H QA := h
theorem i_bm {T : String} {r : V → List V → Hp → VK → Prop} {t : TA} (h : ta σ H fun x H1 => tyV K T x H1 ∧ t σ H1 fun xs H2 => r x xs H2 Q) : tBM K T r ta t σ H Q := h
theorem i_bm0 {T : String} {r : V → List V → Hp → VK → Prop} (h : ta σ H fun x H1 => tyV K T x H1 ∧ r x [] H1 Q) : tBM0 K T r ta σ H Q := h
theorem i_lst {t : TA} (h : t σ H fun xs H1 => xs.length ≤ sizeLine ∧ ∀ p, H1 p = none → Q (.ref p) (upd H1 p (.lst xs))) : tLst t σ H Q := h
theorem i_tup {t : TA} (h : t σ H fun xs H1 => xs.length ≤ sizeLine ∧ ∀ p, H1 p = none → Q (.ref p) (upd H1 p (.tup xs))) : tTup t σ H Q := h
theorem i_sl {r : V → Option Int → Option Int → Hp → VK → Prop} {tl th : TO} (h : te σ H fun x H1 => tl σ H1 fun l H2 => th σ H2 fun u H3 => r x l u H3 Q) : tSl r te tl th σ H Q := h
theorem i_nopart {R : Option Int → Hp → Prop} (h : R none H) : tNoPart σ H R := h
theorem i_part {R : Option Int → Hp → Prop} (h : te σ H fun x H1 => ∃ i, x = .int i ∧ R (some i) H1) : tPart te σ H R := h
theorem i_exint {R : Int → Prop} (h : R i) : ∃ j, V.int i = .int j ∧ R j := ⟨i, rfl, h⟩
theorem i_exbl {R : Bool → Prop} (h : R b) : ∃ j, V.bl b = .bl j ∧ R j := ⟨b, rfl, h⟩
theorem i_if (h : c σ H fun b H1 => if b = true then ta σ H1 Q else tb σ H1 Q) : tIf c ta tb σ H Q := h
theorem i_andV (h : ta σ H fun x H1 => ∃ c, x = .bl c ∧ if c = true then tb σ H1 Q else Q (.bl false) H1) : tAndV ta tb σ H Q := h
theorem i_orV (h : ta σ H fun x H1 => ∃ c, x = .bl c ∧ if c = true then Q (.bl true) H1 else tb σ H1 Q) : tOrV ta tb σ H Q := h
theorem i_notV (h : ta σ H fun x H1 => ∃ c, x = .bl c ∧ Q (.bl (!c)) H1) : tNotV ta σ H Q := h
theorem i_test (h : te σ H fun x H1 => ∃ k, x = .bl k ∧ QB k H1) : tTest te σ H QB := h
theorem i_B (h : te σ H fun x H1 => ∃ k, x = .bl k ∧ QB k H1) : tB te σ H QB := h
theorem i_and (h : c σ H fun b H1 => if b = true then c2 σ H1 QB else QB false H1) : tAnd c c2 σ H QB := h
theorem i_or (h : c σ H fun b H1 => if b = true then QB true H1 else c2 σ H1 QB) : tOr c c2 σ H QB := h
theorem i_not (h : c σ H fun b H1 => QB (!b) H1) : tNot c σ H QB := h
theorem i_yes (h : QB true H) : tYes σ H QB := h
theorem i_chain {r r' : R2} (h : ta σ H fun x H1 => tb σ H1 fun y H2 => r x y H2 fun z H3 => ∃ k, z = .bl k ∧ (if k = true then tc σ H3 fun w' H4 => r' y w' H4 Q else Q (.bl false) H3)) : tChain r r' ta tb tc σ H Q := h
/-! numbers -/
theorem i_add (h : Q (.int (i + j)) H) : uAdd (.int i) (.int j) H Q := .inl ⟨i, j, rfl, rfl, h⟩
theorem i_addL (h1 : H a = some (.lst xs)) (h2 : H p = some (.lst ys)) (hz : xs.length + ys.length ≤ sizeLine) (h : ∀ q, H q = none → Q (.ref q) (upd H q (.lst (xs ++ ys)))) : uAdd (.ref a) (.ref p) H Q := .inr (.inr ⟨a, p, xs, ys, rfl, rfl, h1, h2, hz, h⟩)
theorem i_sub (h : Q (.int (i - j)) H) : uSub (.int i) (.int j) H Q := ⟨i, j, rfl, rfl, h⟩
theorem i_mulL (h1 : -(2 ^ 64) < i ∧ i < 2 ^ 64) (h : Q (.int (i * j)) H) : uMul (.int i) (.int j) H Q := .inr (.inl ⟨i, j, rfl, rfl, .inl h1, h⟩)
theorem i_mulR (h1 : -(2 ^ 64) < j ∧ j < 2 ^ 64) (h : Q (.int (i * j)) H) : uMul (.int i) (.int j) H Q := .inr (.inl ⟨i, j, rfl, rfl, .inr h1, h⟩)
theorem i_mulX (h1 : CMulX i j) (h : Q (.int (i * j)) H) : uMul (.int i) (.int j) H Q := .inl ⟨i, j, rfl, rfl, h1, h⟩
theorem i_rep {k : Int} (h1 : H a = some (.lst xs)) (h0 : -(2 ^ 63) ≤ k) (h2 : k < 2 ^ 63) (hz : xs.length * k.toNat ≤ sizeLine) (h : ∀ q, H q = none → Q (.ref q) (upd H q (.lst (List.replicate k.toNat xs).flatten))) : uMul (.ref a) (.int k) H Q := .inr (.inr (.inl ⟨a, k, xs, rfl, rfl, h1, h0, h2, hz, h⟩))
theorem i_div (h1 : CDivW i j) (h : Q (.int (i / j)) H) : uDiv (.int i) (.int j) H Q := ⟨i, j, rfl, rfl, h1, h⟩
theorem div_ok (h0 : 0 < j) (h1 : j < 2 ^ 64) : CDivW i j := wide_div (b := 64) h0 (by omega) (by decide) (by decide)
theorem i_mod (h1 : 0 < j) (h : Q (.int (i % j)) H) : uMod (.int i) (.int j) H Q := ⟨i, j, rfl, rfl, h1, h⟩
theorem i_pow (h1 : CPow i j) (h : Q (.int (i ^ j.toNat)) H) : uPow (.int i) (.int j) H Q := ⟨i, j, rfl, rfl, h1, h⟩
theorem i_band (h : Q (.int (Builtin.bitAnd i j)) H) : uAnd (.int i) (.int j) H Q := ⟨i, j, rfl, rfl, h⟩
theorem i_bor (h : Q (.int (Builtin.bitOr i j)) H) : uOr (.int i) (.int j) H Q := ⟨i, j, rfl, rfl, h⟩
theorem i_neg (h : Q (.int (-i)) H) : uNeg (.int i) H Q := ⟨i, rfl, h⟩
theorem i_lt (h : Q (.bl (decide (i < j))) H) : uLt (.int i) (.int j) H Q := ⟨i, j, rfl, rfl, h⟩
theorem i_le (h : Q (.bl (decide (i ≤ j))) H) : uLe (.int i) (.int j) H Q := ⟨i, j, rfl, rfl, h⟩
theorem i_gt (h : Q (.bl (decide (j < i))) H) : uGt (.int i) (.int j) H Q := ⟨i, j, rfl, rfl, h⟩
theorem i_ge (h : Q (.bl (decide (j ≤ i))) H) : uGe (.int i) (.int j) H Q := ⟨i, j, rfl, rfl, h⟩
theorem dec_VI : decide (V.int i = V.int j) = decide (i = j) := by rw [Bool.eq_iff_iff]; simp
theorem dec_VS : decide (V.str z = V.str s) = decide (z = s) := by rw [Bool.eq_iff_iff]; simp
theorem i_eqI (h : Q (.bl (decide (i = j))) H) : uEq K (.int i) (.int j) H Q := .inl ⟨rfl, by rw [dec_VI]; exact h⟩
theorem i_neI (h : Q (.bl (!decide (i = j))) H) : uNe K (.int i) (.int j) H Q := .inl ⟨rfl, by rw [dec_VI]; exact h⟩
theorem i_eqS (h : Q (.bl (decide (z = s))) H) : uEq K (.str z) (.str s) H Q := .inl ⟨rfl, by rw [dec_VS]; exact h⟩
theorem i_neS (h : Q (.bl (!decide (z = s))) H) : uNe K (.str z) (.str s) H Q := .inl ⟨rfl, by rw [dec_VS]; exact h⟩
theorem i_eqIS (h : Q (.bl false) H) : uEq K (.int i) (.str s) H Q := .inl ⟨rfl, by rw [decide_eq_false (fun z => nomatch z)]; exact h⟩
theorem i_neIS (h : Q (.bl true) H) : uNe K (.int i) (.str s) H Q := .inl ⟨rfl, by rw [decide_eq_false (fun z => nomatch z)]; exact h⟩
theorem i_eqIN (h : Q (.bl false) H) : uEq K (.int i) .non H Q := .inl ⟨rfl, by rw [decide_eq_false (fun z => nomatch z)]; exact h⟩
theorem i_neIN (h : Q (.bl true) H) : uNe K (.int i) .non H Q := .inl ⟨rfl, by rw [decide_eq_false (fun z => nomatch z)]; exact h⟩
theorem i_eqNI (h : Q (.bl false) H) : uEq K .non (.int i) H Q := .inl ⟨rfl, by rw [decide_eq_false (fun z => nomatch z)]; exact h⟩
theorem i_neNI (h : Q (.bl true) H) : uNe K .non (.int i) H Q := .inl ⟨rfl, by rw [decide_eq_false (fun z => nomatch z)]; exact h⟩
theorem i_neNN (h : Q (.bl false) H) : uNe K .non .non H Q := .inl ⟨rfl, by rw [decide_eq_true rfl]; exact h⟩
theorem i_isN (h : Q (.bl (decide (x = .non))) H) : uIs x .non H Q := .inl ⟨rfl, h⟩
theorem i_notN (h : Q (.bl (!decide (x = .non))) H) : uIsNot x .non H Q := .inl ⟨rfl, h⟩
theorem i_isB {b2 : Bool} (h : Q (.bl (decide (b = b2))) H) : uIs (.bl b) (.bl b2) H Q := .inr ⟨b, b2, rfl, rfl, h⟩
theorem i_notB {b2 : Bool} (h : Q (.bl (!decide (b = b2))) H) : uIsNot (.bl b) (.bl b2) H Q := .inr ⟨b, b2, rfl, rfl, h⟩
theorem i_max2 (h : Q (.int (if j > i then j else i)) H) : uMax K [.int i, .int j] H Q := .inl ⟨i, j, rfl, h⟩
theorem i_min2 (h : Q (.int (if j < i then j else i)) H) : uMin K [.int i, .int j] H Q := .inl ⟨i, j, rfl, h⟩
theorem i_sumL {ns : List Int} (hs : SqL K H a (ns.map V.int)) (h : Q (.int ns.sum) H) : uSum K [.ref a] H Q := ⟨a, ns, rfl, hs, h⟩
theorem i_intI (h : Q (.int i) H) : uInt [.int i] H Q := .inl (.inl ⟨i, rfl, h⟩)
theorem i_intB (h : Q (.int (if b then 1 else 0)) H) : uInt [.bl b] H Q := .inl (.inr ⟨b, rfl, h⟩)
theorem i_abs (h : Q (.int (if i < 0 then -i else i)) H) : uAbs [.int i] H Q := ⟨i, rfl, h⟩
theorem i_lenL (hs : SqL K H a xs) (h : Q (.int xs.length) H) : uLen K [.ref a] H Q := ⟨_, xs.length, rfl, .inl ⟨xs, hs, rfl⟩, h⟩
theorem i_ixL (hs : SqL K H a xs) (ha : atI xs i = some v) (h : Q v H) : uIx K (.ref a) (.int i) H Q := .inl ⟨a, xs, i, v, rfl, rfl, hs, ha, h⟩
theorem i_slL {lo hi : Option Int} (hs : SqL K H a xs) (h : ∀ p, H p = none → Q (.ref p) (upd H p (.lst (cutV xs lo hi)))) : uSl K (.ref a) lo hi H Q := .inl ⟨a, xs, rfl, hs, h⟩
theorem i_setL {R : Hp → Prop} {n : Nat} (hs : H a = some (.lst xs)) (hi : ixN xs.length i = some n) (h : R (upd H a (.lst (xs.set n v)))) : uSet (.ref a) (.int i) v H R := .inl ⟨a, xs, i, n, rfl, rfl, hs, hi, h⟩
theorem i_inL (hs : SqL K H a xs) (hx : flatV x = true) (hf : xs.all flatV = true) (h : Q (.bl (inV x xs)) H) : uIn K x (.ref a) H Q := ⟨a, xs, rfl, .inl hs, hx, hf, h⟩
theorem i_ninL (hs : SqL K H a xs) (hx : flatV x = true) (hf : xs.all flatV = true) (h : Q (.bl (!inV x xs)) H) : uNotIn K x (.ref a) H Q := ⟨a, xs, rfl, .inl hs, hx, hf, h⟩
theorem i_gsub {to ti : TE} {ts : TSet} {R : L2.St → Hp → Prop} (h : to σ H fun o H1 => ti σ H1 fun i H2 => ts o i v H2 fun H3 => R σ H3) : gSub to ti ts v σ H R := h
theorem i_app (hs : H a = some (.lst xs)) (hz : xs.length < sizeLine) (h : Q .non (upd H a (.lst (xs ++ [v])))) : rAppend (.ref a) [v] H Q := ⟨a, xs, v, rfl, rfl, hs, hz, h⟩
/-! isinstance of what is no object -/
theorem i_isiII (h : Q (.bl true) H) : uIsi K [.int i, .ty "int"] H Q := ⟨_, _, _, _, true, rfl, .ty _, .base (.int i), kit_ty (by decide +kernel), h⟩
theorem i_isiIB (h : Q (.bl false) H) : uIsi K [.int i, .ty "bool"] H Q := ⟨_, _, _, _, false, rfl, .ty _, .base (.int i), kit_ty (by decide +kernel), h⟩
theorem i_isiIS (h : Q (.bl false) H) : uIsi K [.int i, .ty "str"] H Q := ⟨_, _, _, _, false, rfl, .ty _, .base (.int i), kit_ty (by decide +kernel), h⟩
theorem i_isiIL (h : Q (.bl false) H) : uIsi K [.int i, .ty "list"] H Q := ⟨_, _, _, _, false, rfl, .ty _, .base (.int i), kit_ty (by decide +kernel), h⟩
theorem i_isiSI (h : Q (.bl false) H) : uIsi K [.str s, .ty "int"] H Q := ⟨_, _, _, _, false, rfl, .ty _, .base (.str s), kit_ty (by decide +kernel), h⟩
theorem i_isiSB (h : Q (.bl false) H) : uIsi K [.str s, .ty "bool"] H Q := ⟨_, _, _, _, false, rfl, .ty _, .base (.str s), kit_ty (by decide +kernel), h⟩
theorem i_isiSS (h : Q (.bl true) H) : uIsi K [.str s, .ty "str"] H Q := ⟨_, _, _, _, true, rfl, .ty _, .base (.str s), kit_ty (by decide +kernel), h⟩
theorem i_isiSL (h : Q (.bl false) H) : uIsi K [.str s, .ty "list"] H Q := ⟨_, _, _, _, false, rfl, .ty _, .base (.str s), kit_ty (by decide +kernel), h⟩
theorem i_isiBI (h : Q (.bl true) H) : uIsi K [.bl b, .ty "int"] H Q := ⟨_, _, _, _, true, rfl, .ty _, .base (.bl b), kit_ty (by decide +kernel), h⟩
theorem i_isiBB (h : Q (.bl true) H) : uIsi K [.bl b, .ty "bool"] H Q := ⟨_, _, _, _, true, rfl, .ty _, .base (.bl b), kit_ty (by decide +kernel), h⟩
theorem i_isiBS (h : Q (.bl false) H) : uIsi K [.bl b, .ty "str"] H Q := ⟨_, _, _, _, false, rfl, .ty _, .base (.bl b), kit_ty (by decide +kernel), h⟩
theorem i_isiNI (h : Q (.bl false) H) : uIsi K [.non, .ty "int"] H Q := ⟨_, _, _, _, false, rfl, .ty _, .base .non, kit_ty (by decide +kernel), h⟩
theorem i_isiNB (h : Q (.bl false) H) : uIsi K [.non, .ty "bool"] H Q := ⟨_, _, _, _, false, rfl, .ty _, .base .non, kit_ty (by decide +kernel), h⟩
theorem i_isiLL (e : H a = some (.lst xs)) (h : Q (.bl true) H) : uIsi K [.ref a, .ty "list"] H Q := ⟨_, _, _, _, true, rfl, .ty _, .base (.lst e), kit_ty (by decide +kernel), h⟩
/-! a test that changes nothing, its answer known -/
def PureT (c : TT) (σ : L2.St) (H : Hp) (b : Bool) : Prop := ∀ QB : Bool → Hp → Prop, QB b H → c σ H QB
theorem i_andP {b1 b2 : Bool} (h1 : PureT c σ H b1) (h2 : b1 = true → PureT c2 σ H b2) (h : QB (b1 && b2) H) : tAnd c c2 σ H QB := h1 _ (by
  cases b1 with
  | true => exact h2 rfl _ h
  | false => exact h)
/-! ways -/
theorem i_ite {d A B : Prop} [Decidable d] (h1 : d → A) (h2 : ¬ d → B) : if decide d = true then A else B := by
  by_cases h : d
  · rw [if_pos (decide_eq_true h)]; exact h1 h
  · rw [if_neg (by simp [h])]; exact h2 h
theorem i_iteN {d A B : Prop} [Decidable d] (h1 : d → B) (h2 : ¬ d → A) : if (!decide d) = true then A else B := by
  by_cases h : d
  · rw [if_neg (by simp [h])]; exact h1 h
  · rw [if_pos (by simp [h])]; exact h2 h
theorem i_T {d : Bool} {A B : Prop} (hd : d = true) (h : A) : if d = true then A else B := by rw [if_pos hd]; exact h
theorem i_F {d : Bool} {A B : Prop} (hd : d = false) (h : B) : if d = true then A else B := by rw [if_neg (by simp [hd])]; exact h
theorem i_both {d : Bool} {A B : Prop} (h1 : d = true → A) (h2 : d = false → B) : if d = true then A else B := by
  cases d
  · exact i_F rfl (h2 rfl)
  · exact i_T rfl (h1 rfl)
end
/-! ### heaps -/
theorem same_new {H : Hp} {p : Addr} {o : HO} (h : H p = none) : Same H (upd H p o) := fun b x e => by
  rw [upd_ne (ne_of_none e h)]
  exact e
/-- what was known at H0 stays, though an object that H0 did not know is turned -/
theorem same_mut {H0 H : Hp} {p : Addr} {o : HO} (s : Same H0 H) (h : H0 p = none) : Same H0 (upd H p o) := fun b x e => by
  rw [upd_ne (ne_of_none e h)]
  exact s b x e
theorem sq_of {K : Fg} {H : Hp} {a : Addr} {xs : List V} (h : H a = some (.lst xs)) : SqL K H a xs := .inl (.inl h)
theorem st_of {K : Fg} {H : Hp} {a : Addr} {xs : List V} (h : H a = some (.tup xs)) : SqT K H a xs := .inl (.inl h)
theorem at_nat {xs : List V} {n : Nat} {v : V} {i : Int} (e : i = (n : Int)) (h : xs[n]? = some v) : atI xs i = some v := by
  rw [e]; exact atI_nat h
theorem sz_le {n : Nat} (h : n ≤ 1000000) : n ≤ sizeLine := Nat.le_trans h (by decide)
theorem sz_lt {n : Nat} (h : n < 1000000) : n < sizeLine := Nat.lt_of_lt_of_le h (by decide)
/-- what stands outside a region is kept -/
def Keep (R : Addr → Prop) (H H' : Hp) : Prop := ∀ a o, ¬ R a → H a = some o → H' a = some o
theorem Keep.refl (R : Addr → Prop) (H : Hp) : Keep R H H := fun _ _ _ h => h
theorem Keep.trans {R : Addr → Prop} {H H1 H2 : Hp} (a : Keep R H H1) (b : Keep R H1 H2) : Keep R H H2 := fun x o n h => b x o n (a x o n h)
theorem Same.keep {R : Addr → Prop} {H H' : Hp} (s : Same H H') : Keep R H H' := fun a o _ h => s a o h
theorem keep_mut {R : Addr → Prop} {H0 H : Hp} {p : Addr} {o : HO} (s : Keep R H0 H) (h : H0 p = none) : Keep R H0 (upd H p o) := fun b x n e => by
  rw [upd_ne (ne_of_none e h)]
  exact s b x n e
theorem keep_in {R : Addr → Prop} {H0 H : Hp} {p : Addr} {o : HO} (s : Keep R H0 H) (h : R p) : Keep R H0 (upd H p o) := fun b x n e => by
  rw [upd_ne (fun z => n (by rw [z]; exact h))]
  exact s b x n e
/-! ### loops -/
def LoopK (J : It) (g : TG) (tb : TS) (D : Ends) (σ : L2.St) (H : Hp) : Prop := ∃ W : Nat → Nat → L2.St → Hp → Prop, (∃ m, W 0 m σ H) ∧ ∀ i m σ H, W i m σ H →
  (J.stop i H ∧ D.nx σ H) ∨ (J.go i H ∧ ∃ N : L2.St → Hp → Prop, (∀ σ' H', N σ' H' → ∃ m', m' < m ∧ W (i + 1) m' σ' H') ∧ ∀ x H', J.yld i H x H' → g x σ H' fun σ2 H2 => tb { D with nx := N, ct := N, bk := D.nx } σ2 H2)
def LcK (J : It) (g : TG) (tt : TT) (te : TE) (vs : List Nat) (σ : L2.St) (H1 : Hp) (Q : VK) : Prop := ∀ D, H1 D = none → ∃ W : Nat → Nat → Hp → Prop, (∃ m, W 0 m (upd H1 D (.lst []))) ∧ ∀ i m H, W i m H →
  (J.stop i H ∧ Q (.ref D) H) ∨ (J.go i H ∧ ∃ Nx : Hp → Prop, (∀ H', Nx H' → ∃ m', m' < m ∧ W (i + 1) m' H') ∧ ∀ x H', J.yld i H x H' → g x (wipe σ vs) H' fun σ2 H2 => wipe σ2 vs = wipe σ vs ∧ tt σ2 H2 fun b H3 =>
    if b = true then te σ2 H3 fun y H4 => ∃ acc, H4 D = some (.lst acc) ∧ acc.length < sizeLine ∧ Nx (upd H4 D (.lst (acc ++ [y]))) else Nx H3)
def RngA1 (vs : List V) (H : Hp) (R : It → Hp → Prop) : Prop := ∃ j : Int, vs = [.int j] ∧ -(2 ^ 62) ≤ j ∧ j < 2 ^ 62 ∧ R (Itr 0 j.toNat) H
def RngA2 (vs : List V) (H : Hp) (R : It → Hp → Prop) : Prop := ∃ i j : Int, vs = [.int i, .int j] ∧ (-(2 ^ 62) ≤ i ∧ i < 2 ^ 62 ∧ -(2 ^ 62) ≤ j ∧ j < 2 ^ 62) ∧ R (Itr i (j - i).toNat) H
def RngA3 (vs : List V) (H : Hp) (R : It → Hp → Prop) : Prop := ∃ (i j c : Int) (n : Nat), vs = [.int i, .int j, .int c] ∧ RgC i j c n ∧ R (Itc i c n) H
def LstA (K : Fg) (x : V) (H : Hp) (R : It → Hp → Prop) : Prop := ∃ a, x = .ref a ∧ (∃ xs, SqL K H a xs) ∧ R (Itl K a) H
def TupA (K : Fg) (x : V) (H : Hp) (R : It → Hp → Prop) : Prop := ∃ a, x = .ref a ∧ (∃ xs, SqT K H a xs) ∧ R (Itt K a) H
def EnumA (K : Fg) (vs : List V) (H : Hp) (R : It → Hp → Prop) : Prop := ∃ a xs, vs = [.ref a] ∧ SqL K H a xs ∧ R (Ite K a) H
def ZipA (K : Fg) (vs : List V) (H : Hp) (R : It → Hp → Prop) : Prop := ∃ a b xs ys, vs = [.ref a, .ref b] ∧ SqL K H a xs ∧ SqL K H b ys ∧ R (Itz K a b) H
def StrA (v : V) (H : Hp) (R : It → Hp → Prop) : Prop := ∃ x, v = .str x ∧ R (Its x) H
section
variable {K : Fg} {D : Ends} {σ : L2.St} {H : Hp} {tb : TS} {te : TE} {ta : TA} {c tt : TT} {g : TG} {Q : VK} {wi : TI} {R : It → Hp → Prop} {J : It} {vs : List Nat} {i j lo : Int} {n : Nat} {a b : Addr} {xs ys : List V} {z : Str}
theorem i_for (h : wi σ H fun J H1 => LoopK J g tb D σ H1) : tFor wi g tb D σ H := h
theorem i_lc (h : wi σ H fun J H1 => LcK J g tt te vs σ H1 Q) : tLc wi g tt te vs σ H Q := h
theorem i_rng1 (h : ta σ H fun vs H1 => RngA1 vs H1 R) : iRng1 ta σ H R := h
theorem i_rng2 (h : ta σ H fun vs H1 => RngA2 vs H1 R) : iRng2 ta σ H R := h
theorem i_rng3 (h : ta σ H fun vs H1 => RngA3 vs H1 R) : iRng3 ta σ H R := h
theorem i_list (h : te σ H fun x H1 => LstA K x H1 R) : iList K te σ H R := h
theorem i_tupl (h : te σ H fun x H1 => TupA K x H1 R) : iTup K te σ H R := h
theorem i_enum (h : ta σ H fun vs H1 => EnumA K vs H1 R) : iEnum K ta σ H R := h
theorem i_zip (h : ta σ H fun vs H1 => ZipA K vs H1 R) : iZip K ta σ H R := h
theorem i_str (h : te σ H fun x H1 => StrA x H1 R) : iStr te σ H R := h
theorem i_rngA1 (h : -(2 ^ 62) ≤ j ∧ j < 2 ^ 62) (k : R (Itr 0 j.toNat) H) : RngA1 [.int j] H R := ⟨j, rfl, h.1, h.2, k⟩
theorem i_rngA2 (h : -(2 ^ 62) ≤ i ∧ i < 2 ^ 62 ∧ -(2 ^ 62) ≤ j ∧ j < 2 ^ 62) (k : R (Itr i (j - i).toNat) H) : RngA2 [.int i, .int j] H R := ⟨i, j, rfl, h, k⟩
theorem i_lstA (h : SqL K H a xs) (k : R (Itl K a) H) : LstA K (.ref a) H R := ⟨a, rfl, ⟨xs, h⟩, k⟩
theorem i_enumA (h : SqL K H a xs) (k : R (Ite K a) H) : EnumA K [.ref a] H R := ⟨a, xs, rfl, h, k⟩
theorem i_strA (k : R (Its z) H) : StrA (.str z) H R := ⟨z, rfl, k⟩
/-- a for, by what holds ahead of each turn -/
theorem lk {G : Hp → Prop} {Y : Nat → Hp → V → Hp → Prop} (w : Walk J n G Y) (Pv : Nat → L2.St → Hp → Prop) (h0 : Pv 0 σ H) (hG : ∀ i σ H, i ≤ n → Pv i σ H → G H)
    (hs : ∀ i x σ H H', i < n → Pv i σ H → Y i H x H' → g x σ H' fun σ2 H2 => tb { D with nx := Pv (i + 1), ct := Pv (i + 1), bk := D.nx } σ2 H2) (hd : ∀ σ H, Pv n σ H → D.nx σ H) : LoopK J g tb D σ H := for_it w Pv h0 hG hs hd
theorem lk_range (Pv : Nat → L2.St → Hp → Prop) (h0 : Pv 0 σ H)
    (hs : ∀ i σ H, i < n → Pv i σ H → g (.int (lo + i)) σ H fun σ2 H2 => tb { D with nx := Pv (i + 1), ct := Pv (i + 1), bk := D.nx } σ2 H2) (hd : ∀ σ H, Pv n σ H → D.nx σ H) : LoopK (Itr lo n) g tb D σ H := for_range Pv h0 hs hd
theorem lk_list (Pv : Nat → L2.St → Hp → Prop) (h0 : Pv 0 σ H) (hl : ∀ i σ H, i ≤ xs.length → Pv i σ H → SqL K H a xs)
    (hs : ∀ i x σ H, xs[i]? = some x → Pv i σ H → g x σ H fun σ2 H2 => tb { D with nx := Pv (i + 1), ct := Pv (i + 1), bk := D.nx } σ2 H2) (hd : ∀ σ H, Pv xs.length σ H → D.nx σ H) : LoopK (Itl K a) g tb D σ H := for_list Pv h0 hl hs hd
def TurnK (W : Nat → L2.St → Hp → Prop) (m : Nat) (tb : TS) (D : Ends) (σ : L2.St) (H : Hp) : Prop := ∃ N : L2.St → Hp → Prop, (∀ σ' H', N σ' H' → ∃ m', m' < m ∧ W m' σ' H') ∧ tb { D with nx := N, ct := N, bk := D.nx } σ H
theorem i_turn {W : Nat → L2.St → Hp → Prop} {m : Nat} (h : tb { D with nx := fun σ2 H2 => ∃ m', m' < m ∧ W m' σ2 H2, ct := fun σ2 H2 => ∃ m', m' < m ∧ W m' σ2 H2, bk := D.nx } σ H) : TurnK W m tb D σ H := ⟨_, fun _ _ z => z, h⟩
theorem i_while (W : Nat → L2.St → Hp → Prop) (m0 : Nat) (h0 : W m0 σ H)
    (hs : ∀ m σ' H', W m σ' H' → c σ' H' fun b H1 => if b = true then TurnK W m tb D σ' H1 else D.nx σ' H1) : tWhile c tb D σ H := ⟨W, ⟨m0, h0⟩, hs⟩
/-- a comprehension -/
theorem lck {G : Hp → Prop} {Y : Nat → Hp → V → Hp → Prop} (w : Walk J n G Y) (Pv : Addr → Nat → Hp → Prop) (h0 : ∀ D, H D = none → Pv D 0 (upd H D (.lst []))) (hG : ∀ D i H, i ≤ n → Pv D i H → G H)
    (hs : ∀ D i x H H', i < n → Pv D i H → Y i H x H' → g x (wipe σ vs) H' fun σ2 H2 => wipe σ2 vs = wipe σ vs ∧ tt σ2 H2 fun b H3 =>
      if b = true then te σ2 H3 fun y H4 => ∃ acc, H4 D = some (.lst acc) ∧ acc.length < sizeLine ∧ Pv D (i + 1) (upd H4 D (.lst (acc ++ [y]))) else Pv D (i + 1) H3) (hd : ∀ D H', H D = none → Pv D n H' → Q (.ref D) H') : LcK J g tt te vs σ H Q :=
  fun D hD => lc_it w (Pv D) (h0 D hD) (hG D) (hs D) (fun H' p => hd D H' hD p)
/-- one that changes nothing: which turns give, and what -/
def given (f : Nat → Option V) : Nat → List V
  | 0 => []
  | n + 1 => given f n ++ (match f n with | some y => [y] | none => [])
theorem given_len (f : Nat → Option V) : ∀ n, (given f n).length ≤ n
  | 0 => Nat.le_refl _
  | n + 1 => by
    have h := given_len f n
    unfold given
    rw [List.length_append]
    cases f n <;> simp <;> omega
theorem lck_pure {G : Hp → Prop} {Y : Nat → Hp → V → Hp → Prop} (w : Walk J n G Y) (hn : n ≤ 100000) (f : Nat → Option V) (hG : ∀ H', Same H H' → G H')
    (turn : ∀ i x H1 H2 (KK : V → Hp → Prop) (NN : Hp → Prop), i < n → Same H H1 → Y i H1 x H2 → (∀ y H4, f i = some y → Same H1 H4 → KK y H4) → (∀ H3, f i = none → Same H1 H3 → NN H3) →
      g x (wipe σ vs) H2 fun σ2 H2 => wipe σ2 vs = wipe σ vs ∧ tt σ2 H2 fun b H3 => if b = true then te σ2 H3 KK else NN H3)
    (fin : ∀ p H', H p = none → Same H H' → H' p = some (.lst (given f n)) → Q (.ref p) H') : LcK J g tt te vs σ H Q := by
  refine lck w (fun D i H' => H D = none ∧ Same H H' ∧ H' D = some (.lst (given f i))) (fun D hD => ⟨hD, same_new hD, upd_same⟩) (fun D i H' _ p => hG H' p.2.1) (fun D i x H1 H2 hi p y => ?_) (fun D H' hD p => fin D H' hD p.2.1 p.2.2)
  obtain ⟨p0, p1, p2⟩ := p
  refine turn i x H1 H2 _ _ hi p1 y (fun y H4 hf s4 => ?_) (fun H3 hf s3 => ?_)
  · refine ⟨given f i, s4 _ _ p2, sz_lt (by have := given_len f i; omega), p0, same_mut (p1.trans s4) p0, ?_⟩
    rw [upd_same]
    show some (HO.lst (given f i ++ [y])) = some (HO.lst (given f i ++ (match f i with | some y => [y] | none => [])))
    rw [hf]
  · refine ⟨p0, p1.trans s3, ?_⟩
    rw [s3 _ _ p2]
    show some (HO.lst (given f i)) = some (HO.lst (given f i ++ (match f i with | some y => [y] | none => [])))
    rw [hf, List.append_nil]
end
/-- where classes stand -/
def cAt (l : List (String × Addr)) (n : String) : Addr := (l.lookup n).getD 0
/-! ### attributes of one's own objects -/
def tFl (C : Addr) (ta : TE) (f : Str) : TE := fun σ H Q => ta σ H fun x H1 => ∃ p dx fs v, x = .ref p ∧ H1 p = some (.ins C dx fs) ∧ fs.lookup f = some v ∧ Q v H1
def tFls (C : Addr) (ta tv : TE) (f : Str) : TS := fun D σ H => tv σ H fun y H1 => ta σ H1 fun x H2 => ∃ p dx fs, x = .ref p ∧ H2 p = some (.ins C dx fs) ∧ fs.length < 1000 ∧ D.nx σ (upd H2 p (.ins C dx (putF f y fs)))
/-! ### making, and methods, that let nothing out -/
section
variable {K : Fg} {D : Ends} {σ : L2.St} {H : Hp} {ta tv : TE} {Q : VK} {C p dx : Addr} {f : Str} {fs : List (Str × V)} {v y : V} {ys : List V}
def FlA (C : Addr) (f : Str) (x : V) (H : Hp) (Q : VK) : Prop := ∃ p dx fs v, x = .ref p ∧ H p = some (.ins C dx fs) ∧ fs.lookup f = some v ∧ Q v H
theorem i_fl (h : ta σ H fun x H1 => FlA C f x H1 Q) : tFl C ta f σ H Q := h
def FlsA (C : Addr) (f : Str) (y x : V) (H : Hp) (R : Hp → Prop) : Prop := ∃ p dx fs, x = .ref p ∧ H p = some (.ins C dx fs) ∧ fs.length < 1000 ∧ R (upd H p (.ins C dx (putF f y fs)))
theorem i_fls (h : tv σ H fun y H1 => ta σ H1 fun x H2 => FlsA C f y x H2 fun H3 => D.nx σ H3) : tFls C ta tv f D σ H := h
def MkA (C : Addr) (sp : Sp) (E : XK) (vs : List V) (H : Hp) (Q : VK) : Prop := ∀ x dx, H x = none → H dx = none → dx ≠ x → sp (.ref x :: vs) (upd (upd H dx (.own x)) x (.ins C dx [])) (fun v H2 => v = .non ∧ Q (.ref x) H2) E
theorem i_make {sp : Sp} {E : XK} {t : TA} (h : t σ H fun vs H1 => MkA C sp E vs H1 Q) : tMake C sp [] E t σ H Q := by
  have e : (fun vs H1 => MkA C sp E (vs ++ []) H1 Q) = fun vs H1 => MkA C sp E vs H1 Q := by
    funext vs H1
    rw [List.append_nil]
  show t σ H fun vs H1 => MkA C sp E (vs ++ []) H1 Q
  rw [e]
  exact h
def MtA (C : Addr) (m : Str) (x : V) (H : Hp) (R : Hp → Prop) : Prop := ∃ p dx fs, x = .ref p ∧ H p = some (.ins C dx fs) ∧ fs.lookup m = none ∧ R H
theorem i_meth {sp : Sp} {E : XK} {t : TA} {m : Str} (h : ta σ H fun x H1 => MtA C m x H1 fun H1 => t σ H1 fun vs H2 => sp (x :: vs) H2 Q E) : tMeth C m sp [] E ta t σ H Q := by
  have e : (fun x H1 => MtA C m x H1 fun H1 => t σ H1 fun vs H2 => sp (x :: (vs ++ [])) H2 Q E) = fun x H1 => MtA C m x H1 fun H1 => t σ H1 fun vs H2 => sp (x :: vs) H2 Q E := by
    funext x H1
    simp only [List.append_nil]
  show ta σ H fun x H1 => MtA C m x H1 fun H1 => t σ H1 fun vs H2 => sp (x :: (vs ++ [])) H2 Q E
  rw [e]
  exact h
end
/-! ### lists of ints in order -/
/-! ### sorted(..) of lists of ints -/
abbrev Rw := Addr × List Int
/-! ### in, of lists in lists -/
/-! ### sorted(set(..)) of a list of ints -/
/-! ### len(set(..)) of a list of ints -/
/-! ### xs[2::2] -/
/-! ### sorted(ints, reverse=True) -/
/-! ### a sign in a text -/
/-! ### sep.join(texts) -/
/-! ### what repr tells of -/
mutual
inductive Sh (h : Heap) : Value → PyData → Prop
  | none : Sh h .none .none
  | bool (b) : Sh h (.bool b) (.bool b)
  | int (i t) : Sh h (.int i t) (.int i)
  | str (x t) : Sh h (.str x t) (.str x)
  | list {a o vs m xs} : h.get? a = some o → o.cls = .type "list" → o.data = .seq vs m → ShA h vs.toList xs → Sh h (.ref a) (.list xs)
  | tuple {a o vs m xs} : h.get? a = some o → o.cls = .type "tuple" → o.data = .seq vs m → ShA h vs.toList xs → Sh h (.ref a) (.tuple xs)
  | emp {a o es m} : h.get? a = some o → o.cls = .type "dict" → o.data = .dict es m → es.toList = [] → (a == sysModules) = false → Sh h (.ref a) (.dict [])
inductive ShA (h : Heap) : List Value → List PyData → Prop
  | nil : ShA h [] []
  | cons {v vs d ds} : Sh h v d → ShA h vs ds → ShA h (v :: vs) (d :: ds)
end
mutual
theorem Sh.reads {h : Heap} : ∀ {v : Value} {d : PyData}, Sh h v d → ∃ as, Reads h v d as
  | _, _, .none => ⟨_, .none⟩
  | _, _, .bool b => ⟨_, .bool b⟩
  | _, _, .int i t => ⟨_, .int i t⟩
  | _, _, .str x t => ⟨_, .str x t⟩
  | _, _, .list h1 h2 h3 h4 => by
    obtain ⟨as, r⟩ := h4.reads
    exact ⟨_, .list h1 h2 h3 r⟩
  | _, _, .tuple h1 h2 h3 h4 => by
    obtain ⟨as, r⟩ := h4.reads
    exact ⟨_, .tuple h1 h2 h3 r⟩
  | _, _, .emp h1 h2 h3 h4 h5 => ⟨_, .dict (kvs := []) h1 h2 h3 (by rw [h4]; exact .nil) (by rw [h4]; exact .nil)⟩
theorem ShA.reads {h : Heap} : ∀ {vs : List Value} {ds : List PyData}, ShA h vs ds → ∃ as, ReadsAll h vs ds as
  | _, _, .nil => ⟨_, .nil⟩
  | _, _, .cons a b => by
    obtain ⟨as, r⟩ := a.reads
    obtain ⟨bs, q⟩ := b.reads
    exact ⟨_, .cons r q⟩
end
theorem atMost_cons {h : Heap} {a : Addr} {d : PyData} {n : Nat} {bs : List Addr} (x : Sh h (.ref a) d) (hn : n ≤ d.depth) (hb : ReadAtMost h n bs) : ReadAtMost h d.depth (a :: bs) := by
  obtain ⟨as, r⟩ := x.reads
  exact ReadAtMost.cons r hn hb
section
variable {P : Program} {w : World} {h₀ : Heap}
mutual
theorem Sh.rk : ∀ {v : Value} {d : PyData}, Sh h₀ v d → d.showable = true → d.shown.length ≤ sizeLine → ∃ bs, ReadAtMost h₀ d.depth bs ∧ ReprK P w bs h₀ d.depth v d.shown
  | _, _, .none, _, _ => ⟨[], (fun _ z => nomatch z), by rw [PyData.shown]; exact .of_is ReprIs.none _ _ _⟩
  | _, _, .bool b, _, _ => ⟨[], (fun _ z => nomatch z), by rw [PyData.shown]; exact .of_is (ReprIs.bool b) _ _ _⟩
  | _, _, .int i t, hs, _ => ⟨[], (fun _ z => nomatch z), by rw [PyData.shown]; exact .of_is (ReprIs.int t (by simpa [PyData.showable] using hs)) _ _ _⟩
  | _, _, .str x t, _, hz => ⟨[], (fun _ z => nomatch z), by rw [PyData.shown]; exact .of_is (ReprIs.str x t (by rw [PyData.shown] at hz; exact hz)) _ _ _⟩
  | _, _, .list (a := a) (vs := vs) (xs := xs) h1 h2 h3 h4, hs, hz => by
    rw [PyData.shown] at hz
    obtain ⟨bs, hb, hk⟩ := h4.rk (by simpa [PyData.showable] using hs) fun t ht => Nat.le_trans (listText_mem_le ht) hz
    have x : Sh h₀ (.ref a) (.list xs) := .list h1 h2 h3 h4
    obtain ⟨as, r⟩ := x.reads
    have hlt : PyData.depthAll xs < (PyData.list xs).depth := by rw [PyData.depth]; omega
    have hm : a ∉ bs := not_mem_of_deeper r hlt hb
    refine ⟨a :: bs, atMost_cons x (Nat.le_of_lt hlt) hb, ?_⟩
    rw [PyData.shown, PyData.depth]
    obtain ⟨l⟩ := vs
    cases l with
    | nil =>
      have h4' : ShA h₀ [] xs := h4
      cases h4'
      have e : listText (PyData.shownAll []) = ("[]" : Str) := by rw [PyData.shownAll]; exact listText_nil
      rw [e]
      exact ReprK.listEmpty h1 h2 h3
    | cons y l => exact ReprK.list h1 h2 h3 hm (by simpa using hk.length_eq) fun i z e => hk.item i z (by simpa using e)
  | _, _, .tuple (a := a) (vs := vs) (xs := xs) h1 h2 h3 h4, hs, hz => by
    rw [PyData.shown] at hz
    obtain ⟨bs, hb, hk⟩ := h4.rk (by simpa [PyData.showable] using hs) fun t ht => Nat.le_trans (tupleText_mem_le ht) hz
    have x : Sh h₀ (.ref a) (.tuple xs) := .tuple h1 h2 h3 h4
    obtain ⟨as, r⟩ := x.reads
    have hlt : PyData.depthAll xs < (PyData.tuple xs).depth := by rw [PyData.depth]; omega
    refine ⟨a :: bs, atMost_cons x (Nat.le_of_lt hlt) hb, ?_⟩
    rw [PyData.shown, PyData.depth]
    exact ReprK.tuple h1 h2 h3 (not_mem_of_deeper r hlt hb) hk
  | _, _, .emp (a := a) (es := es) h1 h2 h3 h4 h5, hs, hz => by
    have x : Sh h₀ (.ref a) (.dict []) := .emp h1 h2 h3 h4 h5
    refine ⟨[a], atMost_cons (n := 0) x (Nat.zero_le _) (fun _ z => nomatch z), ?_⟩
    rw [PyData.shown, PyData.shownKv_eq, PyData.depth, PyData.depthKv]
    exact ReprK.dict h1 h2 h3 h5 (fun z => nomatch z) (ReprEntriesK.of_two es.toList _ _ (by rw [h4]; exact .nil) (by rw [h4]; exact .nil))
theorem ShA.rk : ∀ {vs : List Value} {ds : List PyData}, ShA h₀ vs ds → PyData.showableAll ds = true → (∀ t ∈ PyData.shownAll ds, t.length ≤ sizeLine) → ∃ bs, ReadAtMost h₀ (PyData.depthAll ds) bs ∧ ReprAllK P w bs h₀ (PyData.depthAll ds) vs (PyData.shownAll ds)
  | _, _, .nil, _, _ => ⟨[], (fun _ z => nomatch z), by rw [PyData.shownAll]; exact .nil⟩
  | _, _, .cons (d := d) (ds := ds) a b, hs, hz => by
    have hs' := hs
    simp only [PyData.showableAll, Bool.and_eq_true] at hs'
    rw [PyData.shownAll] at hz ⊢
    obtain ⟨b1, hb1, k1⟩ := a.rk hs'.1 (hz _ List.mem_cons_self)
    obtain ⟨b2, hb2, k2⟩ := b.rk hs'.2 fun t ht => hz t (List.mem_cons_of_mem _ ht)
    have m1 : d.depth ≤ PyData.depthAll (d :: ds) := by rw [PyData.depthAll]; exact Nat.le_max_left _ _
    have m2 : PyData.depthAll ds ≤ PyData.depthAll (d :: ds) := by rw [PyData.depthAll]; exact Nat.le_max_right _ _
    refine ⟨b1 ++ b2, fun c hm => ?_, .cons ((k1.more fun c hc => List.mem_append_left _ hc).level_le m1) (k2.more_le (fun c hc => List.mem_append_right _ hc) m2)⟩
    rcases List.mem_append.mp hm with z | z
    · obtain ⟨d', as', r', q⟩ := hb1 c z
      exact ⟨d', as', r', Nat.le_trans q m1⟩
    · obtain ⟨d', as', r', q⟩ := hb2 c z
      exact ⟨d', as', r', Nat.le_trans q m2⟩
end
end
/-- repr of anything -/
theorem repr_run {P : Program} {w : World} {A : Around} {E : Value → Shared → Prop} {s : Shared} {Q : Value → Shared → Prop} {v : Value} {d : PyData} (x : Sh s.heap v d) (hs : d.showable = true) (hz : d.shown.length ≤ sizeLine) (hg : A.guards = some []) (hu : A.units + (d.depth + 1) < cLine)
    (hQ : ∀ h' u tk, (∀ b o, s.heap.get? b = some o → h'.get? b = some o) → Q (.str d.shown u) { s with heap := h', toks := tk }) : wpAny (model P w) A (call (.builtin "repr") [v]) Q E s := by
  cases x with
  | none =>
    rw [PyData.shown] at hQ
    exact PySem.P.repr_of_none (hQ _ _ _ fun _ _ e => e)
  | bool b =>
    rw [PyData.shown] at hQ
    exact PySem.P.repr_of_bool (hQ _ _ _ fun _ _ e => e)
  | int i t =>
    rw [PyData.shown] at hQ
    exact PySem.P.repr_of_int (by simpa [PyData.showable] using hs) (hQ _ _ _ fun _ _ e => e)
  | str y t =>
    rw [PyData.shown] at hQ hz
    exact PySem.P.repr_of_str (hQ _ _ _ fun _ _ e => e) hz
  | list h1 h2 h3 h4 =>
    rename_i a o vs m xs
    rw [PyData.shown] at hz hQ
    rw [PyData.depth] at hu
    obtain ⟨bs, hb, hk⟩ := h4.rk (P := P) (w := w) (by simpa [PyData.showable] using hs) fun t ht => Nat.le_trans (listText_mem_le ht) hz
    obtain ⟨as, r⟩ := (Sh.list h1 h2 h3 h4).reads
    have hm : a ∉ bs := not_mem_of_deeper r (by rw [PyData.depth]; omega) hb
    refine call_repr_slot (T := "list") (by omega) ⟨o, h1, h2⟩ F.slot_list_repr.toG ?_
    obtain ⟨l⟩ := vs
    cases l with
    | nil =>
      have h4' : ShA s.heap [] xs := h4
      cases h4'
      have e : listText (PyData.shownAll []) = ("[]" : Str) := by rw [PyData.shownAll]; exact listText_nil
      rw [e] at hQ
      exact call_list_repr_empty ⟨o, h1, h2⟩ h1 h3 ⟨_, _, rfl, hQ s.heap _ _ fun _ _ e => e⟩
    | cons y l => exact call_list_reprK h1 h2 h3 hm (by simpa using hk.length_eq) (fun i z e => hk.item i z (by simpa using e)) hg (fun b _ => Clear.nil b) (by show A.units + 1 + _ < cLine; omega) (fun _ _ e => e) (fun h' u tk k => ⟨_, _, rfl, hQ h' u tk k⟩) hz
  | tuple h1 h2 h3 h4 =>
    rename_i a o vs m xs
    rw [PyData.shown] at hz hQ
    rw [PyData.depth] at hu
    obtain ⟨bs, hb, hk⟩ := h4.rk (P := P) (w := w) (by simpa [PyData.showable] using hs) fun t ht => Nat.le_trans (tupleText_mem_le ht) hz
    obtain ⟨as, r⟩ := (Sh.tuple h1 h2 h3 h4).reads
    have hm : a ∉ bs := not_mem_of_deeper r (by rw [PyData.depth]; omega) hb
    refine call_repr_slot (T := "tuple") (by omega) ⟨o, h1, h2⟩ F.slot_tuple_repr ?_
    exact call_tuple_reprK h1 h2 h3 hm hk hg (fun b _ => Clear.nil b) (by show A.units + 1 + _ < cLine; omega) (fun _ _ e => e) (fun h' u tk k => ⟨_, _, rfl, hQ h' u tk k⟩) hz
  | emp h1 h2 h3 h4 h5 =>
    rename_i a o es m
    rw [PyData.shown, PyData.shownKv_eq] at hz hQ
    rw [PyData.depth, PyData.depthKv] at hu
    refine call_repr_slot (T := "dict") (by omega) ⟨o, h1, h2⟩ F.slot_dict_repr ?_
    exact call_dict_reprK (as := []) (d := 0) h1 h2 h3 h5 (fun z => nomatch z) (ReprEntriesK.of_two es.toList _ _ (by rw [h4]; exact .nil) (by rw [h4]; exact .nil)) hg (fun b _ => Clear.nil b) (by show A.units + 1 + _ < cLine; omega) (fun _ _ e => e) (fun h' u tk k => ⟨_, _, rfl, hQ h' u tk k⟩) hz
/-! ### anything, as the hand layer sees it -/
mutual
inductive Dq (K : Fg) (H : Hp) : V → PyData → Prop
  | non : Dq K H .non .none
  | bl (b : Bool) : Dq K H (.bl b) (.bool b)
  | int (i : Int) : Dq K H (.int i) (.int i)
  | str (x : Str) : Dq K H (.str x) (.str x)
  | lst {a : Addr} {xs : List V} {ds : List PyData} : SqL K H a xs → DqA K H xs ds → Dq K H (.ref a) (.list ds)
  | tup {a : Addr} {xs : List V} {ds : List PyData} : SqT K H a xs → DqA K H xs ds → Dq K H (.ref a) (.tuple ds)
  | emp {a : Addr} : H a = some (.dK []) → Dq K H (.ref a) (.dict [])
inductive DqA (K : Fg) (H : Hp) : List V → List PyData → Prop
  | nil : DqA K H [] []
  | cons {v vs d ds} : Dq K H v d → DqA K H vs ds → DqA K H (v :: vs) (d :: ds)
end
section
variable {X : Cx} {pins : List (Addr × Obj)} {σ : L2.St} {H : Hp} {s : Shared}
mutual
theorem Dq.sh (I : Inv X pins σ H s) : ∀ {v : V} {d : PyData} {u : Value}, Dq X.K H v d → RelV v u → Sh s.heap u d
  | _, _, _, .non, r => by cases r; exact .none
  | _, _, _, .bl b, r => by cases r; exact .bool b
  | _, _, _, .int i, r => by obtain ⟨t, rfl⟩ := r; exact .int i t
  | _, _, _, .str x, r => by obtain ⟨t, rfl⟩ := r; exact .str x t
  | _, _, _, .lst hs ha, r => by
    cases r
    obtain ⟨its, rv, ⟨o, n, ho, hc, _, hd⟩, _⟩ := I.list hs
    exact .list ho hc hd (DqA.sh I ha rv)
  | _, _, _, .tup hs ha, r => by
    cases r
    obtain ⟨its, rv, ⟨o, ho, hc, n, hd⟩, _⟩ := I.tuple hs
    exact .tuple ho hc hd (DqA.sh I ha rv)
  | _, _, _, .emp e, r => by
    cases r
    obtain ⟨_, hb, vs, rel, ⟨o, es, ep, h1, h2, h3, _, h5, _⟩⟩ := dk_of I.hok e
    cases rel
    refine .emp h1 h2.1 h3 ?_ hb
    cases hes : es.toList with
    | nil => rfl
    | cons x l => rw [hes] at h5; cases h5
theorem DqA.sh (I : Inv X pins σ H s) : ∀ {vs : List V} {ds : List PyData} {us : List Value}, DqA X.K H vs ds → Vals vs us → ShA s.heap us ds
  | _, _, _, .nil, r => by cases r; exact .nil
  | _, _, _, .cons a b, r => by
    cases r with
    | cons r1 r2 => exact .cons (Dq.sh I a r1) (DqA.sh I b r2)
end
end
def uRepr (K : Fg) : RC := fun xs H Q => ∃ x d, xs = [x] ∧ Dq K H x d ∧ d.showable = true ∧ d.shown.length ≤ sizeLine ∧ d.depth ≤ 50 ∧ Q (.str d.shown) H
theorem k_repr {X : Cx} (hg : X.A.guards = some []) (hu : X.A.units + 64 < cLine) : CallR X (.builtin "repr") (uRepr X.K) := by
  intro pins s σ H xs us Q I r q
  obtain ⟨x, d, rfl, hd, hs, hz, hdp, q⟩ := q
  obtain ⟨u, rfl, ru⟩ := vals1 r
  refine repr_run (hd.sh I ru) hs hz hg (by omega) fun h' t tk k => ?_
  exact ⟨.str d.shown, H, I.kept fun b o e => k b o e, ⟨_, rfl⟩, q⟩
/-! ### a def that asks for repr: called with no repr under way -/
structure FnOkG (P : Program) (w : World) (K : Fg) (mg : Str → Option Value) (base : Heap) (k : Nat) (f : Addr) (fd : FuncData) (ps : List Str) (sp : Sp) : Prop where
  len : ∀ vs H Q E, sp vs H Q E → vs.length = ps.length
  run : ∀ (A : Around) (outer : List Env) (s : Shared) (H : Hp) (args : Args) (us : List Value) (vs : List V) (Q : VK) (E : XK), Room k A → A.guards = some [] → Env0 P w K mg base A outer s H →
    BindsTo s fd args (ps.zip us) → Vals vs us → sp vs H Q E → codeAny (model P w) A (.call (.ref f) args) (CR CX0 outer P w H s Q E) s
section
variable {P : Program} {w : World} {K : Fg} {mg : Str → Option Value} {base : Heap} {k : Nat} {f : Addr} {fd : FuncData} {ps : List Str} {sp : Sp}
theorem FnOkG.imp {sp' : Sp} (F : FnOkG P w K mg base k f fd ps sp) (h : ∀ vs H Q E, sp' vs H Q E → sp vs H Q E) : FnOkG P w K mg base k f fd ps sp' :=
  ⟨fun vs H Q E q => F.len vs H Q E (h _ _ _ _ q), fun A ou s H ar us vs Q E hr hg he hb hv hs => F.run A ou s H ar us vs Q E hr hg he hb hv (h _ _ _ _ hs)⟩
theorem fn_ofG {name qual : Str} {params : Arguments} {body : List Stmt} {scope : Scope} {dV kV doc pm cdv ct oc : Value} {an od : Option Addr} {osl : Array (Option Value)} {N : List Str}
    (lk : K.lookup f = some ⟨oc, od, .func (PySem.W.fnOf name qual params body scope dV kV doc pm an cdv ct), osl⟩) (hcd : PySem.W.codeIn K cdv qual = true) (S : FnScope N ps scope) (len : ∀ vs H Q E, sp vs H Q E → vs.length = ps.length)
    (hbody : ∀ (A : Around) (outer : List Env) (s : Shared) (H : Hp) (vs : List V) (Q : VK) (E : XK), Room k (A.deeper (envOfC qual scope s.heap.objs.size f cdv)) → (A.deeper (envOfC qual scope s.heap.objs.size f cdv)).guards = some [] → sp vs H Q E →
      ∃ t, PSs (cxOf CX0 P w K mg base N qual scope f cdv A outer s H E) body t ∧ t { nx := fun _ H' => Q .non H', rt := Q } (start N vs) H) :
    FnOkG P w K mg base (k + 1) f (PySem.W.fnOf name qual params body scope dV kV doc pm an cdv ct) ps sp := by
  refine ⟨len, fun A ou s H ar us vs Q E room gd env bd rv wish => ?_⟩
  have hn := len _ _ _ _ wish
  have inK : K.In s.heap := env.mod.kin.keeps fun b o e => (env.bs b o e).1
  have lim : s.heap.NoLimit := env.mod.nolimit.keeps fun b o e => (env.bs b o e).1
  have kinds : ∀ y ∈ ps.zip us, scope.names.lookup y.1 = some .local ∨ (scope.names.lookup y.1 = some .cell ∧ ((cellsFrom (s.heap.objs.size + 1) scope.names []).lookup y.1).isSome = true) := by
    rintro ⟨n, v⟩ hy
    rcases S.par n (List.of_mem_zip hy).1 with z | z
    · exact .inl z
    · exact .inr ⟨z, PySem.W.cellsFrom_some _ _ _ (.inl z)⟩
  refine codeAny_call_function room.depth (inK _ _ lk) rfl S.co S.gen rfl (PySem.W.codeRec_of inK hcd) (bd _ _ _ _ ?_)
  refine wpAny_newFunctionEnv_cells S.kind kinds fun en he s1 x => ?_
  subst he
  refine ⟨lim.keeps x.toInCall.keep, codeAny_func ?_⟩
  obtain ⟨t, ht, hq⟩ := hbody A ou s H vs Q E (room.deeper _) (by first | exact gd | simpa [Around.deeper] using gd) wish
  have J : Inv (cxOf CX0 P w K mg base N qual scope f cdv A ou s H E) [] (start N vs) H s1 := inv_start S room.hd env hn rv x
  refine wpAny_mono (ht.run [] s1 (start N vs) H _ J hq) (fun fl s' hs => ?_) fun e s' hs => hs
  cases fl with
  | ret u =>
    obtain ⟨v, σ', H', J', r', q'⟩ := hs
    exact ⟨v, H', J'.os, J'.bare, J'.base, J'.hok, r', q'⟩
  | next =>
    obtain ⟨σ', H', J', q'⟩ := hs
    exact ⟨.non, H', J'.os, J'.bare, J'.base, J'.hok, rfl, q'⟩
  | brk => exact False.elim hs.choose_spec.choose_spec.2
  | cont => exact False.elim hs.choose_spec.choose_spec.2
theorem fun_okG {x qual : Str} {st : Stmt} {N : List Str} (F : Fun K x qual st f fd) (S : FnScope N ps (defScope st)) (len : ∀ vs H Q E, sp vs H Q E → vs.length = ps.length)
    (hbody : ∀ (cdv : Value) (A : Around) (outer : List Env) (s : Shared) (H : Hp) (vs : List V) (Q : VK) (E : XK), Room k (A.deeper (envOfC qual (defScope st) s.heap.objs.size f cdv)) → (A.deeper (envOfC qual (defScope st) s.heap.objs.size f cdv)).guards = some [] → sp vs H Q E →
      ∃ t, PSs (cxOf CX0 P w K mg base N qual (defScope st) f cdv A outer s H E).nox (defBody st) t ∧ t { nx := fun _ H' => Q .non H', rt := Q } (start N vs) H) : FnOkG P w K mg base (k + 1) f fd ps sp := by
  obtain ⟨oc, od, kV, doc, pm, an, cdv, ct, osl, rfl, lk, hcd⟩ := F.ex
  refine fn_ofG lk hcd S len fun A ou s H vs Q E hr hg wish => ?_
  obtain ⟨t, h, q⟩ := hbody cdv A ou s H vs Q E hr hg wish
  exact ⟨t, h.nox, q⟩
end
section
variable {X : Cx} {k : Nat} {f : Addr} {fd : FuncData} {ps : List Str} {sp : Sp} {x : Str} {p pos : Pos} {e : Expr} {es : List Expr} {t : TA}
theorem pcallG (F : FnOkG X.prog X.w X.K X.mg X.base k f fd ps (sp0 sp)) (hr : Room k X.A) (hgd : X.A.guards = some []) (hg : Gl X x) (hm : X.mg x = some (.ref f)) (hk : PySem.W.keepIn X.K (.ref f) = true) (hb : Binds X.K fd ps []) (ha : PA X (e :: es) t)
    (hdb : (x == ("__debug__" : Str)) = false := by decide) (he : starEach (e :: es) X.env = (false, eval e X.env) :: starEach es X.env := by rfl) (hpl : (backTo pos (starEach es X.env)).any (·.1) = false := by rfl) :
    PE X (.Call (.Name x p) (e :: es) [] pos) (tCall sp [] E0 t) := by
  refine ⟨fun pins s σ H Q I h => ?_⟩
  refine wpAny_Call_Name_kw (ld_glob I hg hm ?_ hdb)
  refine PySem.W.callWith_K (h₀ := X.base) I.ok.mod.kin hk (thn (ha.run pos pins s σ H _ I h) fun us s1 ⟨vs, H1, I1, r, q⟩ => ⟨I1.kIn, ?_⟩) he hpl
  have r2 : Vals (vs ++ []) (us ++ []) := r.append .nil
  have hl : (us ++ []).length = ps.length := by rw [← r2.length]; exact F.len _ _ _ E0 q
  refine wpAny_call (codeAny_mono (F.run X.A X.stack s1 H1 ⟨us, []⟩ (us ++ []) (vs ++ []) Q E0 hr hgd I1.env0 (hb s1 us I1.kIn hl) r2 q) fun r' s' hq => ?_)
  cases r' with
  | error e => exact False.elim hq
  | ok fl =>
    cases fl with
    | ret u => exact I1.after hq
    | next => exact False.elim hq
    | brk => exact False.elim hq
    | cont => exact False.elim hq
end
/-! ### the head, of a law that asks for repr -/
theorem law_callG {P : Program} {w : World} {K : Fg} {mg mb : Str → Option Value} {k : Nat} {fa a : Addr} {fd : FuncData} {x : Str} {sp : Sp} {s₁ : Shared} {vs : List Value} {ns : List Int}
    (inK : K.In s₁.heap) (nsm : s₁.heap.Ns mainGlobals mg) (nsb : s₁.heap.Ns builtinsNs mb) (blt : ∀ x : Str, x ≠ "__name__" → mb x = bootBuiltins x) (lim : s₁.heap.NoLimit) (gen : s₁.gens = #[])
    (ha : s₁.heap.get? a = some { cls := .type "list", data := .seq vs.toArray }) (hin : IntsAre vs ns) (short : ns.length ≤ sizeLine) (room : Room k callerA)
    (F : ∀ base : Heap, K.In base → base.Ns mainGlobals mg → FnOkG P w K mg base k fa fd [x] sp) (bind : ∀ (s : Shared) (u : Value), BindsTo s fd ⟨[u], []⟩ [(x, u)])
    (wish : ∀ H : Hp, Only H → SqL K H a (ns.map V.int) → sp [.ref a] H (fun v _ => v = .bl true) fun _ _ _ => False) :
    codeAny (model P w) callerA (.call (.ref fa) ⟨[.ref a], []⟩) (fun r s' => r = .ok (.ret (.bool true)) ∧ OldK s₁.heap s'.heap ∧ s'.os = s₁.os ∧ AllBare s'.gens) s₁ := by
  have vals := vals_ints hin
  have same := hin.length
  have go : ∀ H : Hp, Only H → SqL K H a (ns.map V.int) → HOk P w H s₁.heap → (∀ b, H b ≠ none → b = a) → (H a ≠ none → K.lookup a = none) →
      codeAny (model P w) callerA (.call (.ref fa) ⟨[.ref a], []⟩) (fun r s' => r = .ok (.ret (.bool true)) ∧ OldK s₁.heap s'.heap ∧ s'.os = s₁.os ∧ AllBare s'.gens) s₁ := by
    intro H only sq ok one out
    have off : ∀ {b : Addr} {o : Obj} {es : Array DictEntry} {ep : Nat}, s₁.heap.get? b = some o → o.data = .dict es ep → H b = none := by
      intro b o es ep e d
      cases z : H b with
      | none => rfl
      | some u =>
        have eb : b = a := one b (by rw [z]; simp)
        rw [eb, ha] at e
        cases e
        cases (show Data.seq vs.toArray _ = Data.dict es ep from d)
    have nsOf : ∀ {b : Addr} {m : Str → Option Value}, s₁.heap.Ns b m → (hidT s₁.heap H).Ns b m := by
      rintro b m ⟨o, es, ep, e, d, r⟩
      exact ⟨o, es, ep, hidT_get e (off e d), d, r⟩
    have kin : K.In (hidT s₁.heap H) := by
      intro b o e
      refine hidT_get (inK b o e) ?_
      cases z : H b with
      | none => rfl
      | some u =>
        have eb : b = a := one b (by rw [z]; simp)
        rw [eb] at e z
        rw [out (by rw [z]; simp)] at e
        cases e
    have md : Mod K mg (hidT s₁.heap H) := by
      obtain ⟨mc, l1, l2⟩ := lim
      exact ⟨kin, nsOf nsm, ⟨mb, nsOf nsb, blt⟩, ⟨mc, nsOf l1, l2⟩⟩
    have env : Env0 P w K mg (hidT s₁.heap H) callerA [] s₁ H := ⟨rfl, md, fun b o e => of_hidT e, Nat.le_of_eq (hidT_size _ _), trivial, fun b z => absurd (show b ∈ ([] : List Addr) from z) (by simp), ok, .of_eq gen⟩
    refine codeAny_mono ((F _ kin (nsOf nsm)).run callerA [] s₁ H ⟨[.ref a], []⟩ [.ref a] [.ref a] _ _ room rfl env (bind s₁ (.ref a)) (.cons rfl .nil) (wish H only sq)) fun r s' res => ?_
    cases r with
    | error e => exact False.elim res
    | ok fl =>
      cases fl with
      | next => exact False.elim res
      | brk => exact False.elim res
      | cont => exact False.elim res
      | ret u =>
        obtain ⟨v, H', os, bare, un, ok', rv, hv⟩ := res
        have hv' : v = .bl true := hv
        subst hv'
        obtain rfl : u = Value.bool true := rv
        refine ⟨rfl, OldK.of_keep fun b o e => ?_, os, bare⟩
        cases z : H b with
        | none => exact un.keep b o e z (fun y => absurd (show b ∈ ([] : List Addr) from y) (by simp)) (by simp)
        | some u =>
          rcases only b with y | ⟨ob, xs, y⟩
          · rw [z] at y; cases y
          · obtain ⟨e1, _⟩ := ok b _ y
            obtain ⟨e2, _⟩ := ok' b _ (un.frzs b ob _ y)
            rw [e] at e1; cases e1
            exact e2
  cases hk : K.lookup a with
  | some o =>
    have e := inK a o hk
    rw [ha] at e
    cases e
    exact go (fun _ => none) (fun _ => .inl rfl) (.inr ⟨_, vs.toArray, _, hk, rfl, rfl, rfl, by rw [List.size_toArray, same]; exact short, by simpa using vals⟩) (fun b u z => by cases (show (none : Option HO) = some u from z)) (fun b z => absurd rfl z) fun z => absurd rfl z
  | none =>
    have at_ : ∀ {b : Addr} {u : HO}, (if b = a then some (HO.frz { cls := .type "list", data := .seq vs.toArray } (.lst (ns.map V.int))) else none) = some u → b = a ∧ u = HO.frz { cls := .type "list", data := .seq vs.toArray } (.lst (ns.map V.int)) := by
      intro b u z
      by_cases hb : b = a
      · rw [if_pos hb] at z; exact ⟨hb, (Option.some.inj z).symm⟩
      · rw [if_neg hb] at z; cases z
    refine go (fun b => if b = a then some (HO.frz { cls := .type "list", data := .seq vs.toArray } (.lst (ns.map V.int))) else none) (fun b => ?_) (.inl (.inr ⟨_, if_pos rfl⟩)) (fun b u z => ?_) (fun b z => ?_) fun _ => hk
    · by_cases hb : b = a
      · exact .inr ⟨_, _, if_pos hb⟩
      · exact .inl (if_neg hb)
    · obtain ⟨rfl, rfl⟩ := at_ z
      exact ⟨ha, by rw [List.length_map]; exact short, vs, _, vals, ha⟩
    · by_cases hb : b = a
      · exact hb
      · exact absurd (if_neg hb) z
theorem walk_ofG {l : PySem.W.OpenLaw} {n k : Nat} {q : Program} {loose : List Str} {XP : (Str → Option Value) → Heap → Prop} {YP : World → Heap → Prop} {d : DefRec} {K : Params → Fg} {sp : World → Sp} {x : Str}
    (most : l.most = some n) (few : n ≤ sizeLine) (plain : d.params.defaults = []) (room : Room k callerA) (hY : ∀ (w : World) (h : Heap), YP w h → (K w.params).In h)
    (F : ∀ (w : World) (mg : Str → Option Value) (fa : Addr) (h : Heap), (K w.params).In h → h.Ns mainGlobals mg → mg d.name = some (.ref fa) → ∃ fd : FuncData, (∀ (s : Shared) (u : Value), BindsTo s fd ⟨[u], []⟩ [(x, u)]) ∧
      ∀ base : Heap, (K w.params).In base → base.Ns mainGlobals mg → FnOkG l.prog w (K w.params) mg base k fa fd [x] (sp w))
    (wish : ∀ (w : World) (H : Hp) (a : Addr) (ns : List Int), ns.length ≤ n → Only H → SqL (K w.params) H a (ns.map V.int) → sp w [.ref a] H (fun v _ => v = .bl true) fun _ _ _ => False) :
    PySem.W.WalkO q loose XP YP l.row.toRowW d [] (fun f vs => PySem.call f vs) := by
  refine Att.attach_call most plain fun w s₀ s₁ mg mb fa o pm cd doc a vs ns G Y ho hd hcd hmg hobj hints hlen hg => ?_
  have inK := hY w _ Y
  obtain ⟨fd, bind, ok⟩ := F w mg fa _ inK G.T.g hmg
  exact law_callG inK G.T.g G.T.b G.T.builtins G.T.nolimit hg hobj hints (Nat.le_trans hlen few) room ok bind fun H only sq => wish w H a ns hlen only sq
/-! ### "..".replace(w[i], "..") -/
/-! ### a caught exception, held as a value -/
def ExK (cls : Value) (a : Addr) : HO := .ext fun h => ∃ (oe : Obj) (vs : Array Value), h.get? a = some oe ∧ Zc cls none oe ∧ oe.data = .fields vs
/-! ### try: .. except x as n: .. , the exception kept -/
def kept (i : Nat) (a : Addr) (cls : Value) (D : Ends) : Ends :=
  { nx := fun σ' H' => D.nx (σ'.set i none) (upd H' a (ExK cls a)), rt := fun v H' => D.rt v (upd H' a (ExK cls a))
    bk := fun σ' H' => D.bk (σ'.set i none) (upd H' a (ExK cls a)), ct := fun σ' H' => D.ct (σ'.set i none) (upd H' a (ExK cls a)) }
/-! ### the program's refusals -/
/-! ### try, by the names -/
/-! ### calls of what may raise, and in what may raise -/
/-! ### classes and methods that raise nothing, used in a def that may raise -/
/-! ### dict(pairs); repr of a dict of ints -/
def uDictP (K : Fg) : RC := fun xs H Q => ∃ (a : Addr) (ps : List Addr) (kvs : List (Key × V)), xs = [.ref a] ∧ SqL K H a (ps.map V.ref) ∧ Paired (fun p kv => SqT K H p [kV kv.1, kv.2]) ps kvs ∧ ∀ p, H p = none → Q (.ref p) (upd H p (.dK (mergeK [] kvs)))
theorem k_dictP {X : Cx} (hc : X.calm = true) : CallR X (.type "dict") (uDictP X.K) := call_dictP hc
def ikv (xs : List (Int × Int)) : List (Key × V) := xs.map fun p => (.inl p.1, .int p.2)
def iStrs (xs : List Int) : List Str := xs.map fun i => Str.ofString (toString i)
def dTexts (xs : List (Int × Int)) : Str := dictText (List.zipWith (fun k v : Str => k ++ ": " ++ v) (iStrs (xs.map (·.1))) (iStrs (xs.map (·.2))))
def rReprD : RC := fun xs H Q => ∃ a kvs, xs = [.ref a] ∧ H a = some (.dK (ikv kvs)) ∧ (∀ p ∈ kvs, p.1.natAbs.log2 < 1920 ∧ p.2.natAbs.log2 < 1920) ∧ (dTexts kvs).length ≤ sizeLine ∧ Q (.str (dTexts kvs)) H
def uReprD (K : Fg) : RC := fun xs H Q => uRepr K xs H Q ∨ rReprD xs H Q
theorem reps_ints {P : Program} {w : World} {h₀ : Heap} : ∀ {kvs : List (Int × Int)} {vs : List (Key × Value)} {es : List DictEntry}, KV (ikv kvs) vs → Pairs (mixKind P w) es vs → (∀ p ∈ kvs, p.1.natAbs.log2 < 1920 ∧ p.2.natAbs.log2 < 1920) →
    ReprAllK P w [] h₀ 0 (es.map (·.key)) (iStrs (kvs.map (·.1))) ∧ ReprAllK P w [] h₀ 0 (es.map (·.val)) (iStrs (kvs.map (·.2)))
  | [], _, _, .nil, .nil, _ => ⟨.nil, .nil⟩
  | p :: kvs, _, _, .cons hk r, .cons hi hv q, h => by
    obtain ⟨i1, i2⟩ := reps_ints (h₀ := h₀) r q fun p hp => h p (List.mem_cons_of_mem _ hp)
    obtain ⟨l1, l2⟩ := h p List.mem_cons_self
    obtain ⟨e1, t, e2⟩ := hk
    have hi' := keyIs_shape hi
    rcases hi' with ⟨i, t', e3, e4⟩ | ⟨x, t', e3, _⟩
    · have e5 : i = p.1 := by
        have : (Sum.inl p.1 : Key) = Sum.inl i := e1.trans e3
        injection this with z
        exact z.symm
      subst e5
      refine ⟨.cons ?_ i1, .cons ?_ i2⟩
      · show ReprK P w [] h₀ 0 _ _; dsimp only; rw [e4]; exact .of_is (ReprIs.int t' l1) _ _ _
      · dsimp only; rw [hv, e2]; exact .of_is (ReprIs.int t l2) _ _ _
    · have : (Sum.inl p.1 : Key) = Sum.inr x := e1.trans e3
      cases this
theorem k_reprD {X : Cx} (hg : X.A.guards = some []) (hu : X.A.units + 64 < cLine) : CallR X (.builtin "repr") (uReprD X.K) := by
  intro pins s σ H xs us Q I r q
  rcases q with q | ⟨a, kvs, rfl, e, hl, hz, q⟩
  · exact k_repr hg hu _ _ _ _ _ _ _ I r q
  obtain ⟨u, rfl, ru⟩ := vals1 r
  cases ru
  obtain ⟨_, hb, vs, rel, ⟨o, es, ep, h1, h2, h3, _, h5, _⟩⟩ := dk_of I.hok e
  obtain ⟨r1, r2⟩ := reps_ints (h₀ := s.heap) rel h5 hl
  refine call_repr_slot (T := "dict") (by omega) ⟨o, h1, h2.1⟩ F.slot_dict_repr ?_
  exact call_dict_reprK (as := []) (d := 0) h1 h2.1 h3 hb (fun z => nomatch z) (ReprEntriesK.of_two es.toList _ _ r1 r2) hg (fun b _ => Clear.nil b) (by show X.A.units + 1 + _ < cLine; omega) (fun _ _ e => e) (fun h' u tk k => ⟨_, _, rfl, ⟨.str (dTexts kvs), H, I.kept fun b o e => k b o e, ⟨_, rfl⟩, q⟩⟩) hz
def t_is_whole (G : Gx) (E : XK) : TS :=
      (tRet (tAndV (tCB (uIsi G.K) (tCons (tVar 0) (tCons (tC (.ty "int")) tNil))) (tNotV (tCB (uIsi G.K) (tCons (tVar 0) (tCons (tC (.ty "bool")) tNil))))))
def sp_is_whole (G : Gx) : Sp := fun vs H Q E => vs.length = 1 ∧ t_is_whole G E { nx := fun _ H' => Q .non H', rt := Q } (start ["thing"] vs) H
def t_is_kind (G : Gx) (E : XK) : TS :=
      (tSeq (tIfS (tB (tCB (uIsi G.K) (tCons (tVar 0) (tCons (tC (.ty "str")) tNil)))) (tRet (tOp (uEq G.K) (tVar 0) (tC (.str "cubes")))) tNext)
      (tRet (tAndV (tCall (sp_is_whole G) [] E (tCons (tVar 0) tNil)) (tChain uLe uLe (tC (.int 3)) (tVar 0) (tC (.int 12))))))
def sp_is_kind (G : Gx) : Sp := fun vs H Q E => vs.length = 1 ∧ t_is_kind G E { nx := fun _ H' => Q .non H', rt := Q } (start ["thing"] vs) H
def t_are_kinds (G : Gx) (E : XK) : TS :=
      (tSeq (tIfS (tOr (tNot (tB (tCB (uIsi G.K) (tCons (tVar 0) (tCons (tC (.ty "list")) tNil))))) (tNot (tTest (tChain uLe uLe (tC (.int 1)) (tCB (uLen G.K) (tCons (tVar 0) tNil)) (tC (.int 5)))))) (tRet (tC (.bl false))) tNext)
      (tSeq (tIfS (tTest (tOp (uNe G.K) (tLc (iList G.K (tVar 0)) (gName 1) (tNot (tB (tCall (sp_is_kind G) [] E0 (tCons (tVar 1) tNil)))) (tVar 1) [1]) (tLst tNil))) (tRet (tC (.bl false))) tNext)
      (tRet (tOp (uEq G.K) (tLc (iEnum G.K (tCons (tVar 0) tNil)) (gTup G.K 2 (gCons (gName 2) (gCons (gName 1) gNil))) (tTest (tOp (uIn G.K) (tVar 1) (tSl (uSl G.K) (tVar 0) tNoPart (tPart (tVar 2))))) (tVar 2) [2, 1]) (tLst tNil)))))
def sp_are_kinds (G : Gx) : Sp := fun vs H Q E => vs.length = 1 ∧ t_are_kinds G E { nx := fun _ H' => Q .non H', rt := Q } (start ["thing", "kind", "k"] vs) H
def t_law_deck (G : Gx) (E : XK) : TS :=
      (tSeq (tAsg (tLst tNil) (gName 1))
      (tSeq (tFor (iRng1 (tCons (tCB (uMax G.K) (tCons (tC (.int 1)) (tCons (tCB (uMin G.K) (tCons (tC (.int 63)) (tCons (tCB (uLen G.K) (tCons (tVar 0) tNil)) tNil))) tNil))) tNil)) (gName 2) (tSeq (tAsg (tC (.int 0)) (gName 3))
      (tSeq (tIfS (tTest (tOp uLt (tVar 2) (tCB (uLen G.K) (tCons (tVar 0) tNil)))) (tAsg (tOp (uIx G.K) (tVar 0) (tVar 2)) (gName 3)) tNext)
      (tDrop (tBM G.K "list" rAppend (tVar 1) (tCons (tLst (tCons (tVar 3) (tCons (tCB uInt (tCons (tOp uGe (tVar 3) (tOp uPow (tC (.int 10)) (tC (.int 18)))) tNil)) (tCons (tOp uMul (tC (.int 31)) (tVar 2)) tNil)))) tNil))))))
      (tRet (tLst (tCons (tVar 1) (tCons (tC (.int 0)) tNil))))))
def sp_law_deck (G : Gx) : Sp := fun vs H Q E => vs.length = 1 ∧ t_law_deck G E { nx := fun _ H' => Q .non H', rt := Q } (start ["script", "pools", "k", "cell"] vs) H
def t_law_draw (G : Gx) (E : XK) : TS :=
      (tSeq (tAsg (tOp (uIx G.K) (tOp (uIx G.K) (tVar 0) (tC (.int 0))) (tOp uMod (tOp (uIx G.K) (tVar 0) (tC (.int 1))) (tCB (uLen G.K) (tCons (tOp (uIx G.K) (tVar 0) (tC (.int 0))) tNil)))) (gName 2))
      (tSeq (tAsg (tOp uAdd (tOp (uIx G.K) (tVar 0) (tC (.int 1))) (tC (.int 1))) (gSub (tVar 0) (tC (.int 1)) uSet))
      (tSeq (tIfS (tAnd (tTest (tOp (uEq G.K) (tOp (uIx G.K) (tVar 2) (tC (.int 1))) (tC (.int 1)))) (tTest (tOp uGt (tOp (uIx G.K) (tVar 2) (tC (.int 0))) (tC (.int 0))))) (tSeq (tAsg (tOp uMod (tOp (uIx G.K) (tVar 2) (tC (.int 0))) (tVar 1)) (gName 3))
      (tSeq (tAsg (tOp uDiv (tOp (uIx G.K) (tVar 2) (tC (.int 0))) (tVar 1)) (gSub (tVar 2) (tC (.int 0)) uSet))
      (tRet (tVar 3)))) tNext)
      (tSeq (tAsg (tOp uAdd (tOp (uIx G.K) (tVar 2) (tC (.int 2))) (tC (.int 1))) (gSub (tVar 2) (tC (.int 2)) uSet))
      (tSeq (tAsg (tOp uMod (tOp uAdd (tOp uMod (tOp (uIx G.K) (tVar 2) (tC (.int 0))) (tC (.int 99999999977))) (tOp uMul (tC (.int 700001)) (tOp (uIx G.K) (tVar 2) (tC (.int 2))))) (tC (.int 99999999947))) (gName 4))
      (tSeq (tAsg (tOp uMod (tOp uMul (tVar 4) (tVar 4)) (tC (.int 99999999821))) (gName 4))
      (tSeq (tAsg (tOp uMod (tOp uMul (tVar 4) (tOp uAdd (tVar 4) (tC (.int 19)))) (tC (.int 9999999967))) (gName 4))
      (tRet (tOp uMod (tOp uDiv (tVar 4) (tC (.int 13))) (tVar 1))))))))))
def sp_law_draw (G : Gx) : Sp := fun vs H Q E => vs.length = 2 ∧ t_law_draw G E { nx := fun _ H' => Q .non H', rt := Q } (start ["deck", "many", "pool", "found", "number"] vs) H
def t_law_some_kinds (G : Gx) (E : XK) : TS :=
      (tSeq (tAsg (tLst (tCons (tC (.int 3)) (tCons (tC (.int 4)) (tCons (tC (.int 5)) (tCons (tC (.int 6)) (tCons (tC (.int 7)) (tCons (tC (.int 8)) (tCons (tC (.int 9)) (tCons (tC (.int 10)) (tCons (tC (.int 11)) (tCons (tC (.int 12)) (tCons (tC (.str "cubes")) tNil)))))))))))) (gName 1))
      (tRet (tLc (iRng1 (tCons (tOp (uIx G.K) (tLst (tCons (tOp uAdd (tC (.int 1)) (tCall (sp_law_draw G) [] E (tCons (tVar 0) (tCons (tC (.int 5)) tNil)))) (tCons (tC (.int 1)) (tCons (tC (.int 2)) tNil)))) (tCall (sp_law_draw G) [] E (tCons (tVar 0) (tCons (tC (.int 3)) tNil)))) tNil)) (gName 2) tYes (tBM G.K "list" rPopAt (tVar 1) (tCons (tCall (sp_law_draw G) [] E0 (tCons (tVar 0) (tCons (tCB (uLen G.K) (tCons (tVar 1) tNil)) tNil))) tNil)) [2])))
def sp_law_some_kinds (G : Gx) : Sp := fun vs H Q E => vs.length = 1 ∧ t_law_some_kinds G E { nx := fun _ H' => Q .non H', rt := Q } (start ["deck", "left", "k"] vs) H
def t_dots (G : Gx) (E : XK) : TS :=
      (tSeq (tIfS (tTest (tOp (uEq G.K) (tVar 0) (tC (.str "cubes")))) (tRet (tOp uMul (tOp uMul (tVar 1) (tVar 1)) (tVar 1))) tNext)
      (tRet (tOp uAdd (tVar 1) (tOp uMul (tOp uSub (tVar 0) (tC (.int 2))) (tOp uDiv (tOp uMul (tVar 1) (tOp uSub (tVar 1) (tC (.int 1)))) (tC (.int 2)))))))
def sp_dots (G : Gx) : Sp := fun vs H Q E => vs.length = 2 ∧ t_dots G E { nx := fun _ H' => Q .non H', rt := Q } (start ["kind", "k"] vs) H
def t_law_dots (G : Gx) (E : XK) : TS :=
      (tSeq (tAsg (tLst tNil) (gName 2))
      (tSeq (tAsg (tC (.int 1)) (gName 3))
      (tSeq (tAsg (tC (.int 1)) (gName 4))
      (tSeq (tAsg (tC (.int 1)) (gName 5))
      (tSeq (tWhile (tTest (tOp uLe (tVar 4) (tVar 1))) (tSeq (tDrop (tBM G.K "list" rAppend (tVar 2) (tCons (tVar 4) tNil)))
      (tSeq (tAsg (tOp uAdd (tVar 3) (tC (.int 1))) (gName 3))
      (tIfS (tTest (tOp (uEq G.K) (tVar 0) (tC (.str "cubes")))) (tAsg (tOp uPow (tVar 3) (tC (.int 3))) (gName 4)) (tSeq (tAsg (tOp uSub (tOp uAdd (tVar 5) (tVar 0)) (tC (.int 2))) (gName 5))
      (tAsg (tOp uAdd (tVar 4) (tVar 5)) (gName 4)))))))
      (tRet (tVar 2)))))))
def sp_law_dots (G : Gx) : Sp := fun vs H Q E => vs.length = 2 ∧ t_law_dots G E { nx := fun _ H' => Q .non H', rt := Q } (start ["kind", "most", "found", "k", "number", "more"] vs) H
def t_need_kinds (G : Gx) (E : XK) : TS :=
      (tIfS (tNot (tB (tCall (sp_are_kinds G) [] E (tCons (tVar 0) tNil)))) (tRz E (G.C "NoKinds")) tNext)
def sp_need_kinds (G : Gx) : Sp := fun vs H Q E => vs.length = 1 ∧ t_need_kinds G E { nx := fun _ H' => Q .non H', rt := Q } (start ["thing"] vs) H
def t_need_to_most (G : Gx) (E : XK) : TS :=
      (tIfS (tOr (tNot (tB (tCall (sp_is_whole G) [] E (tCons (tVar 0) tNil)))) (tNot (tTest (tChain uLe uLe (tC (.int 0)) (tVar 0) (tC (.int 200)))))) (tRz E (G.C "NoNumber")) tNext)
def sp_need_to_most (G : Gx) : Sp := fun vs H Q E => vs.length = 1 ∧ t_need_to_most G E { nx := fun _ H' => Q .non H', rt := Q } (start ["thing"] vs) H
def t_stock_of (G : Gx) (E : XK) : TS :=
      (tSeq (tAsg tDNewK (gName 2))
      (tSeq (tFor (iList G.K (tVar 0)) (gName 3) (tSeq (tAsg (tC (.int 1)) (gName 4))
      (tWhile (tTest (tOp uLe (tCall (sp_dots G) [] E (tCons (tVar 3) (tCons (tVar 4) tNil))) (tVar 1))) (tSeq (tAsg (tC (.bl true)) (gSub (tVar 2) (tCall (sp_dots G) [] E (tCons (tVar 3) (tCons (tVar 4) tNil))) uSet))
      (tAug 4 (tC (.int 1)) (ipI fun i j => i + j))))))
      (tRet (tCB (uSorted G.K) (tCons (tVar 2) tNil)))))
def sp_stock_of (G : Gx) : Sp := fun vs H Q E => vs.length = 2 ∧ t_stock_of G E { nx := fun _ H' => Q .non H', rt := Q } (start ["kinds", "b", "found", "kind", "k"] vs) H
def t_law_stock (G : Gx) (E : XK) : TS :=
      (tSeq (tAsg (tLst tNil) (gName 2))
      (tSeq (tFor (iList G.K (tVar 0)) (gName 3) (tFor (iList G.K (tCall (sp_law_dots G) [] E (tCons (tVar 3) (tCons (tVar 1) tNil)))) (gName 4) (tIfS (tTest (tOp (uNotIn G.K) (tVar 4) (tVar 2))) (tDrop (tBM G.K "list" rAppend (tVar 2) (tCons (tVar 4) tNil))) tNext)))
      (tRet (tCB (uSorted G.K) (tCons (tVar 2) tNil)))))
def sp_law_stock (G : Gx) : Sp := fun vs H Q E => vs.length = 2 ∧ t_law_stock G E { nx := fun _ H' => Q .non H', rt := Q } (start ["kinds", "most", "found", "kind", "number"] vs) H
def t_law_number (G : Gx) (E : XK) : TS :=
      (tRet (tOp (uIx G.K) (tLst (tCons (tCall (sp_law_draw G) [] E (tCons (tVar 0) (tCons (tC (.int 40)) tNil))) (tCons (tCall (sp_law_draw G) [] E (tCons (tVar 0) (tCons (tC (.int 201)) tNil))) (tCons (tOp uSub (tC (.int 200)) (tCall (sp_law_draw G) [] E (tCons (tVar 0) (tCons (tC (.int 12)) tNil)))) (tCons (tC (.int 200)) tNil))))) (tCall (sp_law_draw G) [] E (tCons (tVar 0) (tCons (tC (.int 4)) tNil)))))
def sp_law_number (G : Gx) : Sp := fun vs H Q E => vs.length = 1 ∧ t_law_number G E { nx := fun _ H' => Q .non H', rt := Q } (start ["deck"] vs) H
def t_is_sum (G : Gx) (E : XK) : TS :=
      (tSeq (tDrop (tCall (sp_need_kinds G) [] E (tCons (tVar 0) tNil)))
      (tSeq (tDrop (tCall (sp_need_to_most G) [] E (tCons (tVar 1) tNil)))
      (tSeq (tIfS (tOr (tNot (tB (tCB (uIsi G.K) (tCons (tVar 2) (tCons (tC (.ty "list")) tNil))))) (tTest (tOp (uNe G.K) (tLc (iList G.K (tVar 2)) (gName 4) (tNot (tB (tCall (sp_is_whole G) [] E0 (tCons (tVar 4) tNil)))) (tVar 4) [4]) (tLst tNil)))) (tRet (tC (.bl false))) tNext)
      (tSeq (tAsg (tCall (sp_stock_of G) [] E (tCons (tVar 0) (tCons (tVar 1) tNil))) (gName 3))
      (tSeq (tIfS (tOr (tTest (tOp (uNe G.K) (tLc (iList G.K (tVar 2)) (gName 4) (tTest (tOp (uNotIn G.K) (tVar 4) (tVar 3))) (tVar 4) [4]) (tLst tNil))) (tTest (tOp (uNe G.K) (tCB (uSum G.K) (tCons (tVar 2) tNil)) (tVar 1)))) (tRet (tC (.bl false))) tNext)
      (tRet (tOp (uEq G.K) (tLc (iRng2 (tCons (tC (.int 1)) (tCons (tCB (uLen G.K) (tCons (tVar 2) tNil)) tNil))) (gName 5) (tTest (tOp uLt (tOp (uIx G.K) (tVar 2) (tOp uSub (tVar 5) (tC (.int 1)))) (tOp (uIx G.K) (tVar 2) (tVar 5)))) (tVar 5) [5]) (tLst tNil))))))))
def sp_is_sum (G : Gx) : Sp := fun vs H Q E => vs.length = 3 ∧ t_is_sum G E { nx := fun _ H' => Q .non H', rt := Q } (start ["kinds", "n", "thing", "stock", "part", "k"] vs) H
def t_law_drawn_sum (G : Gx) (E : XK) : TS :=
      (tSeq (tAsg (tLst tNil) (gName 3))
      (tSeq (tAsg (tVar 2) (gName 4))
      (tSeq (tAsg (tOp (uIx G.K) (tLst (tCons (tC (.int 30)) (tCons (tC (.int 200)) tNil))) (tCall (sp_law_draw G) [] E (tCons (tVar 0) (tCons (tC (.int 2)) tNil)))) (gName 5))
      (tSeq (tWhile (tTest (tOp uGt (tVar 4) (tC (.int 0)))) (tSeq (tAsg (tLc (iList G.K (tVar 1)) (gName 7) (tTest (tOp uLe (tVar 7) (tVar 4))) (tVar 7) [7]) (gName 6))
      (tSeq (tAsg (tOp (uIx G.K) (tLst (tCons (tOp (uIx G.K) (tVar 6) (tCall (sp_law_draw G) [] E (tCons (tVar 0) (tCons (tCB (uLen G.K) (tCons (tVar 6) tNil)) tNil)))) (tCons (tOp (uIx G.K) (tVar 6) (tUn uNeg (tC (.int 1)))) tNil))) (tCB uInt (tCons (tOp uGt (tCB (uLen G.K) (tCons (tVar 3) tNil)) (tVar 5)) tNil))) (gName 7))
      (tSeq (tDrop (tBM G.K "list" rAppend (tVar 3) (tCons (tVar 7) tNil)))
      (tAsg (tOp uSub (tVar 4) (tVar 7)) (gName 4))))))
      (tRet (tRevL G.K (tCB (uSorted G.K) (tCons (tVar 3) tNil))))))))
def sp_law_drawn_sum (G : Gx) : Sp := fun vs H Q E => vs.length = 3 ∧ t_law_drawn_sum G E { nx := fun _ H' => Q .non H', rt := Q } (start ["deck", "stock", "n", "found", "left", "cut", "some", "part"] vs) H
def t_law_due_v3 (G : Gx) (E : XK) : TS :=
      (tSeq (tIfS (tNot (tB (tCB (uIsi G.K) (tCons (tVar 2) (tCons (tC (.ty "list")) tNil))))) (tRet (tC (.bl false))) tNext)
      (tSeq (tAsg (tVar 1) (gName 3))
      (tSeq (tAsg (tC (.int 201)) (gName 4))
      (tSeq (tFor (iList G.K (tVar 2)) (gName 5) (tSeq (tIfS (tOr (tNot (tB (tCB (uIsi G.K) (tCons (tVar 5) (tCons (tC (.ty "int")) tNil))))) (tOr (tB (tCB (uIsi G.K) (tCons (tVar 5) (tCons (tC (.ty "bool")) tNil)))) (tOr (tTest (tOp (uNotIn G.K) (tVar 5) (tVar 0))) (tTest (tOp uGt (tVar 5) (tVar 4)))))) (tRet (tC (.bl false))) tNext)
      (tSeq (tAsg (tVar 5) (gName 4))
      (tAsg (tOp uSub (tVar 3) (tVar 5)) (gName 3)))))
      (tRet (tOp (uEq G.K) (tVar 3) (tC (.int 0))))))))
def sp_law_due_v3 (G : Gx) : Sp := fun vs H Q E => vs.length = 3 ∧ t_law_due_v3 G E { nx := fun _ H' => Q .non H', rt := Q } (start ["stock", "n", "thing", "left", "last", "part"] vs) H
def t_law_changed (G : Gx) (E : XK) : TS :=
      (tSeq (tAsg (tCall (sp_law_draw G) [] E (tCons (tVar 0) (tCons (tOp uAdd (tCB (uLen G.K) (tCons (tVar 2) tNil)) (tC (.int 1))) tNil))) (gName 3))
      (tSeq (tAsg (tOp (uIx G.K) (tOp uAdd (tVar 2) (tLst (tCons (tC (.int 1)) tNil))) (tVar 3)) (gName 4))
      (tSeq (tAsg (tOp uAdd (tC (.int 1)) (tCall (sp_law_draw G) [] E (tCons (tVar 0) (tCons (tC (.int 4)) tNil)))) (gName 5))
      (tSeq (tAsg (tLst (tCons (tOp uAdd (tVar 4) (tVar 5)) (tCons (tOp uSub (tVar 4) (tVar 5)) (tCons (tC (.int 0)) (tCons (tUn uNeg (tVar 4)) (tCons (tC (.bl true)) (tCons (tC .non) (tCons (tCB uStr (tCons (tVar 4) tNil)) (tCons (tLst (tCons (tVar 4) tNil)) (tCons (tTup (tCons (tVar 4) tNil)) (tCons tDNewK (tCons (tOp uPow (tC (.int 10)) (tC (.int 25))) (tCons (tOp uMul (tVar 4) (tC (.int 2))) tNil))))))))))))) (gName 6))
      (tSeq (tAsg (tOp (uIx G.K) (tOp uAdd (tOp uAdd (tVar 6) (tSl (uSl G.K) (tOp uAdd (tVar 1) (tLst (tCons (tC (.int 1)) tNil))) tNoPart (tPart (tC (.int 1))))) (tLst (tCons (tOp (uIx G.K) (tOp uAdd (tVar 1) (tLst (tCons (tC (.int 1)) tNil))) (tCall (sp_law_draw G) [] E (tCons (tVar 0) (tCons (tOp uAdd (tCB (uLen G.K) (tCons (tVar 1) tNil)) (tC (.int 1))) tNil)))) tNil))) (tCall (sp_law_draw G) [] E (tCons (tVar 0) (tCons (tC (.int 14)) tNil)))) (gName 6))
      (tSeq (tAsg (tLst (tCons (tOp uAdd (tOp uAdd (tSl (uSl G.K) (tVar 2) tNoPart (tPart (tVar 3))) (tLst (tCons (tVar 6) tNil))) (tSl (uSl G.K) (tVar 2) (tPart (tOp uAdd (tVar 3) (tC (.int 1)))) tNoPart)) (tCons (tOp uAdd (tOp uAdd (tSl (uSl G.K) (tVar 2) tNoPart (tPart (tVar 3))) (tLst (tCons (tVar 6) tNil))) (tSl (uSl G.K) (tVar 2) (tPart (tVar 3)) tNoPart)) (tCons (tOp uAdd (tSl (uSl G.K) (tVar 2) tNoPart (tPart (tVar 3))) (tSl (uSl G.K) (tVar 2) (tPart (tOp uAdd (tVar 3) (tC (.int 1)))) tNoPart)) tNil)))) (gName 7))
      (tSeq (tAsg (tOp uAdd (tVar 7) (tLst (tCons (tOp uAdd (tOp uAdd (tSl (uSl G.K) (tVar 2) tNoPart (tPart (tVar 3))) (tRevL G.K (tSl (uSl G.K) (tVar 2) (tPart (tVar 3)) (tPart (tOp uAdd (tVar 3) (tC (.int 2))))))) (tSl (uSl G.K) (tVar 2) (tPart (tOp uAdd (tVar 3) (tC (.int 2)))) tNoPart)) (tCons (tOp uAdd (tOp uAdd (tSl (uSl G.K) (tVar 2) tNoPart (tPart (tVar 3))) (tSl (uSl G.K) (tVar 2) (tPart (tVar 3)) (tPart (tOp uAdd (tVar 3) (tC (.int 1)))))) (tSl (uSl G.K) (tVar 2) (tPart (tVar 3)) tNoPart)) tNil)))) (gName 7))
      (tSeq (tAsg (tOp uAdd (tVar 7) (tLst (tCons (tOp uAdd (tOp uAdd (tSl (uSl G.K) (tVar 2) tNoPart (tPart (tVar 3))) (tLst (tCons (tCB (uSum G.K) (tCons (tSl (uSl G.K) (tVar 2) (tPart (tVar 3)) (tPart (tOp uAdd (tVar 3) (tC (.int 2))))) tNil)) tNil))) (tSl (uSl G.K) (tVar 2) (tPart (tOp uAdd (tVar 3) (tC (.int 2)))) tNoPart)) (tCons (tRevL G.K (tVar 2)) (tCons (tOp uAdd (tVar 2) (tLst (tCons (tC (.int 1)) tNil))) (tCons (tOp uAdd (tVar 2) (tLst (tCons (tC (.int 0)) tNil))) tNil)))))) (gName 7))
      (tSeq (tAsg (tOp uAdd (tVar 7) (tLst (tCons (tCB (uTuple G.K) (tCons (tVar 2) tNil)) (tCons (tLst (tCons (tVar 2) tNil)) (tCons (tC .non) (tCons (tC (.int 0)) (tCons (tC (.str "")) (tCons tDNewK (tCons (tCB (uSum G.K) (tCons (tVar 2) tNil)) (tCons (tC (.bl true)) (tCons (tLst tNil) (tCons (tCB (uDictP G.K) (tCons (tLc (iList G.K (tVar 2)) (gName 9) tYes (tTup (tCons (tVar 9) (tCons (tC (.int 1)) tNil))) [9]) tNil)) tNil)))))))))))) (gName 7))
      (tSeq (tAsg (tOp (uIx G.K) (tLst (tCons (tC (.int 0)) (tCons (tC (.int 0)) (tCons (tC (.int 0)) (tCons (tC (.int 1)) (tCons (tC (.int 1)) (tCons (tC (.int 1)) (tCons (tC (.int 2)) (tCons (tC (.int 2)) (tCons (tC (.int 3)) (tCons (tC (.int 3)) (tCons (tC (.int 4)) (tCons (tC (.int 5)) (tCons (tC (.int 6)) (tCons (tC (.int 7)) (tCons (tC (.int 8)) (tCons (tC (.int 9)) (tCons (tC (.int 10)) (tCons (tC (.int 11)) (tCons (tC (.int 12)) (tCons (tC (.int 13)) (tCons (tC (.int 14)) (tCons (tC (.int 15)) (tCons (tC (.int 16)) (tCons (tC (.int 17)) (tCons (tC (.int 18)) tNil)))))))))))))))))))))))))) (tCall (sp_law_draw G) [] E (tCons (tVar 0) (tCons (tC (.int 25)) tNil)))) (gName 8))
      (tRet (tOp (uIx G.K) (tVar 7) (tVar 8)))))))))))))
def sp_law_changed (G : Gx) : Sp := fun vs H Q E => vs.length = 3 ∧ t_law_changed G E { nx := fun _ H' => Q .non H', rt := Q } (start ["deck", "stock", "some", "at", "here", "by", "odd", "rows", "which", "one"] vs) H
def t_law_of_total (G : Gx) (E : XK) : TS :=
      (tSeq (tAsg (tCall (sp_law_draw G) [] E (tCons (tVar 0) (tCons (tOp uAdd (tCB (uLen G.K) (tCons (tVar 1) tNil)) (tC (.int 1))) tNil))) (gName 3))
      (tSeq (tAsg (tCB (uMin G.K) (tCons (tCB (uLen G.K) (tCons (tVar 1) tNil)) (tCons (tOp uAdd (tOp uAdd (tVar 3) (tC (.int 2))) (tCall (sp_law_draw G) [] E (tCons (tVar 0) (tCons (tC (.int 5)) tNil)))) tNil))) (gName 4))
      (tSeq (tAsg (tCall (sp_law_draw G) [] E (tCons (tVar 0) (tCons (tC (.int 6)) tNil))) (gName 5))
      (tSeq (tAsg (tOp uAdd (tSl (uSl G.K) (tVar 1) tNoPart (tPart (tVar 3))) (tOp uMul (tLst (tCons (tC (.int 1)) tNil)) (tCB (uSum G.K) (tCons (tSl (uSl G.K) (tVar 1) (tPart (tVar 3)) tNoPart) tNil)))) (gName 6))
      (tSeq (tIfS (tTest (tOp (uEq G.K) (tVar 5) (tC (.int 0)))) (tAsg (tOp uAdd (tOp uAdd (tSl (uSl G.K) (tVar 1) tNoPart (tPart (tVar 3))) (tLst (tCons (tCB (uSum G.K) (tCons (tSl (uSl G.K) (tVar 1) (tPart (tVar 3)) (tPart (tVar 4))) tNil)) tNil))) (tSl (uSl G.K) (tVar 1) (tPart (tVar 4)) tNoPart)) (gName 6)) tNext)
      (tSeq (tIfS (tTest (tOp (uEq G.K) (tVar 5) (tC (.int 1)))) (tAsg (tOp uAdd (tSl (uSl G.K) (tVar 1) tNoPart (tPart (tVar 3))) (tLst (tCons (tCB (uSum G.K) (tCons (tSl (uSl G.K) (tVar 1) (tPart (tVar 3)) tNoPart) tNil)) tNil))) (gName 6)) tNext)
      (tSeq (tIfS (tTest (tOp (uEq G.K) (tVar 5) (tC (.int 2)))) (tAsg (tLst (tCons (tVar 2) tNil)) (gName 6)) tNext)
      (tSeq (tIfS (tAnd (tTest (tOp (uEq G.K) (tVar 5) (tC (.int 3)))) (tTest (tOp uGt (tCB (uLen G.K) (tCons (tVar 1) tNil)) (tC (.int 1))))) (tSeq (tAsg (tOp uAdd (tC (.int 1)) (tCall (sp_law_draw G) [] E (tCons (tVar 0) (tCons (tC (.int 4)) tNil)))) (gName 7))
      (tSeq (tAsg (tCB (uList G.K) (tCons (tVar 1) tNil)) (gName 6))
      (tSeq (tAsg (tOp uSub (tOp (uIx G.K) (tVar 6) (tOp uSub (tVar 3) (tC (.int 1)))) (tVar 7)) (gSub (tVar 6) (tOp uSub (tVar 3) (tC (.int 1))) uSet))
      (tAsg (tOp uAdd (tOp (uIx G.K) (tVar 6) (tOp uMod (tVar 3) (tCB (uLen G.K) (tCons (tVar 1) tNil)))) (tVar 7)) (gSub (tVar 6) (tOp uMod (tVar 3) (tCB (uLen G.K) (tCons (tVar 1) tNil))) uSet))))) tNext)
      (tSeq (tIfS (tTest (tOp (uEq G.K) (tVar 5) (tC (.int 4)))) (tSeq (tAsg (tLst tNil) (gName 6))
      (tWhile (tTest (tOp uLt (tCB (uSum G.K) (tCons (tVar 6) tNil)) (tVar 2))) (tDrop (tBM G.K "list" rAppend (tVar 6) (tCons (tOp uAdd (tC (.int 1)) (tCall (sp_law_draw G) [] E (tCons (tVar 0) (tCons (tOp uSub (tVar 2) (tCB (uSum G.K) (tCons (tVar 6) tNil))) tNil)))) tNil))))) tNext)
      (tRet (tRevL G.K (tCB (uSorted G.K) (tCons (tLc (iList G.K (tVar 6)) (gName 8) (tTest (tOp (uNe G.K) (tVar 8) (tC (.int 0)))) (tVar 8) [8]) tNil)))))))))))))
def sp_law_of_total (G : Gx) : Sp := fun vs H Q E => vs.length = 3 ∧ t_law_of_total G E { nx := fun _ H' => Q .non H', rt := Q } (start ["deck", "some", "n", "at", "to", "way", "found", "by", "one"] vs) H
def t_law_right_v12 (G : Gx) (E : XK) : TS :=
      (tSeq (tAsg (tCB (uList G.K) (tCons (tVar 0) tNil)) (gName 3))
      (tSeq (tAsg (tCB (uReprD G.K) (tCons (tVar 2) tNil)) (gName 4))
      (tSeq (tAsg (tCall (sp_law_due_v3 G) [] E (tCons (tCall (sp_law_stock G) [] E (tCons (tVar 0) (tCons (tVar 1) tNil))) (tCons (tVar 1) (tCons (tVar 2) tNil)))) (gName 5))
      (tSeq (tFor (iRng1 (tCons (tC (.int 2)) tNil)) (gName 6) (tSeq (tAsg (tCall (sp_is_sum G) [] E (tCons (tVar 3) (tCons (tVar 1) (tCons (tVar 2) tNil)))) (gName 7))
      (tIfS (tOr (tNot (tB (tCB (uIsi G.K) (tCons (tVar 7) (tCons (tC (.ty "bool")) tNil))))) (tOr (tTest (tOp (uNe G.K) (tVar 7) (tVar 5))) (tOr (tTest (tOp (uNe G.K) (tVar 3) (tVar 0))) (tTest (tOp (uNe G.K) (tCB (uReprD G.K) (tCons (tVar 2) tNil)) (tVar 4)))))) (tRet (tC (.bl false))) tNext)))
      (tRet (tC (.bl true)))))))
def sp_law_right_v12 (G : Gx) : Sp := fun vs H Q E => vs.length = 3 ∧ t_law_right_v12 G E { nx := fun _ H' => Q .non H', rt := Q } (start ["kinds", "n", "thing", "handed", "kept", "due", "turn", "found"] vs) H
def t_law_k07 (G : Gx) (E : XK) : TS :=
      (tSeq (tAsg (tCall (sp_law_deck G) [] E (tCons (tVar 0) tNil)) (gName 1))
      (tSeq (tFor (iRng1 (tCons (tC (.int 10)) tNil)) (gName 2) (tSeq (tAsg (tCall (sp_law_some_kinds G) [] E (tCons (tVar 1) tNil)) (gName 3))
      (tSeq (tAsg (tOp (uIx G.K) (tLst (tCons (tCall (sp_law_number G) [] E (tCons (tVar 1) tNil)) (tCons (tC (.int 0)) tNil))) (tCB uInt (tCons (tOp (uEq G.K) (tCall (sp_law_draw G) [] E (tCons (tVar 1) (tCons (tC (.int 8)) tNil))) (tC (.int 0))) tNil))) (gName 4))
      (tSeq (tAsg (tCall (sp_law_stock G) [] E (tCons (tVar 3) (tCons (tVar 4) tNil))) (gName 5))
      (tSeq (tAsg (tCall (sp_law_drawn_sum G) [] E (tCons (tVar 1) (tCons (tVar 5) (tCons (tVar 4) tNil)))) (gName 6))
      (tSeq (tIfS (tTest (tOp uIsNot (tCall (sp_is_sum G) [] E (tCons (tCB (uList G.K) (tCons (tVar 3) tNil)) (tCons (tVar 4) (tCons (tCB (uList G.K) (tCons (tVar 6) tNil)) tNil)))) (tC (.bl true)))) (tRet (tC (.bl false))) tNext)
      (tSeq (tFor (iRng1 (tCons (tC (.int 10)) tNil)) (gName 7) (tIfS (tNot (tB (tCall (sp_law_right_v12 G) [] E (tCons (tVar 3) (tCons (tVar 4) (tCons (tCall (sp_law_changed G) [] E (tCons (tVar 1) (tCons (tVar 5) (tCons (tVar 6) tNil)))) tNil)))))) (tRet (tC (.bl false))) tNext))
      (tSeq (tFor (iRng1 (tCons (tC (.int 8)) tNil)) (gName 7) (tIfS (tNot (tB (tCall (sp_law_right_v12 G) [] E (tCons (tVar 3) (tCons (tVar 4) (tCons (tCall (sp_law_of_total G) [] E (tCons (tVar 1) (tCons (tVar 6) (tCons (tVar 4) tNil)))) tNil)))))) (tRet (tC (.bl false))) tNext))
      (tFor (iList G.K (tLst (tCons (tOp uAdd (tVar 4) (tC (.int 1))) (tCons (tOp uSub (tVar 4) (tC (.int 1))) (tCons (tCall (sp_law_draw G) [] E (tCons (tVar 1) (tCons (tC (.int 201)) tNil))) tNil))))) (gName 8) (tIfS (tAnd (tTest (tChain uLe uLe (tC (.int 0)) (tVar 8) (tC (.int 200)))) (tNot (tB (tCall (sp_law_right_v12 G) [] E (tCons (tVar 3) (tCons (tVar 8) (tCons (tVar 6) tNil))))))) (tRet (tC (.bl false))) tNext))))))))))
      (tRet (tC (.bl true)))))
def sp_law_k07 (G : Gx) : Sp := fun vs H Q E => vs.length = 1 ∧ t_law_k07 G E { nx := fun _ H' => Q .non H', rt := Q } (start ["script", "deck", "k", "kinds", "n", "stock", "some", "turn", "other"] vs) H
local macro_rules | `(tactic| wtm_at "w1") => `(tactic| with_reducible first
  | refine i_seq ?_ | refine i_asg ?_ | refine i_gname ?_ | refine i_ifS ?_ | refine i_ret ?_ | refine i_drop ?_ | refine i_next ?_ | refine i_brk ?_ | refine i_retN ?_
  | refine i_op ?_ | refine i_var rfl ?_ | refine i_c ?_ | refine i_call ?_ | refine i_cb ?_ | refine i_cons ?_ | refine i_nil ?_ | refine i_un ?_
  | refine i_test ?_ | refine i_B ?_ | refine i_not ?_ | refine i_exbl ?_ | refine i_exint ?_
  | refine i_andV ?_ | refine i_orV ?_ | refine i_notV ?_ | refine i_if ?_ | refine i_chain ?_ | refine i_yes ?_
  | refine i_add ?_ | refine i_sub ?_ | refine i_lt ?_ | refine i_le ?_ | refine i_gt ?_ | refine i_ge ?_ | refine i_eqI ?_ | refine i_neI ?_ | refine i_eqS ?_ | refine i_neS ?_ | refine i_eqIS ?_ | refine i_neIS ?_
  | refine i_eqIN ?_ | refine i_neIN ?_ | refine i_eqNI ?_ | refine i_neNI ?_ | refine i_neNN ?_
  | refine i_isN ?_ | refine i_notN ?_ | refine i_isB ?_ | refine i_notB ?_ | refine i_max2 ?_ | refine i_min2 ?_ | refine i_intI ?_ | refine i_intB ?_ | refine i_abs ?_ | refine i_neg ?_ | refine i_band ?_ | refine i_bor ?_
  | refine i_isiII ?_ | refine i_isiIB ?_ | refine i_isiIS ?_ | refine i_isiIL ?_ | refine i_isiSI ?_ | refine i_isiSB ?_ | refine i_isiSS ?_ | refine i_isiSL ?_ | refine i_isiBI ?_ | refine i_isiBB ?_ | refine i_isiBS ?_ | refine i_isiNI ?_ | refine i_isiNB ?_
  | refine i_bm ?_ | refine i_bm0 ?_ | refine i_lst ?_ | refine i_tup ?_ | refine i_sl ?_ | refine i_nopart ?_ | refine i_part ?_ | refine i_gsub ?_ | refine i_aug rfl ?_ | refine i_ipI ?_
  | refine i_for ?_ | refine i_lc ?_ | refine i_rng1 ?_ | refine i_rng2 ?_ | refine i_rng3 ?_ | refine i_list ?_ | refine i_tupl ?_ | refine i_enum ?_ | refine i_zip ?_ | refine i_str ?_ | refine i_strA ?_
  | refine i_fl ?_ | refine i_fls ?_ | refine i_make ?_ | refine i_meth ?_
  | refine i_T rfl ?_ | refine i_F rfl ?_)
local macro_rules | `(tactic| wtm_at "num") => `(tactic| first | decide | omega)
local macro_rules | `(tactic| wtm_at "w2") => `(tactic| first
  | ((with_reducible refine i_pow ?_ ?_); · exact ⟨by decide, by decide, by decide⟩)
  | ((with_reducible refine i_mod ?_ ?_); · wtm_at "num")
  | ((with_reducible refine i_mulL ?_ ?_); · wtm_at "num")
  | ((with_reducible refine i_mulR ?_ ?_); · wtm_at "num")
  | ((with_reducible refine i_div ?_ ?_); · exact div_ok (by wtm_at "num") (by wtm_at "num")))
local macro_rules | `(tactic| wtm_at "w") => `(tactic| repeat (first | wtm_at "w1" | wtm_at "w2"))
local macro_rules | `(tactic| wtm_at "ao") => `(tactic| (with_reducible first | refine i_and ?_ | refine i_or ?_))
local macro_rules | `(tactic| wtm_at "ix") => `(tactic| (refine i_ixL (sq_of (by assumption)) (by rfl) ?_; wtm_at "w"))
local macro_rules | `(tactic| wtm_at "wa") => `(tactic| repeat (first | wtm_at "w1" | wtm_at "ao" | wtm_at "w2"))
/-! ### kinds and their numbers -/
/-- a kind: 3 to 12, or "cubes" -/
def IsKd (v : V) : Prop := (∃ s : Int, v = .int s ∧ 3 ≤ s ∧ s ≤ 12) ∨ v = .str "cubes"
/-- the k-th number of a kind -/
def dotsV : V → Int → Int
  | .int s, k => k + (s - 2) * (k * (k - 1) / 2)
  | _, k => k * k * k
section
variable {G : Gx} {H : Hp} {Q : VK} {E : XK}
theorem u_is_whole_int {n : Int} (h : Q (.bl true) H) : sp_is_whole G [.int n] H Q E := by
  refine ⟨rfl, ?_⟩
  unfold t_is_whole
  wtm_at "w"
  exact h
theorem u_is_whole_str {s : Str} (h : Q (.bl false) H) : sp_is_whole G [.str s] H Q E := by
  refine ⟨rfl, ?_⟩
  unfold t_is_whole
  wtm_at "w"
  exact h
theorem u_is_kind_int {n : Int} (h : Q (.bl (decide (3 ≤ n ∧ n ≤ 12))) H) : sp_is_kind G [.int n] H Q E := by
  refine ⟨rfl, ?_⟩
  unfold t_is_kind
  wtm_at "w"
  refine u_is_whole_int ?_
  wtm_at "w"
  refine i_ite (fun h3 => ?_) (fun h3 => ?_)
  · wtm_at "w"
    rw [show decide (3 ≤ n ∧ n ≤ 12) = decide (n ≤ 12) by simp [h3]] at h
    exact h
  · rw [show decide (3 ≤ n ∧ n ≤ 12) = false by simp [h3]] at h
    exact h
theorem u_is_kind_cubes (h : Q (.bl true) H) : sp_is_kind G [.str "cubes"] H Q E := by
  refine ⟨rfl, ?_⟩
  unfold t_is_kind
  wtm_at "w"
  rw [decide_eq_true rfl]
  exact h
theorem u_is_kind {v : V} (hv : IsKd v) (h : Q (.bl true) H) : sp_is_kind G [v] H Q E := by
  rcases hv with ⟨s, rfl, h1, h2⟩ | rfl
  · refine u_is_kind_int ?_
    rw [decide_eq_true ⟨h1, h2⟩]
    exact h
  · exact u_is_kind_cubes h
theorem big_mul {i j : Int} (a b : Nat) (ha : i.natAbs < 2 ^ a) (hb : j.natAbs < 2 ^ b) (h : a + b ≤ 134217728) : CMulX i j := mulx_ok ha hb h
theorem u_dots {v : V} {k : Int} (hv : IsKd v) (h0 : 0 ≤ k) (h1 : k < 2 ^ 100) (h : Q (.int (dotsV v k)) H) : sp_dots G [v, .int k] H Q E := by
  have ek : k.natAbs < 2 ^ 100 := by omega
  refine ⟨rfl, ?_⟩
  unfold t_dots
  rcases hv with ⟨s, rfl, h2, h3⟩ | rfl
  · wtm_at "w"
    refine i_mulX (big_mul 100 101 ek (by omega) (by decide)) ?_
    wtm_at "w"
    exact h
  · wtm_at "w"
    refine i_mulX (big_mul 100 100 ek ek (by decide)) ?_
    wtm_at "w"
    refine i_mulX (big_mul 200 100 (wide_lt ek ek) ek (by decide)) ?_
    exact h
end
/-! ### a part of the heap of one's own -/
structure Wd where
  R : Addr → Prop
  I : Hp → Prop
  tr : ∀ H a, I H → R a → H a ≠ none
  up : ∀ H a o, I H → ¬ R a → I (upd H a o)
  sm : ∀ H H', I H → Same H H' → I H'
structure Kp (W : Wd) (H H' : Hp) : Prop where
  i : W.I H'
  k : Keep W.R H H'
structure At (W : Wd) (H : Hp) (a : Addr) (o : HO) : Prop where
  h : H a = some o
  r : ¬ W.R a
section
variable {W : Wd} {H H0 H1 H2 : Hp} {a p : Addr} {o : HO}
theorem Kp.refl (i : W.I H) : Kp W H H := ⟨i, Keep.refl _ _⟩
theorem Kp.trans (x : Kp W H H1) (y : Kp W H1 H2) : Kp W H H2 := ⟨y.i, x.k.trans y.k⟩
theorem Wd.notR (i : W.I H) (h : H p = none) : ¬ W.R p := fun r => W.tr H p i r h
theorem Kp.free (x : Kp W H H1) (h : H1 p = none) : H p = none := by
  cases e : H p with
  | none => rfl
  | some o =>
    have n := Wd.notR x.i h
    rw [x.k p o n e] at h
    cases h
theorem Kp.at (x : Kp W H H1) (z : At W H a o) : At W H1 a o := ⟨x.k a o z.r z.h, z.r⟩
theorem Kp.same (x : Kp W H0 H) (s : Same H H1) : Kp W H0 H1 := ⟨W.sm _ _ x.i s, fun b u n e => s _ _ (x.k b u n e)⟩
theorem Kp.new (x : Kp W H0 H) (h : H p = none) : Kp W H0 (upd H p o) := x.same (same_new h)
theorem Kp.mut (x : Kp W H0 H) (h : H0 p = none) (r : ¬ W.R p) : Kp W H0 (upd H p o) := ⟨W.up _ _ _ x.i r, keep_mut x.k h⟩
theorem At.new (i : W.I H) (h : H p = none) : At W (upd H p o) p o := ⟨upd_same, Wd.notR i h⟩
theorem At.same (z : At W H a o) (s : Same H H1) : At W H1 a o := ⟨s _ _ z.h, z.r⟩
theorem At.ne (z : At W H a o) (h : H p = none) : a ≠ p := ne_of_none z.h h
theorem At.upd {o2 : HO} (z : At W H a o) (n : a ≠ p) : At W (upd H p o2) a o := ⟨by rw [upd_ne n]; exact z.h, z.r⟩
end
/-! ### the deck -/
structure DkI (d pl : Addr) (ps : List Addr) (H : Hp) : Prop where
  n : ∃ n : Int, H d = some (.lst [.ref pl, .int n])
  l : H pl = some (.lst (ps.map V.ref))
  ne : 0 < ps.length
  le : ps.length ≤ 63
  p : ∀ p ∈ ps, ∃ c f k : Int, H p = some (.lst [.int c, .int f, .int k])
def DkR (d pl : Addr) (ps : List Addr) : Addr → Prop := fun a => a = d ∨ a = pl ∨ a ∈ ps
def deckW (d pl : Addr) (ps : List Addr) : Wd where
  R := DkR d pl ps
  I := DkI d pl ps
  tr := fun H a i r => by
    rcases r with rfl | rfl | r
    · obtain ⟨n, e⟩ := i.n; rw [e]; simp
    · rw [i.l]; simp
    · obtain ⟨c, f, k, e⟩ := i.p a r; rw [e]; simp
  up := fun H a o i r => by
    have n : ∀ b, DkR d pl ps b → b ≠ a := fun b rb z => r (by rw [← z]; exact rb)
    refine ⟨?_, ?_, i.ne, i.le, fun p hp => ?_⟩
    · obtain ⟨m, e⟩ := i.n; exact ⟨m, by rw [upd_ne (n d (.inl rfl))]; exact e⟩
    · rw [upd_ne (n pl (.inr (.inl rfl)))]; exact i.l
    · obtain ⟨c, f, k, e⟩ := i.p p hp; exact ⟨c, f, k, by rw [upd_ne (n p (.inr (.inr hp)))]; exact e⟩
  sm := fun H H' i s => by
    refine ⟨?_, s _ _ i.l, i.ne, i.le, fun p hp => ?_⟩
    · obtain ⟨m, e⟩ := i.n; exact ⟨m, s _ _ e⟩
    · obtain ⟨c, f, k, e⟩ := i.p p hp; exact ⟨c, f, k, s _ _ e⟩
theorem deck_dl {d pl : Addr} {ps : List Addr} {H : Hp} (i : DkI d pl ps H) : d ≠ pl := fun z => by
  obtain ⟨n, e⟩ := i.n
  have e2 := i.l
  rw [← z, e] at e2
  have e3 := HO.lst.inj (Option.some.inj e2)
  cases ps with
  | nil => cases e3
  | cons x r => cases r with
    | nil => cases e3
    | cons y r => simp at e3
theorem deck_dp {d pl : Addr} {ps : List Addr} {H : Hp} (i : DkI d pl ps H) {p : Addr} (hp : p ∈ ps) : d ≠ p := fun z => by
  obtain ⟨n, e⟩ := i.n
  obtain ⟨c, f, k, e2⟩ := i.p p hp
  rw [← z, e] at e2
  have e3 := HO.lst.inj (Option.some.inj e2)
  simp at e3
theorem deck_lp {d pl : Addr} {ps : List Addr} {H : Hp} (i : DkI d pl ps H) {p : Addr} (hp : p ∈ ps) : pl ≠ p := fun z => by
  obtain ⟨c, f, k, e2⟩ := i.p p hp
  have e := i.l
  rw [z, e2] at e
  have e3 := HO.lst.inj (Option.some.inj e)
  cases ps with
  | nil => cases e3
  | cons x r => simp at e3
theorem deck_d {d pl : Addr} {ps : List Addr} {H : Hp} {m : Int} (i : DkI d pl ps H) : DkI d pl ps (upd H d (.lst [.ref pl, .int m])) :=
  ⟨⟨m, upd_same⟩, by rw [upd_ne (deck_dl i).symm]; exact i.l, i.ne, i.le, fun p hp => by
    obtain ⟨c, f, k, e⟩ := i.p p hp
    exact ⟨c, f, k, by rw [upd_ne (deck_dp i hp).symm]; exact e⟩⟩
theorem deck_p {d pl : Addr} {ps : List Addr} {H : Hp} {p : Addr} {c f k : Int} (i : DkI d pl ps H) (hp : p ∈ ps) : DkI d pl ps (upd H p (.lst [.int c, .int f, .int k])) :=
  ⟨by obtain ⟨n, e⟩ := i.n; exact ⟨n, by rw [upd_ne (deck_dp i hp)]; exact e⟩, by rw [upd_ne (deck_lp i hp)]; exact i.l, i.ne, i.le, fun q hq => by
    by_cases z : q = p
    · subst z; exact ⟨c, f, k, upd_same⟩
    · obtain ⟨c, f, k, e⟩ := i.p q hq
      exact ⟨c, f, k, by rw [upd_ne z]; exact e⟩⟩
section
variable {G : Gx} {H : Hp} {Q : VK} {E : XK}
set_option maxHeartbeats 4000000 in
theorem u_law_draw {d pl : Addr} {ps : List Addr} {many : Int} (i : DkI d pl ps H) (h0 : 0 < many) (h1 : many < 2 ^ 64)
    (h : ∀ r H', 0 ≤ r → r < many → Kp (deckW d pl ps) H H' → Q (.int r) H') : sp_law_draw G [.ref d, .int many] H Q E := by
  refine ⟨rfl, ?_⟩
  unfold t_law_draw
  obtain ⟨n, ed⟩ := i.n
  have el := i.l
  have hn := i.ne
  wtm_at "w"
  wtm_at "ix"
  wtm_at "ix"
  wtm_at "ix"
  refine i_lenL (sq_of el) ?_
  rw [List.length_map]
  refine i_mod (by omega) ?_
  obtain ⟨j, ej, hj⟩ : ∃ j : Nat, n % (ps.length : Int) = (j : Int) ∧ j < ps.length := ⟨(n % (ps.length : Int)).toNat, by have := Int.emod_nonneg n (show (ps.length : Int) ≠ 0 by omega); omega, by have := Int.emod_lt_of_pos n (show 0 < (ps.length : Int) by omega); have := Int.emod_nonneg n (show (ps.length : Int) ≠ 0 by omega); omega⟩
  have hm : ps[j] ∈ ps := List.getElem_mem hj
  refine i_ixL (sq_of el) (at_nat (n := j) ej (v := .ref ps[j]) (by rw [List.getElem?_map, List.getElem?_eq_getElem hj]; rfl)) ?_
  wtm_at "w"
  wtm_at "ix"
  refine i_setL ed (n := 1) rfl ?_
  have i1 : DkI d pl ps (upd H d (.lst [.ref pl, .int (n + 1)])) := deck_d i
  have k1 : Kp (deckW d pl ps) H (upd H d (.lst [.ref pl, .int (n + 1)])) := ⟨i1, keep_in (Keep.refl _ _) (.inl rfl)⟩
  show tSeq _ _ _ _ (upd H d (.lst [.ref pl, .int (n + 1)]))
  generalize upd H d (.lst [.ref pl, .int (n + 1)]) = H1 at i1 k1 ⊢
  generalize hp : ps[j] = p at hm ⊢
  obtain ⟨c, f, k, ep⟩ := i1.p p hm
  have fin : ∀ c f k : Int, Kp (deckW d pl ps) H (upd H1 p (.lst [.int c, .int f, .int k])) := fun c f k => ⟨deck_p i1 hm, keep_in k1.k (.inr (.inr hm))⟩
  wtm_at "w"
  refine i_andP (b1 := decide (f = 1)) (b2 := decide (0 < c)) (fun QB h => ?_) (fun _ QB h => ?_) ?_
  · wtm_at "w"
    wtm_at "ix"
    exact h
  · wtm_at "w"
    wtm_at "ix"
    exact h
  refine i_both (fun hf => ?_) (fun hf => ?_)
  · wtm_at "w"
    wtm_at "ix"
    wtm_at "ix"
    refine i_setL ep (n := 0) rfl ?_
    wtm_at "w"
    exact h _ _ (Int.emod_nonneg _ (by omega)) (Int.emod_lt_of_pos _ h0) (fin _ _ _)
  · wtm_at "w"
    wtm_at "ix"
    refine i_setL ep (n := 2) rfl ?_
    have e2 : (upd H1 p (.lst [.int c, .int f, .int (k + 1)])) p = some (.lst [.int c, .int f, .int (k + 1)]) := upd_same
    have f2 := fin c f (k + 1)
    show tSeq _ _ _ _ (upd H1 p (.lst [.int c, .int f, .int (k + 1)]))
    generalize upd H1 p (.lst [.int c, .int f, .int (k + 1)]) = H2 at e2 f2 ⊢
    wtm_at "w"
    wtm_at "ix"
    wtm_at "ix"
    generalize e1 : (c % 99999999977 + 700001 * (k + 1)) % 99999999947 = r1
    have b1 : 0 ≤ r1 ∧ r1 < 99999999947 := by omega
    wtm_at "w"
    generalize e3 : r1 * r1 % 99999999821 = r2
    have b2 : 0 ≤ r2 ∧ r2 < 99999999821 := by omega
    wtm_at "w"
    exact h _ _ (Int.emod_nonneg _ (by omega)) (Int.emod_lt_of_pos _ h0) f2
def DeckT (H : Hp) (a pl : Addr) (i : Nat) (σ : L2.St) (H' : Hp) : Prop := ∃ (ps : List Addr) (y2 y3 : Option V), σ = [some (.ref a), some (.ref pl), y2, y3] ∧ Same H H' ∧ H' pl = some (.lst (ps.map V.ref)) ∧ ps.length = i ∧ (∀ p ∈ ps, ∃ c f k : Int, H' p = some (.lst [.int c, .int f, .int k]))
theorem deck_turn {H H' : Hp} {a pl p : Addr} {i : Nat} {ps : List Addr} {y2 y3 : Option V} {c f k : Int} (npl : H pl = none) (s : Same H H') (e : H' pl = some (.lst (ps.map V.ref))) (el : ps.length = i) (ep : ∀ p ∈ ps, ∃ c f k : Int, H' p = some (.lst [.int c, .int f, .int k])) (hp : H' p = none) :
    DeckT H a pl (i + 1) [some (.ref a), some (.ref pl), y2, y3] (upd (upd H' p (.lst [.int c, .int f, .int k])) pl (.lst (ps.map V.ref ++ [.ref p]))) := by
  have npp : pl ≠ p := ne_of_none e hp
  refine ⟨ps ++ [p], _, _, rfl, same_mut (s.trans (same_new hp)) npl, ?_, by simp [el], fun q hq => ?_⟩
  · rw [upd_same, List.map_append]; rfl
  · rcases List.mem_append.mp hq with hq | hq
    · obtain ⟨c2, f, k, eq⟩ := ep q hq
      refine ⟨c2, f, k, ?_⟩
      have n1 : q ≠ p := ne_of_none eq hp
      have n2 : q ≠ pl := fun z => by
        rw [z, e] at eq
        have e3 := HO.lst.inj (Option.some.inj eq)
        cases ps with
        | nil => cases hq
        | cons x r => simp at e3
      rw [upd_ne n2, upd_ne n1]; exact eq
    · have z : q = p := by simpa using hq
      subst z
      exact ⟨_, _, _, by rw [upd_ne npp.symm, upd_same]⟩
theorem u_law_deck {a : Addr} {ns : List Int} (hs : SqL G.K H a (ns.map V.int)) (hl : ns.length ≤ 63)
    (h : ∀ d pl ps H', Same H H' → DkI d pl ps H' → Q (.ref d) H') : sp_law_deck G [.ref a] H Q E := by
  refine ⟨rfl, ?_⟩
  unfold t_law_deck
  wtm_at "w"
  refine ⟨Nat.zero_le _, fun pl npl => ?_⟩
  wtm_at "w"
  have s1 : Same H (upd H pl (.lst [])) := same_new npl
  refine i_lenL (s1.seq hs) ?_
  wtm_at "w"
  rw [List.length_map]
  generalize hm : (if (if (ns.length : Int) < 63 then (ns.length : Int) else 63) > 1 then (if (ns.length : Int) < 63 then (ns.length : Int) else 63) else 1) = m
  have hm1 : 1 ≤ m ∧ m ≤ 63 := by
    rw [← hm]
    split <;> split <;> omega
  refine i_rngA1 (by omega) ?_
  refine lk_range (DeckT H a pl) ⟨[], none, none, rfl, s1, upd_same, rfl, by simp⟩ ?_ ?_
  · rintro i σ H' hi ⟨ps, y2, y3, rfl, s, e, el, ep⟩
    wtm_at "w"
    refine i_lenL (s.seq hs) ?_
    wtm_at "w"
    refine i_ite (fun hlt => ?_) (fun hlt => ?_)
    · wtm_at "w"
      rw [List.length_map] at hlt
      have hlt' : i < ns.length := by omega
      refine i_ixL (s.seq hs) (at_nat (n := i) (by omega) (v := .int ns[i]) (by rw [List.getElem?_map, List.getElem?_eq_getElem hlt']; rfl)) ?_
      wtm_at "w"
      refine ⟨.inl ⟨rfl, _, sq_of e⟩, ?_⟩
      wtm_at "w"
      refine ⟨sz_le (by simp), fun p hp => ?_⟩
      wtm_at "w"
      refine i_app (xs := ps.map V.ref) (by rw [upd_ne (ne_of_none e hp)]; exact e) (sz_lt (by simp; omega)) ?_
      exact deck_turn npl s e el ep hp
    · wtm_at "w"
      refine ⟨.inl ⟨rfl, _, sq_of e⟩, ?_⟩
      wtm_at "w"
      refine ⟨sz_le (by simp), fun p hp => ?_⟩
      wtm_at "w"
      refine i_app (xs := ps.map V.ref) (by rw [upd_ne (ne_of_none e hp)]; exact e) (sz_lt (by simp; omega)) ?_
      exact deck_turn npl s e el ep hp
  · rintro σ H' ⟨ps, y2, y3, rfl, s, e, el, ep⟩
    wtm_at "w"
    refine ⟨sz_le (by simp), fun d hd => ?_⟩
    refine h d pl ps _ (s.trans (same_new hd)) ⟨⟨0, upd_same⟩, ?_, by omega, by omega, fun p hp => ?_⟩
    · rw [upd_ne (ne_of_none e hd)]; exact e
    · obtain ⟨c, f, k, eq⟩ := ep p hp
      exact ⟨c, f, k, by rw [upd_ne (ne_of_none eq hd)]; exact eq⟩
end
/-! ### numbers of a kind in order -/
theorem tri_succ (k : Int) : (k + 1) * k / 2 = k * (k - 1) / 2 + k := by
  have e : (k + 1) * k = k * (k - 1) + k * 2 := by
    rw [Int.add_mul, Int.mul_sub]; omega
  rw [e, Int.add_mul_ediv_right _ _ (by decide)]
theorem dots_succ_int (s k : Int) : dotsV (.int s) (k + 1) = dotsV (.int s) k + (1 + k * (s - 2)) := by
  unfold dotsV
  have e : k + 1 - 1 = k := by omega
  simp only [e]
  rw [tri_succ, Int.mul_add, Int.mul_comm (s - 2) k]
  omega
theorem cube_succ (k : Int) : (k + 1) * (k + 1) * (k + 1) = k * k * k + (3 * (k * k) + 3 * k + 1) := by
  have e : (k + 1) * (k + 1) = k * k + 2 * k + 1 := by rw [Int.add_mul, Int.mul_add]; omega
  rw [e, Int.add_mul, Int.add_mul, Int.mul_add, Int.mul_add, Int.mul_assoc 2 k k]
  have : k * k * k + k * k * 1 = k * k * k + k * k := by rw [Int.mul_one]
  omega
theorem dots_lt {v : V} (hv : IsKd v) {k : Int} (hk : 1 ≤ k) : dotsV v k + 1 ≤ dotsV v (k + 1) := by
  rcases hv with ⟨s, rfl, h1, h2⟩ | rfl
  · rw [dots_succ_int]
    have : 0 ≤ k * (s - 2) := Int.mul_nonneg (by omega) (by omega)
    omega
  · show k * k * k + 1 ≤ (k + 1) * (k + 1) * (k + 1)
    rw [cube_succ]
    have : 0 ≤ k * k := Int.mul_nonneg (by omega) (by omega)
    omega
theorem dots_one {v : V} (hv : IsKd v) : dotsV v 1 = 1 := by
  rcases hv with ⟨s, rfl, h1, h2⟩ | rfl
  · show 1 + (s - 2) * (1 * (1 - 1) / 2) = 1
    rw [show (1 * (1 - 1) / 2 : Int) = 0 by decide]; omega
  · rfl
theorem dots_mono {v : V} (hv : IsKd v) : ∀ (n : Nat) {k : Int}, 1 ≤ k → dotsV v k + n ≤ dotsV v (k + n)
  | 0, k, hk => by simp
  | n + 1, k, hk => by
    have h1 := dots_mono hv n hk
    have h2 := dots_lt hv (k := k + n) (by omega)
    have e : k + ((n + 1 : Nat) : Int) = k + n + 1 := by omega
    rw [e]; omega
theorem dots_le {v : V} (hv : IsKd v) {i j : Int} (h1 : 1 ≤ i) (h2 : i ≤ j) : dotsV v i + (j - i) ≤ dotsV v j := by
  have h := dots_mono hv (j - i).toNat h1
  have e : i + ((j - i).toNat : Int) = j := by omega
  rw [e] at h
  omega
theorem dots_ge {v : V} (hv : IsKd v) {k : Int} (hk : 1 ≤ k) : k ≤ dotsV v k := by
  have h := dots_le hv (i := 1) (j := k) (by omega) hk
  rw [dots_one hv] at h
  omega
/-- the numbers of a kind to a bound: the first n -/
def dotsN (v : V) (n : Nat) : List Int := (List.range n).map fun (j : Nat) => dotsV v ((j : Int) + 1)
theorem dotsN_succ (v : V) (n : Nat) : dotsN v (n + 1) = dotsN v n ++ [dotsV v ((n : Int) + 1)] := by
  unfold dotsN
  rw [List.range_succ, List.map_append]; rfl
theorem dotsN_len (v : V) (n : Nat) : (dotsN v n).length = n := by unfold dotsN; simp
section
variable {G : Gx} {H : Hp} {Q : VK} {E : XK}
def DotsT (H : Hp) (v : V) (most : Int) (l : Addr) (m : Nat) (σ : L2.St) (H' : Hp) : Prop := ∃ (n : Nat) (more : Int), σ = [some v, some (.int most), some (.ref l), some (.int ((n : Int) + 1)), some (.int (dotsV v ((n : Int) + 1))), some (.int more)] ∧
  Same H H' ∧ H' l = some (.lst ((dotsN v n).map V.int)) ∧ m = most.toNat + 1 - n ∧ (∀ j < n, dotsV v ((j : Int) + 1) ≤ most) ∧ (∀ s, v = .int s → more = 1 + (n : Int) * (s - 2))
theorem u_law_dots {v : V} {most : Int} (hv : IsKd v) (h0 : 0 ≤ most) (h1 : most ≤ 100000)
    (h : ∀ l n H', Same H H' → H l = none → H' l = some (.lst ((dotsN v n).map V.int)) → (∀ j < n, dotsV v ((j : Int) + 1) ≤ most) → most < dotsV v ((n : Int) + 1) → Q (.ref l) H') : sp_law_dots G [v, .int most] H Q E := by
  refine ⟨rfl, ?_⟩
  unfold t_law_dots
  wtm_at "w"
  refine ⟨Nat.zero_le _, fun l nl => ?_⟩
  wtm_at "w"
  refine i_while (DotsT H v most l) (most.toNat + 1) ⟨0, 1, ?_, same_new nl, upd_same, by omega, fun j hj => absurd hj (Nat.not_lt_zero _), fun s _ => by omega⟩ ?_
  · show _ = [some v, some (.int most), some (.ref l), some (.int (0 + 1)), some (.int (dotsV v (0 + 1))), some (.int 1)]
    rw [show (0 : Int) + 1 = 1 by rfl, dots_one hv]
    rfl
  · rintro m σ H' ⟨n, more, rfl, s, e, em, hj, hm⟩
    wtm_at "w"
    refine i_ite (fun hle => ?_) (fun hle => ?_)
    · refine i_turn ?_
      have hk := dots_ge hv (k := (n : Int) + 1) (by omega)
      wtm_at "w"
      refine ⟨.inl ⟨rfl, _, sq_of e⟩, ?_⟩
      wtm_at "w"
      refine i_app e (sz_lt (by simp [dotsN_len]; omega)) ?_
      wtm_at "w"
      have fin : ∀ more' : Int, (∀ s, v = .int s → more' = 1 + ((n + 1 : Nat) : Int) * (s - 2)) → ∃ m', m' < m ∧ DotsT H v most l m' [some v, some (.int most), some (.ref l), some (.int ((n : Int) + 1 + 1)), some (.int (dotsV v ((n : Int) + 1 + 1))), some (.int more')] (upd H' l (.lst ((dotsN v n).map V.int ++ [.int (dotsV v ((n : Int) + 1))]))) := fun more' hm' =>
        ⟨most.toNat + 1 - (n + 1), by omega, n + 1, more', by rw [show ((n + 1 : Nat) : Int) = (n : Int) + 1 by omega], same_mut s nl, by rw [upd_same, dotsN_succ, List.map_append]; rfl, rfl, fun j hj' => by
          by_cases z : j < n
          · exact hj j z
          · have z2 : j = n := by omega
            subst z2; exact hle, hm'⟩
      rcases hv with ⟨sd, rfl, h2, h3⟩ | rfl
      · wtm_at "w"
        have em2 := hm sd rfl
        have e1 : dotsV (.int sd) ((n : Int) + 1 + 1) = dotsV (.int sd) ((n : Int) + 1) + (more + sd - 2) := by
          rw [dots_succ_int, em2, Int.add_mul]; omega
        rw [← e1]
        refine fin _ fun s' hs' => ?_
        cases hs'
        rw [em2, show ((n + 1 : Nat) : Int) = (n : Int) + 1 by omega, Int.add_mul]; omega
      · wtm_at "w"
        refine i_pow ⟨by decide, by decide, by omega⟩ ?_
        wtm_at "w"
        have e1 : ((n : Int) + 1 + 1) ^ (3 : Int).toNat = dotsV (.str "cubes") ((n : Int) + 1 + 1) := by
          show ((n : Int) + 1 + 1) ^ 3 = ((n : Int) + 1 + 1) * ((n : Int) + 1 + 1) * ((n : Int) + 1 + 1)
          rw [Int.pow_succ, Int.pow_succ, Int.pow_succ, Int.pow_zero, Int.one_mul]
        rw [e1]
        refine fin _ fun s' hs' => ?_
        cases hs'
    · wtm_at "w"
      exact h l n H' s nl e hj (by omega)
end
/-! ### == of lists of plain things -/
def toD : V → PyData
  | .non => .none
  | .bl b => .bool b
  | .int i => .int i
  | .str s => .str s
  | _ => .none
def sV : V → Bool
  | .non => true
  | .int _ => true
  | .str s => PyData.strOk s
  | _ => false
theorem dp_sV {K : Fg} {H : Hp} : ∀ {v : V}, sV v = true → Dp K H v (toD v)
  | .non, _ => .non
  | .int i, _ => .int i
  | .str s, _ => .str s
  | .bl _, h => by cases h
  | .byt _, h => by cases h
  | .flt _, h => by cases h
  | .ref _, h => by cases h
  | .ty _, h => by cases h
theorem dpAll_sV {K : Fg} {H : Hp} : ∀ {xs : List V}, xs.all sV = true → DpAll K H xs (xs.map toD)
  | [], _ => .nil
  | x :: r, h => by
    rw [List.all_cons, Bool.and_eq_true] at h
    exact .cons (dp_sV h.1) (dpAll_sV h.2)
theorem lay_sV : ∀ {v : V}, sV v = true → (toD v).canLay0 = true ∧ (toD v).depth = 0
  | .non, _ => ⟨by simp [toD, PyData.canLay0], by simp [toD, PyData.depth]⟩
  | .int i, _ => ⟨by simp [toD, PyData.canLay0], by simp [toD, PyData.depth]⟩
  | .str s, h => ⟨by have h' : PyData.strOk s = true := h
                     simpa [toD, PyData.canLay0] using h', by simp [toD, PyData.depth]⟩
  | .bl _, h => by cases h
  | .byt _, h => by cases h
  | .flt _, h => by cases h
  | .ref _, h => by cases h
  | .ty _, h => by cases h
theorem layAll_sV : ∀ {xs : List V}, xs.all sV = true → PyData.canLayAll0 (xs.map toD) = true ∧ PyData.depthAll (xs.map toD) = 0
  | [], _ => ⟨by simp [PyData.canLayAll0], by simp [PyData.depthAll]⟩
  | x :: r, h => by
    rw [List.all_cons, Bool.and_eq_true] at h
    have h1 := lay_sV h.1
    have h2 := layAll_sV h.2
    exact ⟨by simp [PyData.canLayAll0, h1.1, h2.1], by simp [PyData.depthAll, h1.2, h2.2]⟩
theorem shaped_L {xs : List V} (h : xs.all sV = true) : SeqAt.shaped (.list (xs.map toD)) = true := by
  have h2 := layAll_sV h
  unfold SeqAt.shaped
  simp [PyData.canLay0, PyData.depth, h2.1, h2.2]
theorem eqv_sV : ∀ {x y : V}, sV x = true → sV y = true → PyData.eqv (toD x) (toD y) = decide (x = y)
  | .non, .non, _, _ => by simp [toD, PyData.eqv]
  | .non, .int _, _, _ => by simp [toD, PyData.eqv]
  | .non, .str _, _, _ => by simp [toD, PyData.eqv]
  | .int _, .non, _, _ => by simp [toD, PyData.eqv]
  | .int i, .int j, _, _ => by simp only [toD, PyData.eqv]; rw [Bool.eq_iff_iff]; simp
  | .int _, .str _, _, _ => by simp [toD, PyData.eqv]
  | .str _, .non, _, _ => by simp [toD, PyData.eqv]
  | .str _, .int _, _, _ => by simp [toD, PyData.eqv]
  | .str _, .str _, _, _ => by simp only [toD, PyData.eqv]; rw [Bool.eq_iff_iff]; simp
  | .bl _, _, h, _ => by cases h
  | .byt _, _, h, _ => by cases h
  | .flt _, _, h, _ => by cases h
  | .ref _, _, h, _ => by cases h
  | .ty _, _, h, _ => by cases h
  | _, .bl _, _, h => by cases h
  | _, .byt _, _, h => by cases h
  | _, .flt _, _, h => by cases h
  | _, .ref _, _, h => by cases h
  | _, .ty _, _, h => by cases h
theorem eqvAll_sV : ∀ {xs ys : List V}, xs.all sV = true → ys.all sV = true → PyData.eqvAll (xs.map toD) (ys.map toD) = decide (xs = ys)
  | [], [], _, _ => by simp [PyData.eqvAll]
  | [], _ :: _, _, _ => by simp [PyData.eqvAll]
  | _ :: _, [], _, _ => by simp [PyData.eqvAll]
  | x :: r, y :: q, h1, h2 => by
    rw [List.all_cons, Bool.and_eq_true] at h1 h2
    simp only [List.map_cons, PyData.eqvAll, eqv_sV h1.1 h2.1, eqvAll_sV h1.2 h2.2]
    rw [Bool.eq_iff_iff]
    simp
section
variable {K : Fg} {H : Hp} {Q : VK} {a b : Addr} {xs ys : List V}
theorem i_eqL (h1 : SqL K H a xs) (h2 : SqL K H b ys) (s1 : xs.all sV = true) (s2 : ys.all sV = true) (h : Q (.bl (decide (xs = ys))) H) : uEq K (.ref a) (.ref b) H Q :=
  .inr (.inl ⟨_, _, .lst h1 (dpAll_sV s1), .lst h2 (dpAll_sV s2), shaped_L s1, shaped_L s2, by
    have e : PyData.eqv (.list (xs.map toD)) (.list (ys.map toD)) = decide (xs = ys) := by simp only [PyData.eqv]; exact eqvAll_sV s1 s2
    rw [e]; exact h⟩)
theorem i_neL (h1 : SqL K H a xs) (h2 : SqL K H b ys) (s1 : xs.all sV = true) (s2 : ys.all sV = true) (h : Q (.bl (!decide (xs = ys))) H) : uNe K (.ref a) (.ref b) H Q :=
  .inr (.inl ⟨_, _, .lst h1 (dpAll_sV s1), .lst h2 (dpAll_sV s2), shaped_L s1, shaped_L s2, by
    have e : PyData.eqv (.list (xs.map toD)) (.list (ys.map toD)) = decide (xs = ys) := by simp only [PyData.eqv]; exact eqvAll_sV s1 s2
    rw [e]; exact h⟩)
end
theorem ints_sV (ns : List Int) : (ns.map V.int).all sV = true := by
  induction ns with
  | nil => rfl
  | cons n r ih => rw [List.map_cons, List.all_cons, ih]; rfl
theorem ints_flat (ns : List Int) : (ns.map V.int).all flatV = true := by
  induction ns with
  | nil => rfl
  | cons n r ih => rw [List.map_cons, List.all_cons, ih]; rfl
theorem mapInt_inj {xs ys : List Int} : xs.map V.int = ys.map V.int ↔ xs = ys := by
  constructor
  · intro h
    induction xs generalizing ys with
    | nil => cases ys with
      | nil => rfl
      | cons => cases h
    | cons x r ih => cases ys with
      | nil => cases h
      | cons y q =>
        simp only [List.map_cons, List.cons.injEq, V.int.injEq] at h
        rw [h.1, ih h.2]
  · intro h; rw [h]
theorem inV_int {n : Int} {ns : List Int} : inV (.int n) (ns.map V.int) = decide (n ∈ ns) := by
  rw [Bool.eq_iff_iff]
  simp only [inV, List.any_eq_true, List.mem_map, decide_eq_true_eq]
  constructor
  · rintro ⟨x, ⟨m, hm, rfl⟩, e⟩
    have : m = n := by simpa [eqV] using e
    rw [← this]; exact hm
  · intro h
    exact ⟨.int n, ⟨n, h, rfl⟩, by simp [eqV]⟩
theorem kd_sV {v : V} (h : IsKd v) : sV v = true := by
  rcases h with ⟨s, rfl, _⟩ | rfl
  · rfl
  · decide +kernel
theorem kd_flat {v : V} (h : IsKd v) : flatV v = true := by
  rcases h with ⟨s, rfl, _⟩ | rfl <;> rfl
theorem kds_sV {ks : List V} (h : ∀ v ∈ ks, IsKd v) : ks.all sV = true := by
  rw [List.all_eq_true]; exact fun v hv => kd_sV (h v hv)
theorem kds_flat {ks : List V} (h : ∀ v ∈ ks, IsKd v) : ks.all flatV = true := by
  rw [List.all_eq_true]; exact fun v hv => kd_flat (h v hv)
theorem eqV_kd {v w : V} (hv : IsKd v) (hw : IsKd w) : eqV v w = decide (v = w) := by
  rcases hv with ⟨s, rfl, _⟩ | rfl <;> rcases hw with ⟨t, rfl, _⟩ | rfl
  · simp only [eqV]; rw [Bool.eq_iff_iff]; simp
  · simp [eqV]
  · simp [eqV]
  · simp [eqV]
theorem inV_kd {v : V} {ks : List V} (hv : IsKd v) (hk : ∀ w ∈ ks, IsKd w) : inV v ks = decide (v ∈ ks) := by
  rw [Bool.eq_iff_iff]
  simp only [inV, List.any_eq_true, decide_eq_true_eq]
  constructor
  · rintro ⟨x, hx, e⟩
    rw [eqV_kd (hk x hx) hv] at e
    rw [← of_decide_eq_true e]; exact hx
  · intro h
    exact ⟨v, h, by rw [eqV_kd hv hv]; simp⟩
/-! ### slices -/
theorem cut_take {xs : List V} {n : Nat} (h : n ≤ xs.length) : cutV xs none (some (n : Int)) = xs.take n := by
  unfold cutV
  rw [show HT.sIx xs.length 0 none = 0 from HT.sIx_none _ _, HT.sIx_nat]
  simp [Nat.min_eq_left h]
/-! ### kinds -/
structure KdL (ks : List V) : Prop where
  kd : ∀ v ∈ ks, IsKd v
  nd : ks.Nodup
  lo : 1 ≤ ks.length
  hi : ks.length ≤ 5
section
variable {G : Gx} {H : Hp} {Q : VK} {E : XK} {a : Addr} {ks : List V}
theorem given_none (n : Nat) : given (fun _ => none) n = [] := by
  induction n with
  | zero => rfl
  | succ n ih => show given _ n ++ [] = []; rw [ih]; rfl
theorem u_are_kinds (ha : H a = some (.lst ks)) (hk : KdL ks) (h : ∀ H', Same H H' → Q (.bl true) H') : sp_are_kinds G [.ref a] H Q E := by
  refine ⟨rfl, ?_⟩
  unfold t_are_kinds
  wtm_at "wa"
  refine i_isiLL ha ?_
  wtm_at "wa"
  refine i_lenL (sq_of ha) ?_
  wtm_at "wa"
  have h1 := hk.lo
  have h5 := hk.hi
  refine i_T (by simp; omega) ?_
  wtm_at "wa"
  refine i_F (by simp; omega) ?_
  wtm_at "wa"
  refine i_lstA (sq_of ha) ?_
  refine lck_pure walk_list (by omega) (fun _ => none) (fun H' s => sq_of (s _ _ ha)) (fun i x H1 H2 KK NN hi s y hK hN => ?_) (fun p H1 np s1 e1 => ?_)
  · obtain ⟨rfl, hx⟩ := y
    wtm_at "w"
    refine ⟨rfl, ?_⟩
    wtm_at "w"
    refine u_is_kind (hk.kd x (List.mem_of_getElem? hx)) ?_
    wtm_at "w"
    exact hN _ rfl (fun _ _ z => z)
  · rw [given_none] at e1
    wtm_at "w"
    refine ⟨Nat.zero_le _, fun q nq => ?_⟩
    refine i_neL (xs := []) (ys := []) (sq_of (by rw [upd_ne (ne_of_none e1 nq)]; exact e1)) (sq_of upd_same) rfl rfl ?_
    wtm_at "w"
    have s2 : Same H (upd H1 q (.lst [])) := s1.trans (same_new nq)
    generalize upd H1 q (.lst []) = H2 at s2 ⊢
    refine i_enumA (sq_of (s2 _ _ ha)) ?_
    refine lck_pure walk_enum (by omega) (fun _ => none) (fun H' s => sq_of (s _ _ (s2 _ _ ha))) (fun i x H3 H4 KK NN hi s y hK hN => ?_) (fun p H3 np s3 e3 => ?_)
    · obtain ⟨T, x1, x2, rfl, nT, rfl, h1', h2'⟩ := y
      cases h1'
      have e4 : (upd H3 T (.tup [.int (i : Nat), x2])) a = some (.lst ks) := by
        rw [upd_ne (ne_of_none (s _ _ (s2 _ _ ha)) nT)]; exact s _ _ (s2 _ _ ha)
      have s4 : Same H3 (upd H3 T (.tup [.int (i : Nat), x2])) := same_new nT
      refine ⟨T, _, rfl, st_of upd_same, rfl, _, _, rfl, ?_⟩
      generalize upd H3 T (.tup [.int (i : Nat), x2]) = H4 at e4 s4 ⊢
      refine ⟨_, _, rfl, rfl, ?_⟩
      refine ⟨rfl, ?_⟩
      wtm_at "w"
      refine i_slL (sq_of e4) fun q2 nq2 => ?_
      rw [cut_take (by omega)]
      have hx2 : x2 ∈ ks := List.mem_of_getElem? h2'
      refine i_inL (sq_of upd_same) (kd_flat (hk.kd _ hx2)) (kds_flat fun v hv => hk.kd v (List.mem_of_mem_take hv)) ?_
      wtm_at "w"
      rw [inV_kd (hk.kd _ hx2) (fun v hv => hk.kd v (List.mem_of_mem_take hv))]
      refine i_F ?_ ?_
      · rw [decide_eq_false]
        intro hm
        obtain ⟨j, hj, ej⟩ := List.getElem_of_mem hm
        rw [List.length_take] at hj
        rw [List.getElem_take] at ej
        have e5 : ks[j]? = some x2 := by rw [List.getElem?_eq_getElem (by omega), ej]
        have := nd_ix hk.nd e5 h2'
        omega
      · exact hN _ rfl (s4.trans (same_new nq2))
    · rw [given_none] at e3
      wtm_at "w"
      refine ⟨Nat.zero_le _, fun q2 nq2 => ?_⟩
      refine i_eqL (xs := []) (ys := []) (sq_of (by rw [upd_ne (ne_of_none e3 nq2)]; exact e3)) (sq_of upd_same) rfl rfl ?_
      exact h _ ((s2.trans s3).trans (same_new nq2))
theorem u_need_kinds (ha : H a = some (.lst ks)) (hk : KdL ks) (h : ∀ H', Same H H' → Q .non H') : sp_need_kinds G [.ref a] H Q E := by
  refine ⟨rfl, ?_⟩
  unfold t_need_kinds
  wtm_at "w"
  refine u_are_kinds ha hk fun H' s => ?_
  wtm_at "w"
  exact h H' s
theorem u_need_to_most {n : Int} (h0 : 0 ≤ n) (h1 : n ≤ 200) (h : Q .non H) : sp_need_to_most G [.int n] H Q E := by
  refine ⟨rfl, ?_⟩
  unfold t_need_to_most
  wtm_at "wa"
  refine u_is_whole_int ?_
  wtm_at "wa"
  refine i_T (by simp; omega) ?_
  wtm_at "wa"
  refine i_F (by simp; omega) ?_
  wtm_at "wa"
  exact h
end
/-! ### a dict that is used as a set of ints -/
def insI (ks : List Int) (n : Int) : List Int := if n ∈ ks then ks else ks ++ [n]
theorem mem_insI {ks : List Int} {n x : Int} : x ∈ insI ks n ↔ x ∈ ks ∨ x = n := by
  unfold insI
  split
  · constructor
    · exact .inl
    · rintro (h | rfl)
      · exact h
      · assumption
  · simp
theorem nd_insI {ks : List Int} {n : Int} (h : ks.Nodup) : (insI ks n).Nodup := by
  unfold insI
  split
  · exact h
  · rename_i hn
    rw [List.nodup_append]
    refine ⟨h, by simp, fun a ha b hb => ?_⟩
    have : b = n := by simpa using hb
    subst this
    exact fun z => hn (z ▸ ha)
theorem len_insI (ks : List Int) (n : Int) : (insI ks n).length ≤ ks.length + 1 := by
  unfold insI
  split
  · omega
  · simp
theorem keys_put {kvs : List (Key × V)} {ks : List Int} (e : kvs.map (·.1) = ks.map Sum.inl) (n : Int) (v : V) : (putK kvs (Sum.inl n) v).map (·.1) = (insI ks n).map Sum.inl := by
  have hm : (kvs.any fun kv => decide (kv.1 = Sum.inl n)) = true ↔ n ∈ ks := by
    rw [List.any_eq_true]
    constructor
    · rintro ⟨kv, hk, z⟩
      have z' : kv.1 = Sum.inl n := of_decide_eq_true z
      have : kv.1 ∈ kvs.map (·.1) := List.mem_map.mpr ⟨kv, hk, rfl⟩
      rw [e, z'] at this
      simpa using this
    · intro h
      have : (Sum.inl n : Key) ∈ kvs.map (·.1) := by rw [e]; exact List.mem_map.mpr ⟨n, h, rfl⟩
      obtain ⟨kv, hk, z⟩ := List.mem_map.mp this
      exact ⟨kv, hk, by simpa using z⟩
  unfold putK insI
  by_cases h : n ∈ ks
  · rw [if_pos (hm.mpr h), if_pos h, List.map_map, ← e]
    refine List.map_congr_left fun kv _ => ?_
    show (if kv.1 = Sum.inl n then (kv.1, v) else kv).1 = kv.1
    split <;> rfl
  · rw [if_neg (fun z => h (hm.mp z)), if_neg h, List.map_append, List.map_append, e]; rfl
/-- at f a dict whose keys are the ints ks -/
def DI (H : Hp) (f : Addr) (ks : List Int) : Prop := ∃ kvs, H f = some (.dK kvs) ∧ kvs.map (·.1) = ks.map Sum.inl
theorem DI.same {H H' : Hp} {f : Addr} {ks : List Int} (d : DI H f ks) (s : Same H H') : DI H' f ks := by
  obtain ⟨kvs, e, k⟩ := d
  exact ⟨kvs, s _ _ e, k⟩
theorem DI.len {H : Hp} {f : Addr} {ks : List Int} {kvs : List (Key × V)} (k : kvs.map (·.1) = ks.map Sum.inl) : kvs.length = ks.length := by
  have := congrArg List.length k
  simpa using this
theorem i_setD {H : Hp} {f : Addr} {ks : List Int} {n : Int} {v : V} {R : Hp → Prop} (d : DI H f ks) (hl : ks.length < 1000000) (h : ∀ kvs, DI (upd H f (.dK kvs)) f (insI ks n) → R (upd H f (.dK kvs))) : uSet (.ref f) (.int n) v H R := by
  obtain ⟨kvs, e, k⟩ := d
  refine .inr ⟨f, _, rfl, DPut.k (k := Sum.inl n) e (sz_lt (by rw [DI.len (H := H) (f := f) k]; exact hl)), h _ ⟨_, upd_same, keys_put k n v⟩⟩
theorem i_sortedD {K : Fg} {H : Hp} {f : Addr} {ks : List Int} {Q : VK} (d : DI H f ks) (h : ∀ (ys : List Int) (p : Addr), ys.Perm ks → ys.Pairwise (· ≤ ·) → H p = none → Q (.ref p) (upd H p (.lst (ys.map V.int)))) : uSorted K [.ref f] H Q := by
  obtain ⟨kvs, e, k⟩ := d
  exact .inr ⟨f, kvs, ks, rfl, .inl e, k, h⟩
theorem i_sortedL {K : Fg} {H : Hp} {a : Addr} {ks : List Int} {Q : VK} (d : SqL K H a (ks.map V.int)) (h : ∀ (ys : List Int) (p : Addr), ys.Perm ks → ys.Pairwise (· ≤ ·) → H p = none → Q (.ref p) (upd H p (.lst (ys.map V.int)))) : uSorted K [.ref a] H Q := .inl ⟨a, ks, rfl, d, h⟩
/-! ### stocks -/
def IsDot (ks : List V) (x : Int) : Prop := ∃ v ∈ ks, ∃ k : Int, 1 ≤ k ∧ dotsV v k = x
structure StockOf (ks : List V) (b : Int) (L : List Int) : Prop where
  up : L.Pairwise (· < ·)
  mem : ∀ x, x ∈ L ↔ x ≤ b ∧ IsDot ks x
theorem lt_of_le_nd : ∀ {l : List Int}, l.Pairwise (· ≤ ·) → l.Nodup → l.Pairwise (· < ·)
  | [], _, _ => .nil
  | x :: r, h, n => by
    rw [List.pairwise_cons] at h ⊢
    rw [List.nodup_cons] at n
    exact ⟨fun y hy => by
      have h1 := h.1 y hy
      have h2 : x ≠ y := fun z => n.1 (z ▸ hy)
      omega, lt_of_le_nd h.2 n.2⟩
theorem up_ext : ∀ {l m : List Int}, l.Pairwise (· < ·) → m.Pairwise (· < ·) → (∀ x, x ∈ l ↔ x ∈ m) → l = m
  | [], [], _, _, _ => rfl
  | [], y :: q, _, _, h => by have := (h y).mpr (by simp); simp at this
  | x :: r, [], _, _, h => by have := (h x).mp (by simp); simp at this
  | x :: r, y :: q, h1, h2, h => by
    rw [List.pairwise_cons] at h1 h2
    have exy : x = y := by
      have a := (h x).mp (by simp)
      have b := (h y).mpr (by simp)
      rcases List.mem_cons.mp a with z | z
      · exact z
      · rcases List.mem_cons.mp b with w | w
        · exact w.symm
        · have := h2.1 x z
          have := h1.1 y w
          omega
    subst exy
    rw [up_ext h1.2 h2.2 fun z => ?_]
    have hz := h z
    constructor
    · intro m
      rcases List.mem_cons.mp (hz.mp (List.mem_cons_of_mem _ m)) with w | w
      · have := h1.1 z m; omega
      · exact w
    · intro m
      rcases List.mem_cons.mp (hz.mpr (List.mem_cons_of_mem _ m)) with w | w
      · have := h2.1 z m; omega
      · exact w
theorem StockOf.uniq {ks : List V} {b : Int} {L M : List Int} (h : StockOf ks b L) (g : StockOf ks b M) : L = M := up_ext h.up g.up fun x => by rw [h.mem, g.mem]
/-- ahead of kind i, and in kind i ahead of its k-th -/
def InSt (ks : List V) (b : Int) (i : Nat) (v : V) (k : Int) (x : Int) : Prop := x ≤ b ∧ (IsDot (ks.take i) x ∨ ∃ j : Int, 1 ≤ j ∧ j < k ∧ dotsV v j = x)
theorem isDot_take {ks : List V} {i : Nat} {v : V} (hi : ks[i]? = some v) (x : Int) : IsDot (ks.take (i + 1)) x ↔ IsDot (ks.take i) x ∨ ∃ j : Int, 1 ≤ j ∧ dotsV v j = x := by
  unfold IsDot
  rw [List.take_add_one, hi]
  constructor
  · rintro ⟨w, hw, k, h1, h2⟩
    rcases List.mem_append.mp hw with hw | hw
    · exact .inl ⟨w, hw, k, h1, h2⟩
    · have : w = v := by simpa using hw
      subst this
      exact .inr ⟨k, h1, h2⟩
  · rintro (⟨w, hw, k, h1, h2⟩ | ⟨j, h1, h2⟩)
    · exact ⟨w, List.mem_append_left _ hw, k, h1, h2⟩
    · exact ⟨v, List.mem_append_right _ (by simp), j, h1, h2⟩
section
variable {G : Gx} {H : Hp} {Q : VK} {E : XK} {a : Addr} {ks : List V}
def StkO (H : Hp) (a f : Addr) (ks : List V) (b : Int) (i : Nat) (σ : L2.St) (H' : Hp) : Prop := ∃ y3 y4 keys, σ = [some (.ref a), some (.int b), some (.ref f), y3, y4] ∧ Same H H' ∧ DI H' f keys ∧ keys.Nodup ∧ keys.length ≤ 1000 * i ∧ ∀ x, x ∈ keys ↔ x ≤ b ∧ IsDot (ks.take i) x
def StkI (H : Hp) (a f : Addr) (ks : List V) (b : Int) (i : Nat) (v : V) (m : Nat) (σ : L2.St) (H' : Hp) : Prop := ∃ (k : Int) (keys : List Int), σ = [some (.ref a), some (.int b), some (.ref f), some v, some (.int k)] ∧ 1 ≤ k ∧ k ≤ b + 1 ∧ m = (b + 1 - k).toNat ∧ Same H H' ∧ DI H' f keys ∧ keys.Nodup ∧ (keys.length : Int) ≤ 1000 * i + k ∧ ∀ x, x ∈ keys ↔ InSt ks b i v k x
theorem u_stock_of {b : Int} (ha : SqL G.K H a ks) (hk : ∀ v ∈ ks, IsKd v) (hn : ks.length ≤ 100) (h0 : 0 ≤ b) (h1 : b ≤ 900) (h : ∀ p L H', Same H H' → H p = none → H' p = some (.lst (L.map V.int)) → StockOf ks b L → Q (.ref p) H') : sp_stock_of G [.ref a, .int b] H Q E := by
  refine ⟨rfl, ?_⟩
  unfold t_stock_of
  wtm_at "w"
  intro f nf
  wtm_at "w"
  have s1 : Same H (upd H f (.dK [])) := same_new nf
  refine i_lstA (s1.seq ha) ?_
  refine lk_list (StkO H a f ks b) ⟨_, _, [], rfl, s1, ⟨[], upd_same, rfl⟩, List.nodup_nil, by simp, fun x => ?_⟩ (fun i σ H' _ ⟨_, _, _, _, s, _⟩ => s.seq ha) ?_ ?_
  · simp [IsDot]
  · rintro i v σ H2 hi ⟨y3, y4, keys, rfl, s, d, nd, hl, hm⟩
    have hv := hk v (List.mem_of_getElem? hi)
    have hi' : i < ks.length := (List.getElem?_eq_some_iff.mp hi).1
    wtm_at "w"
    refine i_while (StkI H a f ks b i v) b.toNat ⟨1, keys, rfl, by omega, by omega, by omega, s, d, nd, by omega, fun x => ?_⟩ ?_
    · rw [hm]
      unfold InSt
      constructor
      · rintro ⟨z1, z2⟩; exact ⟨z1, .inl z2⟩
      · rintro ⟨z1, z2 | ⟨j, z2, z3, _⟩⟩
        · exact ⟨z1, z2⟩
        · omega
    · rintro m σ H3 ⟨k, keys, rfl, k1, k2, em, s3, d3, nd3, hl3, hm3⟩
      have hge := dots_ge hv k1
      wtm_at "w"
      refine u_dots hv (by omega) (by omega) ?_
      wtm_at "w"
      refine i_ite (fun hle => ?_) (fun hle => ?_)
      · refine i_turn ?_
        wtm_at "w"
        refine u_dots hv (by omega) (by omega) ?_
        refine i_setD d3 (by omega) fun kvs d4 => ?_
        wtm_at "w"
        refine ⟨(b + 1 - (k + 1)).toNat, by omega, k + 1, insI keys (dotsV v k), rfl, by omega, by omega, rfl, same_mut s3 nf, d4, nd_insI nd3, by have := len_insI keys (dotsV v k); omega, fun x => ?_⟩
        rw [mem_insI, hm3]
        unfold InSt
        constructor
        · rintro (⟨z1, z2 | ⟨j, z2, z3, z4⟩⟩ | rfl)
          · exact ⟨z1, .inl z2⟩
          · exact ⟨z1, .inr ⟨j, z2, by omega, z4⟩⟩
          · exact ⟨hle, .inr ⟨k, k1, by omega, rfl⟩⟩
        · rintro ⟨z1, z2 | ⟨j, z2, z3, z4⟩⟩
          · exact .inl ⟨z1, .inl z2⟩
          · by_cases z : j = k
            · subst z; exact .inr z4.symm
            · exact .inl ⟨z1, .inr ⟨j, z2, by omega, z4⟩⟩
      · refine ⟨_, _, keys, rfl, s3, d3, nd3, by omega, fun x => ?_⟩
        rw [hm3, isDot_take hi]
        unfold InSt
        constructor
        · rintro ⟨z1, z2 | ⟨j, z2, z3, z4⟩⟩
          · exact ⟨z1, .inl z2⟩
          · exact ⟨z1, .inr ⟨j, z2, z4⟩⟩
        · rintro ⟨z1, z2 | ⟨j, z2, z4⟩⟩
          · exact ⟨z1, .inl z2⟩
          · refine ⟨z1, .inr ⟨j, z2, ?_, z4⟩⟩
            by_cases z : j < k
            · exact z
            · have := dots_le hv k1 (show k ≤ j by omega)
              omega
  · rintro σ H2 ⟨y3, y4, keys, rfl, s, d, nd, hl, hm⟩
    wtm_at "w"
    refine i_sortedD d fun ys p perm srt np => ?_
    refine h p ys _ (s.trans (same_new np)) (s.free np) upd_same ⟨lt_of_le_nd srt (perm.symm.nodup nd), fun x => ?_⟩
    rw [perm.mem_iff, hm, List.take_length]
end
/-! ### what stands in a heap -/
theorem upd_old {H : Hp} {a p : Addr} {o u : HO} (np : H p = none) (e : H a = some o) : upd H p u a = some o := by rw [upd_ne (ne_of_none e np)]; exact e
theorem same_at {H H' : Hp} {a : Addr} {o : HO} (s : Same H H') (e : H a = some o) : H' a = some o := s a o e
theorem i_tyL {K : Fg} {H : Hp} {a : Addr} {xs : List V} {P : Prop} (e : H a = some (.lst xs)) (h : P) : tyV K "list" (.ref a) H ∧ P := ⟨.inl ⟨rfl, _, sq_of e⟩, h⟩
theorem i_new {n : Nat} {P : Prop} (hn : n ≤ 1000) (h : P) : n ≤ sizeLine ∧ P := ⟨sz_le (by omega), h⟩
theorem i_popAt {H : Hp} {l : Addr} {xs : List V} {i : Int} {k : Nat} {Q : VK} (e : H l = some (.lst xs)) (ei : i = (k : Int)) (hk : k < xs.length) (hz : xs.length ≤ 1000) (h : Q xs[k] (upd H l (.lst (xs.eraseIdx k)))) : rPopAt (.ref l) [.int i] H Q :=
  ⟨l, xs, i, k, xs[k], rfl, rfl, e, by omega, by omega, by rw [seqIndex_of (by omega) (by omega), ei]; rfl, List.getElem?_eq_getElem hk, h⟩
theorem i_ulist {K : Fg} {H : Hp} {p : Addr} {ys : List V} {Q : VK} (e : SqL K H p ys) (h : ∀ l, H l = none → Q (.ref l) (upd H l (.lst ys))) : uList K [.ref p] H Q := .inl ⟨p, ys, rfl, .inl e, h⟩
local macro_rules | `(tactic| wtm_at "hp") => `(tactic| solve_by_elim (maxDepth := 14) only [*, upd_same, upd_old, same_at, sq_of, st_of])
/-! ### drawing -/
/-- what draws: of a part of the heap of its own -/
def Drw (W : Wd) (sp : Sp) (s : V) : Prop := ∀ (H : Hp) (many : Int) (Q : VK) (E : XK), W.I H → 0 < many → many < 2 ^ 64 → (∀ r H', 0 ≤ r → r < many → Kp W H H' → Q (.int r) H') → sp [s, .int many] H Q E
def kinds11 : List V := [.int 3, .int 4, .int 5, .int 6, .int 7, .int 8, .int 9, .int 10, .int 11, .int 12, .str "cubes"]
theorem kinds11_kd {x : V} (h : x ∈ kinds11) : IsKd x := by
  simp only [kinds11, List.mem_cons, List.not_mem_nil, or_false] at h
  rcases h with rfl | rfl | rfl | rfl | rfl | rfl | rfl | rfl | rfl | rfl | rfl
  all_goals first | exact .inr rfl | exact .inl ⟨_, rfl, by decide, by decide⟩
theorem kinds11_nd : kinds11.Nodup := by decide
theorem erase_perm : ∀ (l : List V) {k : Nat} (h : k < l.length), ([l[k]] ++ l.eraseIdx k).Perm l
  | [], _, h => absurd h (Nat.not_lt_zero _)
  | x :: r, 0, _ => List.Perm.refl _
  | x :: r, k + 1, h => by
    have h' : k < r.length := by simpa using h
    show (r[k] :: x :: r.eraseIdx k).Perm (x :: r)
    exact (List.Perm.swap _ _ _).trans ((erase_perm r h').cons x)
theorem perm_pop {ks rest : List V} {k : Nat} (hk : k < rest.length) : ((ks ++ [rest[k]]) ++ rest.eraseIdx k).Perm (ks ++ rest) := by
  rw [List.append_assoc]
  exact (erase_perm rest hk).append_left ks
theorem kdl_of {ks rest : List V} (p : (ks ++ rest).Perm kinds11) (h1 : 1 ≤ ks.length) (h5 : ks.length ≤ 5) : KdL ks :=
  ⟨fun v hv => kinds11_kd (p.mem_iff.mp (List.mem_append_left _ hv)), (List.nodup_append.mp (p.nodup_iff.mpr kinds11_nd)).1, h1, h5⟩
section
variable {G : Gx} {H H0 : Hp} {Q : VK} {E : XK} {W : Wd}
def PopT (W : Wd) (H0 H : Hp) (l D : Addr) (i : Nat) (H' : Hp) : Prop := H0 D = none ∧ D ≠ l ∧ Kp W H0 H' ∧ ∃ ks rest, H' D = some (.lst ks) ∧ H' l = some (.lst rest) ∧ ks.length = i ∧ rest.length = 11 - i ∧ (ks ++ rest).Perm kinds11
theorem lc_pop {sp : Sp} {s : V} {σ : L2.St} {iv il is m : Nat} {l : Addr} (dr : Drw W sp s) (i0 : W.I H0) (k0 : Kp W H0 H) (n0 : H0 l = none) (e : H l = some (.lst kinds11)) (hm : m ≤ 5)
    (h1 : ∀ x, ((wipe σ [iv]).set iv (some x))[il]? = some (some (.ref l))) (h2 : ∀ x, ((wipe σ [iv]).set iv (some x))[is]? = some (some s)) (h3 : ∀ x, wipe ((wipe σ [iv]).set iv (some x)) [iv] = wipe σ [iv])
    (fin : ∀ p ks rest H', Kp W H0 H' → H0 p = none → At W H' p (.lst ks) → (ks ++ rest).Perm kinds11 → ks.length = m → Q (.ref p) H') :
    LcK (Itr 0 m) (gName iv) tYes (tBM G.K "list" rPopAt (tVar il) (tCons (tCall sp [] E0 (tCons (tVar is) (tCons (tCB (uLen G.K) (tCons (tVar il) tNil)) tNil))) tNil)) [iv] σ H Q := by
  have rl : ¬ W.R l := Wd.notR i0 n0
  refine lck walk_range (fun D i H' => PopT W H0 H l D i H') (fun D hD => ⟨k0.free hD, (ne_of_none e hD).symm, k0.new hD, [], kinds11, upd_same, upd_old hD e, rfl, rfl, List.Perm.refl _⟩) (fun _ _ _ _ _ => trivial) (fun D i x H1 H2 hi p y => ?_) (fun D H' hD p => ?_)
  · obtain ⟨nD, nDl, k1, ks, rest, eD, el, l1, l2, pm⟩ := p
    obtain ⟨rfl, rfl⟩ := y
    have rD : ¬ W.R D := Wd.notR i0 nD
    wtm_at "w"
    refine ⟨h3 _, ?_⟩
    wtm_at "w"
    refine i_var (h1 _) ?_
    refine i_tyL el ?_
    wtm_at "w"
    refine i_var (h2 _) ?_
    wtm_at "w"
    refine i_var (h1 _) ?_
    wtm_at "w"
    refine i_lenL (sq_of el) ?_
    wtm_at "w"
    refine dr _ _ _ _ k1.i (by omega) (by omega) fun r H3 r0 r1 k3 => ?_
    wtm_at "w"
    have k13 := k1.trans k3
    have el3 := (k3.at ⟨el, rl⟩).h
    have eD3 := (k3.at ⟨eD, rD⟩).h
    refine i_popAt (k := r.toNat) el3 (by omega) (by omega) (by omega) ?_
    have hk : r.toNat < rest.length := by omega
    refine ⟨ks, by rw [upd_ne nDl]; exact eD3, sz_lt (by omega), nD, nDl, (k13.mut n0 rl).mut nD rD, ks ++ [rest[r.toNat]], rest.eraseIdx r.toNat, upd_same, by rw [upd_ne nDl.symm, upd_same], by simp [l1], by rw [List.length_eraseIdx_of_lt hk]; omega, (perm_pop hk).trans pm⟩
  · obtain ⟨nD, nDl, k1, ks, rest, eD, el, l1, l2, pm⟩ := p
    exact fin D ks rest H' k1 nD ⟨eD, Wd.notR i0 nD⟩ pm l1
end
section
variable {G : Gx} {H : Hp} {Q : VK} {E : XK} {d pl : Addr} {ps : List Addr}
theorem drw_deck : Drw (deckW d pl ps) (sp_law_draw G) (.ref d) := fun _ _ _ _ i h0 h1 h => u_law_draw i h0 h1 h
/-- one of a new list of three numbers, by a draw -/
theorem u_law_some_kinds (i : DkI d pl ps H) (h : ∀ p ks H', Kp (deckW d pl ps) H H' → H p = none → At (deckW d pl ps) H' p (.lst ks) → KdL ks → Q (.ref p) H') : sp_law_some_kinds G [.ref d] H Q E := by
  refine ⟨rfl, ?_⟩
  unfold t_law_some_kinds
  wtm_at "w"
  refine i_new (by simp) fun l nl => ?_
  wtm_at "w"
  have k1 : Kp (deckW d pl ps) H (upd H l (.lst kinds11)) := (Kp.refl (W := deckW d pl ps) i).new nl
  have e1 : (upd H l (.lst kinds11)) l = some (.lst kinds11) := upd_same
  show sp_law_draw _ _ (upd H l (.lst kinds11)) _ _
  generalize upd H l (.lst kinds11) = H1 at k1 e1 ⊢
  have rl : ¬ (deckW d pl ps).R l := Wd.notR (W := deckW d pl ps) i nl
  refine u_law_draw k1.i (by decide) (by decide) fun r2 H3 c1 c2 k3 => ?_
  wtm_at "w"
  refine i_new (by simp) fun q nq => ?_
  wtm_at "w"
  have k4 := (k1.trans k3).new (o := .lst [.int (1 + r2), .int 1, .int 2]) nq
  have e4 : At (deckW d pl ps) (upd H3 q (.lst [.int (1 + r2), .int 1, .int 2])) q (.lst [.int (1 + r2), .int 1, .int 2]) := At.new k3.i nq
  have el4 : At (deckW d pl ps) (upd H3 q (.lst [.int (1 + r2), .int 1, .int 2])) l (.lst kinds11) := (k3.at ⟨e1, rl⟩).same (same_new nq)
  generalize upd H3 q (.lst [.int (1 + r2), .int 1, .int 2]) = H4 at k4 e4 el4 ⊢
  refine u_law_draw k4.i (by decide) (by decide) fun r1 H5 b1 b2 k5 => ?_
  obtain ⟨m, em, m1, m5⟩ : ∃ m : Nat, atI [V.int (1 + r2), .int 1, .int 2] r1 = some (.int m) ∧ 1 ≤ m ∧ m ≤ 5 := by
    have hr : r1 = 0 ∨ r1 = 1 ∨ r1 = 2 := by omega
    rcases hr with rfl | rfl | rfl
    · exact ⟨(1 + r2).toNat, by rw [show ((1 + r2).toNat : Int) = 1 + r2 by omega]; rfl, by omega, by omega⟩
    · exact ⟨1, rfl, by omega, by omega⟩
    · exact ⟨2, rfl, by omega, by omega⟩
  refine i_ixL (sq_of (k5.at e4).h) em ?_
  wtm_at "w"
  refine i_rngA1 (by omega) ?_
  rw [Int.toNat_natCast]
  refine lc_pop (W := deckW d pl ps) (H0 := H) drw_deck i (k4.trans k5) nl (k5.at el4).h m5 (fun _ => rfl) (fun _ => rfl) (fun _ => rfl) fun p ks rest H' k np a pm hl => ?_
  exact h p ks H' k np a (kdl_of pm (by omega) (by omega))
theorem u_law_number (i : DkI d pl ps H) (h : ∀ (n : Int) H', Kp (deckW d pl ps) H H' → 0 ≤ n → n ≤ 200 → Q (.int n) H') : sp_law_number G [.ref d] H Q E := by
  refine ⟨rfl, ?_⟩
  unfold t_law_number
  wtm_at "w"
  refine u_law_draw i (by decide) (by decide) fun r1 H1 a1 a2 k1 => ?_
  wtm_at "w"
  refine u_law_draw k1.i (by decide) (by decide) fun r2 H2 b1 b2 k2 => ?_
  wtm_at "w"
  refine u_law_draw k2.i (by decide) (by decide) fun r3 H3 c1 c2 k3 => ?_
  wtm_at "w"
  refine i_new (by simp) fun q nq => ?_
  wtm_at "w"
  have k4 := ((k1.trans k2).trans k3).new (o := .lst [.int r1, .int r2, .int (200 - r3), .int 200]) nq
  have e4 : At (deckW d pl ps) (upd H3 q (.lst [.int r1, .int r2, .int (200 - r3), .int 200])) q (.lst [.int r1, .int r2, .int (200 - r3), .int 200]) := At.new k3.i nq
  generalize upd H3 q (.lst [.int r1, .int r2, .int (200 - r3), .int 200]) = H4 at k4 e4 ⊢
  refine u_law_draw k4.i (by decide) (by decide) fun r5 H5 d1 d2 k5 => ?_
  have hr : r5 = 0 ∨ r5 = 1 ∨ r5 = 2 ∨ r5 = 3 := by omega
  rcases hr with rfl | rfl | rfl | rfl
  · exact i_ixL (sq_of (k5.at e4).h) rfl (h _ _ (k4.trans k5) (by omega) (by omega))
  · exact i_ixL (sq_of (k5.at e4).h) rfl (h _ _ (k4.trans k5) (by omega) (by omega))
  · exact i_ixL (sq_of (k5.at e4).h) rfl (h _ _ (k4.trans k5) (by omega) (by omega))
  · exact i_ixL (sq_of (k5.at e4).h) rfl (h _ _ (k4.trans k5) (by omega) (by omega))
end
/-! ### the law's own stock -/
theorem mem_dotsN {v : V} {n : Nat} {x : Int} : x ∈ dotsN v n ↔ ∃ j < n, dotsV v ((j : Int) + 1) = x := by
  unfold dotsN
  simp only [List.mem_map, List.mem_range]
/-- of the first n of a kind, where the next is above b -/
theorem dots_to {v : V} (hv : IsKd v) {b : Int} {n : Nat} (h1 : ∀ j < n, dotsV v ((j : Int) + 1) ≤ b) (h2 : b < dotsV v ((n : Int) + 1)) (x : Int) : x ∈ dotsN v n ↔ x ≤ b ∧ ∃ k : Int, 1 ≤ k ∧ dotsV v k = x := by
  rw [mem_dotsN]
  constructor
  · rintro ⟨j, hj, rfl⟩
    exact ⟨h1 j hj, (j : Int) + 1, by omega, rfl⟩
  · rintro ⟨h3, k, hk, rfl⟩
    by_cases z : k ≤ n
    · exact ⟨(k - 1).toNat, by omega, by rw [show (((k - 1).toNat : Nat) : Int) + 1 = k by omega]⟩
    · have := dots_le hv (i := (n : Int) + 1) (j := k) (by omega) (by omega)
      omega
theorem dots_cnt {v : V} (hv : IsKd v) {b : Int} {n : Nat} (h1 : ∀ j < n, dotsV v ((j : Int) + 1) ≤ b) (h0 : 0 ≤ b) : (n : Int) ≤ b := by
  by_cases z : n = 0
  · omega
  · have h := h1 (n - 1) (by omega)
    have h2 := dots_ge hv (k := ((n - 1 : Nat) : Int) + 1) (by omega)
    omega
section
variable {G : Gx} {H : Hp} {Q : VK} {E : XK} {a : Addr} {ks : List V}
def LStI (H : Hp) (a f : Addr) (ks : List V) (b : Int) (i : Nat) (v : V) (l : Addr) (ds : List Int) (j : Nat) (σ : L2.St) (H' : Hp) : Prop := ∃ (y4 : Option V) (keys : List Int), σ = [some (.ref a), some (.int b), some (.ref f), some v, y4] ∧ Same H H' ∧ f ≠ l ∧ H' f = some (.lst (keys.map V.int)) ∧ H' l = some (.lst (ds.map V.int)) ∧ keys.Nodup ∧ keys.length ≤ 1000 * i + j ∧ ∀ x : Int, x ∈ keys ↔ (x ≤ b ∧ IsDot (ks.take i) x) ∨ x ∈ ds.take j
def LStO (H : Hp) (a f : Addr) (ks : List V) (b : Int) (i : Nat) (σ : L2.St) (H' : Hp) : Prop := ∃ (y3 y4 : Option V) (keys : List Int), σ = [some (.ref a), some (.int b), some (.ref f), y3, y4] ∧ Same H H' ∧ H' f = some (.lst (keys.map V.int)) ∧ keys.Nodup ∧ keys.length ≤ 1000 * i ∧ ∀ x : Int, x ∈ keys ↔ x ≤ b ∧ IsDot (ks.take i) x
theorem u_law_stock {b : Int} (ha : H a = some (.lst ks)) (hk : ∀ v ∈ ks, IsKd v) (hn : ks.length ≤ 100) (h0 : 0 ≤ b) (h1 : b ≤ 900) (h : ∀ p L H', Same H H' → H p = none → H' p = some (.lst (L.map V.int)) → StockOf ks b L → Q (.ref p) H') : sp_law_stock G [.ref a, .int b] H Q E := by
  refine ⟨rfl, ?_⟩
  unfold t_law_stock
  wtm_at "w"
  refine i_new (by simp) fun f nf => ?_
  wtm_at "w"
  have s1 : Same H (upd H f (.lst [])) := same_new nf
  refine i_lstA (sq_of (s1 _ _ ha)) ?_
  refine lk_list (LStO H a f ks b) ⟨_, _, [], rfl, s1, upd_same, List.nodup_nil, by simp, fun x => ?_⟩ (fun i σ H' _ ⟨_, _, _, _, s, _⟩ => sq_of (s _ _ ha)) ?_ ?_
  · simp [IsDot]
  · rintro i v σ H2 hi ⟨y3, y4, keys, rfl, s, d, nd, hl, hm⟩
    have hv := hk v (List.mem_of_getElem? hi)
    have hi' : i < ks.length := (List.getElem?_eq_some_iff.mp hi).1
    wtm_at "w"
    refine u_law_dots hv h0 (by omega) fun l n H3 s3 nl el g1 g2 => ?_
    refine i_lstA (sq_of el) ?_
    have hc := dots_cnt hv g1 h0
    refine lk_list (LStI H a f ks b i v l (dotsN v n)) ⟨_, keys, rfl, s.trans s3, ne_of_none d nl, s3 _ _ d, el, nd, by omega, fun x => ?_⟩ (fun i σ H' _ ⟨_, _, _, _, _, _, e, _⟩ => sq_of e) ?_ ?_
    · rw [hm]; simp
    · rintro j x σ H4 hj ⟨y4, keys, rfl, s4, nfl, e4, el4, nd4, hl4, hm4⟩
      rw [List.getElem?_map] at hj
      obtain ⟨x0, hx0, rfl⟩ := Option.map_eq_some_iff.mp hj
      have hj' : j < n := by have := (List.getElem?_eq_some_iff.mp hx0).1; rwa [dotsN_len] at this
      have tk : ∀ x : Int, x ∈ (dotsN v n).take (j + 1) ↔ x ∈ (dotsN v n).take j ∨ x = x0 := fun x => by
        rw [List.take_add_one, hx0]; simp
      wtm_at "w"
      refine i_ninL (sq_of e4) rfl (ints_flat _) ?_
      wtm_at "w"
      rw [inV_int]
      refine i_iteN (fun hin => ?_) (fun hin => ?_)
      · wtm_at "w"
        refine ⟨_, keys, rfl, s4, nfl, e4, el4, nd4, by omega, fun x => ?_⟩
        rw [hm4, tk]
        constructor
        · rintro (z | z)
          · exact .inl z
          · exact .inr (.inl z)
        · rintro (z | z | z)
          · exact .inl z
          · exact .inr z
          · subst z; exact (hm4 _).mp hin
      · wtm_at "w"
        refine i_tyL e4 ?_
        wtm_at "w"
        refine i_app e4 (sz_lt (by rw [List.length_map]; omega)) ?_
        refine ⟨_, keys ++ [x0], rfl, same_mut s4 nf, nfl, by rw [upd_same, List.map_append]; rfl, by rw [upd_ne nfl.symm]; exact el4, ?_, by simp; omega, fun x => ?_⟩
        · have := nd_insI (n := x0) nd4
          rwa [insI, if_neg hin] at this
        · rw [List.mem_append, hm4, tk]
          simp only [List.mem_singleton]
          constructor
          · rintro ((z | z) | z)
            · exact .inl z
            · exact .inr (.inl z)
            · exact .inr (.inr z)
          · rintro (z | z | z)
            · exact .inl (.inl z)
            · exact .inl (.inr z)
            · exact .inr z
    · rintro σ H4 ⟨y4, keys, rfl, s4, nfl, e4, el4, nd4, hl4, hm4⟩
      refine ⟨_, _, keys, rfl, s4, e4, nd4, by rw [List.length_map, dotsN_len] at hl4; omega, fun x => ?_⟩
      rw [hm4, isDot_take hi, List.length_map, List.take_length, dots_to hv g1 g2]
      constructor
      · rintro (⟨z1, z2⟩ | ⟨z1, z2⟩)
        · exact ⟨z1, .inl z2⟩
        · exact ⟨z1, .inr z2⟩
      · rintro ⟨z1, z2 | z2⟩
        · exact .inl ⟨z1, z2⟩
        · exact .inr ⟨z1, z2⟩
  · rintro σ H2 ⟨y3, y4, keys, rfl, s, d, nd, hl, hm⟩
    wtm_at "w"
    refine i_sortedL (sq_of d) fun ys p perm srt np => ?_
    refine h p ys _ (s.trans (same_new np)) (s.free np) upd_same ⟨lt_of_le_nd srt (perm.symm.nodup nd), fun x => ?_⟩
    rw [perm.mem_iff, hm, List.take_length]
end
/-! ### a store by a cell -/
/-! ### tables -/
def tab (n : Nat) (g : Nat → V) : List V := (List.range n).map g
theorem at_last {xs : List V} {v : V} (h : xs[xs.length - 1]? = some v) : atI xs (-1) = some v := by
  have h0 : 0 < xs.length := by
    by_cases z : 0 < xs.length
    · exact z
    · rw [List.getElem?_eq_none (by omega)] at h; cases h
  unfold atI ixN
  rw [if_neg (by decide), if_pos (by omega)]
  show xs[((-1 : Int) + xs.length).toNat]? = some v
  rw [show ((-1 : Int) + xs.length).toNat = xs.length - 1 by omega]
  exact h
/-! ### the fewest unlike ones -/
def lbase : Nat → Option Int := fun t => if t = 0 then some 0 else none
def lbest : Option Int → Option Int → Option Int
  | none, c => c
  | some a, none => some (a + 1)
  | some a, some c => if a + 1 < c then some (a + 1) else some c
def lstep (p : Nat) (f : Nat → Option Int) : Nat → Option Int := fun t => if p ≤ t then lbest (f (t - p)) (f t) else f t
def lrow (S : List Int) : Nat → Option Int := S.foldl (fun f p => lstep p.toNat f) lbase
theorem lrow_snoc {S : List Int} {i : Nat} {p : Int} (h : S[i]? = some p) : lrow (S.take (i + 1)) = lstep p.toNat (lrow (S.take i)) := by
  unfold lrow
  rw [List.take_add_one, h, List.foldl_append]; rfl
theorem StockOf.pos {ks : List V} {b : Int} {L : List Int} (h : StockOf ks b L) (hk : ∀ v ∈ ks, IsKd v) {x : Int} (hx : x ∈ L) : 1 ≤ x := by
  obtain ⟨_, v, hv, k, h1, rfl⟩ := (h.mem x).mp hx
  have := dots_ge (hk v hv) h1
  omega
theorem up_len : ∀ {l : List Int} {lo hi : Int}, l.Pairwise (· < ·) → (∀ x ∈ l, lo ≤ x ∧ x ≤ hi) → lo ≤ hi + 1 → (l.length : Int) ≤ hi + 1 - lo
  | [], lo, hi, _, _, h => by simp; omega
  | x :: r, lo, hi, p, h, hh => by
    rw [List.pairwise_cons] at p
    have h1 := h x (by simp)
    have h2 := up_len (l := r) (lo := x + 1) (hi := hi) p.2 (fun y hy => ⟨by have := p.1 y hy; omega, (h y (List.mem_cons_of_mem _ hy)).2⟩) (by omega)
    rw [List.length_cons]; omega
theorem StockOf.len {ks : List V} {b : Int} {L : List Int} (h : StockOf ks b L) (hk : ∀ v ∈ ks, IsKd v) (hb : 0 ≤ b) : (L.length : Int) ≤ b := by
  have := up_len (lo := 1) (hi := b) h.up (fun x hx => ⟨h.pos hk hx, ((h.mem x).mp hx).1⟩) (by omega)
  omega
/-- at qs the rows of a stock -/
structure LRows (H : Hp) (qs : List Addr) (f : Nat → Nat → V) (i n : Nat) : Prop where
  len : qs.length = i + 1
  row : ∀ j q, qs[j]? = some q → H q = some (.lst (tab (n + 1) (f j)))
theorem LRows.same {H H' : Hp} {qs : List Addr} {f : Nat → Nat → V} {i n : Nat} (r : LRows H qs f i n) (s : Same H H') : LRows H' qs f i n := ⟨r.len, fun j q h => s _ _ (r.row j q h)⟩
theorem LRows.snoc {H H' : Hp} {qs : List Addr} {f : Nat → Nat → V} {i n : Nat} {w r : Addr} {o : HO} (c : LRows H qs f i n) (s : Same H H') (hr : ∀ q ∈ qs, q ≠ r) (hw : w ≠ r) (e : H' w = some (.lst (tab (n + 1) (f (i + 1))))) : LRows (upd H' r o) (qs ++ [w]) f (i + 1) n := by
  refine ⟨by simp [c.len], fun j q hj => ?_⟩
  by_cases z : j < qs.length
  · rw [List.getElem?_append_left z] at hj
    rw [upd_ne (hr q (List.mem_of_getElem? hj))]
    exact s _ _ (c.row j q hj)
  · rw [List.getElem?_append_right (by omega)] at hj
    have z2 : j - qs.length = 0 := by
      by_cases y : j - qs.length = 0
      · exact y
      · rw [List.getElem?_eq_none (by simp; omega)] at hj; cases hj
    rw [z2] at hj
    have : w = q := by simpa using hj
    subst this
    rw [upd_ne hw, e, show j = i + 1 by have := c.len; omega]
/-! ### the law's own rows of unlike ones -/
/-! [f(store) for turn in range(m)] -/
/-! ### more steps -/
theorem given_mem {f : Nat → Option V} : ∀ {n : Nat} {y : V}, y ∈ given f n → ∃ i < n, f i = some y
  | 0, _, h => by cases h
  | n + 1, y, h => by
    rcases List.mem_append.mp h with h | h
    · obtain ⟨i, hi, e⟩ := given_mem h
      exact ⟨i, by omega, e⟩
    · cases e : f n with
      | none => rw [e] at h; cases h
      | some z =>
        rw [e] at h
        have : y = z := by simpa using h
        subst this
        exact ⟨n, by omega, e⟩
theorem given_all {f : Nat → Option V} {n : Nat} {P : V → Bool} (h : ∀ i < n, ∀ y, f i = some y → P y = true) : (given f n).all P = true := by
  rw [List.all_eq_true]
  intro y hy
  obtain ⟨i, hi, e⟩ := given_mem hy
  exact h i hi y e
/-! ### how many unlike sums -/
section
variable {G : Gx} {H : Hp} {Q : VK} {E : XK} {a : Addr} {ks : List V}
theorem StockOf.lim {b : Int} {L : List Int} (h : StockOf ks b L) (hk : ∀ v ∈ ks, IsKd v) (hb : b ≤ 1000) : ∀ x ∈ L, 1 ≤ x ∧ x ≤ 1000 := fun x hx => ⟨h.pos hk hx, by have := ((h.mem x).mp hx).1; omega⟩
end
/-! ### the fewest parts -/
open Classical in
noncomputable def minI (ns : List Int) : Int := if h : ∃ m, m ∈ ns ∧ ∀ y ∈ ns, m ≤ y then h.choose else 0
theorem minI_eq {ns : List Int} {m : Int} (h1 : m ∈ ns) (h2 : ∀ y ∈ ns, m ≤ y) : m = minI ns := by
  have h : ∃ m, m ∈ ns ∧ ∀ y ∈ ns, m ≤ y := ⟨m, h1, h2⟩
  unfold minI
  rw [dif_pos h]
  have a := h.choose_spec
  have := h2 _ a.1
  have := a.2 _ h1
  omega
theorem min_ex : ∀ {ns : List Int}, ns ≠ [] → ∃ m, m ∈ ns ∧ ∀ y ∈ ns, m ≤ y
  | [], h => absurd rfl h
  | [x], _ => ⟨x, by simp, by simp⟩
  | x :: y :: r, _ => by
    obtain ⟨m, h1, h2⟩ := min_ex (ns := y :: r) (by simp)
    by_cases z : x ≤ m
    · exact ⟨x, by simp, fun w hw => by
        rcases List.mem_cons.mp hw with e | e
        · omega
        · have := h2 w e; omega⟩
    · exact ⟨m, List.mem_cons_of_mem _ h1, fun w hw => by
        rcases List.mem_cons.mp hw with e | e
        · omega
        · exact h2 w e⟩
/-- what the fewest of n is the least of, but for the one part more -/
def befores (S : List Int) (f : Nat → Int) (n : Nat) : List Int := S.filterMap fun p => if p ≤ (n : Int) then some (f ((n : Int) - p).toNat) else none
noncomputable def fewT (S : List Int) : Nat → Nat → Int
  | 0 => fun _ => 0
  | n + 1 => fun t => if t = n + 1 then 1 + minI (befores S (fewT S n) (n + 1)) else fewT S n t
noncomputable def fewF (S : List Int) (n : Nat) : Int := fewT S n n
theorem fewT_eq (S : List Int) : ∀ (n t : Nat), t ≤ n → fewT S n t = fewF S t
  | 0, t, h => by
    have : t = 0 := by omega
    subst this; rfl
  | n + 1, t, h => by
    by_cases z : t = n + 1
    · subst z; rfl
    · show (if t = n + 1 then _ else fewT S n t) = _
      rw [if_neg z]
      exact fewT_eq S n t (by omega)
theorem fewF_zero (S : List Int) : fewF S 0 = 0 := rfl
theorem befores_ext {S : List Int} {f g : Nat → Int} {n : Nat} (hp : ∀ p ∈ S, 1 ≤ p) (h : ∀ t < n, f t = g t) : befores S f n = befores S g n := by
  unfold befores
  refine filterMap_ext S fun p hm => ?_
  by_cases z : p ≤ (n : Int)
  · rw [if_pos z, if_pos z, h _ (by have := hp p hm; omega)]
  · rw [if_neg z, if_neg z]
where
  filterMap_ext : ∀ {α β : Type} {f g : α → Option β} (l : List α), (∀ a ∈ l, f a = g a) → l.filterMap f = l.filterMap g
    | _, _, _, _, [], _ => rfl
    | _, _, f, g, a :: l, h => by
      rw [List.filterMap_cons, List.filterMap_cons, h a (by simp), filterMap_ext l fun b hb => h b (List.mem_cons_of_mem _ hb)]
theorem fewF_succ {S : List Int} (hp : ∀ p ∈ S, 1 ≤ p) (n : Nat) : fewF S (n + 1) = 1 + minI (befores S (fewF S) (n + 1)) := by
  show (if n + 1 = n + 1 then 1 + minI (befores S (fewT S n) (n + 1)) else _) = _
  rw [if_pos rfl, befores_ext hp fun t ht => fewT_eq S n t (by omega)]
theorem mem_befores {S : List Int} {f : Nat → Int} {n : Nat} {x : Int} : x ∈ befores S f n ↔ ∃ p ∈ S, p ≤ (n : Int) ∧ x = f ((n : Int) - p).toNat := by
  unfold befores
  rw [List.mem_filterMap]
  constructor
  · rintro ⟨p, hp, e⟩
    by_cases z : p ≤ (n : Int)
    · rw [if_pos z] at e
      exact ⟨p, hp, z, (Option.some.inj e).symm⟩
    · rw [if_neg z] at e; cases e
  · rintro ⟨p, hp, z, rfl⟩
    exact ⟨p, hp, by rw [if_pos z]⟩
theorem befores_ne {S : List Int} {f : Nat → Int} {n : Nat} (h1 : 1 ∈ S) (hn : 1 ≤ n) : befores S f n ≠ [] := fun e => by
  have : f ((n : Int) - 1).toNat ∈ befores S f n := mem_befores.mpr ⟨1, h1, by omega, rfl⟩
  rw [e] at this; cases this
theorem fewF_le {S : List Int} (hp : ∀ p ∈ S, 1 ≤ p) {n : Nat} {p : Nat} (hm : (p : Int) ∈ S) (hn : p ≤ n) : fewF S n ≤ fewF S (n - p) + 1 := by
  have hp1 := hp _ hm
  obtain ⟨m, rfl⟩ : ∃ m, n = m + 1 := ⟨n - 1, by omega⟩
  rw [fewF_succ hp]
  have hx : fewF S (m + 1 - p) ∈ befores S (fewF S) (m + 1) := mem_befores.mpr ⟨p, hm, by omega, by congr 1; omega⟩
  obtain ⟨v, h1, h2⟩ := min_ex (List.ne_nil_of_mem hx)
  rw [← minI_eq h1 h2]
  have := h2 _ hx
  omega
theorem fewF_ex {S : List Int} (hp : ∀ p ∈ S, 1 ≤ p) (h1 : 1 ∈ S) {n : Nat} (hn : 1 ≤ n) : ∃ p : Nat, (p : Int) ∈ S ∧ p ≤ n ∧ 1 ≤ p ∧ fewF S n = fewF S (n - p) + 1 := by
  obtain ⟨m, rfl⟩ : ∃ m, n = m + 1 := ⟨n - 1, by omega⟩
  rw [fewF_succ hp]
  obtain ⟨v, h3, h4⟩ := min_ex (befores_ne (f := fewF S) h1 hn)
  rw [← minI_eq h3 h4]
  obtain ⟨p, hm, hle, rfl⟩ := mem_befores.mp h3
  have := hp p hm
  refine ⟨p.toNat, by rw [show (p.toNat : Int) = p by omega]; exact hm, by omega, by omega, ?_⟩
  rw [show (((m + 1 : Nat) : Int) - p).toNat = m + 1 - p.toNat by omega]
  omega
theorem fewF_nn {S : List Int} (hp : ∀ p ∈ S, 1 ≤ p) (h1 : 1 ∈ S) : ∀ n, 0 ≤ fewF S n := by
  intro n
  induction n using Nat.strongRecOn with
  | _ n ih =>
    by_cases z : n = 0
    · subst z; rw [fewF_zero]; omega
    · obtain ⟨p, _, h2, h3, e⟩ := fewF_ex hp h1 (n := n) (by omega)
      have := ih (n - p) (by omega)
      omega
theorem fewF_pos {S : List Int} (hp : ∀ p ∈ S, 1 ≤ p) (h1 : 1 ∈ S) {n : Nat} (hn : 1 ≤ n) : 1 ≤ fewF S n := by
  obtain ⟨p, _, h2, h3, e⟩ := fewF_ex hp h1 hn
  have := fewF_nn hp h1 (n - p)
  omega
theorem given_ints {α : Type} {S : List α} {g : α → Option Int} : given (fun j => ((S[j]?).bind g).map V.int) S.length = (S.filterMap g).map V.int := by
  have h : ∀ n ≤ S.length, given (fun j => ((S[j]?).bind g).map V.int) n = ((S.take n).filterMap g).map V.int := by
    intro n
    induction n with
    | zero => intro _; rfl
    | succ n ih =>
      intro hn
      show given _ n ++ (match ((S[n]?).bind g).map V.int with | some y => [y] | none => []) = _
      rw [ih (by omega), List.take_add_one, List.getElem?_eq_getElem (by omega), List.filterMap_append, List.map_append]
      congr 1
      show (match ((some S[n]).bind g).map V.int with | some y => [y] | none => []) = (List.filterMap g [S[n]]).map V.int
      cases e : g S[n] <;> simp [e]
  rw [h _ (Nat.le_refl _), List.take_length]
theorem stock_one {ks : List V} {b : Int} {L : List Int} (h : StockOf ks b L) (hk : KdL ks) (hb : 1 ≤ b) : 1 ∈ L := by
  obtain ⟨v, hv⟩ : ∃ v, v ∈ ks := List.exists_mem_of_length_pos (by have := hk.lo; omega)
  exact (h.mem 1).mpr ⟨hb, v, hv, 1, by omega, dots_one (hk.kd v hv)⟩
/-! ### the first of unlike ones -/
def firstP (P : Nat → Bool) : Nat → Option Nat
  | 0 => none
  | t + 1 => match firstP P t with
    | some a => some a
    | none => if P t then some t else none
theorem firstP_some {P : Nat → Bool} : ∀ {t a : Nat}, firstP P t = some a → a < t ∧ P a = true ∧ ∀ j < a, P j = false
  | 0, _, h => by cases h
  | t + 1, a, h => by
    unfold firstP at h
    cases e : firstP P t with
    | some b =>
      rw [e] at h
      cases h
      obtain ⟨h1, h2, h3⟩ := firstP_some e
      exact ⟨by omega, h2, h3⟩
    | none =>
      rw [e] at h
      by_cases z : P t = true
      · simp only [z, if_true, Option.some.injEq] at h
        subst h
        refine ⟨by omega, z, fun j hj => ?_⟩
        exact firstP_none e j hj
      · simp only [z] at h
        cases h
where
  firstP_none {P : Nat → Bool} : ∀ {t : Nat}, firstP P t = none → ∀ j < t, P j = false
    | 0, _, j, hj => absurd hj (Nat.not_lt_zero _)
    | t + 1, h, j, hj => by
      unfold firstP at h
      cases e : firstP P t with
      | some b => rw [e] at h; cases h
      | none =>
        rw [e] at h
        by_cases z : P t = true
        · simp [z] at h
        · by_cases y : j = t
          · subst y; simpa using z
          · exact firstP_none e j (by omega)
theorem firstP_is {P : Nat → Bool} {t a : Nat} (h1 : a < t) (h2 : P a = true) (h3 : ∀ j < a, P j = false) : firstP P t = some a := by
  cases e : firstP P t with
  | none =>
    have := firstP_some.firstP_none e a h1
    rw [h2] at this; cases this
  | some b =>
    obtain ⟨g1, g2, g3⟩ := firstP_some e
    by_cases z : a < b
    · have := g3 a z; rw [h2] at this; cases this
    · by_cases y : b < a
      · have := h3 b y; rw [g2] at this; cases this
      · rw [show a = b by omega]
theorem firstP_ex {P : Nat → Bool} {t a : Nat} (h1 : a < t) (h2 : P a = true) : ∃ b, firstP P t = some b := by
  cases e : firstP P t with
  | none =>
    have := firstP_some.firstP_none e a h1
    rw [h2] at this; cases this
  | some b => exact ⟨b, rfl⟩
def uOk (S : List Int) (n : Nat) (m : Int) (j : Nat) : Bool := decide (S.getD j 0 ≤ (n : Int)) && decide (lrow (S.take j) (n - (S.getD j 0).toNat) = some m)
def greedy (S : List Int) : Nat → Nat → Nat → List Int
  | 0, _, _ => []
  | m + 1, top, n => match firstP (uOk S n (m : Int)) top with
    | some j => S.getD j 0 :: greedy S m j (n - (S.getD j 0).toNat)
    | none => []
theorem lrow_zero {m : Int} {n : Nat} (h : lrow [] n = some m) : m = 0 := by
  have h' : (if n = 0 then some (0 : Int) else none) = some m := h
  split at h'
  · cases h'; rfl
  · cases h'
/-- where m is the fewest and above 0, some one is the last part -/
theorem lrow_last {S : List Int} (hp : ∀ x ∈ S, 1 ≤ x) {n : Nat} {m : Nat} : ∀ {top : Nat}, top ≤ S.length → lrow (S.take top) n = some ((m + 1 : Nat) : Int) → ∃ j < top, uOk S n m j = true
  | 0, _, h => by
    have := lrow_zero (m := ((m + 1 : Nat) : Int)) (n := n) h
    omega
  | t + 1, ht, h => by
    have hg : S[t]? = some S[t] := List.getElem?_eq_getElem (by omega)
    have hd : S.getD t 0 = S[t] := by rw [List.getD_eq_getElem?_getD, hg]; rfl
    have hp1 := hp S[t] (List.getElem_mem _)
    rw [lrow_snoc hg] at h
    have old : lrow (S.take t) n = some ((m + 1 : Nat) : Int) → ∃ j < t + 1, uOk S n m j = true := fun e => by
      obtain ⟨j, hj, e⟩ := lrow_last hp (by omega) e
      exact ⟨j, by omega, e⟩
    unfold lstep at h
    by_cases z : S[t].toNat ≤ n
    · rw [if_pos z] at h
      have new : lrow (S.take t) (n - S[t].toNat) = some (m : Int) → ∃ j < t + 1, uOk S n m j = true := fun e => by
        refine ⟨t, by omega, ?_⟩
        unfold uOk
        rw [hd, decide_eq_true (by omega), decide_eq_true e]; rfl
      cases e1 : lrow (S.take t) (n - S[t].toNat) with
      | none => rw [e1] at h; exact old h
      | some a =>
        rw [e1] at h
        cases e2 : lrow (S.take t) n with
        | none =>
          rw [e2] at h
          have h' : a + 1 = ((m + 1 : Nat) : Int) := Option.some.inj h
          exact new (by rw [e1, show a = (m : Int) by omega])
        | some c =>
          rw [e2] at h
          have h' : (if a + 1 < c then some (a + 1) else some c) = some ((m + 1 : Nat) : Int) := h
          by_cases y : a + 1 < c
          · rw [if_pos y] at h'
            have h'' := Option.some.inj h'
            exact new (by rw [e1, show a = (m : Int) by omega])
          · rw [if_neg y] at h'
            exact old (by rw [e2, h'])
    · rw [if_neg z] at h
      exact old h
theorem LRows.at {H : Hp} {qs : List Addr} {f : Nat → Nat → V} {i n j : Nat} {jv : Int} (r : LRows H qs f i n) (e : jv = (j : Int)) (hj : j ≤ i) : ∃ q, atI (qs.map V.ref) jv = some (.ref q) ∧ H q = some (.lst (tab (n + 1) (f j))) := by
  have h : j < qs.length := by have := r.len; omega
  refine ⟨qs[j], at_nat e ?_, r.row j _ (List.getElem?_eq_getElem h)⟩
  rw [List.getElem?_map, List.getElem?_eq_getElem h]; rfl
theorem ints_at {S : List Int} {j : Nat} {jv : Int} (e : jv = (j : Int)) (hj : j < S.length) : atI (S.map V.int) jv = some (.int (S.getD j 0)) := by
  refine at_nat e ?_
  rw [List.getElem?_map, List.getD_eq_getElem?_getD, List.getElem?_eq_getElem hj]; rfl
theorem getD_mem {S : List Int} {j : Nat} (hj : j < S.length) : S.getD j 0 ∈ S := by
  rw [List.getD_eq_getElem?_getD, List.getElem?_eq_getElem hj]
  exact List.getElem_mem _
section
variable {G : Gx} {H : Hp} {Q : VK} {E : XK} {a : Addr} {ks : List V}
/-- where such a loop stands -/
structure GrI (S : List Int) (G0 : List Int) (fs : List Int) (m top n N : Nat) : Prop where
  g : fs ++ greedy S m top n = G0
  r : lrow (S.take top) n = some (m : Int)
  t : top ≤ S.length
  n : n ≤ N
theorem GrI.ex {S : List Int} (hp : ∀ x ∈ S, 1 ≤ x) {G0 fs : List Int} {m top n N : Nat} (i : GrI S G0 fs (m + 1) top n N) : ∃ j, firstP (uOk S n (m : Int)) top = some j := by
  obtain ⟨j, h1, h2⟩ := lrow_last hp i.t i.r
  exact firstP_ex h1 h2
end
/-! ### a list of draws -/
/-! ### levels of the fewest -/
/-! ### which need so many -/
/-! ### places -/
theorem dots_zero {v : V} (hv : IsKd v) : dotsV v 0 = 0 := by
  rcases hv with ⟨s, rfl, h1, h2⟩ | rfl
  · show 0 + (s - 2) * (0 * (0 - 1) / 2) = 0
    rw [show (0 * (0 - 1) / 2 : Int) = 0 by decide]; omega
  · rfl
theorem dots_mon {v : V} (hv : IsKd v) {i j : Int} (h1 : 0 ≤ i) (h2 : i ≤ j) : dotsV v i + (j - i) ≤ dotsV v j := by
  by_cases z : i = 0
  · subst z
    rw [dots_zero hv]
    by_cases y : j = 0
    · subst y; rw [dots_zero hv]; omega
    · have := dots_ge hv (k := j) (by omega); omega
  · exact dots_le hv (by omega) h2
structure IsPl (v : V) (n k : Int) : Prop where
  one : 1 ≤ k
  up : n ≤ dotsV v k
  lo : dotsV v (k - 1) < n
theorem IsPl.uniq {v : V} (hv : IsKd v) {n k j : Int} (a : IsPl v n k) (b : IsPl v n j) : k = j := by
  have a1 := a.one
  have b1 := b.one
  have a2 := a.up
  have b2 := b.up
  have a3 := a.lo
  have b3 := b.lo
  by_cases z : k < j
  · have := dots_mon hv (i := k) (j := j - 1) (by omega) (by omega)
    omega
  · by_cases y : j < k
    · have := dots_mon hv (i := j) (j := k - 1) (by omega) (by omega)
      omega
    · omega
theorem IsPl.of {v : V} (hv : IsKd v) {n k : Int} (h1 : 1 ≤ k) (e : dotsV v k = n) : IsPl v n k := by
  refine ⟨h1, by omega, ?_⟩
  have := dots_mon hv (i := k - 1) (j := k) (by omega) (by omega)
  omega
/-! ### bits -/
theorem bits_lt {X n : Nat} (h : ∀ i, n ≤ i → X.testBit i = false) : X < 2 ^ n := Nat.lt_pow_two_of_testBit X h
/-- the numbers to b that need at most c -/
structure BLev (S : List Int) (b : Nat) (c : Int) (X : Nat) : Prop where
  nn : 0 ≤ c
  bit : ∀ u, X.testBit u = true ↔ u ≤ b ∧ fewF S u ≤ c
theorem BLev.lt {S : List Int} {b : Nat} {c : Int} {X : Nat} (l : BLev S b c X) : X < 2 ^ (b + 1) := bits_lt fun i hi => by
  cases e : X.testBit i with
  | false => rfl
  | true => have := ((l.bit i).mp e).1; omega
theorem BLev.all {S : List Int} {b : Nat} {c : Int} {X : Nat} (l : BLev S b c X) : X = 2 ^ (b + 1) - 1 ↔ ∀ u ≤ b, fewF S u ≤ c := by
  constructor
  · intro h u hu
    have e : X.testBit u = true := by rw [h, Nat.testBit_two_pow_sub_one]; simp; omega
    exact ((l.bit u).mp e).2
  · intro h
    refine Nat.eq_of_testBit_eq fun i => ?_
    rw [Nat.testBit_two_pow_sub_one, Bool.eq_iff_iff, l.bit]
    simp only [decide_eq_true_eq]
    constructor
    · rintro ⟨h1, _⟩; omega
    · intro h1; exact ⟨by omega, h i (by omega)⟩
/-! ### of one kind -/
/-! ### the fewest, looked at -/
/-! ### sums as lists -/
def XS (S : List Int) (m : Nat) (t : Int) : Prop := ∃ l : List Int, (∀ x ∈ l, x ∈ S) ∧ l.length = m ∧ l.sum = t
theorem sum_erase {p : Int} : ∀ {l : List Int}, p ∈ l → (l.erase p).sum + p = l.sum
  | [], h => by cases h
  | x :: r, h => by
    rw [List.erase_cons]
    by_cases e : x = p
    · subst e; simp; omega
    · have hr : p ∈ r := by
        rcases List.mem_cons.mp h with z | z
        · exact absurd z.symm e
        · exact z
      have ih := sum_erase hr
      rw [if_neg (by simpa using e), List.sum_cons, List.sum_cons]
      omega
theorem sum_nn : ∀ {l : List Int}, (∀ x ∈ l, 1 ≤ x) → (l.length : Int) ≤ l.sum
  | [], _ => by simp
  | x :: r, h => by
    have := sum_nn (l := r) fun y hy => h y (List.mem_cons_of_mem _ hy)
    have := h x (by simp)
    rw [List.sum_cons, List.length_cons]
    omega
section
variable {S S' : List Int} {m : Nat} {t p : Int}
theorem XS.zero : XS S 0 t ↔ t = 0 := by
  constructor
  · rintro ⟨l, _, h, e⟩
    have : l = [] := List.eq_nil_of_length_eq_zero h
    subst this
    exact e.symm
  · rintro rfl
    exact ⟨[], by simp, rfl, rfl⟩
theorem XS.mono (h : ∀ x ∈ S, x ∈ S') : XS S m t → XS S' m t := by
  rintro ⟨l, h1, h2, h3⟩
  exact ⟨l, fun x hx => h x (h1 x hx), h2, h3⟩
theorem XS.cons (hm : p ∈ S) (h : XS S m (t - p)) : XS S (m + 1) t := by
  obtain ⟨l, h1, h2, h3⟩ := h
  refine ⟨p :: l, fun x hx => ?_, by simp [h2], by rw [List.sum_cons]; omega⟩
  rcases List.mem_cons.mp hx with rfl | z
  · exact hm
  · exact h1 x z
theorem XS.nn (hp : ∀ x ∈ S, 1 ≤ x) (h : XS S m t) : (m : Int) ≤ t := by
  obtain ⟨l, h1, h2, h3⟩ := h
  have := sum_nn (l := l) fun x hx => hp x (h1 x hx)
  omega
theorem XS.ex (h : XS S (m + 1) t) : ∃ p ∈ S, XS S m (t - p) := by
  obtain ⟨l, h1, h2, h3⟩ := h
  cases l with
  | nil => simp at h2
  | cons x r => exact ⟨x, h1 x (by simp), r, fun y hy => h1 y (List.mem_cons_of_mem _ hy), by simpa using h2, by rw [List.sum_cons] at h3; omega⟩
theorem XS.step (hS : ∀ x, x ∈ S' ↔ x ∈ S ∨ x = p) : XS S' (m + 1) t ↔ XS S (m + 1) t ∨ XS S' m (t - p) := by
  constructor
  · rintro ⟨l, h1, h2, h3⟩
    by_cases hp : p ∈ l
    · refine .inr ⟨l.erase p, fun x hx => h1 x (List.mem_of_mem_erase hx), ?_, ?_⟩
      · rw [List.length_erase_of_mem hp]; omega
      · have := sum_erase hp; omega
    · refine .inl ⟨l, fun x hx => ?_, h2, h3⟩
      rcases (hS x).mp (h1 x hx) with z | z
      · exact z
      · subst z; exact absurd hx hp
  · rintro (h | h)
    · exact h.mono fun x hx => (hS x).mpr (.inl hx)
    · exact h.cons ((hS p).mpr (.inr rfl))
theorem few_xs (hp : ∀ x ∈ S, 1 ≤ x) : ∀ n : Nat, (1 ≤ n → 1 ∈ S) → XS S (fewF S n).toNat n := by
  intro n
  induction n using Nat.strongRecOn with
  | ind n ih =>
    intro h1
    by_cases z : n = 0
    · subst z; rw [fewF_zero]; exact XS.zero.mpr rfl
    · have h1' := h1 (by omega)
      obtain ⟨q, a1, a2, a3, a4⟩ := fewF_ex hp h1' (n := n) (by omega)
      have := ih (n - q) (by omega) (fun _ => h1')
      have hn := fewF_nn hp h1' (n - q)
      rw [a4, show (fewF S (n - q) + 1).toNat = (fewF S (n - q)).toNat + 1 by omega]
      refine XS.cons a1 ?_
      rw [show ((n : Nat) : Int) - (q : Nat) = ((n - q : Nat) : Int) by omega]
      exact this
theorem few_min (hp : ∀ x ∈ S, 1 ≤ x) : ∀ (m n : Nat), XS S m n → fewF S n ≤ m
  | 0, n, h => by
    have := XS.zero.mp h
    have : n = 0 := by omega
    subst this
    rw [fewF_zero]; exact Int.le_refl _
  | m + 1, n, h => by
    obtain ⟨p, hm, h2⟩ := h.ex
    have h3 := h2.nn hp
    have p1 := hp p hm
    obtain ⟨q, rfl⟩ : ∃ q : Nat, p = (q : Int) := ⟨p.toNat, by omega⟩
    rw [show ((n : Nat) : Int) - (q : Nat) = ((n - q : Nat) : Int) by omega] at h2
    have := few_min hp m (n - q) h2
    have := fewF_le hp hm (n := n) (by omega)
    omega
theorem few_sub (hp : ∀ x ∈ S', 1 ≤ x) (hs : ∀ x ∈ S, x ∈ S') {n : Nat} (h1 : 1 ≤ n → 1 ∈ S) : fewF S' n ≤ fewF S n := by
  have hpS : ∀ x ∈ S, 1 ≤ x := fun x hx => hp x (hs x hx)
  have := few_min hp _ _ ((few_xs hpS n h1).mono hs)
  by_cases z : n = 0
  · subst z; rw [fewF_zero, fewF_zero]; exact Int.le_refl _
  · have := fewF_nn hpS (h1 (by omega)) n
    omega
end
theorem take_mem {S : List Int} {j : Nat} {p : Int} (h : S[j]? = some p) (x : Int) : x ∈ S.take (j + 1) ↔ x ∈ S.take j ∨ x = p := by
  rw [List.take_succ, h]
  simp
/-! ### the first of the fewest -/
noncomputable def fOk (S : List Int) (n : Nat) (m : Int) (j : Nat) : Bool := decide (S.getD j 0 ≤ (n : Int)) && decide (fewF (S.take (j + 1)) (n - (S.getD j 0).toNat) = m)
noncomputable def fsum (S : List Int) : Nat → Nat → List Int
  | 0, _ => []
  | m + 1, n => match firstP (fOk S n m) S.length with
    | some j => S.getD j 0 :: fsum S m (n - (S.getD j 0).toNat)
    | none => []
theorem fOk_of {S : List Int} {n j : Nat} {m : Int} (h : fOk S n m j = true) : S.getD j 0 ≤ (n : Int) ∧ fewF (S.take (j + 1)) (n - (S.getD j 0).toNat) = m := by
  unfold fOk at h
  rw [Bool.and_eq_true] at h
  exact ⟨of_decide_eq_true h.1, of_decide_eq_true h.2⟩
theorem getD_get {S : List Int} {j : Nat} (h : j < S.length) : S[j]? = some (S.getD j 0) := by
  rw [List.getD_eq_getElem?_getD, List.getElem?_eq_getElem h]; rfl
/-- a stock to look at: its first is 1, all from 1 on -/
structure Stk (S : List Int) : Prop where
  pos : ∀ x ∈ S, 1 ≤ x
  one : S[0]? = some 1
theorem Stk.lt {S : List Int} (k : Stk S) : 0 < S.length := by
  have := k.one
  cases S with
  | nil => simp at this
  | cons x r => simp
theorem Stk.mem1 {S : List Int} (k : Stk S) {j : Nat} : 1 ∈ S.take (j + 1) := by
  have := k.one
  cases S with
  | nil => simp at this
  | cons x r => have e : x = 1 := by simpa using this
                subst e; simp
theorem Stk.tpos {S : List Int} (k : Stk S) {j : Nat} : ∀ x ∈ S.take j, 1 ≤ x := fun x hx => k.pos x (List.mem_of_mem_take hx)
theorem Stk.mem {S : List Int} (k : Stk S) : 1 ∈ S := List.mem_of_mem_take (i := 0 + 1) k.mem1
/-- by which numbers so many come to -/
theorem fOk_xs {S : List Int} (k : Stk S) {n m j : Nat} (hj : j < S.length) (h : fOk S n m j = true) : XS (S.take (j + 1)) (m + 1) n := by
  obtain ⟨h1, h2⟩ := fOk_of h
  have hp := k.pos _ (getD_mem hj)
  have a := few_xs (k.tpos (j := j + 1)) (n - (S.getD j 0).toNat) (fun _ => k.mem1)
  rw [h2, Int.toNat_natCast] at a
  refine XS.cons (p := S.getD j 0) ((take_mem (getD_get hj) _).mpr (.inr rfl)) ?_
  rw [show (n : Int) - S.getD j 0 = ((n - (S.getD j 0).toNat : Nat) : Int) by omega]
  exact a
theorem xs_fOk {S : List Int} (k : Stk S) {n m j : Nat} (hj : j < S.length) (hn : fewF S n = ((m + 1 : Nat) : Int)) (h : XS (S.take (j + 1)) (m + 1) n) (h2 : ¬ XS (S.take j) (m + 1) n) : fOk S n m j = true := by
  have hp := k.pos _ (getD_mem hj)
  rcases (XS.step (take_mem (getD_get hj))).mp h with z | z
  · exact absurd z h2
  · have hn1 := z.nn k.tpos
    rw [show (n : Int) - S.getD j 0 = ((n - (S.getD j 0).toNat : Nat) : Int) by omega] at z
    have a := few_min k.tpos _ _ z
    have b := few_sub k.pos (S := S.take (j + 1)) (fun x hx => List.mem_of_mem_take hx) (n := n - (S.getD j 0).toNat) (fun _ => k.mem1)
    have c := fewF_le k.pos (p := (S.getD j 0).toNat) (n := n) (by rw [show (((S.getD j 0).toNat : Nat) : Int) = S.getD j 0 by omega]; exact getD_mem hj) (by omega)
    unfold fOk
    rw [Bool.and_eq_true]
    exact ⟨decide_eq_true (by omega), decide_eq_true (by omega)⟩
/-- the first place by either look -/
theorem first_xs {S : List Int} (k : Stk S) {n m : Nat} (hn : fewF S n = ((m + 1 : Nat) : Int)) {P : Nat → Bool} (hP : ∀ j, j < S.length → (P j = true ↔ XS (S.take (j + 1)) (m + 1) n)) : ∃ j, j < S.length ∧ firstP P S.length = some j ∧ firstP (fOk S n m) S.length = some j := by
  have hl := k.lt
  have n0 : n ≠ 0 := fun z => by subst z; rw [fewF_zero] at hn; omega
  have a := few_xs k.pos n (fun _ => k.mem)
  rw [hn, Int.toNat_natCast] at a
  have hlast : P (S.length - 1) = true := (hP _ (by omega)).mpr (by rw [show S.length - 1 + 1 = S.length by omega, List.take_length]; exact a)
  obtain ⟨j, hj⟩ := firstP_ex (P := P) (t := S.length) (by omega) hlast
  obtain ⟨b1, b2, b3⟩ := firstP_some hj
  refine ⟨j, b1, hj, firstP_is b1 (xs_fOk k b1 hn ((hP j b1).mp b2) fun z => ?_) fun i hi => ?_⟩
  · cases j with
    | zero =>
      obtain ⟨p, hp, _⟩ := z.ex
      simp at hp
    | succ i => have := (hP i (by omega)).mpr z; rw [b3 i (by omega)] at this; cases this
  · cases e : fOk S n m i with
    | false => rfl
    | true =>
      have := (hP i (by omega)).mpr (fOk_xs k (by omega) e)
      rw [b3 i hi] at this; cases this
theorem first_ok {S : List Int} (k : Stk S) {n m : Nat} (hn : fewF S n = ((m + 1 : Nat) : Int)) : ∃ j, j < S.length ∧ firstP (fOk S n m) S.length = some j := by
  classical
  obtain ⟨j, h1, _, h2⟩ := first_xs k hn (P := fun j => decide (XS (S.take (j + 1)) (m + 1) n)) (fun j _ => by simp)
  exact ⟨j, h1, h2⟩
theorem few_pos {S : List Int} (k : Stk S) {n : Nat} (h : 0 < n) : ∃ m : Nat, fewF S n = ((m + 1 : Nat) : Int) := by
  have := fewF_pos k.pos k.mem (n := n) h
  exact ⟨(fewF S n).toNat - 1, by omega⟩
theorem Stk.of {ks : List V} {b : Int} {L : List Int} (hL : StockOf ks b L) (hk : KdL ks) (hb : 1 ≤ b) : Stk L := by
  have hp : ∀ x ∈ L, 1 ≤ x := fun x hx => hL.pos hk.kd hx
  refine ⟨hp, ?_⟩
  have h1 := stock_one hL hk hb
  have up := hL.up
  cases L with
  | nil => cases h1
  | cons x r =>
    have hx := hp x (by simp)
    rcases List.mem_cons.mp h1 with e | e
    · rw [← e]; rfl
    · have := (List.pairwise_cons.mp up).1 1 e
      omega
/-! ### rows of rows -/
structure QRows (H : Hp) (qs : List Addr) (f : Nat → Nat → V) (i w : Nat) : Prop where
  len : qs.length = i
  row : ∀ j q, qs[j]? = some q → H q = some (.lst (tab w (f j)))
section
variable {H H' : Hp} {qs : List Addr} {f : Nat → Nat → V} {i w : Nat}
theorem QRows.same (r : QRows H qs f i w) (s : Same H H') : QRows H' qs f i w := ⟨r.len, fun j q h => s _ _ (r.row j q h)⟩
theorem QRows.at {j : Nat} {jv : Int} (r : QRows H qs f i w) (e : jv = (j : Int)) (hj : j < i) : ∃ q, atI (qs.map V.ref) jv = some (.ref q) ∧ H q = some (.lst (tab w (f j))) := by
  have h : j < qs.length := by have := r.len; omega
  exact ⟨qs[j], at_nat e (by rw [List.getElem?_map, List.getElem?_eq_getElem h]; rfl), r.row j _ (List.getElem?_eq_getElem h)⟩
theorem QRows.snoc {x : Addr} (c : QRows H qs f i w) (k : ∀ q ∈ qs, ∀ o, H q = some o → H' q = some o) (e : H' x = some (.lst (tab w (f i)))) : QRows H' (qs ++ [x]) f (i + 1) w := by
  refine ⟨by simp [c.len], fun j q hj => ?_⟩
  by_cases z : j < qs.length
  · rw [List.getElem?_append_left z] at hj
    exact k q (List.mem_of_getElem? hj) _ (c.row j q hj)
  · rw [List.getElem?_append_right (by omega)] at hj
    have z2 : j - qs.length = 0 := by
      by_cases y : j - qs.length = 0
      · exact y
      · rw [List.getElem?_eq_none (by simp; omega)] at hj; cases hj
    rw [z2] at hj
    have : x = q := by simpa using hj
    subst this
    rw [e, show j = i by have := c.len; omega]
theorem QRows.keep (c : QRows H qs f i w) (k : ∀ q ∈ qs, ∀ o, H q = some o → H' q = some o) : QRows H' qs f i w := ⟨c.len, fun j q h => k q (List.mem_of_getElem? h) _ (c.row j q h)⟩
theorem QRows.old (c : QRows H qs f i w) : ∀ q ∈ qs, ∃ o, H q = some o := fun q hq => by
  obtain ⟨j, hj, rfl⟩ := List.mem_iff_getElem.mp hq
  exact ⟨_, c.row j _ (List.getElem?_eq_getElem hj)⟩
theorem QRows.ne (c : QRows H qs f i w) {x : Addr} (n : H x = none) : ∀ q ∈ qs, q ≠ x := fun q hq => by
  obtain ⟨o, e⟩ := c.old q hq
  exact ne_of_none e n
theorem QRows.nil : QRows H [] f 0 w := ⟨rfl, fun j q h => by simp at h⟩
end
/-! ### == of lists of lists of ints -/
/-! ### tables of the fewest -/
/-! ### the first sum -/
structure FsI (S G0 fs : List Int) (c left N : Nat) : Prop where
  g : fs ++ fsum S c left = G0
  f : fewF S left = (c : Int)
  n : left ≤ N
  l : fs.length + c ≤ N
theorem FsI.ex {S G0 fs : List Int} {c left N : Nat} (k : Stk S) (i : FsI S G0 fs (c + 1) left N) : ∃ j, j < S.length ∧ firstP (fOk S left (c : Int)) S.length = some j := first_ok k i.f
theorem FsI.pos {S G0 fs : List Int} {c left N : Nat} (k : Stk S) (i : FsI S G0 fs c left N) (h : 0 < left) : ∃ c', c = c' + 1 := by
  obtain ⟨m, hm⟩ := few_pos k h
  have := i.f
  exact ⟨m, by omega⟩
/-! ### so many parts, as bits -/
/-! ### the fewest, reckoned -/
/-! ### papers -/
section
variable {G : Gx} {H : Hp} {Q : VK} {E : XK} {a t : Addr} {ks : List V}
def revA (K : Fg) (x : V) (H : Hp) (Q : VK) : Prop := ∃ a xs, x = .ref a ∧ SqL K H a xs ∧ ∀ p, H p = none → Q (.ref p) (upd H p (.lst xs.reverse))
theorem i_revL {σ : L2.St} {te : TE} (h : te σ H fun x H1 => revA G.K x H1 Q) : tRevL G.K te σ H Q := h
theorem i_revA {K : Fg} {xs : List V} (hs : SqL K H a xs) (h : ∀ p, H p = none → Q (.ref p) (upd H p (.lst xs.reverse))) : revA K (.ref a) H Q := ⟨a, xs, rfl, hs, h⟩
end
/-! ### given lists -/
theorem cut_takeA {xs : List V} {n : Nat} : cutV xs none (some (n : Int)) = xs.take n := by
  unfold cutV
  rw [show HT.sIx xs.length 0 none = 0 from HT.sIx_none _ _, HT.sIx_nat]
  by_cases h : n ≤ xs.length
  · simp [Nat.min_eq_left h]
  · simp [Nat.min_eq_right (show xs.length ≤ n by omega)]
    rw [List.take_of_length_le (by omega)]
theorem cut_dropA {xs : List V} {n : Nat} : cutV xs (some (n : Int)) none = xs.drop n := by
  unfold cutV
  rw [show HT.sIx xs.length xs.length none = xs.length from HT.sIx_none _ _, HT.sIx_nat]
  by_cases h : n ≤ xs.length
  · rw [Nat.min_eq_left h, List.take_of_length_le]
    simp
  · rw [Nat.min_eq_right (show xs.length ≤ n by omega), List.drop_of_length_le (show xs.length ≤ n by omega), List.drop_of_length_le (Nat.le_refl _)]
    simp
theorem KdL.more {ks : List V} {v : V} (h : KdL ks) (h4 : ks.length ≤ 4) (hv : v ∈ kinds11.filter fun v => decide (v ∉ ks)) : KdL (ks ++ [v]) := by
  obtain ⟨h1, h2⟩ := List.mem_filter.mp hv
  have h2 := of_decide_eq_true h2
  refine ⟨fun w hw => ?_, ?_, by simp, by simp; omega⟩
  · rcases List.mem_append.mp hw with z | z
    · exact h.kd w z
    · rw [List.mem_singleton.mp z]; exact kinds11_kd h1
  · rw [List.nodup_append]
    refine ⟨h.nd, by simp, fun a ha b hb => ?_⟩
    rw [List.mem_singleton.mp hb]
    exact fun z => h2 (z ▸ ha)
/-! ### a Keeper -/
def kfs (ol : Addr) (b : Int) : List (Str × V) := putF "bound" (.int b) (putF "own" (.ref ol) [])
structure Kpr (C : Addr) (H : Hp) (kk ol : Addr) (b : Nat) (ks : List V) : Prop where
  o : ∃ dx, H kk = some (.ins C dx (kfs ol b))
  l : H ol = some (.lst ks)
theorem Kpr.same {C : Addr} {H H' : Hp} {kk ol : Addr} {b : Nat} {ks : List V} (k : Kpr C H kk ol b ks) (s : Same H H') : Kpr C H' kk ol b ks := by
  obtain ⟨dx, e⟩ := k.o
  exact ⟨⟨dx, s _ _ e⟩, s _ _ k.l⟩
theorem Kpr.ne {C : Addr} {H : Hp} {kk ol : Addr} {b : Nat} {ks : List V} (k : Kpr C H kk ol b ks) : kk ≠ ol := fun z => by
  obtain ⟨dx, e⟩ := k.o
  have := k.l
  rw [← z, e] at this
  cases this
theorem Kpr.keep {R : Addr → Prop} {C : Addr} {H H' : Hp} {kk ol : Addr} {b : Nat} {ks : List V} (k : Kpr C H kk ol b ks) (s : Keep R H H') (h1 : ¬ R kk) (h2 : ¬ R ol) : Kpr C H' kk ol b ks := by
  obtain ⟨dx, e⟩ := k.o
  exact ⟨⟨dx, s _ _ h1 e⟩, s _ _ h2 k.l⟩
/-- the most that is needed -/
structure IsMost (L : List Int) (b : Nat) (m : Int) : Prop where
  ex : ∃ u ≤ b, fewF L u = m
  ge : ∀ u ≤ b, fewF L u ≤ m
theorem IsMost.uniq {L : List Int} {b : Nat} {m n : Int} (x : IsMost L b m) (y : IsMost L b n) : m = n := by
  obtain ⟨u, hu, e⟩ := x.ex
  obtain ⟨v, hv, f⟩ := y.ex
  have := x.ge v hv
  have := y.ge u hu
  omega
/-! ### how many need so many -/
noncomputable def cntF (L : List Int) (b : Nat) (c : Int) : Nat := ((List.range (b + 1)).filter fun u => decide (fewF L u = c)).length
section
variable {H : Hp} {Q : VK} {σ : L2.St} {ty td : TE} {f : Addr} {ks : List Int} {n : Int}
theorem DI.ne {H : Hp} {f g : Addr} {ks : List Int} {xs : List V} (d : DI H f ks) (e : H g = some (.lst xs)) : f ≠ g := fun z => by
  obtain ⟨kvs, ek, _⟩ := d
  rw [z, e] at ek; cases ek
theorem DI.some {H : Hp} {f : Addr} {ks : List Int} (d : DI H f ks) : ∃ o, H f = some o := by
  obtain ⟨kvs, e, _⟩ := d
  exact ⟨_, e⟩
end
/-- the numbers of a level, each once -/
structure LevN (L : List Int) (b : Nat) (c : Int) (xs : List Int) : Prop where
  nd : xs.Nodup
  mem : ∀ x, x ∈ xs ↔ ∃ u : Nat, x = u ∧ u ≤ b ∧ fewF L u = c
theorem LevN.len {L : List Int} {b : Nat} {c : Int} {xs : List Int} (l : LevN L b c xs) : xs.length = cntF L b c := by
  have e : xs.Perm (((List.range (b + 1)).filter fun u => decide (fewF L u = c)).map fun (u : Nat) => (u : Int)) := by
    refine (List.perm_ext_iff_of_nodup l.nd ?_).mpr fun x => ?_
    · unfold List.Nodup
      rw [List.pairwise_map]
      exact ((List.nodup_range).filter _).imp fun h z => h (by exact_mod_cast z)
    · rw [l.mem, List.mem_map]
      constructor
      · rintro ⟨u, rfl, hu, e⟩
        exact ⟨u, List.mem_filter.mpr ⟨List.mem_range.mpr (by omega), decide_eq_true e⟩, rfl⟩
      · rintro ⟨u, hu, rfl⟩
        obtain ⟨h1, h2⟩ := List.mem_filter.mp hu
        exact ⟨u, rfl, by have := List.mem_range.mp h1; omega, of_decide_eq_true h2⟩
  rw [e.length_eq, List.length_map]; rfl
/-! ### a Keeper asked -/
/-! ### how many sums, by how many parts -/
def cst (p : Nat) (f : Nat → Nat → Nat) (t k : Nat) : Nat := f t k + if h : 1 ≤ p ∧ p ≤ t ∧ 1 ≤ k then cst p f (t - p) (k - 1) else 0
termination_by t
decreasing_by omega
def ust (p : Nat) (f : Nat → Nat) (t : Nat) : Nat := f t + if h : 1 ≤ p ∧ p ≤ t then ust p f (t - p) else 0
termination_by t
decreasing_by omega
def crow (S : List Int) : Nat → Nat → Nat := S.foldl (fun f p => cst p.toNat f) fun t k => if t = 0 ∧ k = 0 then 1 else 0
def urow (S : List Int) : Nat → Nat := S.foldl (fun f p => ust p.toNat f) fun t => if t = 0 then 1 else 0
theorem crow_snoc {S : List Int} {i : Nat} {p : Int} (h : S[i]? = some p) : crow (S.take (i + 1)) = cst p.toNat (crow (S.take i)) := by
  unfold crow
  rw [List.take_succ, h]; simp
theorem urow_app (S : List Int) (p : Int) : urow (S ++ [p]) = ust p.toNat (urow S) := by
  unfold urow
  rw [List.foldl_append]; rfl
theorem ust_le {p : Nat} {f : Nat → Nat} {t : Nat} (h : 1 ≤ p) (ht : p ≤ t) : ust p f t = f t + ust p f (t - p) := by
  rw [ust, dif_pos ⟨h, ht⟩]
theorem ust_lt {p : Nat} {f : Nat → Nat} {t : Nat} (ht : t < p) : ust p f t = f t := by
  rw [ust, dif_neg (by omega), Nat.add_zero]
theorem cst_lt {p : Nat} {f : Nat → Nat → Nat} {t k : Nat} (ht : t < p) : cst p f t k = f t k := by
  rw [cst, dif_neg (by omega), Nat.add_zero]
theorem cst_zero {p : Nat} {f : Nat → Nat → Nat} {t : Nat} : cst p f t 0 = f t 0 := by
  rw [cst, dif_neg (by omega), Nat.add_zero]
theorem cst_le {p : Nat} {f : Nat → Nat → Nat} {t k : Nat} (h : 1 ≤ p) (ht : p ≤ t) : cst p f t (k + 1) = f t (k + 1) + cst p f (t - p) k := by
  rw [cst, dif_pos ⟨h, ht, by omega⟩, Nat.add_sub_cancel]
theorem cst_none {p : Nat} {f : Nat → Nat → Nat} (hp : 1 ≤ p) (h : ∀ t k, t < k → f t k = 0) : ∀ n t k, t ≤ n → t < k → cst p f t k = 0 := by
  intro n
  induction n with
  | zero =>
    intro t k ht hk
    rw [cst_lt (by omega), h t k hk]
  | succ n ih =>
    intro t k ht hk
    by_cases z : p ≤ t
    · obtain ⟨k, rfl⟩ : ∃ k', k = k' + 1 := ⟨k - 1, by omega⟩
      rw [cst_le hp z, h t _ hk, ih (t - p) k (by omega) (by omega)]
    · rw [cst_lt (by omega), h t k hk]
theorem fold_none : ∀ (S : List Int) (f : Nat → Nat → Nat), (∀ x ∈ S, 1 ≤ x) → (∀ t k, t < k → f t k = 0) → ∀ t k, t < k → (S.foldl (fun f p => cst p.toNat f) f) t k = 0
  | [], f, _, h => h
  | p :: S, f, hp, h => by
    have p1 := hp p (by simp)
    exact fold_none S _ (fun x hx => hp x (List.mem_cons_of_mem _ hx)) fun t k hk => cst_none (by omega) h t t k (Nat.le_refl _) hk
theorem crow_none {S : List Int} (hp : ∀ x ∈ S, 1 ≤ x) {t k : Nat} (h : t < k) : crow S t k = 0 := fold_none S _ hp (fun t k hk => by rw [if_neg (by omega)]) t k h
/-! sums over k -/
def ksum (g : Nat → Nat) : Nat → Nat
  | 0 => 0
  | n + 1 => ksum g n + g n
theorem ksum_ext {g h : Nat → Nat} : ∀ {n : Nat}, (∀ k < n, g k = h k) → ksum g n = ksum h n
  | 0, _ => rfl
  | n + 1, e => by
    show ksum g n + g n = ksum h n + h n
    rw [ksum_ext fun k hk => e k (by omega), e n (by omega)]
theorem ksum_add {g h : Nat → Nat} : ∀ n, ksum (fun k => g k + h k) n = ksum g n + ksum h n
  | 0 => rfl
  | n + 1 => by
    show ksum (fun k => g k + h k) n + (g n + h n) = (ksum g n + g n) + (ksum h n + h n)
    rw [ksum_add n]; omega
theorem ksum_front {g : Nat → Nat} : ∀ n, ksum g (n + 1) = g 0 + ksum (fun k => g (k + 1)) n
  | 0 => by show 0 + g 0 = g 0 + 0; omega
  | n + 1 => by
    show ksum g (n + 1) + g (n + 1) = g 0 + (ksum (fun k => g (k + 1)) n + g (n + 1))
    rw [ksum_front n]; omega
theorem ksum_more {g : Nat → Nat} {n : Nat} : ∀ {m : Nat}, n ≤ m → (∀ k, n ≤ k → k < m → g k = 0) → ksum g m = ksum g n
  | 0, h, _ => by have : n = 0 := by omega
                  subst this; rfl
  | m + 1, h, z => by
    by_cases e : n = m + 1
    · subst e; rfl
    · show ksum g m + g m = _
      rw [ksum_more (m := m) (by omega) fun k h1 h2 => z k h1 (by omega), z m (by omega) (by omega), Nat.add_zero]
theorem ksum_ge {g : Nat → Nat} {k : Nat} : ∀ {n : Nat}, k < n → g k ≤ ksum g n
  | n + 1, h => by
    show g k ≤ ksum g n + g n
    by_cases e : k = n
    · subst e; omega
    · have := ksum_ge (g := g) (k := k) (n := n) (by omega); omega
/-- all of them, however many parts -/
theorem cst_sum {p : Nat} {f : Nat → Nat → Nat} {u : Nat → Nat} (hp : 1 ≤ p) (h : ∀ t k, t < k → f t k = 0) (hu : ∀ t, ksum (f t) (t + 1) = u t) : ∀ n t, t ≤ n → ksum (cst p f t) (t + 1) = ust p u t := by
  intro n
  induction n with
  | zero =>
    intro t ht
    have : t = 0 := by omega
    subst this
    rw [ust_lt (by omega), ← hu]
    exact ksum_ext fun k hk => cst_lt (by omega)
  | succ n ih =>
    intro t ht
    by_cases z : p ≤ t
    · rw [ust_le hp z, ← hu, ← ih (t - p) (by omega), ksum_front, ksum_front, cst_zero]
      rw [ksum_ext (h := fun k => f t (k + 1) + cst p f (t - p) k) fun k _ => cst_le hp z, ksum_add]
      rw [ksum_more (g := cst p f (t - p)) (n := t - p + 1) (m := t) (by omega) fun k h1 h2 => cst_none hp h (t - p) (t - p) k (Nat.le_refl _) (by omega)]
      omega
    · rw [ust_lt (by omega), ← hu]
      exact ksum_ext fun k hk => cst_lt (by omega)
theorem fold_sum : ∀ (S : List Int) (f : Nat → Nat → Nat) (u : Nat → Nat), (∀ x ∈ S, 1 ≤ x) → (∀ t k, t < k → f t k = 0) → (∀ t, ksum (f t) (t + 1) = u t) → ∀ t, ksum ((S.foldl (fun f p => cst p.toNat f) f) t) (t + 1) = (S.foldl (fun f p => ust p.toNat f) u) t
  | [], f, u, _, _, h => h
  | p :: S, f, u, hp, h0, h => by
    have p1 := hp p (by simp)
    exact fold_sum S _ _ (fun x hx => hp x (List.mem_cons_of_mem _ hx)) (fun t k hk => cst_none (by omega) h0 t t k (Nat.le_refl _) hk) fun t => cst_sum (by omega) h0 h t t (Nat.le_refl _)
theorem crow_sum {S : List Int} (hp : ∀ x ∈ S, 1 ≤ x) (t : Nat) : ksum (crow S t) (t + 1) = urow S t :=
  fold_sum S _ _ hp (fun t k hk => by rw [if_neg (by omega)]) (fun t => by
    cases t with
    | zero => rfl
    | succ t =>
      have e : ksum (fun k => if t + 1 = 0 ∧ k = 0 then 1 else 0) (t + 1 + 1) = ksum (fun _ => 0) (t + 1 + 1) := ksum_ext fun k _ => by rw [if_neg (by omega)]
      have z : ∀ n, ksum (fun _ => 0) n = 0 := by
        intro n; induction n with
        | zero => rfl
        | succ n ih => show ksum (fun _ => 0) n + 0 = 0; rw [ih]
      show ksum (fun k => if t + 1 = 0 ∧ k = 0 then 1 else 0) (t + 1 + 1) = if t + 1 = 0 then 1 else 0
      rw [e, z, if_neg (by omega)]) t
theorem crow_le {S : List Int} (hp : ∀ x ∈ S, 1 ≤ x) (t k : Nat) : crow S t k ≤ urow S t := by
  by_cases h : t < k
  · rw [crow_none hp h]; omega
  · rw [← crow_sum hp t]; exact ksum_ge (by omega)
/-! how many at most -/
def kseq : Nat → Nat
  | 0 => 2 ^ 64
  | p + 1 => (kseq p * 10 ^ (p + 1)) / (10 ^ (p + 1) - 9 ^ (p + 1)) + 1
theorem pow_gap (p : Nat) : 9 ^ (p + 1) < 10 ^ (p + 1) := Nat.pow_lt_pow_left (by decide) (by omega)
theorem kseq_ok (p : Nat) : kseq p * 10 ^ (p + 1) + kseq (p + 1) * 9 ^ (p + 1) ≤ kseq (p + 1) * 10 ^ (p + 1) := by
  have g := pow_gap p
  generalize h9 : 9 ^ (p + 1) = a at *
  generalize h10 : 10 ^ (p + 1) = b at *
  have e : kseq (p + 1) = kseq p * b / (b - a) + 1 := by show (kseq p * 10 ^ (p + 1)) / (10 ^ (p + 1) - 9 ^ (p + 1)) + 1 = _; rw [h9, h10]
  have d := Nat.div_add_mod (kseq p * b) (b - a)
  have m := Nat.mod_lt (kseq p * b) (show 0 < b - a by omega)
  have k1 : kseq p * b ≤ kseq (p + 1) * (b - a) := by
    rw [e, Nat.add_mul, Nat.one_mul, Nat.mul_comm (kseq p * b / (b - a))]; omega
  have k2 : kseq (p + 1) * (b - a) + kseq (p + 1) * a = kseq (p + 1) * b := by rw [← Nat.mul_add]; congr 1; omega
  omega
theorem kseq_mono (p : Nat) : kseq p ≤ kseq (p + 1) := by
  have h := kseq_ok p
  have g : 0 < 10 ^ (p + 1) := Nat.pow_pos (by decide)
  exact Nat.le_of_mul_le_mul_right (c := 10 ^ (p + 1)) (by omega) g
def Bnd (f : Nat → Nat) (K : Nat) : Prop := ∀ t, f t * 2 ^ 64 * 9 ^ t ≤ K * 10 ^ t
theorem Bnd.mono {f : Nat → Nat} {K K' : Nat} (h : Bnd f K) (k : K ≤ K') : Bnd f K' := fun t => Nat.le_trans (h t) (Nat.mul_le_mul_right _ k)
theorem Bnd.step {f : Nat → Nat} {p : Nat} (h : Bnd f (kseq p)) : Bnd (ust (p + 1) f) (kseq (p + 1)) := by
  have key : ∀ n t, t ≤ n → ust (p + 1) f t * 2 ^ 64 * 9 ^ t ≤ kseq (p + 1) * 10 ^ t := by
    intro n
    induction n with
    | zero =>
      intro t ht
      rw [ust_lt (by omega)]
      exact (h.mono (kseq_mono p)) t
    | succ n ih =>
      intro t ht
      by_cases z : p + 1 ≤ t
      · obtain ⟨s, rfl⟩ : ∃ s, t = p + 1 + s := ⟨t - (p + 1), by omega⟩
        rw [ust_le (by omega) z, Nat.add_sub_cancel_left]
        have a := h (p + 1 + s)
        have b := ih s (by omega)
        have c := kseq_ok p
        rw [Nat.pow_add] at a ⊢
        rw [Nat.pow_add 10] at a ⊢
        generalize 9 ^ (p + 1) = A at *
        generalize 10 ^ (p + 1) = B at *
        generalize 9 ^ s = A' at *
        generalize 10 ^ s = B' at *
        generalize ust (p + 1) f s = U at *
        generalize f (p + 1 + s) = F at *
        generalize kseq p = K at *
        generalize kseq (p + 1) = K' at *
        generalize (2 : Nat) ^ 64 = D at *
        have e1 : (F + U) * D * (A * A') = F * D * (A * A') + A * (U * D * A') := by
          rw [Nat.add_mul, Nat.add_mul]; congr 1
          rw [Nat.mul_left_comm]
        rw [e1]
        have e2 : A * (U * D * A') ≤ A * (K' * B') := Nat.mul_le_mul_left _ b
        have e3 : K * (B * B') + A * (K' * B') ≤ K' * (B * B') := by
          have : (K * B + K' * A) * B' ≤ K' * B * B' := Nat.mul_le_mul_right _ c
          rw [Nat.add_mul] at this
          rw [← Nat.mul_assoc, ← Nat.mul_assoc, ← Nat.mul_assoc, Nat.mul_comm A K']
          exact this
        omega
      · rw [ust_lt (by omega)]
        exact (h.mono (kseq_mono p)) t
  exact fun t => key t t (Nat.le_refl _)
theorem up_last {S : List Int} {x : Int} (up : S.Pairwise (· < ·)) (hx : x ∈ S) (hle : ∀ y ∈ S, y ≤ x) : ∃ S0, S = S0 ++ [x] ∧ ∀ y ∈ S0, y < x := by
  rcases List.eq_nil_or_concat S with rfl | ⟨S0, y, rfl⟩
  · cases hx
  · rw [List.concat_eq_append] at *
    have h := (List.pairwise_append.mp up).2.2
    have hy : y = x := by
      rcases List.mem_append.mp hx with z | z
      · have := h x z y (by simp); have := hle y (by simp); omega
      · exact (List.mem_singleton.mp z).symm
    subst hy
    exact ⟨S0, rfl, fun z hz => h z hz y (by simp)⟩
theorem urow_bnd : ∀ (N : Nat) (S : List Int), S.Pairwise (· < ·) → (∀ x ∈ S, 1 ≤ x ∧ x ≤ N) → Bnd (urow S) (kseq N)
  | 0, S, _, h => by
    have : S = [] := by
      cases S with
      | nil => rfl
      | cons x r => have := h x (by simp); omega
    subst this
    intro t
    show (if t = 0 then 1 else 0) * 2 ^ 64 * 9 ^ t ≤ 2 ^ 64 * 10 ^ t
    split
    · rw [Nat.one_mul]; exact Nat.mul_le_mul_left _ (Nat.pow_le_pow_left (by decide) _)
    · simp
  | N + 1, S, up, h => by
    by_cases z : ((N + 1 : Nat) : Int) ∈ S
    · obtain ⟨S0, rfl, h0⟩ := up_last up z fun y hy => (h y hy).2
      rw [urow_app, Int.toNat_natCast]
      exact (urow_bnd N S0 (List.pairwise_append.mp up).1 fun x hx => ⟨(h x (List.mem_append_left _ hx)).1, by have := h0 x hx; omega⟩).step
    · refine (urow_bnd N S up fun x hx => ⟨(h x hx).1, ?_⟩).mono (kseq_mono N)
      have := (h x hx).2
      have ne : x ≠ ((N + 1 : Nat) : Int) := fun e => z (e ▸ hx)
      omega
theorem bnd_at {f : Nat → Nat} {K M T : Nat} (h : Bnd f K) (c : K * 10 ^ T < M * 2 ^ 64 * 9 ^ T) {t : Nat} (ht : t ≤ T) : f t < M := by
  obtain ⟨s, rfl⟩ : ∃ s, T = t + s := ⟨T - t, by omega⟩
  have a := h t
  have p9 : 0 < 9 ^ (t + s) := Nat.pow_pos (by decide)
  have le : 9 ^ s ≤ 10 ^ s := Nat.pow_le_pow_left (by decide) _
  rw [Nat.pow_add 10] at c
  refine Nat.lt_of_not_le fun z => ?_
  have b : M * 2 ^ 64 * 9 ^ (t + s) ≤ f t * 2 ^ 64 * 9 ^ (t + s) := Nat.mul_le_mul_right _ (Nat.mul_le_mul_right _ z)
  have d : f t * 2 ^ 64 * 9 ^ (t + s) ≤ K * (10 ^ t * 10 ^ s) := by
    rw [Nat.pow_add 9, ← Nat.mul_assoc, ← Nat.mul_assoc]
    exact Nat.mul_le_mul a le
  omega
theorem urow_lt {S : List Int} (up : S.Pairwise (· < ·)) (h : ∀ x ∈ S, 1 ≤ x ∧ x ≤ 200) {t : Nat} (ht : t ≤ 200) : urow S t < 2 ^ 64 :=
  bnd_at (urow_bnd 200 S up h) (by decide +kernel) ht
/-! packed -/
def psum (g : Nat → Nat) : Nat → Nat
  | 0 => 0
  | n + 1 => psum g n + g n * 2 ^ (64 * n)
theorem psum_lt {g : Nat → Nat} : ∀ {n : Nat}, (∀ k < n, g k < 2 ^ 64) → psum g n < 2 ^ (64 * n)
  | 0, _ => by show 0 < 2 ^ (64 * 0); decide
  | n + 1, h => by
    show psum g n + g n * 2 ^ (64 * n) < _
    have a := psum_lt (g := g) (n := n) fun k hk => h k (by omega)
    have b := h n (by omega)
    rw [show 64 * (n + 1) = 64 + 64 * n by omega, Nat.pow_add]
    have c : (g n + 1) * 2 ^ (64 * n) ≤ 2 ^ 64 * 2 ^ (64 * n) := Nat.mul_le_mul_right _ (by omega)
    rw [Nat.add_mul, Nat.one_mul] at c
    omega
/-- a row's number -/
def prow (S : List Int) (t : Nat) : Nat := psum (crow S t) (t + 1)
/-! ### Counts -/
def cfs (sp rp : Addr) : List (Str × V) := putF "rows" (.ref rp) (putF "values_let" (.ref sp) [])
/-- counts to n of a stock -/
structure Cnt (C : Addr) (H : Hp) (x : Addr) (S : List Int) (n : Nat) : Prop where
  o : ∃ dx sp rp qs, H x = some (.ins C dx (cfs sp rp)) ∧ H sp = some (.lst (S.map V.int)) ∧ H rp = some (.lst (qs.map V.ref)) ∧ QRows H qs (fun j u => .int (prow (S.take j) u : Nat)) (S.length + 1) (n + 1)
theorem Cnt.same {C : Addr} {H H' : Hp} {x : Addr} {S : List Int} {n : Nat} (c : Cnt C H x S n) (s : Same H H') : Cnt C H' x S n := by
  obtain ⟨dx, sp, rp, qs, e1, e2, e3, e4⟩ := c.o
  exact ⟨dx, sp, rp, qs, s _ _ e1, s _ _ e2, s _ _ e3, e4.same s⟩
/-- a stock that is counted -/
structure StkC (S : List Int) (n : Nat) : Prop where
  up : S.Pairwise (· < ·)
  lim : ∀ x ∈ S, 1 ≤ x ∧ x ≤ 200
  n : n ≤ 200
theorem StkC.pos {S : List Int} {n : Nat} (k : StkC S n) : ∀ x ∈ S, 1 ≤ x := fun x hx => (k.lim x hx).1
theorem StkC.take {S : List Int} {n : Nat} (k : StkC S n) (j : Nat) : StkC (S.take j) n := ⟨k.up.sublist (List.take_sublist _ _), fun x hx => k.lim x (List.mem_of_mem_take hx), k.n⟩
theorem StkC.lt {S : List Int} {n : Nat} (k : StkC S n) {t : Nat} (ht : t ≤ n) (j : Nat) : crow S t j < 2 ^ 64 := Nat.lt_of_le_of_lt (crow_le k.pos t j) (urow_lt k.up k.lim (Nat.le_trans ht k.n))
theorem StkC.row {S : List Int} {n : Nat} (k : StkC S n) {t : Nat} (ht : t ≤ n) : prow S t < 2 ^ (64 * (t + 1)) := psum_lt fun j _ => k.lt ht j
theorem StkC.len {S : List Int} {n : Nat} (k : StkC S n) : S.length ≤ 200 := by
  have := up_len (lo := 1) (hi := 200) k.up (fun x hx => k.lim x hx) (by decide)
  omega
/-! ### all sums, listed -/
/-- a node -/
structure NdOk (S : List Int) (n c : Nat) (nd : List Int × Nat) : Prop where
  mem : ∀ x ∈ nd.1, x ∈ S
  len : nd.1.length = c
  le : nd.2 + c ≤ n
/-- nodes in a heap -/
structure NdL (R : Addr → Prop) (H : Hp) (qs : List Addr) (ns : List (List Int × Nat)) : Prop where
  len : qs.length = ns.length
  at_ : ∀ (j : Nat) (q : Addr) (nd : List Int × Nat), qs[j]? = some q → ns[j]? = some nd → ∃ pp, H q = some (.lst [.ref pp, .int (nd.2 : Nat)]) ∧ H pp = some (.lst (nd.1.map V.int)) ∧ ¬ R q ∧ ¬ R pp
theorem NdL.keep {R : Addr → Prop} {H H' : Hp} {qs : List Addr} {ns : List (List Int × Nat)} (x : NdL R H qs ns) (k : Keep R H H') : NdL R H' qs ns := ⟨x.len, fun j q nd h1 h2 => by
  obtain ⟨pp, a, b, c, d⟩ := x.at_ j q nd h1 h2
  exact ⟨pp, k _ _ c a, k _ _ d b, c, d⟩⟩
theorem NdL.snoc {R : Addr → Prop} {H : Hp} {qs : List Addr} {ns : List (List Int × Nat)} {q pp : Addr} {nd : List Int × Nat} (x : NdL R H qs ns) (a : H q = some (.lst [.ref pp, .int (nd.2 : Nat)])) (b : H pp = some (.lst (nd.1.map V.int))) (c : ¬ R q) (d : ¬ R pp) : NdL R H (qs ++ [q]) (ns ++ [nd]) := by
  refine ⟨by simp [x.len], fun j q' nd' h1 h2 => ?_⟩
  by_cases z : j < qs.length
  · rw [List.getElem?_append_left z] at h1
    rw [List.getElem?_append_left (by rw [← x.len]; exact z)] at h2
    exact x.at_ j q' nd' h1 h2
  · rw [List.getElem?_append_right (by omega)] at h1
    rw [List.getElem?_append_right (by rw [← x.len]; omega), ← x.len] at h2
    have z2 : j - qs.length = 0 := by
      by_cases y : j - qs.length = 0
      · exact y
      · rw [List.getElem?_eq_none (by simp; omega)] at h1; cases h1
    rw [z2] at h1 h2
    have e1 : q = q' := by simpa using h1
    have e2 : nd = nd' := by simpa using h2
    subst e1; subst e2
    exact ⟨pp, a, b, c, d⟩
theorem NdL.nil {R : Addr → Prop} {H : Hp} : NdL R H [] [] := ⟨rfl, fun j q nd h => by simp at h⟩
/-! ### joins -/
theorem j_seq {t u : TS} {D : Ends} {σ : L2.St} {H : Hp} (P : L2.St → Hp → Prop) (h2 : ∀ σ H, P σ H → u D σ H) (h1 : (∀ σ H, P σ H → u D σ H) → t { D with nx := u D } σ H) : tSeq t u D σ H := h1 h2
/-! ### what is a sum -/
structure SumOk (L : List Int) (n : Int) (xs : List Int) : Prop where
  mem : ∀ x ∈ xs, x ∈ L
  sum : xs.sum = n
  fall : xs.Pairwise (· ≥ ·)
theorem fall_iff : ∀ {xs : List Int}, xs.Pairwise (· ≥ ·) ↔ ∀ k, 1 ≤ k → k < xs.length → xs.getD k 0 ≤ xs.getD (k - 1) 0
  | [] => by simp
  | [x] => by
    constructor
    · intro _ k h1 h2; simp at h2; omega
    · intro _; simp
  | x :: y :: r => by
    rw [List.pairwise_cons]
    constructor
    · rintro ⟨h1, h2⟩ k hk hl
      have ih := (fall_iff (xs := y :: r)).mp h2
      cases k with
      | zero => omega
      | succ k =>
        cases k with
        | zero => exact h1 y (by simp)
        | succ k =>
          have := ih (k + 1) (by omega) (by simpa using hl)
          exact this
    · intro h
      have ih := (fall_iff (xs := y :: r)).mpr fun k h1 h2 => by
        have := h (k + 1) (by omega) (by simpa using h2)
        obtain ⟨k', rfl⟩ : ∃ k', k = k' + 1 := ⟨k - 1, by omega⟩
        exact this
      have hxy : y ≤ x := h 1 (by omega) (by simp)
      refine ⟨fun z hz => ?_, ih⟩
      rcases List.mem_cons.mp hz with rfl | w
      · exact hxy
      · have := (List.pairwise_cons.mp ih).1 z w
        show z ≤ x
        have : z ≤ y := this
        omega
theorem given_empty {f : Nat → Option V} : ∀ {n : Nat}, (∀ i < n, f i = none) → given f n = []
  | 0, _ => rfl
  | n + 1, h => by
    show given f n ++ _ = []
    rw [given_empty fun i hi => h i (by omega), h n (by omega)]; rfl
theorem given_some {f : Nat → Option V} : ∀ {n i : Nat} {y : V}, i < n → f i = some y → y ∈ given f n
  | n + 1, i, y, hi, e => by
    show y ∈ given f n ++ _
    by_cases z : i = n
    · subst z; rw [e]; simp
    · exact List.mem_append_left _ (given_some (by omega) e)
section
variable {G : Gx} {H : Hp} {Q : VK} {E : XK} {a t : Addr} {ks : List V}
theorem u_is_sum {n : Nat} {xs : List Int} (ha : H a = some (.lst ks)) (hk : KdL ks) (hn : n ≤ 200) (ht : SqL G.K H t (xs.map V.int)) (htl : H t = some (.lst (xs.map V.int))) (hl : xs.length ≤ 1000)
    (h : ∀ L b H', Same H H' → StockOf ks n L → (b = true ↔ SumOk L n xs) → Q (.bl b) H') : sp_is_sum G [.ref a, .int n, .ref t] H Q E := by
  refine ⟨rfl, ?_⟩
  unfold t_is_sum
  have hk5 := hk.hi
  wtm_at "w"
  refine u_need_kinds ha hk fun H1 s1 => ?_
  wtm_at "w"
  refine u_need_to_most (by omega) (by omega) ?_
  wtm_at "wa"
  have t1 := s1 _ _ htl
  refine i_isiLL t1 ?_
  wtm_at "wa"
  refine i_lstA (sq_of t1) ?_
  refine lck_pure walk_list (by rw [List.length_map]; omega) (fun _ => none) (fun H' s => sq_of (s _ _ t1)) (fun i x H5 H6 KK NN hi s y hK hN => ?_) (fun p H2 np s2 e2 => ?_)
  · obtain ⟨rfl, hx⟩ := y
    rw [List.getElem?_map] at hx
    obtain ⟨x0, _, rfl⟩ := Option.map_eq_some_iff.mp hx
    wtm_at "w"
    refine ⟨rfl, ?_⟩
    wtm_at "w"
    refine u_is_whole_int ?_
    wtm_at "w"
    exact hN _ rfl (fun _ _ z => z)
  · rw [given_none] at e2
    wtm_at "w"
    refine i_new (by simp) fun q nq => ?_
    refine i_neL (xs := []) (ys := []) (sq_of (upd_old nq e2)) (sq_of upd_same) rfl rfl ?_
    have s3 : Same H (upd H2 q (.lst [])) := (s1.trans s2).trans (same_new nq)
    generalize upd H2 q (.lst []) = H3 at s3 ⊢
    wtm_at "w"
    refine u_stock_of (sq_of (s3 _ _ ha)) hk.kd (by omega) (by omega) (by omega) fun sp L H4 s4 nsp e4 hL => ?_
    have s04 := s3.trans s4
    have t4 := s04 _ _ htl
    have no : ∀ H', Same H H' → ¬ SumOk L n xs → Q (.bl false) H' := fun H' s z => h L false H' s hL ⟨fun w => (by cases w), fun w => absurd w z⟩
    wtm_at "wa"
    refine i_lstA (sq_of t4) ?_
    refine lck_pure walk_list (by rw [List.length_map]; omega) (fun i => ((xs[i]?).bind fun x => if x ∈ L then none else some x).map V.int) (fun H' s => sq_of (s _ _ t4)) (fun i x H5 H6 KK NN hi s y hK hN => ?_) (fun p5 H5 np5 s5 e5 => ?_)
    · obtain ⟨rfl, hx⟩ := y
      rw [List.getElem?_map] at hx
      obtain ⟨x0, hx0, rfl⟩ := Option.map_eq_some_iff.mp hx
      wtm_at "w"
      refine ⟨rfl, ?_⟩
      wtm_at "w"
      refine i_ninL (sq_of (s _ _ e4)) rfl (ints_flat _) ?_
      rw [inV_int]
      wtm_at "w"
      refine i_iteN (fun hz => ?_) (fun hz => ?_)
      · exact hN _ (by rw [hx0]; show (if x0 ∈ L then none else some x0).map V.int = _; rw [if_pos hz]; rfl) (fun _ _ z => z)
      · wtm_at "w"
        exact hK _ _ (by rw [hx0]; show (if x0 ∈ L then none else some x0).map V.int = _; rw [if_neg hz]; rfl) (fun _ _ z => z)
    · rw [List.length_map, given_ints] at e5
      wtm_at "wa"
      refine i_new (by simp) fun q6 nq6 => ?_
      refine i_neL (ys := []) (sq_of (upd_old nq6 e5)) (sq_of upd_same) (ints_sV _) rfl ?_
      have s46 : Same H4 (upd H5 q6 (.lst [])) := s5.trans (same_new nq6)
      generalize upd H5 q6 (.lst []) = H6 at s46 ⊢
      have s06 := s04.trans s46
      wtm_at "wa"
      refine i_both (fun hz => ?_) (fun hz => ?_)
      · wtm_at "wa"
        refine no _ s06 fun z => ?_
        have hz' : ¬ xs.filterMap (fun x => if x ∈ L then none else some x) = [] := by
          intro w; rw [w] at hz; simp at hz
        refine hz' (List.filterMap_eq_nil_iff.mpr fun x hx => ?_)
        rw [if_pos (z.mem x hx)]
      · have hm : ∀ x ∈ xs, x ∈ L := fun x hx => by
          have hz' : xs.filterMap (fun x => if x ∈ L then none else some x) = [] := by simpa using hz
          have := List.filterMap_eq_nil_iff.mp hz' x hx
          by_cases w : x ∈ L
          · exact w
          · rw [if_neg w] at this; cases this
        wtm_at "wa"
        refine i_sumL (sq_of (s46 _ _ t4)) ?_
        wtm_at "wa"
        refine i_iteN (fun hs => ?_) (fun hs => ?_)
        · wtm_at "w"
          refine i_lenL (sq_of (s46 _ _ t4)) ?_
          rw [List.length_map]
          wtm_at "w"
          refine i_rngA2 (by omega) ?_
          refine lck_pure walk_range (by omega) (fun i => if xs.getD i 0 < xs.getD (i + 1) 0 then some (.int (1 + (i : Nat))) else none) (fun _ _ => trivial) (fun i x H7 H8 KK NN hi s y hK hN => ?_) (fun p7 H7 np7 s7 e7 => ?_)
          · obtain ⟨rfl, rfl⟩ := y
            have t7 := s _ _ (s46 _ _ t4)
            wtm_at "w"
            refine ⟨rfl, ?_⟩
            wtm_at "w"
            refine i_ixL (sq_of t7) (ints_at (S := xs) (j := i) (by omega) (by omega)) ?_
            wtm_at "w"
            refine i_ixL (sq_of t7) (ints_at (S := xs) (j := i + 1) (by omega) (by omega)) ?_
            wtm_at "w"
            refine i_ite (fun hlt => ?_) (fun hlt => ?_)
            · wtm_at "w"
              exact hK _ _ (if_pos hlt) (fun _ _ z => z)
            · exact hN _ (if_neg hlt) (fun _ _ z => z)
          · wtm_at "w"
            refine i_new (by simp) fun q8 nq8 => ?_
            have hall : (given (fun i => if xs.getD i 0 < xs.getD (i + 1) 0 then some (V.int (1 + (i : Nat))) else none) ((xs.length : Int) - 1).toNat).all sV = true := given_all fun i _ y e => by
              by_cases w : xs.getD i 0 < xs.getD (i + 1) 0
              · rw [if_pos w] at e; cases e; rfl
              · rw [if_neg w] at e; cases e
            refine i_eqL (ys := []) (sq_of (upd_old nq8 e7)) (sq_of upd_same) hall rfl ?_
            refine h L _ _ ((s06.trans s7).trans (same_new nq8)) hL ?_
            rw [decide_eq_true_iff]
            constructor
            · intro w
              refine ⟨hm, hs, fall_iff.mpr fun k h1 h2 => ?_⟩
              refine Int.not_lt.mp fun z => ?_
              have := given_some (f := fun i => if xs.getD i 0 < xs.getD (i + 1) 0 then some (V.int (1 + (i : Nat))) else none) (n := ((xs.length : Int) - 1).toNat) (i := k - 1) (by omega) (if_pos (by rw [show k - 1 + 1 = k by omega]; exact z))
              rw [w] at this; cases this
            · intro w
              refine given_empty fun i hi => if_neg ?_
              have := fall_iff.mp w.fall (i + 1) (by omega) (by omega)
              rw [Nat.add_sub_cancel] at this
              omega
        · wtm_at "w"
          exact no _ s06 fun z => hs z.sum
end
/-! ### the first sum is one -/
theorem up_getD {S : List Int} (up : S.Pairwise (· < ·)) {i j : Nat} (h : i ≤ j) (hj : j < S.length) : S.getD i 0 ≤ S.getD j 0 := by
  by_cases z : i = j
  · subst z; exact Int.le_refl _
  · have := List.pairwise_iff_getElem.mp up i j (by omega) hj (by omega)
    rw [List.getD_eq_getElem?_getD, List.getD_eq_getElem?_getD, List.getElem?_eq_getElem hj, List.getElem?_eq_getElem (show i < S.length by omega)]
    exact Int.le_of_lt this
/-! ### few are enough -/
/-! ### all sums, one by one -/
/-- nodes as tuples -/
structure NdT (R : Addr → Prop) (H : Hp) (qs : List Addr) (ns : List (List Int × Nat)) : Prop where
  len : qs.length = ns.length
  at_ : ∀ (j : Nat) (q : Addr) (nd : List Int × Nat), qs[j]? = some q → ns[j]? = some nd → ∃ pp, H q = some (.tup [.ref pp, .int (nd.2 : Nat)]) ∧ H pp = some (.lst (nd.1.map V.int)) ∧ ¬ R q ∧ ¬ R pp
theorem NdT.keep {R : Addr → Prop} {H H' : Hp} {qs : List Addr} {ns : List (List Int × Nat)} (x : NdT R H qs ns) (k : Keep R H H') : NdT R H' qs ns := ⟨x.len, fun j q nd h1 h2 => by
  obtain ⟨pp, a, b, c, d⟩ := x.at_ j q nd h1 h2
  exact ⟨pp, k _ _ c a, k _ _ d b, c, d⟩⟩
theorem NdT.nil {R : Addr → Prop} {H : Hp} : NdT R H [] [] := ⟨rfl, fun j q nd h => by simp at h⟩
theorem NdT.one {R : Addr → Prop} {H : Hp} {q pp : Addr} {nd : List Int × Nat} (a : H q = some (.tup [.ref pp, .int (nd.2 : Nat)])) (b : H pp = some (.lst (nd.1.map V.int))) (c : ¬ R q) (d : ¬ R pp) : NdT R H [q] [nd] := by
  refine ⟨rfl, fun j q' nd' h1 h2 => ?_⟩
  have z : j = 0 := by
    have := (List.getElem?_eq_some_iff.mp h1).1
    simpa using this
  subst z
  have e1 : q = q' := by simpa using h1
  have e2 : nd = nd' := by simpa using h2
  subst e1; subst e2
  exact ⟨pp, a, b, c, d⟩
/-- a beginning of a sum -/
structure Beg (S : List Int) (n : Nat) (nd : List Int × Nat) : Prop where
  mem : ∀ x ∈ nd.1, x ∈ S
  sum : nd.1.sum + (nd.2 : Int) = n
  fall : nd.1.Pairwise (· ≥ ·)
theorem Beg.ok {S : List Int} {n : Nat} {nd : List Int × Nat} (hp : ∀ x ∈ S, 1 ≤ x) (b : Beg S n nd) : NdOk S n nd.1.length nd := ⟨b.mem, rfl, by
  have := sum_nn (l := nd.1) fun x hx => hp x (b.mem x hx)
  have := b.sum
  omega⟩
/-! ### the first sum is the least -/
theorem k_neBB {K : Fg} {H : Hp} {Q : VK} {a b : Bool} (h : Q (.bl (!decide (a = b))) H) : uNe K (.bl a) (.bl b) H Q := .inl ⟨rfl, by
  have e : decide (V.bl a = V.bl b) = decide (a = b) := by rw [Bool.eq_iff_iff]; simp
  rw [e]; exact h⟩
/-! ### sums by their numbers -/
def fcnt (S : List Int) (n k j : Nat) : Nat := if (S.getD j 0).toNat ≤ n then crow (S.take (j + 1)) (n - (S.getD j 0).toNat) k else 0
theorem crow_nil (n k : Nat) : crow [] n k = if n = 0 ∧ k = 0 then 1 else 0 := rfl
theorem crow_split {S : List Int} (hp : ∀ x ∈ S, 1 ≤ x) (n k : Nat) : ∀ s, s ≤ S.length → crow (S.take s) n (k + 1) = ksum (fcnt S n k) s
  | 0, _ => by rw [List.take_zero, crow_nil, if_neg (by omega)]; rfl
  | s + 1, h => by
    have hs : s < S.length := by omega
    have p1 := hp _ (getD_mem hs)
    have ih := crow_split hp n k s (by omega)
    show _ = ksum (fcnt S n k) s + fcnt S n k s
    rw [← ih]
    unfold fcnt
    have e := crow_snoc (getD_get hs)
    by_cases z : (S.getD s 0).toNat ≤ n
    · rw [if_pos z, e, cst_le (by omega) z]
    · rw [if_neg z, e, cst_lt (by omega)]; rfl
theorem crow_pos_iff {S : List Int} (hp : ∀ x ∈ S, 1 ≤ x) : ∀ s, s ≤ S.length → ∀ n k : Nat, 0 < crow (S.take s) n k ↔ XS (S.take s) k n
  | 0, _, n, k => by
    rw [List.take_zero, crow_nil]
    constructor
    · intro h
      by_cases z : n = 0 ∧ k = 0
      · obtain ⟨rfl, rfl⟩ := z; exact XS.zero.mpr rfl
      · rw [if_neg z] at h; omega
    · rintro ⟨l, h1, h2, h3⟩
      have : l = [] := List.eq_nil_iff_forall_not_mem.mpr fun x hx => by cases h1 x hx
      subst this
      have e1 : n = 0 := by simp at h3; omega
      have e2 : k = 0 := by simpa using h2.symm
      rw [if_pos ⟨e1, e2⟩]; omega
  | s + 1, h, n, k => by
    have hs : s < S.length := by omega
    have p1 := hp _ (getD_mem hs)
    have hm := take_mem (getD_get hs)
    have hpt : ∀ x ∈ S.take (s + 1), 1 ≤ x := fun x hx => hp x (List.mem_of_mem_take hx)
    rw [crow_snoc (getD_get hs)]
    induction n using Nat.strongRecOn generalizing k with
    | ind n ihn =>
      cases k with
      | zero =>
        rw [cst_zero, crow_pos_iff hp s (by omega) n 0, XS.zero, XS.zero]
      | succ k =>
        have ih := crow_pos_iff hp s (by omega) n (k + 1)
        rw [XS.step hm, ← ih]
        by_cases z : (S.getD s 0).toNat ≤ n
        · rw [cst_le (by omega) z]
          have ih2 := ihn (n - (S.getD s 0).toNat) (by omega) k
          rw [show (n : Int) - S.getD s 0 = ((n - (S.getD s 0).toNat : Nat) : Int) by omega]
          constructor
          · intro w
            by_cases u : 0 < crow (S.take s) n (k + 1)
            · exact .inl u
            · exact .inr (ih2.mp (by omega))
          · rintro (w | w)
            · omega
            · have := ih2.mpr w; omega
        · rw [cst_lt (by omega)]
          constructor
          · exact .inl
          · rintro (w | w)
            · exact w
            · have := w.nn hpt; omega
theorem crow_00 (S : List Int) : crow S 0 0 = 1 := by
  have : ∀ (S : List Int) (f : Nat → Nat → Nat), f 0 0 = 1 → (S.foldl (fun f p => cst p.toNat f) f) 0 0 = 1 := by
    intro S
    induction S with
    | nil => intro f h; exact h
    | cons p q ih => intro f h; exact ih _ (by show cst p.toNat f 0 0 = 1; rw [cst_zero]; exact h)
  exact this S _ rfl
/-- the sum of a number -/
noncomputable def nth (S : List Int) : Nat → Nat → Nat → List Int
  | 0, _, _ => []
  | k + 1, n, x => match firstP (fun j => decide (x < ksum (fcnt S n k) (j + 1))) S.length with
    | some j => S.getD j 0 :: nth S k (n - (S.getD j 0).toNat) (x - ksum (fcnt S n k) j)
    | none => []
/-- where its first part stands -/
theorem nth_at {S : List Int} (hp : ∀ x ∈ S, 1 ≤ x) {s n k x : Nat} (hs : s ≤ S.length) (hx : x < crow (S.take s) n (k + 1)) :
    ∃ j, j < s ∧ firstP (fun j => decide (x < ksum (fcnt S n k) (j + 1))) S.length = some j ∧ ksum (fcnt S n k) j ≤ x ∧ x < ksum (fcnt S n k) (j + 1) ∧ (∀ i < j, ksum (fcnt S n k) (i + 1) ≤ x) ∧
      (S.getD j 0).toNat ≤ n ∧ x - ksum (fcnt S n k) j < crow (S.take (j + 1)) (n - (S.getD j 0).toNat) k ∧ nth S (k + 1) n x = S.getD j 0 :: nth S k (n - (S.getD j 0).toNat) (x - ksum (fcnt S n k) j) := by
  rw [crow_split hp n k s hs] at hx
  have hs0 : s ≠ 0 := fun z => by subst z; exact Nat.not_lt_zero _ hx
  obtain ⟨j, ej⟩ := firstP_ex (P := fun j => decide (x < ksum (fcnt S n k) (j + 1))) (t := S.length) (a := s - 1) (by omega) (decide_eq_true (by rw [show s - 1 + 1 = s by omega]; exact hx))
  obtain ⟨hj, pj, nj⟩ := firstP_some ej
  have pj' : x < ksum (fcnt S n k) (j + 1) := of_decide_eq_true pj
  have nj' : ∀ i < j, ksum (fcnt S n k) (i + 1) ≤ x := fun i hi => by have := of_decide_eq_false (nj i hi); omega
  have hjs : j < s := Nat.lt_of_not_le fun z => by
    have := nj' (s - 1) (by omega)
    rw [show s - 1 + 1 = s by omega] at this; omega
  have hlo : ksum (fcnt S n k) j ≤ x := by
    cases j with
    | zero => exact Nat.zero_le _
    | succ i => exact nj' i (by omega)
  have hf : 0 < fcnt S n k j := by
    have e : ksum (fcnt S n k) (j + 1) = ksum (fcnt S n k) j + fcnt S n k j := rfl
    omega
  have hle : (S.getD j 0).toNat ≤ n := Nat.le_of_not_lt fun z => by
    unfold fcnt at hf; rw [if_neg (by omega)] at hf; omega
  refine ⟨j, hjs, ej, hlo, pj', nj', hle, ?_, ?_⟩
  · have e : ksum (fcnt S n k) (j + 1) = ksum (fcnt S n k) j + fcnt S n k j := rfl
    have e2 : fcnt S n k j = crow (S.take (j + 1)) (n - (S.getD j 0).toNat) k := if_pos hle
    omega
  · show (match firstP (fun j => decide (x < ksum (fcnt S n k) (j + 1))) S.length with
      | some j => S.getD j 0 :: nth S k (n - (S.getD j 0).toNat) (x - ksum (fcnt S n k) j)
      | none => []) = _
    rw [ej]
theorem nth_ok {S : List Int} (hp : ∀ x ∈ S, 1 ≤ x) (up : S.Pairwise (· < ·)) : ∀ {k s n x : Nat}, s ≤ S.length → x < crow (S.take s) n k → SumOk (S.take s) n (nth S k n x) ∧ (nth S k n x).length = k
  | 0, s, n, x, hs, hx => by
    have h0 : 0 < crow (S.take s) n 0 := by omega
    have := XS.zero.mp ((crow_pos_iff hp s hs n 0).mp h0)
    exact ⟨⟨fun x hx => (by cases hx), by show (0 : Int) = n; omega, List.Pairwise.nil⟩, rfl⟩
  | k + 1, s, n, x, hs, hx => by
    obtain ⟨j, hj, _, _, _, _, hle, hx', e⟩ := nth_at hp hs hx
    have hjl : j < S.length := by omega
    have p1 := hp _ (getD_mem hjl)
    obtain ⟨ih, il⟩ := nth_ok hp up (s := j + 1) (by omega) hx'
    rw [e]
    have mj : S.getD j 0 ∈ S.take s := by
      rw [List.mem_take_iff_getElem]
      refine ⟨j, by omega, ?_⟩
      rw [List.getD_eq_getElem?_getD, List.getElem?_eq_getElem hjl]; rfl
    refine ⟨⟨fun y hy => ?_, ?_, List.pairwise_cons.mpr ⟨fun y hy => ?_, ih.fall⟩⟩, by rw [List.length_cons, il]⟩
    · rcases List.mem_cons.mp hy with rfl | z
      · exact mj
      · have := ih.mem y z
        have hsub : S.take (j + 1) ⊆ S.take s := (List.take_prefix_take_left (by omega)).subset
        exact hsub this
    · rw [List.sum_cons, ih.sum]; omega
    · have hy' := ih.mem y hy
      rw [List.mem_take_iff_getElem] at hy'
      obtain ⟨i, hi, rfl⟩ := hy'
      have := up_getD up (i := i) (j := j) (by omega) hjl
      have e2 : S.getD i 0 = S[i]'(by omega) := by rw [List.getD_eq_getElem?_getD, List.getElem?_eq_getElem]; rfl
      show S[i] ≤ S.getD j 0
      omega
def rnk (S : List Int) : List Int → Nat → Nat
  | [], _ => 0
  | y :: r, n => ksum (fcnt S n r.length) (S.idxOf y) + rnk S r (n - y.toNat)
theorem up_idxOf {S : List Int} (up : S.Pairwise (· < ·)) {j : Nat} (hj : j < S.length) : S.idxOf (S.getD j 0) = j := by
  have e : S.getD j 0 = S[j] := by rw [List.getD_eq_getElem?_getD, List.getElem?_eq_getElem hj]; rfl
  rw [e]
  have nd : S.Nodup := up.imp fun h => by omega
  exact nd.idxOf_getElem j hj
theorem rnk_nth {S : List Int} (hp : ∀ x ∈ S, 1 ≤ x) (up : S.Pairwise (· < ·)) : ∀ {k s n x : Nat}, s ≤ S.length → x < crow (S.take s) n k → rnk S (nth S k n x) n = x
  | 0, s, n, x, hs, hx => by
    have h1 : crow (S.take s) n 0 ≤ 1 := by
      have h0 : 0 < crow (S.take s) n 0 := by omega
      have := XS.zero.mp ((crow_pos_iff hp s hs n 0).mp h0)
      have : n = 0 := by omega
      subst this; rw [crow_00]; omega
    show 0 = x; omega
  | k + 1, s, n, x, hs, hx => by
    obtain ⟨j, hj, _, hlo, _, _, hle, hx', e⟩ := nth_at hp hs hx
    have hjl : j < S.length := by omega
    rw [e]
    have il := (nth_ok hp up (s := j + 1) (by omega) hx').2
    show ksum (fcnt S n (nth S k (n - (S.getD j 0).toNat) (x - ksum (fcnt S n k) j)).length) (S.idxOf (S.getD j 0)) + rnk S (nth S k (n - (S.getD j 0).toNat) (x - ksum (fcnt S n k) j)) (n - (S.getD j 0).toNat) = x
    rw [il, up_idxOf up hjl, rnk_nth hp up (s := j + 1) (by omega) hx']
    omega
theorem nth_mono {S : List Int} (hp : ∀ x ∈ S, 1 ≤ x) (up : S.Pairwise (· < ·)) : ∀ {k s n x y : Nat}, s ≤ S.length → x ≤ y → y < crow (S.take s) n k → nth S k n x ≤ nth S k n y
  | 0, s, n, x, y, _, _, _ => List.le_refl _
  | k + 1, s, n, x, y, hs, hxy, hy => by
    obtain ⟨i, hi, _, ilo, ihi, ino, ile, ix, e1⟩ := nth_at hp hs (Nat.lt_of_le_of_lt hxy hy)
    obtain ⟨j, hj, _, jlo, jhi, jno, jle, jx, e2⟩ := nth_at hp hs hy
    have hij : i ≤ j := Nat.le_of_not_lt fun z => by have := ino j z; omega
    rw [e1, e2, List.cons_le_cons_iff]
    by_cases z : i = j
    · subst z
      exact .inr ⟨rfl, nth_mono hp up (s := i + 1) (by omega) (by omega) jx⟩
    · left
      have := List.pairwise_iff_getElem.mp up i j (by omega) (by omega) (by omega)
      have a1 : S.getD i 0 = S[i]'(by omega) := by rw [List.getD_eq_getElem?_getD, List.getElem?_eq_getElem]; rfl
      have a2 : S.getD j 0 = S[j]'(by omega) := by rw [List.getD_eq_getElem?_getD, List.getElem?_eq_getElem]; rfl
      omega
/-! ### more kinds, more sums -/
/-! ### the parts that may stand first -/
structure Frs (H : Hp) (p : Addr) (S : List Int) (s n k t : Nat) (qs : List Addr) : Prop where
  h : H p = some (.lst (qs.map V.ref))
  len : qs.length = t
  le : t ≤ s
  at_ : ∀ i q, qs[i]? = some q → (S.getD i 0).toNat ≤ n ∧ H q = some (.tup [.int (S.getD i 0), .int ((i + 1 : Nat) : Int), .int (fcnt S n k i : Nat)])
  no : ∀ i, t ≤ i → i < s → n < (S.getD i 0).toNat
theorem Frs.sum {H : Hp} {p : Addr} {S : List Int} {s n k t : Nat} {qs : List Addr} (x : Frs H p S s n k t qs) : ksum (fcnt S n k) s = ksum (fcnt S n k) t := ksum_more x.le fun i h1 h2 => by
  unfold fcnt; rw [if_neg (by have := x.no i h1 h2; omega)]
/-! ### sorted(set(..)) -/
theorem stock_ex {ks : List V} (hk : ∀ v ∈ ks, IsKd v) (n : Nat) : ∃ L, StockOf ks n L := by
  classical
  refine ⟨((List.range (n + 1)).map fun k : Nat => (k : Int)).filter (fun x => decide (IsDot ks x)), ?_, fun x => ?_⟩
  · refine List.Pairwise.filter _ (List.pairwise_map.mpr (List.pairwise_lt_range.imp fun h => ?_))
    omega
  · rw [List.mem_filter, List.mem_map, decide_eq_true_iff]
    constructor
    · rintro ⟨⟨k, hk', rfl⟩, h2⟩
      have := List.mem_range.mp hk'
      exact ⟨by omega, h2⟩
    · rintro ⟨h1, h2⟩
      have h0 : 1 ≤ x := by
        obtain ⟨v, hv, k, k1, rfl⟩ := h2
        have := dots_ge (hk v hv) k1
        omega
      exact ⟨⟨x.toNat, List.mem_range.mpr (by omega), by omega⟩, h2⟩
/-! ### lists of sums, sorted -/
theorem perm_sub : ∀ {D M : List (List Int)}, D.Nodup → (∀ x ∈ D, x ∈ M) → M.length ≤ D.length → M.Perm D
  | [], M, _, _, h => by
    have : M = [] := List.length_eq_zero_iff.mp (Nat.le_zero.mp h)
    rw [this]
  | x :: D, M, h, hs, hl => by
    obtain ⟨h1, h2⟩ := List.nodup_cons.mp h
    have hx := hs x List.mem_cons_self
    have p := List.perm_cons_erase hx
    have e := p.length_eq
    rw [List.length_cons] at e hl
    refine p.trans (List.Perm.cons x (perm_sub h2 (fun y hy => ?_) (by omega)))
    have ne : y ≠ x := fun z => h1 (z ▸ hy)
    exact (List.mem_erase_of_ne ne).mpr (hs y (List.mem_cons_of_mem _ hy))
theorem eq_srt {D M : List (List Int)} (h1 : D.Pairwise (· ≤ ·)) (h2 : M.Pairwise (· ≤ ·)) (p : M.Perm D) : M = D := p.eq_of_pairwise (fun _ _ _ _ a b => List.le_antisymm a b) h2 h1
noncomputable def nths (S : List Int) (n k : Nat) : List (List Int) := (List.range (crow S n k)).map (nth S k n)
noncomputable def nall (S : List Int) (n : Nat) : Nat → List (List Int)
  | 0 => []
  | k + 1 => nall S n k ++ nths S n k
section
variable {S : List Int} (hp : ∀ x ∈ S, 1 ≤ x) (up : S.Pairwise (· < ·))
include hp up
theorem nth_okA {k n x : Nat} (h : x < crow S n k) : SumOk S n (nth S k n x) ∧ (nth S k n x).length = k := by
  have := nth_ok hp up (k := k) (s := S.length) (n := n) (x := x) (Nat.le_refl _) (by rw [List.take_length]; exact h)
  rwa [List.take_length] at this
theorem rnk_nthA {k n x : Nat} (h : x < crow S n k) : rnk S (nth S k n x) n = x := rnk_nth hp up (Nat.le_refl S.length) (by rw [List.take_length]; exact h)
theorem nths_mem {n k : Nat} {r : List Int} (h : r ∈ nths S n k) : SumOk S n r ∧ r.length = k := by
  obtain ⟨x, hx, rfl⟩ := List.mem_map.mp h
  exact nth_okA hp up (List.mem_range.mp hx)
theorem nths_nd (n k : Nat) : (nths S n k).Nodup := by
  unfold nths List.Nodup
  rw [List.pairwise_map]
  refine List.Pairwise.imp_of_mem (fun {a b} ha hb hne z => hne ?_) List.nodup_range
  rw [← rnk_nthA hp up (List.mem_range.mp ha), ← rnk_nthA hp up (List.mem_range.mp hb), z]
theorem nths_srt (n k : Nat) : (nths S n k).Pairwise (· ≤ ·) := by
  unfold nths
  rw [List.pairwise_map]
  refine List.Pairwise.imp_of_mem (fun {a b} ha hb hlt => ?_) List.pairwise_lt_range
  exact nth_mono hp up (Nat.le_refl S.length) (Nat.le_of_lt hlt) (by rw [List.take_length]; exact List.mem_range.mp hb)
omit hp up in
theorem nths_len (n k : Nat) : (nths S n k).length = crow S n k := by unfold nths; rw [List.length_map, List.length_range]
omit hp up in
theorem nall_len (n : Nat) : ∀ k, (nall S n k).length = ksum (crow S n) k
  | 0 => rfl
  | k + 1 => by
    show (nall S n k ++ nths S n k).length = _
    rw [List.length_append, nall_len n k, nths_len]; rfl
theorem nall_mem {n : Nat} {r : List Int} : ∀ {k : Nat}, r ∈ nall S n k → SumOk S n r ∧ r.length < k
  | 0, h => by cases h
  | k + 1, h => by
    rcases List.mem_append.mp h with z | z
    · have := nall_mem z
      exact ⟨this.1, by omega⟩
    · have := nths_mem hp up z
      exact ⟨this.1, by omega⟩
theorem nall_nd (n : Nat) : ∀ k, (nall S n k).Nodup
  | 0 => List.nodup_nil
  | k + 1 => by
    refine List.nodup_append.mpr ⟨nall_nd n k, nths_nd hp up n k, fun a ha b hb z => ?_⟩
    have h1 := (nall_mem hp up ha).2
    have h2 := (nths_mem hp up hb).2
    rw [z] at h1
    omega
theorem nall_k (n k : Nat) : ∀ m, (nall S n m).filter (fun r => decide (r.length = k)) = if k < m then nths S n k else []
  | 0 => by rw [if_neg (by omega)]; rfl
  | m + 1 => by
    show (nall S n m ++ nths S n m).filter _ = _
    rw [List.filter_append, nall_k n k m]
    by_cases h : k = m
    · subst h
      rw [if_neg (by omega), if_pos (by omega), List.nil_append, List.filter_eq_self]
      intro r hr
      exact decide_eq_true (nths_mem hp up hr).2
    · have e : (nths S n m).filter (fun r => decide (r.length = k)) = [] := by
        rw [List.filter_eq_nil_iff]
        intro r hr z
        have := (nths_mem hp up hr).2
        have := of_decide_eq_true z
        omega
      rw [e, List.append_nil]
      by_cases h2 : k < m
      · rw [if_pos h2, if_pos (by omega)]
      · rw [if_neg h2, if_neg (by omega)]
end
structure SmR (S : List Int) (t : Nat) (M : List (List Int)) : Prop where
  mem : ∀ r, SumOk S t r ↔ r ∈ M
  srt : M.Pairwise (· ≤ ·)
  len : M.length = urow S t
section
variable {S : List Int} {t : Nat} {M : List (List Int)} (R : SmR S t M) (hp : ∀ x ∈ S, 1 ≤ x) (up : S.Pairwise (· < ·))
include R hp up
theorem SmR.perm : M.Perm (nall S t (t + 1)) := perm_sub (nall_nd hp up t (t + 1)) (fun x hx => (R.mem x).mp (nall_mem hp up hx).1) (by rw [R.len, nall_len, crow_sum hp]; exact Nat.le_refl _)
theorem SmR.nd : M.Nodup := (R.perm hp up).nodup_iff.mpr (nall_nd hp up t (t + 1))
theorem SmR.k (k : Nat) : M.filter (fun r => decide (r.length = k)) = nths S t k := by
  refine eq_srt (nths_srt hp up t k) (R.srt.filter _) ?_
  have p := (R.perm hp up).filter (fun r => decide (r.length = k))
  rw [nall_k hp up] at p
  by_cases h : k < t + 1
  · rwa [if_pos h] at p
  · rw [if_neg h] at p
    have e : nths S t k = [] := by
      unfold nths
      rw [crow_none hp (by omega)]; rfl
    rw [e]; exact p
theorem SmR.kl (k : Nat) : (M.filter (fun r => decide (r.length = k))).length = crow S t k := by rw [R.k hp up, nths_len]
theorem SmR.le : ∀ k : Nat, (M.filter (fun r => decide (r.length ≤ k))).length = ksum (crow S t) (k + 1)
  | 0 => by
    have e : (fun r : List Int => decide (r.length ≤ 0)) = fun r => decide (r.length = 0) := by
      funext r; rw [Bool.eq_iff_iff, decide_eq_true_iff, decide_eq_true_iff]; omega
    rw [e, R.kl hp up]
    exact (Nat.zero_add _).symm
  | k + 1 => by
    have ih := SmR.le k
    have h2 := R.kl hp up (k + 1)
    have e : ∀ M : List (List Int), (M.filter (fun r => decide (r.length ≤ k + 1))).length = (M.filter (fun r => decide (r.length ≤ k))).length + (M.filter (fun r => decide (r.length = k + 1))).length := by
      intro M
      induction M with
      | nil => rfl
      | cons r M ih =>
        simp only [List.filter_cons]
        by_cases c1 : r.length ≤ k
        · rw [if_pos (by simp; omega), if_pos (by simp; omega), if_neg (by simp; omega)]
          simp only [List.length_cons]; omega
        · by_cases c2 : r.length = k + 1
          · rw [if_pos (by simp; omega), if_neg (by simp; omega), if_pos (by simp; omega)]
            simp only [List.length_cons]; omega
          · rw [if_neg (by simp; omega), if_neg (by simp; omega), if_neg (by simp; omega)]
            exact ih
    rw [e, ih, h2]; rfl
end
/-! ### sums of unlike parts, listed -/
structure SmI (H : Hp) (q : Addr) (S : List Int) (t : Nat) (Bs : List Rw) : Prop where
  h : H q = some (.lst (Bs.map fun b => .ref b.1))
  b : ∀ b ∈ Bs, H b.1 = some (.lst (b.2.map V.int))
  r : SmR S t (Bs.map (·.2))
  lim : Bs.length < 16000000
theorem SmI.same {H H' : Hp} {q : Addr} {S : List Int} {t : Nat} {Bs : List Rw} (x : SmI H q S t Bs) (s : Same H H') : SmI H' q S t Bs := ⟨s _ _ x.h, fun b hb => s _ _ (x.b b hb), x.r, x.lim⟩
theorem given_gen {α : Type} {S : List α} {g : α → Option V} : given (fun j => (S[j]?).bind g) S.length = S.filterMap g := by
  have h : ∀ n ≤ S.length, given (fun j => (S[j]?).bind g) n = (S.take n).filterMap g := by
    intro n
    induction n with
    | zero => intro _; rfl
    | succ n ih =>
      intro hn
      show given _ n ++ (match (S[n]?).bind g with | some y => [y] | none => []) = _
      rw [ih (by omega), List.take_add_one, List.getElem?_eq_getElem (by omega), List.filterMap_append]
      congr 1
      show (match (some S[n]).bind g with | some y => [y] | none => []) = List.filterMap g [S[n]]
      cases e : g S[n] <;> simp [e]
  rw [h _ (Nat.le_refl _), List.take_length]
theorem fm_filter {α : Type} (P : α → Bool) (f : α → V) : ∀ l : List α, (l.filterMap fun b => if P b then some (f b) else none) = (l.filter P).map f
  | [] => rfl
  | b :: l => by
    rw [List.filterMap_cons, List.filter_cons]
    cases h : P b
    · simp only [Bool.false_eq_true, if_false]; exact fm_filter P f l
    · simp only [if_true]; rw [List.map_cons, fm_filter P f l]
structure EvI (H : Hp) (ev : Addr) (L : List Int) (n : Nat) (es : List V) : Prop where
  h : H ev = some (.lst es)
  len : es.length = n + 1
  at_ : ∀ t, t ≤ n → ∃ q Bs, es[t]? = some (.ref q) ∧ SmI H q L t Bs
theorem EvI.same {H H' : Hp} {ev : Addr} {L : List Int} {n : Nat} {es : List V} (x : EvI H ev L n es) (s : Same H H') : EvI H' ev L n es := ⟨s _ _ x.h, x.len, fun t ht => by
  obtain ⟨q, Bs, h1, h2⟩ := x.at_ t ht
  exact ⟨q, Bs, h1, h2.same s⟩⟩
/-! ### numbers and kinds as texts -/
open TL in
def dig (n : Nat) : Str := Str.ofString (toString ((n : Nat) : Int))
open TL in
theorem dig_tl (n : Nat) : tl (dig n) = numL n := tl_num n
theorem dig_len {n : Nat} (h : n < 1000) : 1 ≤ (dig n).length ∧ (dig n).length ≤ 3 := by
  rw [TL.len_tl, dig_tl]
  exact ⟨List.length_pos_iff.mpr (TL.numL_ne n), TL.numL_len (k := 3) (by decide) (by omega)⟩
theorem dig_free {n s : Nat} (h : s < 48 ∨ 57 < s) : s ∉ TL.tl (dig n) := by rw [dig_tl]; exact TL.numL_free h
theorem dig_sign {n c : Nat} (h : c ∈ TL.tl (dig n)) : 48 ≤ c ∧ c ≤ 57 := by
  refine ⟨Nat.le_of_not_lt fun z => dig_free (.inl z) h, Nat.le_of_not_lt fun z => dig_free (.inr z) h⟩
theorem joinL_len (S : List Nat) : ∀ ps : List (List Nat), (TL.joinL S ps).length ≤ (ps.map (·.length)).sum + ps.length * S.length
  | [] => Nat.zero_le _
  | [p] => by simp [TL.joinL]
  | p :: q :: r => by
    have ih := joinL_len S (q :: r)
    show (p ++ (S ++ TL.joinL S (q :: r))).length ≤ _
    rw [List.length_append, List.length_append, List.map_cons, List.sum_cons, List.length_cons, Nat.succ_mul]
    omega
theorem join_len (y : Str) (ps : List Str) : (Txt.join y ps).length ≤ (ps.map (·.length)).sum + ps.length * y.length := by
  rw [TL.join_eq, TL.len_tl, TL.tl_join]
  have h := joinL_len (TL.tl y) (ps.map TL.tl)
  rw [List.map_map, List.length_map] at h
  have e : ps.map ((fun x : List Nat => x.length) ∘ TL.tl) = ps.map (·.length) := List.map_congr_left fun p _ => (TL.len_tl p).symm
  rw [e, ← TL.len_tl] at h
  exact h
theorem sum_le {α : Type} (f : α → Nat) {c : Nat} : ∀ {l : List α}, (∀ x ∈ l, f x ≤ c) → (l.map f).sum ≤ l.length * c
  | [], _ => Nat.zero_le _
  | x :: l, h => by
    have ih := sum_le f (l := l) fun y hy => h y (List.mem_cons_of_mem _ hy)
    have := h x List.mem_cons_self
    rw [List.map_cons, List.sum_cons, List.length_cons, Nat.succ_mul]
    omega
section
variable {K : Fg} {G : Gx} {H : Hp} {Q : VK} {E : XK} {a : Addr} {ks : List V} {σ : L2.St} {iv : Nat}
theorem i_strV {n : Nat} (hn : n < 1000) (h : Q (.str (dig n)) H) : uStr [.int (n : Nat)] H Q := .inl ⟨n, rfl, by
  rw [Int.natAbs_natCast]
  refine Nat.lt_of_le_of_lt (Nat.log2_le_self n) (by omega), h⟩
end
/-! ### sums as texts -/
structure Wsm (n : Nat) (ps : List Nat) : Prop where
  le : n ≤ 200
  pos : ∀ p ∈ ps, 1 ≤ p
  sum : ps.sum = n
  fall : ps.Pairwise (· ≥ ·)
theorem Wsm.lim {n : Nat} {ps : List Nat} (w : Wsm n ps) {p : Nat} (hp : p ∈ ps) : p ≤ 200 := by
  have : ∀ {l : List Nat}, p ∈ l → p ≤ l.sum := by
    intro l
    induction l with
    | nil => intro h; cases h
    | cons x l ih =>
      intro h
      rw [List.sum_cons]
      rcases List.mem_cons.mp h with z | z
      · omega
      · have := ih z; omega
  have h1 := this hp
  have h2 := w.sum
  have h3 := w.le
  omega
theorem Wsm.len {n : Nat} {ps : List Nat} (w : Wsm n ps) : ps.length ≤ 200 := by
  have : ∀ {l : List Nat}, (∀ p ∈ l, 1 ≤ p) → l.length ≤ l.sum := by
    intro l
    induction l with
    | nil => intro _; exact Nat.le_refl _
    | cons x l ih =>
      intro h
      have := ih fun y hy => h y (List.mem_cons_of_mem _ hy)
      have := h x List.mem_cons_self
      rw [List.sum_cons, List.length_cons]; omega
  have h1 := this w.pos
  have h2 := w.sum
  have h3 := w.le
  omega
theorem len_app (a b : Str) : (a ++ b).length = a.length + b.length := by rw [TL.len_tl, TL.len_tl, TL.len_tl, TL.tl_append, List.length_append]
/-! ### things of any kind -/
def bnd : Nat → Nat
  | 0 => 200
  | n + 1 => 30 * (bnd n + 2) + 4
theorem bnd_ge : ∀ n, 200 ≤ bnd n
  | 0 => Nat.le_refl _
  | n + 1 => by have := bnd_ge n; show 200 ≤ 30 * (bnd n + 2) + 4; omega
/-- a text with few plain signs -/
def Few (s : Str) : Prop := s.length ≤ 12 ∧ ∀ c ∈ s.cps.toList, c < 16 ^ 8
mutual
inductive Th (W : Wd) (H : Hp) : Nat → V → PyData → Prop
  | non {n} : Th W H n .non .none
  | bl {n} (b : Bool) : Th W H n (.bl b) (.bool b)
  | int {n} (i : Int) : i.natAbs < 10 ^ 40 → Th W H n (.int i) (.int i)
  | str {n} (x : Str) : Few x → Th W H n (.str x) (.str x)
  | lst {n a xs ds} : At W H a (.lst xs) → xs.length ≤ 30 → ThA W H n xs ds → Th W H (n + 1) (.ref a) (.list ds)
  | tup {n a xs ds} : At W H a (.tup xs) → xs.length ≤ 30 → ThA W H n xs ds → Th W H (n + 1) (.ref a) (.tuple ds)
  | emp {n a} : At W H a (.dK []) → Th W H (n + 1) (.ref a) (.dict [])
inductive ThA (W : Wd) (H : Hp) : Nat → List V → List PyData → Prop
  | nil {n} : ThA W H n [] []
  | cons {n v vs d ds} : Th W H n v d → ThA W H n vs ds → ThA W H n (v :: vs) (d :: ds)
end
section
variable {W : Wd} {H H' : Hp}
mutual
theorem Th.dq {K : Fg} : ∀ {n : Nat} {v : V} {d : PyData}, Th W H n v d → Dq K H v d
  | _, _, _, .non => .non
  | _, _, _, .bl b => .bl b
  | _, _, _, .int i _ => .int i
  | _, _, _, .str x _ => .str x
  | _, _, _, .lst h _ a => .lst (sq_of h.h) a.dq
  | _, _, _, .tup h _ a => .tup (st_of h.h) a.dq
  | _, _, _, .emp h => .emp h.h
theorem ThA.dq {K : Fg} : ∀ {n : Nat} {vs : List V} {ds : List PyData}, ThA W H n vs ds → DqA K H vs ds
  | _, _, _, .nil => .nil
  | _, _, _, .cons a b => .cons a.dq b.dq
end
mutual
theorem Th.keep (k : ∀ a o, At W H a o → At W H' a o) : ∀ {n : Nat} {v : V} {d : PyData}, Th W H n v d → Th W H' n v d
  | _, _, _, .non => .non
  | _, _, _, .bl b => .bl b
  | _, _, _, .int i h => .int i h
  | _, _, _, .str x h => .str x h
  | _, _, _, .lst h l a => .lst (k _ _ h) l (a.keep k)
  | _, _, _, .tup h l a => .tup (k _ _ h) l (a.keep k)
  | _, _, _, .emp h => .emp (k _ _ h)
theorem ThA.keep (k : ∀ a o, At W H a o → At W H' a o) : ∀ {n : Nat} {vs : List V} {ds : List PyData}, ThA W H n vs ds → ThA W H' n vs ds
  | _, _, _, .nil => .nil
  | _, _, _, .cons a b => .cons (a.keep k) (b.keep k)
end
mutual
theorem Th.up : ∀ {n : Nat} {v : V} {d : PyData}, Th W H n v d → Th W H (n + 1) v d
  | _, _, _, .non => .non
  | _, _, _, .bl b => .bl b
  | _, _, _, .int i h => .int i h
  | _, _, _, .str x h => .str x h
  | _, _, _, .lst h l a => .lst h l a.up
  | _, _, _, .tup h l a => .tup h l a.up
  | _, _, _, .emp h => .emp h
theorem ThA.up : ∀ {n : Nat} {vs : List V} {ds : List PyData}, ThA W H n vs ds → ThA W H (n + 1) vs ds
  | _, _, _, .nil => .nil
  | _, _, _, .cons a b => .cons a.up b.up
end
theorem ThA.len : ∀ {n : Nat} {vs : List V} {ds : List PyData}, ThA W H n vs ds → ds.length = vs.length
  | _, _, _, .nil => rfl
  | _, _, _, .cons _ b => by rw [List.length_cons, List.length_cons, b.len]
theorem int_shown {i : Int} (h : i.natAbs < 10 ^ 40) : (Str.ofString (toString i)).length ≤ 42 := by
  rcases Int.natAbs_eq i with e | e
  · rw [e]
    have := TL.numL_len (n := i.natAbs) (k := 40) (by decide) h
    rw [TL.len_tl, TL.tl_num]; omega
  · cases hn : i.natAbs with
    | zero => rw [e, hn]; decide +kernel
    | succ m =>
      have h2 := TL.numL_len (n := i.natAbs) (k := 40) (by decide) h
      have e2 : toString i = "-" ++ toString ((i.natAbs : Nat) : Int) := by
        rw [e, hn]; rfl
      rw [e2, TL.len_tl, TL.tl_ofString, String.toList_append, List.map_append, List.length_append]
      have e3 := TL.tl_num i.natAbs
      rw [TL.tl_ofString] at e3
      rw [e3]
      have : ("-".toList.map Char.toNat).length = 1 := rfl
      omega
theorem text_sum {B : Nat} {ts : List Str} (h : ∀ t ∈ ts, t.length ≤ B) (hl : ts.length ≤ 30) : (ts.map (·.length)).sum ≤ 30 * B := by
  have := sum_le (fun t : Str => t.length) h
  exact Nat.le_trans this (Nat.mul_le_mul_right _ hl)
theorem log_small {i : Int} (h : i.natAbs < 10 ^ 40) : i.natAbs.log2 < 1920 := by
  by_cases z : i.natAbs = 0
  · rw [z]; decide
  · exact (Nat.log2_lt z).mpr (Nat.lt_of_lt_of_le h (Nat.le_trans (show 10 ^ 40 ≤ 2 ^ 200 by decide) (Nat.pow_le_pow_right (by decide) (by decide))))
end
theorem shownAll_len : ∀ ds : List PyData, (PyData.shownAll ds).length = ds.length
  | [] => by rw [PyData.shownAll]; rfl
  | d :: ds => by rw [PyData.shownAll, List.length_cons, List.length_cons, shownAll_len ds]
section
variable {W : Wd} {H : Hp}
mutual
theorem Th.fit : ∀ {n : Nat} {v : V} {d : PyData}, Th W H n v d → d.showable = true ∧ d.shown.length ≤ bnd n ∧ d.depth ≤ n
  | n, _, _, .non => ⟨rfl, Nat.le_trans (by rw [PyData.shown]; decide +kernel) (bnd_ge n), by simp [PyData.depth]⟩
  | n, _, _, .bl b => ⟨rfl, Nat.le_trans (by rw [PyData.shown]; cases b <;> decide +kernel) (bnd_ge n), by simp [PyData.depth]⟩
  | n, _, _, .int i h => ⟨by simp only [PyData.showable, decide_eq_true_eq]; exact log_small h, Nat.le_trans (by rw [PyData.shown]; exact Nat.le_trans (int_shown h) (by decide)) (bnd_ge n), by simp [PyData.depth]⟩
  | n, _, _, .str x h => ⟨by simp [PyData.showable], Nat.le_trans (by rw [PyData.shown]; have := StrLaws.reprText_len x h.2; have := h.1; omega) (bnd_ge n), by simp [PyData.depth]⟩
  | _, _, _, .lst (n := n) (ds := ds) h l a => by
    obtain ⟨z1, z2, z3⟩ := a.fit
    have hl := a.len
    refine ⟨by simpa [PyData.showable] using z1, ?_, by rw [PyData.depth]; omega⟩
    have hs : (PyData.shownAll ds).length ≤ 30 := by
      have : (PyData.shownAll ds).length = ds.length := shownAll_len ds
      omega
    have h1 := textFrom_len_le (PyData.shownAll ds) 0 "["
    have h2 := text_sum z2 hs
    rw [PyData.shown]
    show (textFrom 0 "[" (PyData.shownAll ds) ++ Str.ofString "]").length ≤ 30 * (bnd n + 2) + 4
    rw [len_app, show Str.length (Str.ofString "]") = 1 by decide +kernel]
    have h3 : Str.length (Str.ofString "[") = 1 := by decide +kernel
    rw [h3] at h1
    omega
  | _, _, _, .tup (n := n) (ds := ds) h l a => by
    obtain ⟨z1, z2, z3⟩ := a.fit
    have hl := a.len
    refine ⟨by simpa [PyData.showable] using z1, ?_, by rw [PyData.depth]; omega⟩
    have hs : (PyData.shownAll ds).length ≤ 30 := by
      have : (PyData.shownAll ds).length = ds.length := shownAll_len ds
      omega
    have h2 := text_sum z2 hs
    have h1 := join_len (Str.ofString ", ") (PyData.shownAll ds)
    rw [TL.join_eq, show Str.length (Str.ofString ", ") = 2 by decide +kernel] at h1
    rw [PyData.shown]
    show (Str.ofString "(" ++ Str.join (Str.ofString ", ") (PyData.shownAll ds) ++ Str.ofString (if (PyData.shownAll ds).length == 1 then ",)" else ")")).length ≤ 30 * (bnd n + 2) + 4
    have h4 : Str.length (Str.ofString (if (PyData.shownAll ds).length == 1 then ",)" else ")")) ≤ 2 := by split <;> decide +kernel
    rw [len_app, len_app, show Str.length (Str.ofString "(") = 1 by decide +kernel]
    omega
  | _, _, _, .emp (n := n) h => ⟨rfl, Nat.le_trans (by rw [PyData.shown]; decide +kernel) (bnd_ge (n + 1)), by simp [PyData.depth, PyData.depthKv]⟩
theorem ThA.fit : ∀ {n : Nat} {vs : List V} {ds : List PyData}, ThA W H n vs ds → PyData.showableAll ds = true ∧ (∀ t ∈ PyData.shownAll ds, t.length ≤ bnd n) ∧ PyData.depthAll ds ≤ n
  | _, _, _, .nil => ⟨rfl, (by rw [PyData.shownAll]; exact fun _ z => by cases z), (by simp [PyData.depthAll])⟩
  | _, _, _, .cons a b => by
    obtain ⟨x1, x2, x3⟩ := a.fit
    obtain ⟨y1, y2, y3⟩ := b.fit
    refine ⟨by simp only [PyData.showableAll, x1, y1, Bool.and_self], fun t ht => ?_, by rw [PyData.depthAll]; omega⟩
    rw [PyData.shownAll] at ht
    rcases List.mem_cons.mp ht with z | z
    · rw [z]; exact x2
    · exact y2 t z
end
theorem i_repr {K : Fg} {Q : VK} {n : Nat} {v : V} {d : PyData} (t : Th W H n v d) (hn : n ≤ 3) (h : Q (.str d.shown) H) : uRepr K [v] H Q := by
  obtain ⟨z1, z2, z3⟩ := t.fit
  refine ⟨v, d, rfl, t.dq, z1, ?_, by omega, h⟩
  rw [sizeLine_eq]
  have hb : bnd n ≤ bnd 3 := by
    have : n = 0 ∨ n = 1 ∨ n = 2 ∨ n = 3 := by omega
    rcases this with rfl | rfl | rfl | rfl <;> decide
  exact Nat.le_trans z2 (Nat.le_trans hb (by decide))
end
/-! ### what is a kind, of anything -/
section
variable {K : Fg} {H : Hp} {Q : VK} {a : Addr} {xs : List V} {kvs : List (Key × V)} {b : Bool}
theorem i_isiBL (h : Q (.bl false) H) : uIsi K [.bl b, .ty "list"] H Q := ⟨_, _, _, _, false, rfl, .ty _, .base (.bl b), kit_ty (by decide +kernel), h⟩
theorem i_isiNL (h : Q (.bl false) H) : uIsi K [.non, .ty "list"] H Q := ⟨_, _, _, _, false, rfl, .ty _, .base .non, kit_ty (by decide +kernel), h⟩
theorem i_isiLI (e : H a = some (.lst xs)) (h : Q (.bl false) H) : uIsi K [.ref a, .ty "int"] H Q := ⟨_, _, _, _, false, rfl, .ty _, .base (.lst e), kit_ty (by decide +kernel), h⟩
theorem i_isiTI (e : H a = some (.tup xs)) (h : Q (.bl false) H) : uIsi K [.ref a, .ty "int"] H Q := ⟨_, _, _, _, false, rfl, .ty _, .base (.tup e), kit_ty (by decide +kernel), h⟩
theorem i_isiTL (e : H a = some (.tup xs)) (h : Q (.bl false) H) : uIsi K [.ref a, .ty "list"] H Q := ⟨_, _, _, _, false, rfl, .ty _, .base (.tup e), kit_ty (by decide +kernel), h⟩
theorem i_isiDI (e : H a = some (.dK kvs)) (h : Q (.bl false) H) : uIsi K [.ref a, .ty "int"] H Q := ⟨_, _, _, _, false, rfl, .ty _, .base (.dK e), kit_ty (by decide +kernel), h⟩
theorem i_isiDL (e : H a = some (.dK kvs)) (h : Q (.bl false) H) : uIsi K [.ref a, .ty "list"] H Q := ⟨_, _, _, _, false, rfl, .ty _, .base (.dK e), kit_ty (by decide +kernel), h⟩
theorem i_neLen {p q : Addr} {ys : List V} (h1 : SqL K H p xs) (h2 : SqL K H q ys) (hne : xs.length ≠ ys.length) (h : Q (.bl true) H) : uNe K (.ref p) (.ref q) H Q := .inr (.inr ⟨⟨p, q, xs, ys, rfl, rfl, h1, h2, hne⟩, h⟩)
end
section
variable {G : Gx} {W : Wd} {H : Hp} {Q : VK} {E : XK} {n : Nat} {v : V} {d : PyData}
theorem u_is_wholeR {a : Addr} (h : ∀ Q' : VK, Q' (.bl false) H → uIsi G.K [.ref a, .ty "int"] H Q') (q : Q (.bl false) H) : sp_is_whole G [.ref a] H Q E := by
  refine ⟨rfl, ?_⟩
  unfold t_is_whole
  wtm_at "w"
  refine h _ ?_
  wtm_at "w"
  exact q
/-- what are kinds -/
def AreK (H : Hp) (v : V) : Prop := ∃ a ks, v = .ref a ∧ H a = some (.lst ks) ∧ KdL ks
theorem ThA.mem {vs : List V} {ds : List PyData} : ThA W H n vs ds → ∀ x ∈ vs, ∃ d, Th W H n x d
  | .nil, x, hx => by cases hx
  | .cons a b, x, hx => by
    rcases List.mem_cons.mp hx with z | z
    · exact ⟨_, by rw [z]; exact a⟩
    · exact b.mem x z
theorem Th.same {H' : Hp} (t : Th W H n v d) (s : Same H H') : Th W H' n v d := t.keep fun _ _ z => z.same s
theorem AreK.same {H' : Hp} (t : Th W H n v d) (s : Same H H') : AreK H' v ↔ AreK H v := by
  constructor
  · rintro ⟨a, ks, rfl, e, z⟩
    cases t with
    | lst e' _ _ => rw [s _ _ e'.h] at e; cases e; exact ⟨a, _, rfl, e'.h, z⟩
    | tup e' _ _ => rw [s _ _ e'.h] at e; cases e
    | emp e' => rw [s _ _ e'.h] at e; cases e
  · rintro ⟨a, ks, e1, e, z⟩
    exact ⟨a, ks, e1, s _ _ e, z⟩
end
/-! ### words near the one -/
abbrev cw : Str := Str.ofString "cubes"
abbrev az : Str := Str.ofString "abcdefghijklmnopqrstuvwxyz"
def cs (A : Nat) : Nat := cw.cps.toList.getD A 0
def sg (c : Nat) : Str := ⟨#[c]⟩
def rp (A : Nat) : Str := Txt.replace az (sg (cs A)) (Str.ofString "")
section
variable {K : Fg} {H : Hp} {Q : VK} {σ : L2.St}
theorem i_dnewK (h : ∀ p, H p = none → Q (.ref p) (upd H p (.dK []))) : tDNewK σ H Q := h
end
section
variable {W : Wd} {H H' : Hp}
/-- a thing that is no kind -/
def Gd (W : Wd) (H : Hp) (x : V) : Prop := (∃ d, Th W H 1 x d) ∧ ¬ IsKd x
theorem Gd.keep {x : V} (g : Gd W H x) (k : ∀ a o, At W H a o → At W H' a o) : Gd W H' x := ⟨let ⟨d, t⟩ := g.1; ⟨d, t.keep k⟩, g.2⟩
theorem tha_of {n : Nat} : ∀ {xs : List V}, (∀ x ∈ xs, ∃ d, Th W H n x d) → ∃ ds, ThA W H n xs ds
  | [], _ => ⟨_, .nil⟩
  | x :: xs, h => by
    obtain ⟨d, t⟩ := h x List.mem_cons_self
    obtain ⟨ds, ts⟩ := tha_of (xs := xs) fun y hy => h y (List.mem_cons_of_mem _ hy)
    exact ⟨_, .cons t ts⟩
theorem at_after {a p : Addr} {o u : HO} (z : At W H a o) (np : H p = none) : At W (upd H p u) a o := ⟨upd_old np z.h, z.r⟩
end
section
variable {K : Fg} {W : Wd} {H H' : Hp} {Q : VK} {σ : L2.St}
/-- a thing that are no kinds -/
def NoK (W : Wd) (H : Hp) (x : V) : Prop := (∃ d, Th W H 2 x d) ∧ ¬ AreK H x
theorem NoK.keep {x : V} (g : NoK W H x) (k : ∀ a o, At W H a o → At W H' a o) : NoK W H' x := by
  obtain ⟨⟨d, t⟩, hn⟩ := g
  refine ⟨⟨d, t.keep k⟩, fun z => hn ?_⟩
  obtain ⟨a, ks, rfl, e, z⟩ := z
  cases t with
  | lst e' _ _ => rw [(k _ _ e').h] at e; cases e; exact ⟨a, _, rfl, e'.h, z⟩
  | tup e' _ _ => rw [(k _ _ e').h] at e; cases e
  | emp e' => rw [(k _ _ e').h] at e; cases e
end
section
variable {G : Gx} {W : Wd} {H : Hp} {Q : VK} {E : XK} {n : Nat} {v : V} {d : PyData}
def whB : V → Bool
  | .int _ => true
  | _ => false
theorem u_is_wholeT (t : Th W H n v d) (h : Q (.bl (whB v)) H) : sp_is_whole G [v] H Q E := by
  cases t with
  | int i _ => exact u_is_whole_int h
  | str x _ => exact u_is_whole_str h
  | non =>
    refine ⟨rfl, ?_⟩
    unfold t_is_whole
    wtm_at "w"
    exact h
  | bl b =>
    refine ⟨rfl, ?_⟩
    unfold t_is_whole
    wtm_at "w"
    exact h
  | lst e _ _ => exact u_is_wholeR (fun Q' q => i_isiLI e.h q) h
  | tup e _ _ => exact u_is_wholeR (fun Q' q => i_isiTI e.h q) h
  | emp e => exact u_is_wholeR (fun Q' q => i_isiDI e.h q) h
/-- a number from .. to .. -/
def InB (lo : Int) (hi : Option Int) (v : V) : Prop := ∃ i : Int, v = .int i ∧ lo ≤ i ∧ ∀ m, hi = some m → i ≤ m
end
section
variable {W : Wd} {H H' : Hp} {lo : Int} {hi : Option Int}
/-- a thing that is no number from lo to hi -/
def Gn (W : Wd) (lo : Int) (hi : Option Int) (H : Hp) (x : V) : Prop := (∃ d, Th W H 1 x d) ∧ ¬ InB lo hi x
theorem Gn.keep {x : V} (g : Gn W lo hi H x) (k : ∀ a o, At W H a o → At W H' a o) : Gn W lo hi H' x := ⟨let ⟨d, t⟩ := g.1; ⟨d, t.keep k⟩, g.2⟩
theorem small40 {i : Int} (h : i.natAbs ≤ 500) : i.natAbs < 10 ^ 40 := Nat.lt_of_le_of_lt h (by decide)
end
theorem ixR {K : Fg} {H : Hp} {Q : VK} {p : Addr} {ys : List V} {r : Int} (e : H p = some (.lst ys)) (h0 : 0 ≤ r) (h1 : r < ys.length) (h : ∀ z ∈ ys, Q z H) : uIx K (.ref p) (.int r) H Q := by
  obtain ⟨R, rfl⟩ : ∃ R : Nat, r = (R : Int) := ⟨r.toNat, by omega⟩
  have hR : R < ys.length := by omega
  exact i_ixL (sq_of e) (at_nat (n := R) rfl (List.getElem?_eq_getElem hR)) (h _ (List.getElem_mem hR))
section
variable {G : Gx} {W : Wd} {H : Hp} {Q : VK} {E : XK} {v : V} {dd : PyData} {m : Nat} {a : Addr} {ks : List V}
/-- is_sum of what is no list -/
theorem u_is_sum_no {n : Nat} (ha : H a = some (.lst ks)) (hk : KdL ks) (hn : n ≤ 200) (t : Th W H m v dd) (hv : ∀ p xs, v = .ref p → H p ≠ some (.lst xs)) (h : ∀ H', Same H H' → Q (.bl false) H') : sp_is_sum G [.ref a, .int (n : Nat), v] H Q E := by
  refine ⟨rfl, ?_⟩
  unfold t_is_sum
  wtm_at "wa"
  refine u_need_kinds ha hk fun H1 s1 => ?_
  wtm_at "wa"
  refine u_need_to_most (by omega) (by omega) ?_
  cases t with
  | lst e _ _ => exact absurd e.h (hv _ _ rfl)
  | tup e _ _ =>
    wtm_at "wa"
    refine i_isiTL (s1 _ _ e.h) ?_
    wtm_at "wa"
    exact h _ s1
  | emp e =>
    wtm_at "wa"
    refine i_isiDL (s1 _ _ e.h) ?_
    wtm_at "wa"
    exact h _ s1
  | non =>
    wtm_at "wa"
    refine i_isiNL ?_
    wtm_at "wa"
    exact h _ s1
  | bl b =>
    wtm_at "wa"
    refine i_isiBL ?_
    wtm_at "wa"
    exact h _ s1
  | int i _ =>
    wtm_at "wa"
    exact h _ s1
  | str x _ =>
    wtm_at "wa"
    exact h _ s1
end
section
variable {G : Gx} {H : Hp} {Q : VK} {E : XK} {a p q : Addr} {ks xs : List V}
/-- is_sum of a list that holds a list alone -/
theorem u_is_sum_nest {n : Nat} (ha : H a = some (.lst ks)) (hk : KdL ks) (hn : n ≤ 200) (hp : H p = some (.lst [.ref q])) (hq : H q = some (.lst xs)) (h : ∀ H', Same H H' → Q (.bl false) H') : sp_is_sum G [.ref a, .int (n : Nat), .ref p] H Q E := by
  refine ⟨rfl, ?_⟩
  unfold t_is_sum
  wtm_at "wa"
  refine u_need_kinds ha hk fun H1 s1 => ?_
  wtm_at "wa"
  refine u_need_to_most (by omega) (by omega) ?_
  wtm_at "wa"
  refine i_isiLL (s1 _ _ hp) ?_
  wtm_at "wa"
  refine i_lstA (sq_of (s1 _ _ hp)) ?_
  refine lck_pure walk_list (by simp) (fun _ => some (.ref q)) (fun H' s => sq_of (s _ _ (s1 _ _ hp))) (fun j x H5 H6 KK NN hj s y hK hN => ?_) (fun r H5 nr s5 e5 => ?_)
  · obtain ⟨rfl, hx⟩ := y
    have hj0 : j = 0 := by have : j < 1 := hj; omega
    subst hj0
    cases hx
    wtm_at "w"
    refine ⟨rfl, ?_⟩
    wtm_at "w"
    refine u_is_wholeR (fun Q' z => i_isiLI (s _ _ (s1 _ _ hq)) z) ?_
    wtm_at "w"
    exact hK _ _ rfl (fun _ _ z => z)
  · wtm_at "wa"
    refine i_new (by simp) fun u nu => ?_
    refine i_neLen (xs := given (fun _ => some (.ref q)) 1) (ys := []) (sq_of (upd_old nu e5)) (sq_of upd_same) (fun z => by cases z) ?_
    wtm_at "wa"
    exact h _ ((s1.trans s5).trans (same_new nu))
end
/-- what is no sum of n -/
inductive NoS (W : Wd) (H : Hp) (ks : List V) (n : Nat) : V → Prop
  | sc {z : V} : (∃ d, Th W H 0 z d) → (∀ p, z ≠ .ref p) → NoS W H ks n z
  | tp {p : Addr} {m : Nat} : At W H p (.tup (List.replicate m (V.int 1))) → m ≤ 30 → NoS W H ks n (.ref p)
  | dc {p : Addr} : At W H p (.dK []) → NoS W H ks n (.ref p)
  | li {p : Addr} {xs : List Int} : At W H p (.lst (xs.map V.int)) → xs.length ≤ 30 → (∀ x ∈ xs, x.natAbs ≤ 500) → (∀ L, StockOf ks n L → ¬ SumOk L n xs) → NoS W H ks n (.ref p)
  | ne {p q : Addr} : At W H p (.lst [.ref q]) → At W H q (.lst [.int (n : Nat)]) → n ≤ 500 → NoS W H ks n (.ref p)
section
variable {G : Gx} {W : Wd} {H H' : Hp} {ks : List V} {n : Nat} {z : V}
theorem NoS.keep (k : ∀ a o, At W H a o → At W H' a o) : NoS W H ks n z → NoS W H' ks n z
  | .sc ⟨d, t⟩ h => .sc ⟨d, t.keep k⟩ h
  | .tp h m => .tp (k _ _ h) m
  | .dc h => .dc (k _ _ h)
  | .li h a b c => .li (k _ _ h) a b c
  | .ne h g m => .ne (k _ _ h) (k _ _ g) m
theorem NoS.th (s : NoS W H ks n z) : ∃ d, Th W H 2 z d := by
  cases s with
  | sc h _ => exact let ⟨d, t⟩ := h; ⟨d, t.up.up⟩
  | tp h m =>
    obtain ⟨ds, t⟩ := tha_of (W := W) (H := H) (n := 1) (xs := List.replicate _ (V.int 1)) fun x hx => by
      rw [List.eq_of_mem_replicate hx]
      exact ⟨_, .int 1 (by decide)⟩
    exact ⟨_, .tup h (by simpa using m) t⟩
  | dc h => exact ⟨_, .emp h⟩
  | li h a b c =>
    obtain ⟨ds, t⟩ := tha_of (W := W) (H := H) (n := 1) (xs := List.map V.int _) fun x hx => by
      obtain ⟨i, hi, rfl⟩ := List.mem_map.mp hx
      exact ⟨_, .int i (small40 (b i hi))⟩
    exact ⟨_, .lst h (by simpa using a) t⟩
  | ne h g m => exact ⟨_, .lst h (by simp) (.cons (.lst g (by simp) (.cons (.int _ (small40 (by omega))) .nil)) .nil)⟩
theorem NoS.no {a : Addr} {Q : VK} {E : XK} (s : NoS W H ks n z) (ha : H a = some (.lst ks)) (hk : KdL ks) (hn : n ≤ 200) (h : ∀ H', Same H H' → Q (.bl false) H') : sp_is_sum G [.ref a, .int (n : Nat), z] H Q E := by
  cases s with
  | sc t hz =>
    obtain ⟨d, t⟩ := t
    exact u_is_sum_no ha hk hn t (fun p _ e => absurd e (hz p)) h
  | tp e m =>
    obtain ⟨d, t⟩ := NoS.th (ks := ks) (n := n) (.tp e m)
    exact u_is_sum_no ha hk hn t (fun p _ e' he => by cases e'; rw [e.h] at he; cases he) h
  | dc e => exact u_is_sum_no ha hk hn (Th.emp (n := 0) e) (fun p _ e' he => by cases e'; rw [e.h] at he; cases he) h
  | li e a b c =>
    refine u_is_sum ha hk hn (sq_of e.h) e.h (by omega) fun L b H' s hL hb => ?_
    have : b = false := by
      cases b with
      | false => rfl
      | true => exact absurd (hb.mp rfl) (c L hL)
    rw [this]
    exact h _ s
  | ne e g m => exact u_is_sum_nest ha hk hn e.h g.h h
end
/-! ### things that may be sums -/
/-- the law's own look -/
def dueF (L : List Int) : Int → Int → List V → Bool
  | left, _, [] => decide (left = 0)
  | left, last, .int z :: r => if z ∈ L ∧ z ≤ last then dueF L (left - z) z r else false
  | _, _, _ :: _ => false
theorem dueF_int {L : List Int} (z : Int) (r : List V) (left last : Int) (ih : ∀ a b : Int, dueF L a b r = true ↔ ∃ is : List Int, r = is.map V.int ∧ (∀ x ∈ is, x ∈ L) ∧ is.Pairwise (· ≥ ·) ∧ (∀ x ∈ is, x ≤ b) ∧ is.sum = a) : dueF L left last (.int z :: r) = true ↔ ∃ is : List Int, V.int z :: r = is.map V.int ∧ (∀ x ∈ is, x ∈ L) ∧ is.Pairwise (· ≥ ·) ∧ (∀ x ∈ is, x ≤ last) ∧ is.sum = left := by
    simp only [dueF]
    split
    · rename_i hz
      rw [ih (left - z) z]
      constructor
      · rintro ⟨is, rfl, h1, h2, h3, h4⟩
        refine ⟨z :: is, rfl, ?_, List.pairwise_cons.mpr ⟨fun x hx => h3 x hx, h2⟩, ?_, by rw [List.sum_cons, h4]; omega⟩
        · intro x hx
          rcases List.mem_cons.mp hx with rfl | hx
          · exact hz.1
          · exact h1 x hx
        · intro x hx
          rcases List.mem_cons.mp hx with rfl | hx
          · exact hz.2
          · exact Int.le_trans (h3 x hx) hz.2
      · rintro ⟨is, e, h1, h2, h3, h4⟩
        cases is with
        | nil => cases e
        | cons y is =>
          rw [List.map_cons] at e
          injection e with e1 e2
          injection e1 with e1
          subst e1
          rw [List.pairwise_cons] at h2
          rw [List.sum_cons] at h4
          exact ⟨is, e2, fun x hx => h1 x (List.mem_cons_of_mem _ hx), h2.2, fun x hx => h2.1 x hx, by omega⟩
    · rename_i hz
      constructor
      · intro z; cases z
      · rintro ⟨is, e, h1, h2, h3, h4⟩
        cases is with
        | nil => cases e
        | cons y is =>
          rw [List.map_cons] at e
          injection e with e1 e2
          injection e1 with e1
          subst e1
          exact absurd ⟨h1 _ List.mem_cons_self, h3 _ List.mem_cons_self⟩ hz
theorem dueF_iff {L : List Int} : ∀ (xs : List V) (left last : Int), dueF L left last xs = true ↔ ∃ is : List Int, xs = is.map V.int ∧ (∀ x ∈ is, x ∈ L) ∧ is.Pairwise (· ≥ ·) ∧ (∀ x ∈ is, x ≤ last) ∧ is.sum = left
  | [], left, last => by
    simp only [dueF, decide_eq_true_eq]
    constructor
    · intro h; exact ⟨[], rfl, (by simp), .nil, (by simp), by rw [h]; rfl⟩
    · rintro ⟨is, e, _, _, _, h⟩
      cases is with
      | nil => rw [← h]; rfl
      | cons x r => cases e
  | x :: r, left, last => by
    by_cases hx : ∃ z, x = .int z
    · obtain ⟨z, rfl⟩ := hx
      exact dueF_int z r left last (fun a b => dueF_iff r a b)
    · have e0 : dueF L left last (x :: r) = false := by
        cases x <;> first | rfl | (exact absurd ⟨_, rfl⟩ hx)
      rw [e0]
      constructor
      · intro z; cases z
      · rintro ⟨is, e, _⟩
        cases is with
        | nil => cases e
        | cons y is =>
          rw [List.map_cons] at e
          injection e with e1 e2
          exact absurd ⟨_, e1⟩ hx
/-- a list of numbers that is a sum -/
def OkV (L : List Int) (n : Int) (xs : List V) : Prop := ∃ is : List Int, xs = is.map V.int ∧ SumOk L n is
theorem due_ok {L : List Int} {n : Int} {xs : List V} (h : ∀ x ∈ L, x ≤ 201) : dueF L n 201 xs = true ↔ OkV L n xs := by
  rw [dueF_iff]
  constructor
  · rintro ⟨is, e, h1, h2, _, h4⟩; exact ⟨is, e, h1, h4, h2⟩
  · rintro ⟨is, e, h1, h4, h2⟩; exact ⟨is, e, h1, h2, fun x hx => h x (h1 x hx), h4⟩
/-- a thing -/
inductive Tg (W : Wd) (H : Hp) : V → Prop
  | fl {v : V} {d : PyData} : Th W H 0 v d → Tg W H v
  | ls {p : Addr} {xs : List V} : At W H p (.lst xs) → xs.length ≤ 1000 → (∀ x ∈ xs, ∃ d, Th W H 1 x d) → Tg W H (.ref p)
  | tp {p : Addr} {ns : List Int} : At W H p (.tup (ns.map V.int)) → ns.length ≤ 1000 → (∀ x ∈ ns, x.natAbs ≤ 500) → Tg W H (.ref p)
  | nest {p q : Addr} {ns : List Int} : At W H p (.lst [.ref q]) → At W H q (.lst (ns.map V.int)) → ns.length ≤ 1000 → (∀ x ∈ ns, x.natAbs ≤ 500) → Tg W H (.ref p)
  | dc {p : Addr} {kvs : List (Int × Int)} : At W H p (.dK (ikv kvs)) → kvs.length ≤ 1000 → (∀ x ∈ kvs, x.1.natAbs ≤ 500 ∧ x.2.natAbs ≤ 500) → Tg W H (.ref p)
section
variable {G : Gx} {W : Wd} {H H' : Hp} {v : V}
theorem Tg.keep (k : ∀ a o, At W H a o → At W H' a o) : Tg W H v → Tg W H' v
  | .fl t => .fl (t.keep k)
  | .ls e l a => .ls (k _ _ e) l fun x hx => let ⟨d, t⟩ := a x hx; ⟨d, t.keep k⟩
  | .tp e l a => .tp (k _ _ e) l a
  | .nest e g l a => .nest (k _ _ e) (k _ _ g) l a
  | .dc e l a => .dc (k _ _ e) l a
theorem Tg.same (s : Same H H') (t : Tg W H v) : Tg W H' v := t.keep fun _ _ z => z.same s
theorem th1_ints {n : Nat} {ns : List Int} (h : ∀ x ∈ ns, x.natAbs ≤ 500) : ∀ x ∈ ns.map V.int, ∃ d, Th W H n x d := fun x hx => by
  obtain ⟨i, hi, rfl⟩ := List.mem_map.mp hx
  exact ⟨_, .int i (small40 (h i hi))⟩
theorem listText_le {B : Nat} {ds : List PyData} (h : ∀ t ∈ PyData.shownAll ds, t.length ≤ B) : (PyData.list ds).shown.length ≤ ds.length * (B + 2) + 4 := by
  have h1 := textFrom_len_le (PyData.shownAll ds) 0 "["
  have h2 := sum_le (fun t : Str => t.length) h
  rw [shownAll_len] at h1 h2
  rw [PyData.shown]
  show (textFrom 0 "[" (PyData.shownAll ds) ++ Str.ofString "]").length ≤ _
  rw [len_app, show Str.length (Str.ofString "]") = 1 by decide +kernel]
  have h3 : Str.length (Str.ofString "[") = 1 := by decide +kernel
  rw [h3] at h1
  have : ds.length * (B + 2) = ds.length * B + ds.length * 2 := Nat.mul_add _ _ _
  omega
theorem tupText_le {B : Nat} {ds : List PyData} (h : ∀ t ∈ PyData.shownAll ds, t.length ≤ B) : (PyData.tuple ds).shown.length ≤ ds.length * (B + 2) + 4 := by
  have h1 := join_len (Str.ofString ", ") (PyData.shownAll ds)
  have h2 := sum_le (fun t : Str => t.length) h
  rw [TL.join_eq, show Str.length (Str.ofString ", ") = 2 by decide +kernel] at h1
  rw [shownAll_len] at h1 h2
  rw [PyData.shown]
  show (Str.ofString "(" ++ Str.join (Str.ofString ", ") (PyData.shownAll ds) ++ Str.ofString (if (PyData.shownAll ds).length == 1 then ",)" else ")")).length ≤ _
  have h4 : Str.length (Str.ofString (if (PyData.shownAll ds).length == 1 then ",)" else ")")) ≤ 2 := by split <;> decide +kernel
  rw [len_app, len_app, show Str.length (Str.ofString "(") = 1 by decide +kernel]
  have : ds.length * (B + 2) = ds.length * B + ds.length * 2 := Nat.mul_add _ _ _
  omega
theorem mul_1000 {n B : Nat} (h : n ≤ 1000) : n * B ≤ 1000 * B := Nat.mul_le_mul_right _ h
theorem i_reprT (t : Tg W H v) : ∃ z : Str, ∀ (K : Fg) (H' : Hp) (Q : VK), Same H H' → Q (.str z) H' → uReprD K [v] H' Q := by
  cases t with
  | fl t => exact ⟨_, fun K H' Q s q => .inl (i_repr (t.same s) (by decide) q)⟩
  | ls e l a =>
    obtain ⟨ds, ta⟩ := tha_of a
    refine ⟨(PyData.list ds).shown, fun K H' Q s q => .inl ?_⟩
    obtain ⟨z1, z2, z3⟩ := ta.fit
    have hl := ta.len
    refine ⟨_, _, rfl, .lst (sq_of (s _ _ e.h)) (ta.keep fun _ _ z => z.same s).dq, by simpa [PyData.showable] using z1, ?_, by rw [PyData.depth]; omega, q⟩
    rw [sizeLine_eq]
    have h1 := listText_le z2
    have h2 : ds.length * (bnd 1 + 2) ≤ 1000 * (bnd 1 + 2) := mul_1000 (by omega)
    exact Nat.le_trans h1 (Nat.le_trans (Nat.add_le_add_right h2 4) (by decide))
  | tp e l a =>
    obtain ⟨ds, ta⟩ := tha_of (W := W) (H := H) (n := 0) (th1_ints a)
    refine ⟨(PyData.tuple ds).shown, fun K H' Q s q => .inl ?_⟩
    obtain ⟨z1, z2, z3⟩ := ta.fit
    have hl := ta.len
    rw [List.length_map] at hl
    refine ⟨_, _, rfl, .tup (st_of (s _ _ e.h)) (ta.keep fun _ _ z => z.same s).dq, by simpa [PyData.showable] using z1, ?_, by rw [PyData.depth]; omega, q⟩
    rw [sizeLine_eq]
    have h1 := tupText_le z2
    have h2 : ds.length * (bnd 0 + 2) ≤ 1000 * (bnd 0 + 2) := mul_1000 (by omega)
    exact Nat.le_trans h1 (Nat.le_trans (Nat.add_le_add_right h2 4) (by decide))
  | nest e g l a =>
    obtain ⟨ds, ta⟩ := tha_of (W := W) (H := H) (n := 0) (th1_ints a)
    obtain ⟨z1, z2, z3⟩ := ta.fit
    have hl := ta.len
    rw [List.length_map] at hl
    have h1 := listText_le z2
    have h2 : ds.length * (bnd 0 + 2) ≤ 1000 * (bnd 0 + 2) := mul_1000 (by omega)
    have h3 : (PyData.list ds).shown.length ≤ 1000 * (bnd 0 + 2) + 4 := by omega
    have h4 := listText_le (B := 1000 * (bnd 0 + 2) + 4) (ds := [PyData.list ds]) (fun t ht => by
      rw [PyData.shownAll, PyData.shownAll, List.mem_singleton] at ht
      rw [ht]; exact h3)
    refine ⟨(PyData.list [.list ds]).shown, fun K H' Q s q => .inl ?_⟩
    refine ⟨_, _, rfl, .lst (sq_of (s _ _ e.h)) (.cons (.lst (sq_of (s _ _ g.h)) (ta.keep fun _ _ z => z.same s).dq) .nil), by simpa [PyData.showable, PyData.showableAll] using z1, ?_, by simp only [PyData.depth, PyData.depthAll]; omega, q⟩
    rw [sizeLine_eq]
    exact Nat.le_trans h4 (show 1 * (1000 * (bnd 0 + 2) + 4 + 2) + 4 ≤ 16777216 by decide)
  | dc e l a =>
    rename_i p kvs
    have i3 : ∀ {i : Int}, i.natAbs ≤ 500 → (Str.ofString (toString i)).length ≤ 42 := fun h => int_shown (small40 h)
    refine ⟨dTexts kvs, fun K H' Q s q => .inr ⟨p, kvs, rfl, s _ _ e.h, fun x hx => ⟨log_small (small40 (a x hx).1), log_small (small40 (a x hx).2)⟩, ?_, q⟩⟩
    have hz : ∀ t ∈ List.zipWith (fun k v : Str => k ++ ": " ++ v) (iStrs (kvs.map (·.1))) (iStrs (kvs.map (·.2))), t.length ≤ 100 := by
      intro t ht
      have e1 : List.zipWith (fun k v : Str => k ++ ": " ++ v) (iStrs (kvs.map (·.1))) (iStrs (kvs.map (·.2))) = kvs.map fun x => Str.ofString (toString x.1) ++ ": " ++ Str.ofString (toString x.2) := by
        unfold iStrs
        rw [List.map_map, List.map_map, List.zipWith_map, List.zipWith_self]
        rfl
      rw [e1] at ht
      obtain ⟨x, hx, rfl⟩ := List.mem_map.mp ht
      rw [len_app, len_app]
      have := i3 (a x hx).1
      have := i3 (a x hx).2
      have : Str.length (": " : Str) = 2 := by decide +kernel
      omega
    have h1 := dictText_len_le (List.zipWith (fun k v : Str => k ++ ": " ++ v) (iStrs (kvs.map (·.1))) (iStrs (kvs.map (·.2))))
    have h2 := sum_le (fun t : Str => t.length) hz
    have h3 : (List.zipWith (fun k v : Str => k ++ ": " ++ v) (iStrs (kvs.map (·.1))) (iStrs (kvs.map (·.2)))).length ≤ 1000 := by
      unfold iStrs
      rw [List.length_zipWith, List.length_map, List.length_map, List.length_map, List.length_map]
      omega
    unfold dTexts
    rw [sizeLine_eq]
    omega
end
section
variable {G : Gx} {W : Wd} {H : Hp} {Q : VK} {E : XK} {v : V} {a : Addr} {ks : List V}
/-- is_sum of what is no list -/
theorem u_is_sumNL {n : Nat} (ha : H a = some (.lst ks)) (hk : KdL ks) (hn : n ≤ 200) (hv : ∀ H1 (Q' : VK), Same H H1 → Q' (.bl false) H1 → uIsi G.K [v, .ty "list"] H1 Q') (h : ∀ H', Same H H' → Q (.bl false) H') : sp_is_sum G [.ref a, .int (n : Nat), v] H Q E := by
  refine ⟨rfl, ?_⟩
  unfold t_is_sum
  wtm_at "wa"
  refine u_need_kinds ha hk fun H1 s1 => ?_
  wtm_at "wa"
  refine u_need_to_most (by omega) (by omega) ?_
  wtm_at "wa"
  refine hv _ _ s1 ?_
  wtm_at "wa"
  exact h _ s1
/-- is_sum of a list with something that is no number in it -/
theorem u_is_sumNI {n : Nat} {p : Addr} {xs : List V} (ha : H a = some (.lst ks)) (hk : KdL ks) (hn : n ≤ 200) (hp : H p = some (.lst xs)) (hl : xs.length ≤ 1000) (hw : ∀ x ∈ xs, ∃ m d, Th W H m x d) (hx : ∃ x ∈ xs, ∀ z, x ≠ .int z) (h : ∀ H', Same H H' → Q (.bl false) H') : sp_is_sum G [.ref a, .int (n : Nat), .ref p] H Q E := by
  refine ⟨rfl, ?_⟩
  unfold t_is_sum
  wtm_at "wa"
  refine u_need_kinds ha hk fun H1 s1 => ?_
  wtm_at "wa"
  refine u_need_to_most (by omega) (by omega) ?_
  wtm_at "wa"
  refine i_isiLL (s1 _ _ hp) ?_
  wtm_at "wa"
  refine i_lstA (sq_of (s1 _ _ hp)) ?_
  refine lck_pure walk_list (by omega) (fun i => (xs[i]?).bind fun x => if (!whB x) then some x else none) (fun H' s => sq_of (s _ _ (s1 _ _ hp))) (fun i x H2 H3 KK NN hi s y hK hN => ?_) (fun r H5 nr s5 e5 => ?_)
  · obtain ⟨rfl, hxx⟩ := y
    obtain ⟨m, dd, tx⟩ := hw x (List.mem_of_getElem? hxx)
    wtm_at "w"
    refine ⟨rfl, ?_⟩
    wtm_at "w"
    refine u_is_wholeT ((tx.same s1).same s) ?_
    wtm_at "w"
    cases hb : whB x
    · refine i_T rfl ?_
      wtm_at "w"
      exact hK _ _ (by rw [hxx]; show (if (!whB x) = true then _ else _) = _; rw [hb]; rfl) (fun _ _ z => z)
    · refine i_F rfl ?_
      exact hN _ (by rw [hxx]; show (if (!whB x) = true then _ else _) = _; rw [hb]; rfl) (fun _ _ z => z)
  · have efm := fm_filter (fun x : V => !whB x) (fun x : V => x) xs
    rw [given_gen, efm, List.map_id'] at e5
    wtm_at "w"
    refine i_new (by simp) fun u nu => ?_
    refine i_neLen (sq_of (upd_old nu e5)) (sq_of upd_same) (fun z => ?_) ?_
    · obtain ⟨x, hm, hz⟩ := hx
      have : x ∈ xs.filter (fun x => !whB x) := List.mem_filter.mpr ⟨hm, by
        cases x <;> first | rfl | exact absurd rfl (hz _)⟩
      have e0 : xs.filter (fun x => !whB x) = [] := List.length_eq_zero_iff.mp z
      rw [e0] at this
      cases this
    wtm_at "w"
    exact h _ ((s1.trans s5).trans (same_new nu))
end
/-- a list that is a sum -/
def OkT (H : Hp) (v : V) (L : List Int) (n : Int) : Prop := ∃ p xs, v = .ref p ∧ H p = some (.lst xs) ∧ OkV L n xs
theorem ints_of : ∀ {xs : List V}, (¬ ∃ x ∈ xs, ∀ z, x ≠ .int z) → ∃ is : List Int, xs = is.map V.int
  | [], _ => ⟨[], rfl⟩
  | x :: r, h => by
    obtain ⟨is, rfl⟩ := ints_of (xs := r) fun ⟨y, hy, z⟩ => h ⟨y, List.mem_cons_of_mem _ hy, z⟩
    have : ∃ z, x = .int z := Classical.byContradiction fun z => h ⟨x, List.mem_cons_self, fun y e => z ⟨y, e⟩⟩
    obtain ⟨z, rfl⟩ := this
    exact ⟨z :: is, rfl⟩
section
variable {G : Gx} {W : Wd} {H : Hp} {Q : VK} {E : XK} {v : V} {a : Addr} {ks : List V}
theorem u_is_sumT {n : Nat} (t : Tg W H v) (ha : H a = some (.lst ks)) (hk : KdL ks) (hn : n ≤ 200) (h : ∀ L b H', Same H H' → StockOf ks n L → (b = true ↔ OkT H v L n) → Q (.bl b) H') : sp_is_sum G [.ref a, .int (n : Nat), v] H Q E := by
  obtain ⟨L, hL⟩ := stock_ex hk.kd n
  have no : ∀ H', Same H H' → ¬ OkT H v L n → Q (.bl false) H' := fun H' s z => h L false H' s hL ⟨fun y => (by cases y), fun y => absurd y z⟩
  cases t with
  | fl t =>
    refine u_is_sum_no ha hk hn t (fun p _ e => ?_) fun H' s => no H' s ?_
    · subst e; cases t
    · rintro ⟨p, xs, e, _⟩
      subst e; cases t
  | tp e l b => exact u_is_sumNL ha hk hn (fun H1 Q' s q => i_isiTL (s _ _ e.h) q) fun H' s => no H' s fun ⟨p, xs, e1, e2, _⟩ => by cases e1; rw [e.h] at e2; cases e2
  | dc e l b => exact u_is_sumNL ha hk hn (fun H1 Q' s q => i_isiDL (s _ _ e.h) q) fun H' s => no H' s fun ⟨p, xs, e1, e2, _⟩ => by cases e1; rw [e.h] at e2; cases e2
  | nest e g l b =>
    refine u_is_sum_nest ha hk hn e.h g.h fun H' s => no H' s fun ⟨p, xs, e1, e2, is, e3, _⟩ => ?_
    cases e1
    rw [e.h] at e2
    cases e2
    cases is with
    | nil => cases e3
    | cons y is => rw [List.map_cons] at e3; injection e3 with e3 _; cases e3
  | ls e l b =>
    rename_i p xs
    by_cases hx : ∃ x ∈ xs, ∀ z, x ≠ .int z
    · refine u_is_sumNI ha hk hn e.h l (fun x hx => let ⟨d, t⟩ := b x hx; ⟨_, d, t⟩) hx fun H' s => no H' s fun ⟨p, xs, e1, e2, is, e3, _⟩ => ?_
      cases e1
      rw [e.h] at e2
      cases e2
      obtain ⟨x, hm, hz⟩ := hx
      rw [e3] at hm
      obtain ⟨i, _, rfl⟩ := List.mem_map.mp hm
      exact hz i rfl
    · obtain ⟨is, rfl⟩ := ints_of hx
      rw [List.length_map] at l
      refine u_is_sum ha hk hn (sq_of e.h) e.h (by omega) fun L' b H' s hL' hb => h L' b H' s hL' (hb.trans ?_)
      constructor
      · intro z; exact ⟨_, _, rfl, e.h, is, rfl, z⟩
      · rintro ⟨p, xs, e1, e2, js, e3, z⟩
        cases e1
        rw [e.h] at e2
        cases e2
        have : is = js := mapInt_inj.mp e3
        rw [this]; exact z
theorem u_law_dueL {n : Nat} {sp p : Addr} {L : List Int} {xs : List V} (es : H sp = some (.lst (L.map V.int))) (hp : H p = some (.lst xs)) (hl : xs.length ≤ 1000) (hw : ∀ x ∈ xs, (∃ q ys, x = .ref q ∧ H q = some (.lst ys)) ∨ ∃ m d, Th W H m x d) (hL : ∀ x ∈ L, x ≤ 201) (h : ∀ b, (b = true ↔ OkV L n xs) → Q (.bl b) H) : sp_law_due_v3 G [.ref sp, .int (n : Nat), .ref p] H Q E := by
  refine ⟨rfl, ?_⟩
  unfold t_law_due_v3
  wtm_at "wa"
  refine i_isiLL hp ?_
  wtm_at "wa"
  refine i_lstA (sq_of hp) ?_
  refine lk_list (xs := xs) (fun j σ H' => H' = H ∧ ∃ (left last : Int) (y5 : Option V), σ = [some (.ref sp), some (.int (n : Nat)), some (.ref p), some (.int left), some (.int last), y5] ∧ dueF L n 201 xs = dueF L left last (xs.drop j)) ⟨rfl, n, 201, _, rfl, rfl⟩ ?_ ?_ ?_
  · rintro j σ H1 hj ⟨rfl, _⟩
    exact sq_of hp
  · rintro j x σ H1 hx ⟨rfl, left, last, y5, rfl, hd⟩
    have hj := (List.getElem?_eq_some_iff.mp hx).1
    have ed : xs.drop j = x :: xs.drop (j + 1) := by
      rw [List.drop_eq_getElem_cons hj]
      congr 1
      exact (List.getElem?_eq_some_iff.mp hx).2
    rw [ed] at hd
    have no : dueF L left last (x :: xs.drop (j + 1)) = false → Q (.bl false) H1 := fun z => h false (by rw [← due_ok hL, hd, z])
    rcases hw x (List.mem_of_getElem? hx) with ⟨q, ys, rfl, eq⟩ | ⟨m, d, t⟩
    · wtm_at "wa"
      refine i_isiLI eq ?_
      wtm_at "wa"
      exact no rfl
    · cases t with
      | non =>
        wtm_at "wa"
        exact no rfl
      | str y _ =>
        wtm_at "wa"
        exact no rfl
      | bl b =>
        wtm_at "wa"
        exact no rfl
      | lst e _ _ =>
        wtm_at "wa"
        refine i_isiLI e.h ?_
        wtm_at "wa"
        exact no rfl
      | tup e _ _ =>
        wtm_at "wa"
        refine i_isiTI e.h ?_
        wtm_at "wa"
        exact no rfl
      | emp e =>
        wtm_at "wa"
        refine i_isiDI e.h ?_
        wtm_at "wa"
        exact no rfl
      | int z _ =>
        wtm_at "wa"
        refine i_ninL (sq_of es) rfl (ints_flat L) ?_
        wtm_at "wa"
        rw [inV_int]
        by_cases hm : z ∈ L
        · refine i_F (by simpa using hm) ?_
          wtm_at "wa"
          refine i_ite (fun hz => ?_) (fun hz => ?_)
          · wtm_at "wa"
            exact no (by show (if z ∈ L ∧ z ≤ last then _ else false) = false; rw [if_neg (by omega)])
          · wtm_at "wa"
            refine ⟨rfl, _, _, _, rfl, ?_⟩
            rw [hd]
            show (if z ∈ L ∧ z ≤ last then _ else false) = _
            rw [if_pos ⟨hm, by omega⟩]
        · refine i_T (by simpa using hm) ?_
          wtm_at "wa"
          exact no (by show (if z ∈ L ∧ z ≤ last then _ else false) = false; rw [if_neg fun z => hm z.1])
  · rintro σ H1 ⟨rfl, left, last, y5, rfl, hd⟩
    wtm_at "w"
    refine h _ ?_
    rw [← due_ok hL, hd, List.drop_of_length_le (by simp)]
    rfl
theorem u_law_due_v3 {n : Nat} {sp : Addr} {L : List Int} (t : Tg W H v) (es : H sp = some (.lst (L.map V.int))) (hL : ∀ x ∈ L, x ≤ 201) (h : ∀ b, (b = true ↔ OkT H v L n) → Q (.bl b) H) : sp_law_due_v3 G [.ref sp, .int (n : Nat), v] H Q E := by
  have no : ¬ OkT H v L n → Q (.bl false) H := fun z => h false ⟨fun y => (by cases y), fun y => absurd y z⟩
  have lst : ∀ {p : Addr} {xs : List V}, v = .ref p → H p = some (.lst xs) → xs.length ≤ 1000 → (∀ x ∈ xs, (∃ q ys, x = .ref q ∧ H q = some (.lst ys)) ∨ ∃ m d, Th W H m x d) → sp_law_due_v3 G [.ref sp, .int (n : Nat), v] H Q E := by
    rintro p xs rfl hp hl hw
    refine u_law_dueL es hp hl hw hL fun b hb => h b (hb.trans ?_)
    constructor
    · intro z; exact ⟨_, _, rfl, hp, z⟩
    · rintro ⟨p', xs', e1, e2, z⟩
      cases e1
      rw [hp] at e2
      cases e2
      exact z
  cases t with
  | ls e l a => exact lst rfl e.h l fun x hx => .inr (let ⟨d, t⟩ := a x hx; ⟨_, d, t⟩)
  | nest e g l a => exact lst rfl e.h (by simp) (fun x hx => by
      rw [List.mem_singleton.mp hx]
      exact .inl ⟨_, _, rfl, g.h⟩)
  | tp e l a =>
    refine ⟨rfl, ?_⟩
    unfold t_law_due_v3
    wtm_at "wa"
    refine i_isiTL e.h ?_
    wtm_at "wa"
    exact no fun ⟨p, xs, e1, e2, _⟩ => by cases e1; rw [e.h] at e2; cases e2
  | dc e l a =>
    refine ⟨rfl, ?_⟩
    unfold t_law_due_v3
    wtm_at "wa"
    refine i_isiDL e.h ?_
    wtm_at "wa"
    exact no fun ⟨p, xs, e1, e2, _⟩ => by cases e1; rw [e.h] at e2; cases e2
  | fl t =>
    refine ⟨rfl, ?_⟩
    unfold t_law_due_v3
    cases t with
    | non =>
      wtm_at "wa"
      refine i_isiNL ?_
      wtm_at "wa"
      exact no fun ⟨p, xs, e1, _⟩ => by cases e1
    | bl b =>
      wtm_at "wa"
      refine i_isiBL ?_
      wtm_at "wa"
      exact no fun ⟨p, xs, e1, _⟩ => by cases e1
    | int z _ =>
      wtm_at "wa"
      exact no fun ⟨p, xs, e1, _⟩ => by cases e1
    | str z _ =>
      wtm_at "wa"
      exact no fun ⟨p, xs, e1, _⟩ => by cases e1
end
theorem perm_sumI {xs ys : List Int} (h : xs.Perm ys) : xs.sum = ys.sum := by
  induction h with
  | nil => rfl
  | cons x _ ih => rw [List.sum_cons, List.sum_cons, ih]
  | swap x y l => simp only [List.sum_cons]; omega
  | trans _ _ a b => rw [a, b]
section
variable {G : Gx} {W : Wd} {H H' : Hp} {Q : VK} {E : XK} {v : V} {a : Addr} {ks : List V}
theorem OkT.same {L : List Int} {n : Int} (t : Tg W H v) (s : Same H H') : OkT H' v L n ↔ OkT H v L n := by
  constructor
  · rintro ⟨p, xs, rfl, e, z⟩
    have : ∀ o, At W H p o → o = .lst xs := fun o y => by have := s _ _ y.h; rw [e] at this; exact (Option.some.inj this).symm
    cases t with
    | fl t => cases t
    | ls e' _ _ => exact ⟨p, xs, rfl, by rw [e'.h, this _ e'], z⟩
    | tp e' _ _ => cases this _ e'
    | nest e' _ _ _ => exact ⟨p, xs, rfl, by rw [e'.h, this _ e'], z⟩
    | dc e' _ _ => cases this _ e'
  · rintro ⟨p, xs, rfl, e, z⟩
    exact ⟨p, xs, rfl, s _ _ e, z⟩
theorem u_law_right_v12 {n : Nat} (t : Tg W H v) (ha : H a = some (.lst ks)) (hk : KdL ks) (hn : n ≤ 200) (h : ∀ H', Same H H' → Q (.bl true) H') : sp_law_right_v12 G [.ref a, .int (n : Nat), v] H Q E := by
  have hk5 := hk.hi
  obtain ⟨z, rz⟩ := i_reprT t
  refine ⟨rfl, ?_⟩
  unfold t_law_right_v12
  wtm_at "w"
  refine i_ulist (sq_of ha) fun g ng => ?_
  have s1 : Same H (upd H g (.lst ks)) := same_new ng
  have g1 : (upd H g (.lst ks)) g = some (.lst ks) := upd_same
  generalize upd H g (.lst ks) = H1 at s1 g1 ⊢
  wtm_at "w"
  refine rz _ _ _ s1 ?_
  wtm_at "w"
  refine u_law_stock (s1 _ _ ha) hk.kd (by omega) (by omega) (by omega) fun sp L H2 s2 nsp e2 hL => ?_
  have s02 := s1.trans s2
  wtm_at "w"
  refine u_law_due_v3 (t.same s02) e2 (fun x hx => by have := ((hL.mem x).mp hx).1; omega) fun b hb => ?_
  wtm_at "w"
  refine i_rngA1 (by decide) ?_
  refine lk_range (fun j σ H' => ∃ y6 y7, σ = [some (.ref a), some (.int (n : Nat)), some v, some (.ref g), some (.str z), some (.bl b), y6, y7] ∧ Same H2 H') ⟨_, _, rfl, fun _ _ z => z⟩ ?_ ?_
  · rintro j σ H3 hj ⟨y6, y7, rfl, s3⟩
    have s03 := s02.trans s3
    wtm_at "w"
    refine u_is_sumT (t.same s03) (s3 _ _ (s2 _ _ g1)) hk hn fun L' b' H4 s4 hL' hb' => ?_
    have s04 := s03.trans s4
    have eb : b' = b := by
      rw [Bool.eq_iff_iff, hb', hb, hL.uniq hL', OkT.same t s03, OkT.same t s02]
    subst eb
    wtm_at "wa"
    refine k_neBB ?_
    wtm_at "wa"
    refine i_F (by simp) ?_
    wtm_at "wa"
    refine i_neL (sq_of (s4 _ _ (s3 _ _ (s2 _ _ g1)))) (sq_of (s04 _ _ ha)) (kds_sV hk.kd) (kds_sV hk.kd) ?_
    wtm_at "wa"
    refine i_F (by simp) ?_
    wtm_at "wa"
    refine rz _ _ _ s04 ?_
    wtm_at "wa"
    refine i_F (by simp) ?_
    wtm_at "wa"
    exact ⟨_, _, rfl, s3.trans s4⟩
  · rintro σ H3 ⟨y6, y7, rfl, s3⟩
    wtm_at "w"
    exact h _ (s02.trans s3)
end
section
variable {G : Gx} {H : Hp} {Q : VK} {E : XK} {d pl : Addr} {ps : List Addr}
theorem lc_le {σ : L2.St} {iv il : Nat} {sp : Addr} {L : List Int} {left : Int} {Q : VK} (h1 : ∀ x, ((wipe σ [iv]).set iv (some x))[iv]? = some (some x)) (h2 : ∀ x, ((wipe σ [iv]).set iv (some x))[il]? = some (some (.int left))) (h3 : ∀ x, wipe ((wipe σ [iv]).set iv (some x)) [iv] = wipe σ [iv])
    (e : H sp = some (.lst (L.map V.int))) (hl : L.length ≤ 1000) (h : ∀ p H', H p = none → Same H H' → H' p = some (.lst ((L.filter fun x => decide (x ≤ left)).map V.int)) → Q (.ref p) H') : LcK (Itl G.K sp) (gName iv) (tTest (tOp uLe (tVar iv) (tVar il))) (tVar iv) [iv] σ H Q := by
  refine lck_pure walk_list (by rw [List.length_map]; omega) (fun i => (L[i]?).bind fun x => if decide (x ≤ left) then some (.int x) else none) (fun H' s => sq_of (s _ _ e)) (fun i x H2 H3 KK NN hi s y hK hN => ?_) (fun p H5 np s5 e5 => ?_)
  · obtain ⟨rfl, hx⟩ := y
    rw [List.getElem?_map] at hx
    obtain ⟨m, hm, rfl⟩ := Option.map_eq_some_iff.mp hx
    wtm_at "w"
    refine ⟨h3 _, ?_⟩
    wtm_at "w"
    refine i_var (h1 _) ?_
    wtm_at "w"
    refine i_var (h2 _) ?_
    wtm_at "w"
    cases hb : decide (m ≤ left)
    · refine i_F rfl ?_
      exact hN _ (by rw [hm]; show (if decide (m ≤ left) = true then _ else _) = _; rw [hb]; rfl) (fun _ _ z => z)
    · refine i_T rfl ?_
      wtm_at "w"
      refine i_var (h1 _) ?_
      exact hK _ _ (by rw [hm]; show (if decide (m ≤ left) = true then _ else _) = _; rw [hb]; rfl) (fun _ _ z => z)
  · rw [List.length_map, given_gen, fm_filter (fun x : Int => decide (x ≤ left)) V.int L] at e5
    exact h p H5 np s5 e5
theorem at_neg1 {S : List Int} (h : 0 < S.length) : atI (S.map V.int) (-1) = some (.int (S.getD (S.length - 1) 0)) := by
  refine at_last ?_
  rw [List.length_map, List.getElem?_map, List.getElem?_eq_getElem (by omega), List.getD_eq_getElem?_getD, List.getElem?_eq_getElem (by omega)]
  rfl
theorem ix2i {K : Fg} {H : Hp} {Q : VK} {p : Addr} {x y : Int} {b : Bool} (e : H p = some (.lst [.int x, .int y])) (h : ∀ z, z = x ∨ z = y → Q (.int z) H) : uIx K (.ref p) (.int (if b then 1 else 0)) H Q := by
  cases b
  · exact i_ixL (sq_of e) rfl (h _ (.inl rfl))
  · exact i_ixL (sq_of e) rfl (h _ (.inr rfl))
theorem u_law_drawn_sum {sp : Addr} {L : List Int} {n : Nat} (i : DkI d pl ps H) (es : At (deckW d pl ps) H sp (.lst (L.map V.int))) (hlen : L.length ≤ 1000) (hp : ∀ x ∈ L, 1 ≤ x) (h1 : 1 ≤ n → 1 ∈ L) (hn : n ≤ 200)
    (h : ∀ p xs H', Kp (deckW d pl ps) H H' → At (deckW d pl ps) H' p (.lst (xs.map V.int)) → SumOk L n xs → xs.length ≤ n → Q (.ref p) H') : sp_law_drawn_sum G [.ref d, .ref sp, .int (n : Nat)] H Q E := by
  refine ⟨rfl, ?_⟩
  unfold t_law_drawn_sum
  wtm_at "w"
  refine i_new (by simp) fun f nf => ?_
  have k1 := (Kp.refl (W := deckW d pl ps) i).new (o := .lst (([] : List Int).map V.int)) nf
  have f1 := At.new (o := .lst (([] : List Int).map V.int)) (W := deckW d pl ps) i nf
  wtm_at "w"
  refine i_new (by simp) fun c nc => ?_
  have k2 := k1.new (o := .lst [.int 30, .int 200]) nc
  have f2 := at_after (u := .lst [.int 30, .int 200]) f1 nc
  have c2 := At.new (o := .lst [.int 30, .int 200]) k1.i nc
  wtm_at "w"
  show sp_law_draw _ _ (upd (upd H f (.lst (([] : List Int).map V.int))) c (.lst [.int 30, .int 200])) _ _
  generalize upd (upd H f (.lst (([] : List Int).map V.int))) c (.lst [.int 30, .int 200]) = H2 at k2 f2 c2 ⊢
  refine u_law_draw k2.i (by decide) (by decide) fun r H3 r0 r1 k3 => ?_
  have k03 := k2.trans k3
  have f3 := k3.at f2
  obtain ⟨cut, hcut⟩ : ∃ cut : Int, ([V.int 30, .int 200] : List V)[r.toNat]? = some (.int cut) := by
    have : r = 0 ∨ r = 1 := by omega
    rcases this with rfl | rfl
    · exact ⟨30, rfl⟩
    · exact ⟨200, rfl⟩
  refine i_ixL (sq_of (k3.at c2).h) (at_nat (n := r.toNat) (by omega) hcut) ?_
  wtm_at "w"
  refine i_while (fun m σ H' => ∃ (left : Nat) (fs : List Int) (y6 y7 : Option V), σ = [some (.ref d), some (.ref sp), some (.int (n : Nat)), some (.ref f), some (.int (left : Nat)), some (.int cut), y6, y7] ∧ m = left ∧ Kp (deckW d pl ps) H H' ∧ At (deckW d pl ps) H' f (.lst (fs.map V.int)) ∧ (∀ x ∈ fs, x ∈ L) ∧ fs.sum + left = n ∧ fs.length + left ≤ n) n ⟨n, [], _, _, rfl, rfl, k03, f3, by simp, by simp, by simp⟩ ?_
  rintro m σ H4 ⟨left, fs, y6, y7, rfl, rfl, k4, f4, hm, hs, hl⟩
  wtm_at "w"
  refine i_ite (fun hpos => ?_) (fun hpos => ?_)
  · refine i_turn ?_
    wtm_at "w"
    refine i_lstA (sq_of (k4.at es).h) ?_
    refine lc_le (left := m) (fun _ => rfl) (fun _ => rfl) (fun _ => rfl) (k4.at es).h hlen fun q H5 nq s5 e5 => ?_
    have k5 := k4.same s5
    have f5 := f4.same s5
    have q5 : At (deckW d pl ps) H5 q (.lst ((L.filter fun x => decide (x ≤ (m : Int))).map V.int)) := ⟨e5, Wd.notR (W := deckW d pl ps) k4.i nq⟩
    have hne : 1 ∈ L.filter fun x => decide (x ≤ (m : Int)) := List.mem_filter.mpr ⟨h1 (by omega), by simp; omega⟩
    have hall : ∀ x ∈ L.filter fun x => decide (x ≤ (m : Int)), x ∈ L ∧ 1 ≤ x ∧ x ≤ (m : Int) := fun x hx => by
      rw [List.mem_filter] at hx
      exact ⟨hx.1, hp x hx.1, of_decide_eq_true hx.2⟩
    have hle : (L.filter fun x => decide (x ≤ (m : Int))).length ≤ L.length := List.length_filter_le _ _
    generalize L.filter (fun x => decide (x ≤ (m : Int))) = S at e5 q5 hne hall hle
    have hS : 0 < S.length := List.length_pos_of_mem hne
    wtm_at "w"
    refine i_lenL (sq_of e5) ?_
    wtm_at "w"
    refine u_law_draw k5.i (by rw [List.length_map]; omega) (by rw [List.length_map]; omega) fun r6 H6 a6 b6 k6 => ?_
    rw [List.length_map] at b6
    have q6 := k6.at q5
    refine i_ixL (v := .int (S.getD r6.toNat 0)) (sq_of q6.h) (at_nat (n := r6.toNat) (by omega) (by rw [List.getElem?_map, List.getElem?_eq_getElem (by omega), List.getD_eq_getElem?_getD, List.getElem?_eq_getElem (by omega)]; rfl)) ?_
    wtm_at "w"
    refine i_ixL (v := .int (S.getD (S.length - 1) 0)) (sq_of q6.h) (at_neg1 hS) ?_
    wtm_at "w"
    refine i_new (by simp) fun t nt => ?_
    have k7 := k6.new (o := .lst [.int (S.getD r6.toNat 0), .int (S.getD (S.length - 1) 0)]) nt
    have t7 := At.new (o := .lst [.int (S.getD r6.toNat 0), .int (S.getD (S.length - 1) 0)]) k6.i nt
    generalize upd H6 t (.lst [.int (S.getD r6.toNat 0), .int (S.getD (S.length - 1) 0)]) = H7 at k7 t7 ⊢
    have f7 := k7.at f5
    have k07 := k5.trans k7
    wtm_at "w"
    refine i_lenL (sq_of f7.h) ?_
    wtm_at "w"
    have gm : ∀ j, j < S.length → S.getD j 0 ∈ S := fun j hj => by
      rw [List.getD_eq_getElem?_getD, List.getElem?_eq_getElem hj]
      exact List.getElem_mem hj
    have g1 := gm r6.toNat (by omega)
    have g2 := gm (S.length - 1) (by omega)
    refine ix2i t7.h fun part hpart => ?_
    have hP : part ∈ S := by
      rcases hpart with rfl | rfl
      · exact g1
      · exact g2
    obtain ⟨hPL, hP1, hPm⟩ := hall part hP
    wtm_at "w"
    refine i_tyL f7.h ?_
    wtm_at "w"
    refine i_app f7.h (sz_lt (by rw [List.length_map]; omega)) ?_
    have k8 := k07.mut (p := f) (o := .lst (fs.map V.int ++ [.int part])) nf f7.r
    have f8 : At (deckW d pl ps) (upd H7 f (.lst (fs.map V.int ++ [.int part]))) f (.lst ((fs ++ [part]).map V.int)) := ⟨by rw [List.map_append]; exact upd_same, f7.r⟩
    wtm_at "w"
    refine ⟨((m : Int) - part).toNat, by omega, ((m : Int) - part).toNat, fs ++ [part], some (.ref q), some (.int part), ?_, rfl, k8, f8, ?_, ?_, ?_⟩
    · rw [show (((m : Int) - part).toNat : Int) = (m : Int) - part by omega]
      rfl
    · intro x hx
      rcases List.mem_append.mp hx with z | z
      · exact hm x z
      · rw [List.mem_singleton.mp z]; exact hPL
    · rw [List.sum_append, List.sum_singleton]; omega
    · rw [List.length_append, List.length_singleton]; omega
  · wtm_at "w"
    have m0 : m = 0 := by omega
    refine i_revL ?_
    wtm_at "w"
    refine i_sortedL (sq_of f4.h) fun ys p6 hperm hup n6 => ?_
    have k6 := k4.new (o := .lst (ys.map V.int)) n6
    have e6 : (upd H4 p6 (.lst (ys.map V.int))) p6 = some (.lst (ys.map V.int)) := upd_same
    generalize upd H4 p6 (.lst (ys.map V.int)) = H6 at k6 e6 ⊢
    refine i_revA (sq_of e6) fun p7 n7 => ?_
    have k7 := k6.new (o := .lst (ys.map V.int).reverse) n7
    have e7 := At.new (o := .lst (ys.map V.int).reverse) k6.i n7
    rw [← List.map_reverse] at e7 k7 ⊢
    refine h p7 ys.reverse _ k7 e7 ⟨fun x hx => ?_, ?_, ?_⟩ ?_
    · exact hm x (hperm.mem_iff.mp (List.mem_reverse.mp hx))
    · rw [List.sum_reverse, perm_sumI hperm]; omega
    · exact List.pairwise_reverse.mpr hup
    · rw [List.length_reverse, hperm.length_eq]; omega
end
/-! ### lists of numbers, lists of small things -/
def IL (W : Wd) (H : Hp) (p : Addr) (m : Nat) : Prop := ∃ ns : List Int, At W H p (.lst (ns.map V.int)) ∧ ns.length ≤ m ∧ ∀ n ∈ ns, n.natAbs ≤ 1000000
def GL (W : Wd) (H : Hp) (p : Addr) (m : Nat) : Prop := ∃ xs : List V, At W H p (.lst xs) ∧ xs.length ≤ m ∧ ∀ x ∈ xs, ∃ d, Th W H 1 x d
theorem mil40 {i : Int} (h : i.natAbs ≤ 1000000000) : i.natAbs < 10 ^ 40 := Nat.lt_of_le_of_lt h (by decide)
section
variable {G : Gx} {K : Fg} {W : Wd} {H H' : Hp} {Q : VK} {p q : Addr} {m k : Nat}
theorem IL.keep (u : ∀ a o, At W H a o → At W H' a o) : IL W H p m → IL W H' p m := fun ⟨ns, e, l, a⟩ => ⟨ns, u _ _ e, l, a⟩
theorem GL.keep (u : ∀ a o, At W H a o → At W H' a o) : GL W H p m → GL W H' p m := fun ⟨ns, e, l, a⟩ => ⟨ns, u _ _ e, l, fun x hx => let ⟨d, t⟩ := a x hx; ⟨d, t.keep u⟩⟩
theorem IL.same (s : Same H H') (e : IL W H p m) : IL W H' p m := e.keep fun _ _ z => z.same s
theorem GL.same (s : Same H H') (e : GL W H p m) : GL W H' p m := e.keep fun _ _ z => z.same s
theorem IL.gl : IL W H p m → GL W H p m := fun ⟨ns, e, l, a⟩ => ⟨_, e, by rw [List.length_map]; exact l, fun x hx => by
  obtain ⟨i, hi, rfl⟩ := List.mem_map.mp hx
  exact ⟨_, .int i (mil40 (by have := a i hi; omega))⟩⟩
theorem GL.tg (e : GL W H p m) (hm : m ≤ 1000) : Tg W H (.ref p) := let ⟨_, e, l, a⟩ := e; .ls e (by omega) a
theorem g_sl {lo hi : Option Int} (i : W.I H) (e : IL W H p m) (h : ∀ r H', Same H H' → IL W H' r m → Q (.ref r) H') : uSl K (.ref p) lo hi H Q := by
  obtain ⟨ns, e, l, a⟩ := e
  refine i_slL (sq_of e.h) fun r nr => ?_
  have hc : cutV (ns.map V.int) lo hi = ((ns.drop (HT.sIx ns.length 0 lo)).take (HT.sIx ns.length ns.length hi - HT.sIx ns.length 0 lo)).map V.int := by
    unfold cutV
    rw [List.length_map, List.map_take, List.map_drop]
  rw [hc]
  refine h r _ (same_new nr) ⟨_, At.new i nr, ?_, fun n hn => a n (List.mem_of_mem_drop (List.mem_of_mem_take hn))⟩
  rw [List.length_take, List.length_drop]
  omega
theorem g_rev (i : W.I H) (e : IL W H p m) (h : ∀ r H', Same H H' → IL W H' r m → Q (.ref r) H') : revA K (.ref p) H Q := by
  obtain ⟨ns, e, l, a⟩ := e
  refine i_revA (sq_of e.h) fun r nr => ?_
  rw [← List.map_reverse]
  exact h r _ (same_new nr) ⟨_, At.new i nr, by rw [List.length_reverse]; exact l, fun n hn => a n (List.mem_reverse.mp hn)⟩
theorem g_addI (i : W.I H) (e : IL W H p m) (f : IL W H q k) (hm : m + k ≤ 1000) (h : ∀ r H', Same H H' → IL W H' r (m + k) → Q (.ref r) H') : uAdd (.ref p) (.ref q) H Q := by
  obtain ⟨ns, e, l, a⟩ := e
  obtain ⟨ms, f, l', a'⟩ := f
  refine i_addL e.h f.h (sz_le (by rw [List.length_map, List.length_map]; omega)) fun r nr => ?_
  rw [← List.map_append]
  refine h r _ (same_new nr) ⟨_, At.new i nr, by rw [List.length_append]; omega, fun n hn => ?_⟩
  rcases List.mem_append.mp hn with z | z
  · exact a n z
  · exact a' n z
theorem g_add (i : W.I H) (e : GL W H p m) (f : GL W H q k) (hm : m + k ≤ 1000) (h : ∀ r H', Same H H' → GL W H' r (m + k) → Q (.ref r) H') : uAdd (.ref p) (.ref q) H Q := by
  obtain ⟨ns, e, l, a⟩ := e
  obtain ⟨ms, f, l', a'⟩ := f
  refine i_addL e.h f.h (sz_le (by omega)) fun r nr => ?_
  refine h r _ (same_new nr) ⟨_, At.new i nr, by rw [List.length_append]; omega, fun n hn => ?_⟩
  rcases List.mem_append.mp hn with z | z
  · exact let ⟨d, t⟩ := a n z; ⟨d, t.same (same_new nr)⟩
  · exact let ⟨d, t⟩ := a' n z; ⟨d, t.same (same_new nr)⟩
theorem g_dnew {σ : L2.St} (i : W.I H) (h : ∀ r H', Same H H' → At W H' r (.dK []) → Q (.ref r) H') : tDNewK σ H Q := i_dnewK fun r nr => h r _ (same_new nr) (At.new i nr)
theorem g_cat {xs ys : List V} (i : W.I H) (e : At W H p (.lst xs)) (f : At W H q (.lst ys)) (hl : xs.length + ys.length ≤ 1000) (h : ∀ r H', Same H H' → At W H' r (.lst (xs ++ ys)) → Q (.ref r) H') : uAdd (.ref p) (.ref q) H Q := i_addL e.h f.h (sz_le (by omega)) fun r nr => h r _ (same_new nr) (At.new i nr)
theorem sum_bnd {B : Nat} : ∀ {ns : List Int}, (∀ n ∈ ns, n.natAbs ≤ B) → ns.sum.natAbs ≤ B * ns.length
  | [], _ => by simp
  | x :: r, h => by
    have h1 := h x List.mem_cons_self
    have h2 := sum_bnd (ns := r) fun n hn => h n (List.mem_cons_of_mem _ hn)
    rw [List.sum_cons, List.length_cons, Nat.mul_succ]
    omega
theorem g_sum (e : IL W H p m) (hm : m ≤ 1000) (h : ∀ x : Int, x.natAbs ≤ 1000000000 → Q (.int x) H) : uSum K [.ref p] H Q := by
  obtain ⟨ns, e, l, a⟩ := e
  refine i_sumL (sq_of e.h) (h _ ?_)
  have := sum_bnd a
  have h2 : 1000000 * ns.length ≤ 1000000 * 1000 := Nat.mul_le_mul_left _ (by omega)
  omega
theorem g_tuple {ns : List Int} (i : W.I H) (e : At W H p (.lst (ns.map V.int))) (h : ∀ r H', Same H H' → At W H' r (.tup (ns.map V.int)) → Q (.ref r) H') : uTuple K [.ref p] H Q := ⟨p, _, rfl, .inl ⟨sq_of e.h, fun r nr => h r _ (same_new nr) (At.new i nr)⟩⟩
def SmK (ys : List (Int × Int)) : Prop := ∀ y ∈ ys, y.1.natAbs ≤ 500 ∧ y.2.natAbs ≤ 500
theorem put_ikv {acc : List (Int × Int)} {n v : Int} (h : SmK acc) (hn : n.natAbs ≤ 500) (hv : v.natAbs ≤ 500) : ∃ ys, putK (ikv acc) (.inl n) (.int v) = ikv ys ∧ ys.length ≤ acc.length + 1 ∧ SmK ys := by
  unfold putK
  split
  · refine ⟨acc.map fun y => if y.1 = n then (y.1, v) else y, ?_, by rw [List.length_map]; omega, fun y hy => ?_⟩
    · unfold ikv
      rw [List.map_map, List.map_map]
      refine List.map_congr_left fun y _ => ?_
      show (if (Sum.inl y.1 : Key) = Sum.inl n then (Sum.inl y.1, V.int v) else (Sum.inl y.1, V.int y.2)) = _
      by_cases z : y.1 = n
      · rw [if_pos (by rw [z])]
        show _ = ((Sum.inl (if y.1 = n then (y.1, v) else y).1 : Key), V.int (if y.1 = n then (y.1, v) else y).2)
        rw [if_pos z]
      · rw [if_neg (fun e => z (by injection e))]
        show _ = ((Sum.inl (if y.1 = n then (y.1, v) else y).1 : Key), V.int (if y.1 = n then (y.1, v) else y).2)
        rw [if_neg z]
    · obtain ⟨x, hx, rfl⟩ := List.mem_map.mp hy
      have := h x hx
      split
      · exact ⟨this.1, hv⟩
      · exact this
  · refine ⟨acc ++ [(n, v)], by unfold ikv; rw [List.map_append]; rfl, by simp, fun y hy => ?_⟩
    rcases List.mem_append.mp hy with z | z
    · exact h y z
    · rw [List.mem_singleton.mp z]; exact ⟨hn, hv⟩
theorem merge_ikv : ∀ (xs acc : List (Int × Int)), SmK xs → SmK acc → ∃ ys, mergeK (ikv acc) (ikv xs) = ikv ys ∧ ys.length ≤ acc.length + xs.length ∧ SmK ys
  | [], acc, _, h => ⟨acc, rfl, by simp, h⟩
  | x :: xs, acc, hx, h => by
    have h1 := hx x List.mem_cons_self
    obtain ⟨ys, e1, l1, s1⟩ := put_ikv h h1.1 h1.2
    obtain ⟨zs, e2, l2, s2⟩ := merge_ikv xs ys (fun y hy => hx y (List.mem_cons_of_mem _ hy)) s1
    refine ⟨zs, ?_, by rw [List.length_cons]; omega, s2⟩
    rw [← e2, ← e1]
    rfl
end
section
variable {G : Gx} {K : Fg} {W : Wd} {H H' : Hp} {Q : VK} {p : Addr}
theorem pair_same {ps : List Addr} {kvs : List (Key × V)} (h : Paired (fun p kv => H p = some (.tup [kV kv.1, kv.2])) ps kvs) (s : ∀ q ∈ ps, ∀ o, H q = some o → H' q = some o) : Paired (fun p kv => H' p = some (.tup [kV kv.1, kv.2])) ps kvs := by
  induction h with
  | nil => exact .nil
  | cons a _ ih => exact .cons (s _ List.mem_cons_self _ a) (ih fun q hq => s q (List.mem_cons_of_mem _ hq))
theorem pair_imp {F F' : Addr → Key × V → Prop} {ps : List Addr} {kvs : List (Key × V)} (h : Paired F ps kvs) (s : ∀ p kv, F p kv → F' p kv) : Paired F' ps kvs := by
  induction h with
  | nil => exact .nil
  | cons a _ ih => exact .cons (s _ _ a) ih
/-- [(one, 1) for one in some] -/
theorem lc_pairs {σ : L2.St} {iv : Nat} {ns : List Int} (h1 : ∀ x, ((wipe σ [iv]).set iv (some x))[iv]? = some (some x)) (h3 : ∀ x, wipe ((wipe σ [iv]).set iv (some x)) [iv] = wipe σ [iv])
    (e : H p = some (.lst (ns.map V.int))) (hl : ns.length ≤ 1000) (h : ∀ r ps H', Same H H' → H' r = some (.lst (ps.map V.ref)) → Paired (fun p kv => H' p = some (.tup [kV kv.1, kv.2])) ps (ikv (ns.map fun n => (n, 1))) → Q (.ref r) H') :
    LcK (Itl K p) (gName iv) tYes (tTup (tCons (tVar iv) (tCons (tC (.int 1)) tNil))) [iv] σ H Q := by
  refine lck walk_list (fun D i H' => H D = none ∧ Same H H' ∧ ∃ ps : List Addr, ps.length = i ∧ H' D = some (.lst (ps.map V.ref)) ∧ (∀ q ∈ ps, q ≠ D) ∧ Paired (fun p kv => H' p = some (.tup [kV kv.1, kv.2])) ps (ikv ((ns.take i).map fun n => (n, 1))))
    (fun D hD => ⟨hD, same_new hD, [], rfl, upd_same, fun _ z => (by cases z), .nil⟩) (fun D i H' _ ⟨_, s, _⟩ => sq_of (s _ _ e)) (fun D i x H1 H2 hi ⟨hD, s1, ps, lp, eD, nD, pr⟩ y => ?_) (fun D H' hD ⟨_, s, ps, lp, eD, _, pr⟩ => ?_)
  · obtain ⟨rfl, hx⟩ := y
    rw [List.getElem?_map] at hx
    obtain ⟨m, hm, rfl⟩ := Option.map_eq_some_iff.mp hx
    rw [List.length_map] at hi
    wtm_at "w"
    refine ⟨h3 _, ?_⟩
    wtm_at "w"
    refine i_var (h1 _) ?_
    wtm_at "w"
    refine i_new (by simp) fun t nt => ?_
    have tD : t ≠ D := fun z => by rw [z, eD] at nt; cases nt
    refine ⟨ps.map V.ref, upd_old nt eD, sz_lt (by rw [List.length_map]; omega), hD, ?_, ps ++ [t], by simp [lp], by rw [List.map_append]; exact upd_same, ?_, ?_⟩
    · exact same_mut (s1.trans (same_new nt)) hD
    · intro q hq
      rcases List.mem_append.mp hq with z | z
      · exact nD q z
      · rw [List.mem_singleton.mp z]; exact tD
    · have et : ns.take (i + 1) = ns.take i ++ [m] := by rw [List.take_succ, hm]; rfl
      rw [et]
      unfold ikv
      rw [List.map_append, List.map_append]
      refine Paired.snoc (pair_same pr fun q hq o z => ?_) ?_
      · rw [upd_ne (nD q hq)]; exact upd_old nt z
      · rw [upd_ne tD]; exact upd_same
  · rw [List.length_map, List.take_length] at pr
    exact h D ps H' s eD pr
theorem g_dict {q : Addr} {ps : List Addr} {ns : List Int} (i : W.I H) (e : H q = some (.lst (ps.map V.ref))) (pr : Paired (fun p kv => H p = some (.tup [kV kv.1, kv.2])) ps (ikv (ns.map fun n => (n, 1)))) (hl : ns.length ≤ 1000) (hs : ∀ n ∈ ns, n.natAbs ≤ 500) (h : ∀ r H', Same H H' → Tg W H' (.ref r) → Q (.ref r) H') : uDictP K [.ref q] H Q := by
  obtain ⟨ys, e1, l1, s1⟩ := merge_ikv (ns.map fun n => (n, 1)) [] (fun y hy => by
    obtain ⟨n, hn, rfl⟩ := List.mem_map.mp hy
    exact ⟨hs n hn, show Int.natAbs 1 ≤ 500 by decide⟩) (fun y hy => by cases hy)
  rw [List.length_map, List.length_nil, Nat.zero_add] at l1
  refine ⟨q, ps, _, rfl, sq_of e, pair_imp pr fun _ _ z => st_of z, fun r nr => ?_⟩
  have e1' : mergeK [] (ikv (ns.map fun n => (n, 1))) = ikv ys := e1
  rw [e1']
  exact h r _ (same_new nr) (.dc (At.new i nr) (by omega) s1)
end
theorem gl_one {W : Wd} {H : Hp} {r : Addr} {x : V} (e : At W H r (.lst [x])) (t : ∃ d, Th W H 1 x d) : GL W H r 1 := ⟨_, e, by simp, fun y hy => by rw [List.mem_singleton.mp hy]; exact t⟩
theorem il_one {W : Wd} {H : Hp} {r : Addr} {x : Int} (e : At W H r (.lst [.int x])) (t : x.natAbs ≤ 1000000) : IL W H r 1 := ⟨[x], e, by simp, fun y hy => by rw [List.mem_singleton.mp hy]; exact t⟩
theorem few_dig {n : Nat} (h : n < 1000) : Few (dig n) := ⟨by have := dig_len h; omega, fun c hc => by
  have : c ∈ TL.tl (dig n) := hc
  have := dig_sign this
  omega⟩
section
variable {G : Gx} {H : Hp} {Q : VK} {E : XK} {d pl : Addr} {ps : List Addr}
theorem u_law_changed {sp p : Addr} {S ns : List Int} (i : DkI d pl ps H) (es : At (deckW d pl ps) H sp (.lst (S.map V.int))) (hS : S.length ≤ 200) (hS2 : ∀ x ∈ S, 1 ≤ x ∧ x ≤ 200) (ep : At (deckW d pl ps) H p (.lst (ns.map V.int))) (hlen : ns.length ≤ 200) (hns : ∀ x ∈ ns, 1 ≤ x ∧ x ≤ 200)
    (h : ∀ v H', Kp (deckW d pl ps) H H' → Tg (deckW d pl ps) H' v → Q v H') : sp_law_changed G [.ref d, .ref sp, .ref p] H Q E := by
  have hb : ∀ x ∈ ns, x.natAbs ≤ 1000000 := fun x hx => by have := hns x hx; omega
  have h5 : ∀ x ∈ ns, x.natAbs ≤ 500 := fun x hx => by have := hns x hx; omega
  refine ⟨rfl, ?_⟩
  unfold t_law_changed
  wtm_at "w"
  refine i_lenL (sq_of ep.h) ?_
  wtm_at "w"
  refine u_law_draw i (by omega) (by rw [List.length_map]; omega) fun at_ A1 a1 b1 q1 => ?_
  rw [List.length_map] at b1
  have p1 := q1.at ep
  wtm_at "w"
  refine i_new (by simp) fun u2 wu2 => ?_
  have c2 : Same A1 (upd A1 u2 (.lst [.int 1])) := same_new wu2
  have f2 := At.new (o := .lst [.int 1]) q1.i wu2
  generalize upd A1 u2 (.lst [.int 1]) = A2 at c2 f2 ⊢
  have q2 := q1.same c2
  wtm_at "w"
  refine g_cat q2.i (p1.same c2) f2 (by simp; omega) fun u3 A3 c3 f3 => ?_
  have q3 := q2.same c3
  wtm_at "w"
  refine ixR f3.h a1 (by simp; omega) fun hv hhv => ?_
  obtain ⟨hN, rfl, hN1, hN2⟩ : ∃ hN : Nat, hv = .int (hN : Nat) ∧ 1 ≤ hN ∧ hN ≤ 200 := by
    rcases List.mem_append.mp hhv with z | z
    · obtain ⟨x, hx, rfl⟩ := List.mem_map.mp z
      have := hns x hx
      exact ⟨x.toNat, by rw [show ((x.toNat : Nat) : Int) = x by omega], by omega, by omega⟩
    · exact ⟨1, List.mem_singleton.mp z, by decide, by decide⟩
  wtm_at "w"
  refine u_law_draw q3.i (by decide) (by decide) fun by_ A4 a4 b4 q4 => ?_
  have q04 := q3.trans q4
  wtm_at "w"
  refine i_strV (by omega) ?_
  wtm_at "w"
  refine i_new (by simp) fun u5 wu5 => ?_
  have c5 : Same A4 (upd A4 u5 (.lst [.int (hN : Nat)])) := same_new wu5
  have f5 := At.new (o := .lst [.int (hN : Nat)]) q04.i wu5
  generalize upd A4 u5 (.lst [.int (hN : Nat)]) = A5 at c5 f5 ⊢
  have q5 := q04.same c5
  wtm_at "w"
  refine i_new (by simp) fun u6 wu6 => ?_
  have c6 : Same A5 (upd A5 u6 (.tup [.int (hN : Nat)])) := same_new wu6
  have f6 := At.new (o := .tup [.int (hN : Nat)]) q5.i wu6
  generalize upd A5 u6 (.tup [.int (hN : Nat)]) = A6 at c6 f6 ⊢
  have q6 := q5.same c6
  wtm_at "w"
  refine g_dnew q6.i fun u7 A7 c7 f7 => ?_
  have q7 := q6.same c7
  wtm_at "w"
  refine i_new (by simp) fun u8 wu8 => ?_
  have c8 : Same A7 (upd A7 u8 (.lst [V.int ((hN : Int) + (1 + by_)), .int ((hN : Int) - (1 + by_)), .int 0, .int (-(hN : Int)), .bl true, .non, .str (dig hN), .ref u5, .ref u6, .ref u7, .int ((10 : Int) ^ (25 : Int).toNat), .int ((hN : Int) * 2)])) := same_new wu8
  have f8 := At.new (o := .lst [V.int ((hN : Int) + (1 + by_)), .int ((hN : Int) - (1 + by_)), .int 0, .int (-(hN : Int)), .bl true, .non, .str (dig hN), .ref u5, .ref u6, .ref u7, .int ((10 : Int) ^ (25 : Int).toNat), .int ((hN : Int) * 2)]) q7.i wu8
  generalize upd A7 u8 (.lst [V.int ((hN : Int) + (1 + by_)), .int ((hN : Int) - (1 + by_)), .int 0, .int (-(hN : Int)), .bl true, .non, .str (dig hN), .ref u5, .ref u6, .ref u7, .int ((10 : Int) ^ (25 : Int).toNat), .int ((hN : Int) * 2)]) = A8 at c8 f8 ⊢
  have q8 := q7.same c8
  have odd12 : ∀ x ∈ [V.int ((hN : Int) + (1 + by_)), .int ((hN : Int) - (1 + by_)), .int 0, .int (-(hN : Int)), .bl true, .non, .str (dig hN), .ref u5, .ref u6, .ref u7, .int ((10 : Int) ^ (25 : Int).toNat), .int ((hN : Int) * 2)], ∃ dd, Th (deckW d pl ps) A8 1 x dd := by
    intro x hx
    simp only [List.mem_cons, List.not_mem_nil, or_false] at hx
    rcases hx with rfl | rfl | rfl | rfl | rfl | rfl | rfl | rfl | rfl | rfl | rfl | rfl
    · exact ⟨_, .int _ (small40 (by omega))⟩
    · exact ⟨_, .int _ (small40 (by omega))⟩
    · exact ⟨_, .int _ (by decide)⟩
    · exact ⟨_, .int _ (small40 (by omega))⟩
    · exact ⟨_, .bl true⟩
    · exact ⟨_, .non⟩
    · exact ⟨_, .str _ (few_dig (by omega))⟩
    · exact ⟨_, .lst (((f5.same c6).same c7).same c8) (by simp) (.cons (.int _ (small40 (by omega))) .nil)⟩
    · exact ⟨_, .tup ((f6.same c7).same c8) (by simp) (.cons (.int _ (small40 (by omega))) .nil)⟩
    · exact ⟨_, .emp (f7.same c8)⟩
    · exact ⟨_, .int _ (by decide)⟩
    · exact ⟨_, .int _ (small40 (by omega))⟩
  generalize hxs : [V.int ((hN : Int) + (1 + by_)), .int ((hN : Int) - (1 + by_)), .int 0, .int (-(hN : Int)), .bl true, .non, .str (dig hN), .ref u5, .ref u6, .ref u7, .int ((10 : Int) ^ (25 : Int).toNat), .int ((hN : Int) * 2)] = xs12 at odd12 f8
  have l12 : xs12.length = 12 := by rw [← hxs]; rfl
  clear hxs f5 f6 f7
  wtm_at "w"
  refine i_new (by simp) fun u9 wu9 => ?_
  have c9 : Same A8 (upd A8 u9 (.lst [.int 1])) := same_new wu9
  have f9 := At.new (o := .lst [.int 1]) q8.i wu9
  generalize upd A8 u9 (.lst [.int 1]) = A9 at c9 f9 ⊢
  have q9 := q8.same c9
  wtm_at "w"
  refine g_cat q9.i (q9.at es) f9 (by simp; omega) fun u10 A10 c10 f10 => ?_
  have q10 := q9.same c10
  wtm_at "w"
  refine i_slL (sq_of f10.h) fun u11 n11 => ?_
  have c11 : Same A10 (upd A10 u11 (.lst (cutV (S.map V.int ++ [.int 1]) none (some 1)))) := same_new n11
  have f11 := At.new (o := .lst (cutV (S.map V.int ++ [.int 1]) none (some 1))) q10.i n11
  generalize upd A10 u11 (.lst (cutV (S.map V.int ++ [.int 1]) none (some 1))) = A11 at c11 f11 ⊢
  have q11 := q10.same c11
  have hS1 : ∀ z ∈ S.map V.int ++ [V.int 1], ∃ x : Int, z = .int x ∧ x.natAbs ≤ 500 := by
    intro z hz
    rcases List.mem_append.mp hz with y | y
    · obtain ⟨x, hx, rfl⟩ := List.mem_map.mp y
      exact ⟨x, rfl, by have := hS2 x hx; omega⟩
    · exact ⟨1, List.mem_singleton.mp y, by decide⟩
  have ec : cutV (S.map V.int ++ [V.int 1]) none (some 1) = (S.map V.int ++ [V.int 1]).take 1 := cut_takeA (n := 1)
  rw [ec] at f11
  have lc : ((S.map V.int ++ [V.int 1]).take 1).length = 1 := by rw [List.length_take, List.length_append]; simp
  have gc : ∀ z ∈ (S.map V.int ++ [V.int 1]).take 1, ∃ x : Int, z = .int x ∧ x.natAbs ≤ 500 := fun z hz => hS1 z (List.mem_of_mem_take hz)
  generalize (S.map V.int ++ [V.int 1]).take 1 = cc at f11 lc gc
  wtm_at "w"
  refine g_cat q11.i (((f8.same c9).same c10).same c11) f11 (by omega) fun u12 A12 c12 f12 => ?_
  have q12 := q11.same c12
  wtm_at "w"
  refine i_new (by simp) fun u13 wu13 => ?_
  have c13 : Same A12 (upd A12 u13 (.lst [.int 1])) := same_new wu13
  have f13 := At.new (o := .lst [.int 1]) q12.i wu13
  generalize upd A12 u13 (.lst [.int 1]) = A13 at c13 f13 ⊢
  have q13 := q12.same c13
  wtm_at "w"
  refine g_cat q13.i (q13.at es) f13 (by simp; omega) fun u14 A14 c14 f14 => ?_
  have q14 := q13.same c14
  wtm_at "w"
  refine i_lenL (sq_of (q14.at es).h) ?_
  wtm_at "w"
  refine u_law_draw q14.i (by omega) (by rw [List.length_map]; omega) fun r15 A15 a15 b15 q15 => ?_
  rw [List.length_map] at b15
  have q015 := q14.trans q15
  refine ixR (q15.at f14).h a15 (by simp; omega) fun sv hsv => ?_
  obtain ⟨sx, rfl, hsx⟩ := hS1 sv hsv
  wtm_at "w"
  refine i_new (by simp) fun u16 wu16 => ?_
  have c16 : Same A15 (upd A15 u16 (.lst [.int sx])) := same_new wu16
  have f16 := At.new (o := .lst [.int sx]) q015.i wu16
  generalize upd A15 u16 (.lst [.int sx]) = A16 at c16 f16 ⊢
  have q16 := q015.same c16
  wtm_at "w"
  refine g_cat q16.i (((q15.at (((f12.same c13).same c14)))).same c16) f16 (by simp; omega) fun u17 A17 c17 f17 => ?_
  have q17 := q16.same c17
  wtm_at "w"
  refine u_law_draw q17.i (by decide) (by decide) fun r18 A18 a18 b18 q18 => ?_
  refine ixR (q18.at f17).h a18 (by simp; omega) fun odd hodd => ?_
  have k0 := q17.trans q18
  have e0 := k0.at ep
  obtain ⟨dd, o0⟩ : ∃ dd, Th (deckW d pl ps) A18 1 odd dd := by
    rcases List.mem_append.mp hodd with y | y
    · rcases List.mem_append.mp y with y | y
      · obtain ⟨dd, t⟩ := odd12 odd y
        exact ⟨dd, t.keep fun _ _ z => q18.at (((q15.at (((((z.same c9).same c10).same c11).same c12).same c13 |>.same c14)).same c16).same c17)⟩
      · obtain ⟨x, rfl, hx⟩ := gc odd y
        exact ⟨_, .int x (small40 hx)⟩
    · rw [List.mem_singleton.mp y]
      exact ⟨_, .int sx (small40 hsx)⟩
  clear hodd odd12 f8 f9 f10 f11 f12 f13 f14 f16 f17 hhv f2 f3
  clear q1 q2 q3 q4 q04 q5 q6 q7 q8 q9 q10 q11 q12 q13 q14 q15 q015 q16 q17 q18 c2 c3 c5 c6 c7 c8 c9 c10 c11 c12 c13 c14 c16 c17 gc hS1 hsv
  wtm_at "w"
  refine g_sl k0.i ⟨ns, e0, hlen, hb⟩ fun r1 H1 s1 g1 => ?_
  have k1 := k0.same s1
  have e1 := e0.same s1
  have o1 := o0.same s1
  wtm_at "w"
  refine i_new (by simp) fun r2 w2 => ?_
  have s2 : Same H1 (upd H1 r2 (.lst [odd])) := same_new w2
  have g2 := At.new (o := .lst [odd]) k1.i w2
  generalize upd H1 r2 (.lst [odd]) = H2 at s2 g2 ⊢
  have k2 := k1.same s2
  have e2 := e1.same s2
  have o2 := o1.same s2
  replace g2 := gl_one g2 ⟨_, o2⟩
  wtm_at "w"
  refine g_add k2.i (g1.same s2).gl g2 (by decide) fun r3 H3 s3 g3 => ?_
  have k3 := k2.same s3
  have e3 := e2.same s3
  have o3 := o2.same s3
  wtm_at "w"
  refine g_sl k3.i ⟨ns, e3, hlen, hb⟩ fun r4 H4 s4 g4 => ?_
  have k4 := k3.same s4
  have e4 := e3.same s4
  have o4 := o3.same s4
  wtm_at "w"
  refine g_add k4.i (g3.same s4) g4.gl (by decide) fun r5 H5 s5 g5 => ?_
  have k5 := k4.same s5
  have e5 := e4.same s5
  have o5 := o4.same s5
  wtm_at "w"
  refine g_sl k5.i ⟨ns, e5, hlen, hb⟩ fun r6 H6 s6 g6 => ?_
  have k6 := k5.same s6
  have e6 := e5.same s6
  have o6 := o5.same s6
  wtm_at "w"
  refine i_new (by simp) fun r7 w7 => ?_
  have s7 : Same H6 (upd H6 r7 (.lst [odd])) := same_new w7
  have g7 := At.new (o := .lst [odd]) k6.i w7
  generalize upd H6 r7 (.lst [odd]) = H7 at s7 g7 ⊢
  have k7 := k6.same s7
  have e7 := e6.same s7
  have o7 := o6.same s7
  replace g7 := gl_one g7 ⟨_, o7⟩
  wtm_at "w"
  refine g_add k7.i (g6.same s7).gl g7 (by decide) fun r8 H8 s8 g8 => ?_
  have k8 := k7.same s8
  have e8 := e7.same s8
  have o8 := o7.same s8
  wtm_at "w"
  refine g_sl k8.i ⟨ns, e8, hlen, hb⟩ fun r9 H9 s9 g9 => ?_
  have k9 := k8.same s9
  have e9 := e8.same s9
  have o9 := o8.same s9
  wtm_at "w"
  refine g_add k9.i (g8.same s9) g9.gl (by decide) fun r10 H10 s10 g10 => ?_
  have k10 := k9.same s10
  have e10 := e9.same s10
  have o10 := o9.same s10
  wtm_at "w"
  refine g_sl k10.i ⟨ns, e10, hlen, hb⟩ fun r11 H11 s11 g11 => ?_
  have k11 := k10.same s11
  have e11 := e10.same s11
  have o11 := o10.same s11
  wtm_at "w"
  refine g_sl k11.i ⟨ns, e11, hlen, hb⟩ fun r12 H12 s12 g12 => ?_
  have k12 := k11.same s12
  have e12 := e11.same s12
  have o12 := o11.same s12
  wtm_at "w"
  refine g_addI k12.i (g11.same s12) g12 (by decide) fun r13 H13 s13 g13 => ?_
  have k13 := k12.same s13
  have e13 := e12.same s13
  have o13 := o12.same s13
  wtm_at "w"
  refine i_new (by simp) fun r14 w14 => ?_
  have s14 : Same H13 (upd H13 r14 (.lst [.ref r5, .ref r10, .ref r13])) := same_new w14
  have g14 := At.new (o := .lst [.ref r5, .ref r10, .ref r13]) k13.i w14
  generalize upd H13 r14 (.lst [.ref r5, .ref r10, .ref r13]) = H14 at s14 g14 ⊢
  have k14 := k13.same s14
  have e14 := e13.same s14
  have o14 := o13.same s14
  wtm_at "w"
  refine g_sl k14.i ⟨ns, e14, hlen, hb⟩ fun r15 H15 s15 g15 => ?_
  have k15 := k14.same s15
  have e15 := e14.same s15
  have o15 := o14.same s15
  wtm_at "w"
  refine i_revL ?_
  wtm_at "w"
  refine g_sl k15.i ⟨ns, e15, hlen, hb⟩ fun r16 H16 s16 g16 => ?_
  have k16 := k15.same s16
  have e16 := e15.same s16
  have o16 := o15.same s16
  wtm_at "w"
  refine g_rev k16.i g16 fun r17 H17 s17 g17 => ?_
  have k17 := k16.same s17
  have e17 := e16.same s17
  have o17 := o16.same s17
  wtm_at "w"
  refine g_addI k17.i ((g15.same s16).same s17) g17 (by decide) fun r18 H18 s18 g18 => ?_
  have k18 := k17.same s18
  have e18 := e17.same s18
  have o18 := o17.same s18
  wtm_at "w"
  refine g_sl k18.i ⟨ns, e18, hlen, hb⟩ fun r19 H19 s19 g19 => ?_
  have k19 := k18.same s19
  have e19 := e18.same s19
  have o19 := o18.same s19
  wtm_at "w"
  refine g_addI k19.i (g18.same s19) g19 (by decide) fun r20 H20 s20 g20 => ?_
  have k20 := k19.same s20
  have e20 := e19.same s20
  have o20 := o19.same s20
  wtm_at "w"
  refine g_sl k20.i ⟨ns, e20, hlen, hb⟩ fun r21 H21 s21 g21 => ?_
  have k21 := k20.same s21
  have e21 := e20.same s21
  have o21 := o20.same s21
  wtm_at "w"
  refine g_sl k21.i ⟨ns, e21, hlen, hb⟩ fun r22 H22 s22 g22 => ?_
  have k22 := k21.same s22
  have e22 := e21.same s22
  have o22 := o21.same s22
  wtm_at "w"
  refine g_addI k22.i (g21.same s22) g22 (by decide) fun r23 H23 s23 g23 => ?_
  have k23 := k22.same s23
  have e23 := e22.same s23
  have o23 := o22.same s23
  wtm_at "w"
  refine g_sl k23.i ⟨ns, e23, hlen, hb⟩ fun r24 H24 s24 g24 => ?_
  have k24 := k23.same s24
  have e24 := e23.same s24
  have o24 := o23.same s24
  wtm_at "w"
  refine g_addI k24.i (g23.same s24) g24 (by decide) fun r25 H25 s25 g25 => ?_
  have k25 := k24.same s25
  have e25 := e24.same s25
  have o25 := o24.same s25
  wtm_at "w"
  refine i_new (by simp) fun r26 w26 => ?_
  have s26 : Same H25 (upd H25 r26 (.lst [.ref r20, .ref r25])) := same_new w26
  have g26 := At.new (o := .lst [.ref r20, .ref r25]) k25.i w26
  generalize upd H25 r26 (.lst [.ref r20, .ref r25]) = H26 at s26 g26 ⊢
  have k26 := k25.same s26
  have e26 := e25.same s26
  have o26 := o25.same s26
  wtm_at "w"
  refine g_cat k26.i ((((((((((((g14.same s15).same s16).same s17).same s18).same s19).same s20).same s21).same s22).same s23).same s24).same s25).same s26) g26 (by simp) fun r27 H27 s27 g27 => ?_
  have k27 := k26.same s27
  have e27 := e26.same s27
  have o27 := o26.same s27
  wtm_at "w"
  refine g_sl k27.i ⟨ns, e27, hlen, hb⟩ fun r28 H28 s28 g28 => ?_
  have k28 := k27.same s28
  have e28 := e27.same s28
  have o28 := o27.same s28
  wtm_at "w"
  refine g_sl k28.i ⟨ns, e28, hlen, hb⟩ fun r29 H29 s29 g29 => ?_
  have k29 := k28.same s29
  have e29 := e28.same s29
  have o29 := o28.same s29
  wtm_at "w"
  refine g_sum g29 (by decide) fun su hsu => ?_
  wtm_at "w"
  refine i_new (by simp) fun r30 w30 => ?_
  have s30 : Same H29 (upd H29 r30 (.lst [.int su])) := same_new w30
  have g30 := At.new (o := .lst [.int su]) k29.i w30
  generalize upd H29 r30 (.lst [.int su]) = H30 at s30 g30 ⊢
  have k30 := k29.same s30
  have e30 := e29.same s30
  have o30 := o29.same s30
  replace g30 := gl_one g30 ⟨_, .int su (mil40 hsu)⟩
  wtm_at "w"
  refine g_add k30.i ((g28.same s29).same s30).gl g30 (by decide) fun r31 H31 s31 g31 => ?_
  have k31 := k30.same s31
  have e31 := e30.same s31
  have o31 := o30.same s31
  wtm_at "w"
  refine g_sl k31.i ⟨ns, e31, hlen, hb⟩ fun r32 H32 s32 g32 => ?_
  have k32 := k31.same s32
  have e32 := e31.same s32
  have o32 := o31.same s32
  wtm_at "w"
  refine g_add k32.i (g31.same s32) g32.gl (by decide) fun r33 H33 s33 g33 => ?_
  have k33 := k32.same s33
  have e33 := e32.same s33
  have o33 := o32.same s33
  wtm_at "w"
  refine i_revL ?_
  wtm_at "w"
  refine g_rev k33.i ⟨ns, e33, hlen, hb⟩ fun r34 H34 s34 g34 => ?_
  have k34 := k33.same s34
  have e34 := e33.same s34
  have o34 := o33.same s34
  wtm_at "w"
  refine i_new (by simp) fun r35 w35 => ?_
  have s35 : Same H34 (upd H34 r35 (.lst [.int (1)])) := same_new w35
  have g35 := At.new (o := .lst [.int (1)]) k34.i w35
  generalize upd H34 r35 (.lst [.int (1)]) = H35 at s35 g35 ⊢
  have k35 := k34.same s35
  have e35 := e34.same s35
  have o35 := o34.same s35
  replace g35 := il_one g35 (by decide)
  wtm_at "w"
  refine g_addI k35.i ⟨ns, e35, hlen, hb⟩ g35 (by decide) fun r36 H36 s36 g36 => ?_
  have k36 := k35.same s36
  have e36 := e35.same s36
  have o36 := o35.same s36
  wtm_at "w"
  refine i_new (by simp) fun r37 w37 => ?_
  have s37 : Same H36 (upd H36 r37 (.lst [.int (0)])) := same_new w37
  have g37 := At.new (o := .lst [.int (0)]) k36.i w37
  generalize upd H36 r37 (.lst [.int (0)]) = H37 at s37 g37 ⊢
  have k37 := k36.same s37
  have e37 := e36.same s37
  have o37 := o36.same s37
  replace g37 := il_one g37 (by decide)
  wtm_at "w"
  refine g_addI k37.i ⟨ns, e37, hlen, hb⟩ g37 (by decide) fun r38 H38 s38 g38 => ?_
  have k38 := k37.same s38
  have e38 := e37.same s38
  have o38 := o37.same s38
  wtm_at "w"
  refine i_new (by simp) fun r39 w39 => ?_
  have s39 : Same H38 (upd H38 r39 (.lst [.ref r33, .ref r34, .ref r36, .ref r38])) := same_new w39
  have g39 := At.new (o := .lst [.ref r33, .ref r34, .ref r36, .ref r38]) k38.i w39
  generalize upd H38 r39 (.lst [.ref r33, .ref r34, .ref r36, .ref r38]) = H39 at s39 g39 ⊢
  have k39 := k38.same s39
  have e39 := e38.same s39
  have o39 := o38.same s39
  wtm_at "w"
  refine g_cat k39.i ((((((((((((g27.same s28).same s29).same s30).same s31).same s32).same s33).same s34).same s35).same s36).same s37).same s38).same s39) g39 (by simp) fun r40 H40 s40 g40 => ?_
  have k40 := k39.same s40
  have e40 := e39.same s40
  have o40 := o39.same s40
  wtm_at "w"
  refine g_tuple k40.i e40 fun r41 H41 s41 g41 => ?_
  have k41 := k40.same s41
  have e41 := e40.same s41
  have o41 := o40.same s41
  wtm_at "w"
  refine i_new (by simp) fun r42 w42 => ?_
  have s42 : Same H41 (upd H41 r42 (.lst [.ref p])) := same_new w42
  have g42 := At.new (o := .lst [.ref p]) k41.i w42
  generalize upd H41 r42 (.lst [.ref p]) = H42 at s42 g42 ⊢
  have k42 := k41.same s42
  have e42 := e41.same s42
  have o42 := o41.same s42
  wtm_at "w"
  refine g_dnew k42.i fun r43 H43 s43 g43 => ?_
  have k43 := k42.same s43
  have e43 := e42.same s43
  have o43 := o42.same s43
  wtm_at "w"
  refine g_sum (m := 200) ⟨ns, e43, hlen, hb⟩ (by decide) fun sv2 hsv2 => ?_
  wtm_at "w"
  refine i_new (by simp) fun r44 w44 => ?_
  have s44 : Same H43 (upd H43 r44 (.lst [])) := same_new w44
  have g44 := At.new (o := .lst []) k43.i w44
  generalize upd H43 r44 (.lst []) = H44 at s44 g44 ⊢
  have k44 := k43.same s44
  have e44 := e43.same s44
  have o44 := o43.same s44
  wtm_at "w"
  refine i_lstA (sq_of e44.h) ?_
  refine lc_pairs (fun _ => rfl) (fun _ => rfl) e44.h (by omega) fun r45 qs H45 s45 g45 pr => ?_
  have k45 := k44.same s45
  have e45 := e44.same s45
  have o45 := o44.same s45
  wtm_at "w"
  refine g_dict k45.i g45 pr (by omega) h5 fun r46 H46 s46 g46 => ?_
  have k46 := k45.same s46
  have e46 := e45.same s46
  have o46 := o45.same s46
  wtm_at "w"
  refine i_new (by simp) fun r47 w47 => ?_
  have s47 : Same H46 (upd H46 r47 (.lst [.ref r41, .ref r42, .non, .int 0, .str "", .ref r43, .int sv2, .bl true, .ref r44, .ref r46])) := same_new w47
  have g47 := At.new (o := .lst [.ref r41, .ref r42, .non, .int 0, .str "", .ref r43, .int sv2, .bl true, .ref r44, .ref r46]) k46.i w47
  generalize upd H46 r47 (.lst [.ref r41, .ref r42, .non, .int 0, .str "", .ref r43, .int sv2, .bl true, .ref r44, .ref r46]) = H47 at s47 g47 ⊢
  have k47 := k46.same s47
  have e47 := e46.same s47
  have o47 := o46.same s47
  wtm_at "w"
  refine g_cat k47.i (((((((g40.same s41).same s42).same s43).same s44).same s45).same s46).same s47) g47 (by simp) fun r48 H48 s48 g48 => ?_
  have k48 := k47.same s48
  have e48 := e47.same s48
  have o48 := o47.same s48
  wtm_at "w"
  refine i_new (by simp) fun r49 w49 => ?_
  have s49 : Same H48 (upd H48 r49 (.lst [.int 0, .int 0, .int 0, .int 1, .int 1, .int 1, .int 2, .int 2, .int 3, .int 3, .int 4, .int 5, .int 6, .int 7, .int 8, .int 9, .int 10, .int 11, .int 12, .int 13, .int 14, .int 15, .int 16, .int 17, .int 18])) := same_new w49
  have g49 := At.new (o := .lst [.int 0, .int 0, .int 0, .int 1, .int 1, .int 1, .int 2, .int 2, .int 3, .int 3, .int 4, .int 5, .int 6, .int 7, .int 8, .int 9, .int 10, .int 11, .int 12, .int 13, .int 14, .int 15, .int 16, .int 17, .int 18]) k48.i w49
  generalize upd H48 r49 (.lst [.int 0, .int 0, .int 0, .int 1, .int 1, .int 1, .int 2, .int 2, .int 3, .int 3, .int 4, .int 5, .int 6, .int 7, .int 8, .int 9, .int 10, .int 11, .int 12, .int 13, .int 14, .int 15, .int 16, .int 17, .int 18]) = H49 at s49 g49 ⊢
  have k49 := k48.same s49
  have e49 := e48.same s49
  have o49 := o48.same s49
  wtm_at "w"
  have t49 : Same H49 H49 := fun _ _ z => z
  have t48 := s49.trans t49
  have t47 := s48.trans t48
  have t46 := s47.trans t47
  have t45 := s46.trans t46
  have t44 := s45.trans t45
  have t43 := s44.trans t44
  have t42 := s43.trans t43
  have t41 := s42.trans t42
  have t40 := s41.trans t41
  have t39 := s40.trans t40
  have t38 := s39.trans t39
  have t37 := s38.trans t38
  have t36 := s37.trans t37
  have t35 := s36.trans t36
  have t34 := s35.trans t35
  have t33 := s34.trans t34
  have t32 := s33.trans t33
  have t31 := s32.trans t32
  have t30 := s31.trans t31
  have t29 := s30.trans t30
  have t28 := s29.trans t29
  have t27 := s28.trans t28
  have t26 := s27.trans t27
  have t25 := s26.trans t26
  have t24 := s25.trans t25
  have t23 := s24.trans t24
  have t22 := s23.trans t23
  have t21 := s22.trans t22
  have t20 := s21.trans t21
  have t19 := s20.trans t20
  have t18 := s19.trans t19
  have t17 := s18.trans t18
  have t16 := s17.trans t17
  have t15 := s16.trans t16
  have t14 := s15.trans t15
  have t13 := s14.trans t14
  have t12 := s13.trans t13
  have t11 := s12.trans t12
  have t10 := s11.trans t11
  have t9 := s10.trans t10
  have t8 := s9.trans t9
  have t7 := s8.trans t8
  have t6 := s7.trans t7
  have t5 := s6.trans t6
  have t4 := s5.trans t5
  have t3 := s4.trans t4
  have t2 := s3.trans t3
  have t1 := s2.trans t2
  have all : ∀ z ∈ [V.ref r5, .ref r10, .ref r13, .ref r20, .ref r25, .ref r33, .ref r34, .ref r36, .ref r38, .ref r41, .ref r42, .non, .int 0, .str "", .ref r43, .int sv2, .bl true, .ref r44, .ref r46], Tg (deckW d pl ps) H49 z := by
    intro z hz
    simp only [List.mem_cons, List.not_mem_nil, or_false] at hz
    rcases hz with rfl | rfl | rfl | rfl | rfl | rfl | rfl | rfl | rfl | rfl | rfl | rfl | rfl | rfl | rfl | rfl | rfl | rfl | rfl
    · exact (g5.same t5).tg (by decide)
    · exact (g10.same t10).tg (by decide)
    · exact (g13.same t13).gl.tg (by decide)
    · exact (g20.same t20).gl.tg (by decide)
    · exact (g25.same t25).gl.tg (by decide)
    · exact (g33.same t33).tg (by decide)
    · exact (g34.same t34).gl.tg (by decide)
    · exact (g36.same t36).gl.tg (by decide)
    · exact (g38.same t38).gl.tg (by decide)
    · exact .tp (g41.same t41) (by omega) h5
    · exact .nest (g42.same t42) (e42.same t42) (by omega) h5
    · exact .fl .non
    · exact .fl (.int 0 (by decide))
    · exact .fl (.str _ ⟨by decide +kernel, by decide +kernel⟩)
    · exact .dc (kvs := []) (g43.same t43) (by simp) (fun x hx => by cases hx)
    · exact .fl (.int sv2 (mil40 hsv2))
    · exact .fl (.bl true)
    · exact .ls (g44.same t44) (by simp) (fun x hx => by cases hx)
    · exact g46.same t46
  refine u_law_draw k49.i (by decide) (by decide) fun rw Hz az bz kz => ?_
  refine ixR (kz.at g49).h az bz fun wv hwv => ?_
  obtain ⟨wn, rfl, hwn⟩ : ∃ wn : Nat, wv = .int (wn : Nat) ∧ wn < 19 := by
    simp only [List.mem_cons, List.not_mem_nil, or_false] at hwv
    rcases hwv with rfl | rfl | rfl | rfl | rfl | rfl | rfl | rfl | rfl | rfl | rfl | rfl | rfl | rfl | rfl | rfl | rfl | rfl | rfl | rfl | rfl | rfl | rfl | rfl | rfl
    · exact ⟨0, rfl, by decide⟩
    · exact ⟨0, rfl, by decide⟩
    · exact ⟨0, rfl, by decide⟩
    · exact ⟨1, rfl, by decide⟩
    · exact ⟨1, rfl, by decide⟩
    · exact ⟨1, rfl, by decide⟩
    · exact ⟨2, rfl, by decide⟩
    · exact ⟨2, rfl, by decide⟩
    · exact ⟨3, rfl, by decide⟩
    · exact ⟨3, rfl, by decide⟩
    · exact ⟨4, rfl, by decide⟩
    · exact ⟨5, rfl, by decide⟩
    · exact ⟨6, rfl, by decide⟩
    · exact ⟨7, rfl, by decide⟩
    · exact ⟨8, rfl, by decide⟩
    · exact ⟨9, rfl, by decide⟩
    · exact ⟨10, rfl, by decide⟩
    · exact ⟨11, rfl, by decide⟩
    · exact ⟨12, rfl, by decide⟩
    · exact ⟨13, rfl, by decide⟩
    · exact ⟨14, rfl, by decide⟩
    · exact ⟨15, rfl, by decide⟩
    · exact ⟨16, rfl, by decide⟩
    · exact ⟨17, rfl, by decide⟩
    · exact ⟨18, rfl, by decide⟩
  wtm_at "w"
  refine ixR (kz.at (g48.same t48)).h (by omega) (by show (wn : Int) < 19; omega) fun v hv => ?_
  exact h v _ (k49.trans kz) ((all v hv).keep fun _ _ z => kz.at z)
end
def IB (W : Wd) (H : Hp) (p : Addr) (m B : Nat) : Prop := ∃ ns : List Int, At W H p (.lst (ns.map V.int)) ∧ ns.length ≤ m ∧ ∀ n ∈ ns, n.natAbs ≤ B
section
variable {G : Gx} {K : Fg} {W : Wd} {H H' : Hp} {Q : VK} {p q : Addr} {m k B B' : Nat}
theorem IB.keep (u : ∀ a o, At W H a o → At W H' a o) : IB W H p m B → IB W H' p m B := fun ⟨ns, e, l, a⟩ => ⟨ns, u _ _ e, l, a⟩
theorem IB.same (s : Same H H') (e : IB W H p m B) : IB W H' p m B := e.keep fun _ _ z => z.same s
theorem IB.mono (h : m ≤ k) (h' : B ≤ B') (e : IB W H p m B) : IB W H p k B' := let ⟨ns, e, l, a⟩ := e; ⟨ns, e, by omega, fun n hn => by have := a n hn; omega⟩
theorem b_sl {lo hi : Option Int} (i : W.I H) (e : IB W H p m B) (h : ∀ r H', Same H H' → IB W H' r m B → Q (.ref r) H') : uSl K (.ref p) lo hi H Q := by
  obtain ⟨ns, e, l, a⟩ := e
  refine i_slL (sq_of e.h) fun r nr => ?_
  have hc : cutV (ns.map V.int) lo hi = ((ns.drop (HT.sIx ns.length 0 lo)).take (HT.sIx ns.length ns.length hi - HT.sIx ns.length 0 lo)).map V.int := by
    unfold cutV
    rw [List.length_map, List.map_take, List.map_drop]
  rw [hc]
  refine h r _ (same_new nr) ⟨_, At.new i nr, ?_, fun n hn => a n (List.mem_of_mem_drop (List.mem_of_mem_take hn))⟩
  rw [List.length_take, List.length_drop]
  omega
theorem b_add (i : W.I H) (e : IB W H p m B) (f : IB W H q k B) (hm : m + k ≤ 1000) (h : ∀ r H', Same H H' → IB W H' r (m + k) B → Q (.ref r) H') : uAdd (.ref p) (.ref q) H Q := by
  obtain ⟨ns, e, l, a⟩ := e
  obtain ⟨ms, f, l', a'⟩ := f
  refine i_addL e.h f.h (sz_le (by rw [List.length_map, List.length_map]; omega)) fun r nr => ?_
  rw [← List.map_append]
  refine h r _ (same_new nr) ⟨_, At.new i nr, by rw [List.length_append]; omega, fun n hn => ?_⟩
  rcases List.mem_append.mp hn with z | z
  · exact a n z
  · exact a' n z
theorem b_sum (e : IB W H p m B) (h : ∀ x : Int, x.natAbs ≤ B * m → Q (.int x) H) : uSum K [.ref p] H Q := by
  obtain ⟨ns, e, l, a⟩ := e
  refine i_sumL (sq_of e.h) (h _ ?_)
  have := sum_bnd a
  have h2 : B * ns.length ≤ B * m := Nat.mul_le_mul_left _ l
  omega
theorem ib_one {x : Int} (e : At W H q (.lst [.int x])) (t : x.natAbs ≤ B) : IB W H q 1 B := ⟨[x], e, by simp, fun y hy => by rw [List.mem_singleton.mp hy]; exact t⟩
theorem sum_split {ns : List Int} (h : ∀ x ∈ ns, 1 ≤ x) (A : Nat) : 0 ≤ (ns.drop A).sum ∧ (ns.drop A).sum ≤ ns.sum := by
  have e : ns.sum = (ns.take A).sum + (ns.drop A).sum := by rw [← List.sum_append, List.take_append_drop]
  have h1 := sum_nn (l := ns.take A) fun x hx => h x (List.mem_of_mem_take hx)
  have h2 := sum_nn (l := ns.drop A) fun x hx => h x (List.mem_of_mem_drop hx)
  omega
theorem ixN_in {n : Nat} {i : Int} (h0 : -(n : Int) ≤ i) (h1 : i < n) : ∃ j, ixN n i = some j ∧ j < n := by
  unfold ixN
  by_cases h : 0 ≤ i
  · rw [if_pos h, if_pos h1]
    exact ⟨_, rfl, by omega⟩
  · rw [if_neg h, if_pos h0]
    exact ⟨_, rfl, by omega⟩
/-- found[i] = found[i] + by, each step -/
theorem b_ix {i : Int} (e : IB W H p m B) (hi : ∀ ns : List Int, H p = some (.lst (ns.map V.int)) → -(ns.length : Int) ≤ i ∧ i < ns.length) (h : ∀ x : Int, x.natAbs ≤ B → Q (.int x) H) : uIx K (.ref p) (.int i) H Q := by
  obtain ⟨ns, e, l, a⟩ := e
  obtain ⟨h0, h1⟩ := hi ns e.h
  obtain ⟨j, ej, hj⟩ := ixN_in h0 h1
  refine i_ixL (v := .int (ns.getD j 0)) (sq_of e.h) ?_ (h _ ?_)
  · unfold atI
    rw [List.length_map, ej]
    show (ns.map V.int)[j]? = _
    rw [List.getElem?_map, List.getElem?_eq_getElem hj, List.getD_eq_getElem?_getD, List.getElem?_eq_getElem hj]
    rfl
  · rw [List.getD_eq_getElem?_getD, List.getElem?_eq_getElem hj]
    exact a _ (List.getElem_mem hj)
theorem b_set {i v : Int} {R : Hp → Prop} (e : IB W H p m B) (hi : ∀ ns : List Int, H p = some (.lst (ns.map V.int)) → -(ns.length : Int) ≤ i ∧ i < ns.length) (hv : v.natAbs ≤ B') (hB : B ≤ B') (h : ∀ (ns : List Int) o, H p = some (.lst (ns.map V.int)) → (∃ ms : List Int, o = .lst (ms.map V.int) ∧ ms.length = ns.length ∧ ms.length ≤ m ∧ ∀ x ∈ ms, x.natAbs ≤ B') → R (upd H p o)) : uSet (.ref p) (.int i) (.int v) H R := by
  obtain ⟨ns, e, l, a⟩ := e
  obtain ⟨h0, h1⟩ := hi ns e.h
  obtain ⟨j, ej, hj⟩ := ixN_in h0 h1
  refine i_setL e.h (n := j) (by rw [List.length_map]; exact ej) (h ns _ e.h ⟨ns.set j v, by rw [List.map_set], by simp, by simpa using l, fun x hx => ?_⟩)
  rcases List.mem_or_eq_of_mem_set hx with z | z
  · have := a x z; omega
  · rw [z]; exact hv
theorem lc_ne0 {σ : L2.St} {iv : Nat} {ns : List Int} (h1 : ∀ x, ((wipe σ [iv]).set iv (some x))[iv]? = some (some x)) (h3 : ∀ x, wipe ((wipe σ [iv]).set iv (some x)) [iv] = wipe σ [iv])
    (e : H p = some (.lst (ns.map V.int))) (hl : ns.length ≤ 1000) (h : ∀ r H', H r = none → Same H H' → H' r = some (.lst ((ns.filter fun x => !decide (x = 0)).map V.int)) → Q (.ref r) H') : LcK (Itl G.K p) (gName iv) (tTest (tOp (uNe G.K) (tVar iv) (tC (.int 0)))) (tVar iv) [iv] σ H Q := by
  refine lck_pure walk_list (by rw [List.length_map]; omega) (fun i => (ns[i]?).bind fun x => if (!decide (x = 0)) then some (.int x) else none) (fun H' s => sq_of (s _ _ e)) (fun i x H2 H3 KK NN hi s y hK hN => ?_) (fun p H5 np s5 e5 => ?_)
  · obtain ⟨rfl, hx⟩ := y
    rw [List.getElem?_map] at hx
    obtain ⟨m, hm, rfl⟩ := Option.map_eq_some_iff.mp hx
    wtm_at "w"
    refine ⟨h3 _, ?_⟩
    wtm_at "w"
    refine i_var (h1 _) ?_
    wtm_at "w"
    cases hb : (!decide (m = 0))
    · refine i_F rfl ?_
      exact hN _ (by rw [hm]; show (if (!decide (m = 0)) = true then _ else _) = _; rw [hb]; rfl) (fun _ _ z => z)
    · refine i_T rfl ?_
      wtm_at "w"
      refine i_var (h1 _) ?_
      exact hK _ _ (by rw [hm]; show (if (!decide (m = 0)) = true then _ else _) = _; rw [hb]; rfl) (fun _ _ z => z)
  · rw [List.length_map, given_gen, fm_filter (fun x : Int => !decide (x = 0)) V.int ns] at e5
    exact h p H5 np s5 e5
end
section
variable {G : Gx} {H : Hp} {Q : VK} {E : XK} {d pl : Addr} {ps : List Addr}
theorem rep_oneI (k : Nat) : (List.replicate k [V.int 1]).flatten = (List.replicate k (1 : Int)).map V.int := by
  induction k with
  | zero => rfl
  | succ k ih => rw [List.replicate_succ, List.flatten_cons, ih]; rfl
theorem u_law_of_total {p : Addr} {ns : List Int} {n : Nat} (i : DkI d pl ps H) (ep : At (deckW d pl ps) H p (.lst (ns.map V.int))) (hlen : ns.length ≤ 200) (hns : ∀ x ∈ ns, 1 ≤ x ∧ x ≤ 200) (hsum : ns.sum = n) (hn : n ≤ 200)
    (h : ∀ v H', Kp (deckW d pl ps) H H' → Tg (deckW d pl ps) H' v → Q v H') : sp_law_of_total G [.ref d, .ref p, .int (n : Nat)] H Q E := by
  have hb : ∀ x ∈ ns, x.natAbs ≤ 200 := fun x hx => by have := hns x hx; omega
  refine ⟨rfl, ?_⟩
  unfold t_law_of_total
  wtm_at "w"
  refine i_lenL (sq_of ep.h) ?_
  wtm_at "w"
  refine u_law_draw i (by omega) (by rw [List.length_map]; omega) fun at_ A1 a1 b1 q1 => ?_
  rw [List.length_map] at b1
  obtain ⟨A, rfl⟩ : ∃ A : Nat, at_ = (A : Int) := ⟨at_.toNat, by omega⟩
  have p1 := q1.at ep
  wtm_at "w"
  refine i_lenL (sq_of p1.h) ?_
  wtm_at "w"
  refine u_law_draw q1.i (by decide) (by decide) fun r2 A2 a2 b2 q2 => ?_
  have q02 := q1.trans q2
  wtm_at "w"
  generalize (if (A : Int) + 2 + r2 < ((ns.map V.int).length : Int) then (A : Int) + 2 + r2 else ((ns.map V.int).length : Int)) = to_
  refine u_law_draw q02.i (by decide) (by decide) fun way A3 a3 b3 q3 => ?_
  have q03 := q02.trans q3
  have p3 := q03.at ep
  wtm_at "w"
  refine b_sl q03.i ⟨ns, p3, hlen, hb⟩ fun r4 A4 s4 g4 => ?_
  have q4 := q03.same s4
  have p4 := p3.same s4
  wtm_at "w"
  refine i_new (by simp) fun r5 w5 => ?_
  have s5 : Same A4 (upd A4 r5 (.lst [.int 1])) := same_new w5
  have g5 := At.new (o := .lst [.int 1]) q4.i w5
  generalize upd A4 r5 (.lst [.int 1]) = A5 at s5 g5 ⊢
  have q5 := q4.same s5
  have p5 := p4.same s5
  wtm_at "w"
  refine i_slL (sq_of p5.h) fun r6 w6 => ?_
  rw [cut_dropA, ← List.map_drop]
  have s6 : Same A5 (upd A5 r6 (.lst ((ns.drop A).map V.int))) := same_new w6
  have g6 := At.new (o := .lst ((ns.drop A).map V.int)) q5.i w6
  generalize upd A5 r6 (.lst ((ns.drop A).map V.int)) = A6 at s6 g6 ⊢
  have q6 := q5.same s6
  obtain ⟨z0, z1⟩ := sum_split (fun x hx => (hns x hx).1) A
  wtm_at "w"
  refine i_sumL (sq_of g6.h) ?_
  wtm_at "w"
  refine i_rep (g5.same s6).h (by omega) (by omega) (sz_le (by simp; omega)) fun r7 w7 => ?_
  rw [rep_oneI]
  have s7 : Same A6 (upd A6 r7 (.lst ((List.replicate (ns.drop A).sum.toNat (1 : Int)).map V.int))) := same_new w7
  have g7 := At.new (o := .lst ((List.replicate (ns.drop A).sum.toNat (1 : Int)).map V.int)) q6.i w7
  generalize upd A6 r7 (.lst ((List.replicate (ns.drop A).sum.toNat (1 : Int)).map V.int)) = A7 at s7 g7 ⊢
  have q7 := q6.same s7
  have b7 : IB (deckW d pl ps) A7 r7 200 200 := ⟨_, g7, by rw [List.length_replicate]; omega, fun x hx => by rw [List.eq_of_mem_replicate hx]; decide⟩
  wtm_at "w"
  refine b_add q7.i (((g4.same s5).same s6).same s7) b7 (by decide) fun r8 A8 s8 g8 => ?_
  have q8 := q7.same s8
  with_reducible refine i_gname ?_
  with_reducible refine j_seq (fun σ H' => ∃ fp y7 y8, σ = [some (.ref d), some (.ref p), some (.int (n : Nat)), some (.int (A : Nat)), some (.int to_), some (.int way), some (.ref fp), y7, y8] ∧ Kp (deckW d pl ps) H H' ∧ IB (deckW d pl ps) H' fp 601 40000) ?_ (fun hj => ?_)
  rotate_left
  · wtm_at "w"
    refine i_ite (fun hw => ?_) (fun hw => ?_)
    rotate_left
    · refine i_next ?_
      exact hj _ _ ⟨r8, _, _, rfl, q8, g8.mono (by decide) (by decide)⟩
    have p8 := q8.at ep
    wtm_at "w"
    refine b_sl q8.i ⟨ns, p8, hlen, hb⟩ fun r9 A9 s9 g9 => ?_
    have q9 := q8.same s9
    have p9 := q9.at ep
    wtm_at "w"
    refine b_sl q9.i ⟨ns, p9, hlen, hb⟩ fun r10 A10 s10 g10 => ?_
    have q10 := q9.same s10
    wtm_at "w"
    refine b_sum g10 fun x hx => ?_
    wtm_at "w"
    refine i_new (by simp) fun r11 w11 => ?_
    have s11 : Same A10 (upd A10 r11 (.lst [.int x])) := same_new w11
    have g11 := At.new (o := .lst [.int x]) q10.i w11
    generalize upd A10 r11 (.lst [.int x]) = A11 at s11 g11 ⊢
    have q11 := q10.same s11
    wtm_at "w"
    refine b_add q11.i (((g9.same s10).same s11).mono (Nat.le_refl 200) (show 200 ≤ 40000 by decide)) (ib_one g11 hx) (by decide) fun r12 A12 s12 g12 => ?_
    have q12 := q11.same s12
    wtm_at "w"
    refine b_sl q12.i ⟨ns, q12.at ep, hlen, hb⟩ fun r13 A13 s13 g13 => ?_
    have q13 := q12.same s13
    wtm_at "w"
    refine b_add q13.i (g12.same s13) (g13.mono (Nat.le_refl 200) (show 200 ≤ 40000 by decide)) (by decide) fun r14 A14 s14 g14 => ?_
    with_reducible refine i_gname ?_
    exact hj _ _ ⟨r14, _, _, rfl, q13.same s14, g14.mono (by decide) (by decide)⟩
  clear q8 g8 s8 g7 b7 s7 q7 g6 s6 q6 p5 q5 g5 s5 q4 p4 g4 s4
  rintro σ B0 ⟨f0, y7, y8, rfl, q0, g0⟩
  with_reducible refine j_seq (fun σ H' => ∃ fp y7 y8, σ = [some (.ref d), some (.ref p), some (.int (n : Nat)), some (.int (A : Nat)), some (.int to_), some (.int way), some (.ref fp), y7, y8] ∧ Kp (deckW d pl ps) H H' ∧ IB (deckW d pl ps) H' fp 601 40000) ?_ (fun hj => ?_)
  rotate_left
  · wtm_at "w"
    refine i_ite (fun hw => ?_) (fun hw => ?_)
    rotate_left
    · refine i_next ?_
      exact hj _ _ ⟨f0, _, _, rfl, q0, g0⟩
    wtm_at "w"
    refine b_sl q0.i ⟨ns, q0.at ep, hlen, hb⟩ fun r9 A9 s9 g9 => ?_
    have q9 := q0.same s9
    wtm_at "w"
    refine b_sl q9.i ⟨ns, q9.at ep, hlen, hb⟩ fun r10 A10 s10 g10 => ?_
    have q10 := q9.same s10
    wtm_at "w"
    refine b_sum g10 fun x hx => ?_
    wtm_at "w"
    refine i_new (by simp) fun r11 w11 => ?_
    have s11 : Same A10 (upd A10 r11 (.lst [.int x])) := same_new w11
    have g11 := At.new (o := .lst [.int x]) q10.i w11
    generalize upd A10 r11 (.lst [.int x]) = A11 at s11 g11 ⊢
    have q11 := q10.same s11
    wtm_at "w"
    refine b_add q11.i (((g9.same s10).same s11).mono (Nat.le_refl 200) (show 200 ≤ 40000 by decide)) (ib_one g11 hx) (by decide) fun r12 A12 s12 g12 => ?_
    with_reducible refine i_gname ?_
    exact hj _ _ ⟨r12, _, _, rfl, q11.same s12, g12.mono (by decide) (by decide)⟩
  clear q0 g0
  rintro σ B1 ⟨f1, y7, y8, rfl, q0, g0⟩
  with_reducible refine j_seq (fun σ H' => ∃ fp y7 y8, σ = [some (.ref d), some (.ref p), some (.int (n : Nat)), some (.int (A : Nat)), some (.int to_), some (.int way), some (.ref fp), y7, y8] ∧ Kp (deckW d pl ps) H H' ∧ IB (deckW d pl ps) H' fp 601 40000) ?_ (fun hj => ?_)
  rotate_left
  · wtm_at "w"
    refine i_ite (fun hw => ?_) (fun hw => ?_)
    rotate_left
    · refine i_next ?_
      exact hj _ _ ⟨f1, _, _, rfl, q0, g0⟩
    wtm_at "w"
    refine i_new (by simp) fun r11 w11 => ?_
    have s11 : Same B1 (upd B1 r11 (.lst [.int (n : Nat)])) := same_new w11
    have g11 := At.new (o := .lst [.int (n : Nat)]) q0.i w11
    generalize upd B1 r11 (.lst [.int (n : Nat)]) = A11 at s11 g11 ⊢
    with_reducible refine i_gname ?_
    exact hj _ _ ⟨r11, _, _, rfl, q0.same s11, (ib_one (B := 40000) g11 (by omega)).mono (by decide) (by decide)⟩
  clear q0 g0
  rintro σ B2 ⟨f2, y7, y8, rfl, q0, g0⟩
  with_reducible refine j_seq (fun σ H' => ∃ fp y7 y8, σ = [some (.ref d), some (.ref p), some (.int (n : Nat)), some (.int (A : Nat)), some (.int to_), some (.int way), some (.ref fp), y7, y8] ∧ Kp (deckW d pl ps) H H' ∧ IB (deckW d pl ps) H' fp 601 40000) ?_ (fun hj => ?_)
  rotate_left
  · wtm_at "wa"
    refine i_ite (fun hw => ?_) (fun hw => ?_)
    rotate_left
    · refine i_F rfl ?_
      refine i_next ?_
      exact hj _ _ ⟨f2, _, _, rfl, q0, g0⟩
    wtm_at "wa"
    refine i_lenL (sq_of (q0.at ep).h) ?_
    wtm_at "wa"
    rw [List.length_map]
    refine i_ite (fun hl2 => ?_) (fun hl2 => ?_)
    rotate_left
    · refine i_next ?_
      exact hj _ _ ⟨f2, _, _, rfl, q0, g0⟩
    wtm_at "w"
    refine u_law_draw q0.i (by decide) (by decide) fun by_ A3 a3' b3' q3' => ?_
    have q1' := q0.trans q3'
    wtm_at "w"
    refine i_ulist (sq_of (q1'.at ep).h) fun g ng => ?_
    have k4 := q1'.new (o := .lst (ns.map V.int)) ng
    have g4 := At.new (o := .lst (ns.map V.int)) q1'.i ng
    have nH : H g = none := q1'.free ng
    generalize upd A3 g (.lst (ns.map V.int)) = A4 at k4 g4 ⊢
    have len_of : ∀ {ms : List Int} {X : Hp}, X g = some (.lst (ns.map V.int)) → X g = some (.lst (ms.map V.int)) → ms.length = ns.length := fun e f => by
      rw [e] at f
      have := congrArg List.length (HO.lst.inj (Option.some.inj f))
      simpa using this.symm
    wtm_at "w"
    refine b_ix (B := 200) (m := 200) ⟨ns, g4, hlen, hb⟩ (fun ms e => by have := len_of g4.h e; omega) fun x hx => ?_
    wtm_at "w"
    refine b_set (B := 200) (B' := 204) (m := 200) ⟨ns, g4, hlen, hb⟩ (fun ms e => by have := len_of g4.h e; omega) (by omega) (by decide) fun ms0 o e0 ⟨ms, eo, lo, lm, bm⟩ => ?_
    have lms := len_of g4.h e0
    subst eo
    have k5 := k4.mut (o := .lst (ms.map V.int)) nH g4.r
    have g5 : At (deckW d pl ps) (upd A4 g (.lst (ms.map V.int))) g (.lst (ms.map V.int)) := ⟨upd_same, g4.r⟩
    generalize upd A4 g (.lst (ms.map V.int)) = A5 at k5 g5 ⊢
    have len_of2 : ∀ {ks : List Int}, A5 g = some (.lst (ks.map V.int)) → ks.length = ns.length := fun f => by
      rw [g5.h] at f
      have := congrArg List.length (HO.lst.inj (Option.some.inj f))
      simp at this
      omega
    have hmod : 0 ≤ (A : Int) % (ns.length : Int) ∧ (A : Int) % (ns.length : Int) < (ns.length : Int) := ⟨Int.emod_nonneg _ (by omega), Int.emod_lt_of_pos _ (by omega)⟩
    wtm_at "w"
    refine i_lenL (sq_of (k5.at ep).h) ?_
    wtm_at "w"
    rw [List.length_map]
    refine i_mod (by omega) ?_
    wtm_at "w"
    refine b_ix (B := 204) (m := 200) ⟨ms, g5, lm, bm⟩ (fun ks e => by have := len_of2 e; omega) fun x2 hx2 => ?_
    wtm_at "w"
    refine i_lenL (sq_of (k5.at ep).h) ?_
    wtm_at "w"
    rw [List.length_map]
    refine i_mod (by omega) ?_
    wtm_at "w"
    refine b_set (B := 204) (B' := 208) (m := 200) ⟨ms, g5, lm, bm⟩ (fun ks e => by have := len_of2 e; omega) (by omega) (by decide) fun ms1 o e1 ⟨ms2, eo, lo2, lm2, bm2⟩ => ?_
    subst eo
    have k6 := k5.mut (o := .lst (ms2.map V.int)) nH g5.r
    have g6 : At (deckW d pl ps) (upd A5 g (.lst (ms2.map V.int))) g (.lst (ms2.map V.int)) := ⟨upd_same, g5.r⟩
    exact hj _ _ ⟨g, _, _, rfl, k6, IB.mono (m := 200) (B := 208) (by decide) (by decide) ⟨ms2, g6, lm2, bm2⟩⟩
  clear q0 g0
  rintro σ B3 ⟨f3, y7, y8, rfl, q0, g0⟩
  with_reducible refine j_seq (fun σ H' => ∃ fp y7 y8, σ = [some (.ref d), some (.ref p), some (.int (n : Nat)), some (.int (A : Nat)), some (.int to_), some (.int way), some (.ref fp), y7, y8] ∧ Kp (deckW d pl ps) H H' ∧ IB (deckW d pl ps) H' fp 601 40000) ?_ (fun hj => ?_)
  rotate_left
  · wtm_at "w"
    refine i_ite (fun hw => ?_) (fun hw => ?_)
    rotate_left
    · refine i_next ?_
      exact hj _ _ ⟨f3, _, _, rfl, q0, g0⟩
    with_reducible refine i_seq ?_
    with_reducible refine i_asg ?_
    wtm_at "w"
    refine i_new (by simp) fun g ng => ?_
    have k4 := q0.new (o := .lst (([] : List Int).map V.int)) ng
    have g4 := At.new (o := .lst (([] : List Int).map V.int)) q0.i ng
    have nH : H g = none := q0.free ng
    with_reducible refine i_gname ?_
    show tWhile _ _ _ _ (upd B3 g (.lst (([] : List Int).map V.int)))
    generalize upd B3 g (.lst (([] : List Int).map V.int)) = A4 at k4 g4 ⊢
    refine i_while (fun m σ H' => ∃ fs : List Int, σ = [some (.ref d), some (.ref p), some (.int (n : Nat)), some (.int (A : Nat)), some (.int to_), some (.int way), some (.ref g), y7, y8] ∧ Kp (deckW d pl ps) H H' ∧ At (deckW d pl ps) H' g (.lst (fs.map V.int)) ∧ (∀ x ∈ fs, 1 ≤ x ∧ x ≤ 200) ∧ fs.sum + (m : Int) = n ∧ (fs.length : Int) ≤ fs.sum) n ⟨[], rfl, k4, g4, by simp, by simp, by simp⟩ ?_
    rintro m σ A5 ⟨fs, rfl, k5, g5, hfs, hsm, hfl⟩
    wtm_at "w"
    refine i_sumL (sq_of g5.h) ?_
    wtm_at "w"
    refine i_ite (fun hlt => ?_) (fun hlt => ?_)
    · refine i_turn ?_
      wtm_at "w"
      refine i_tyL g5.h ?_
      wtm_at "w"
      refine i_sumL (sq_of g5.h) ?_
      wtm_at "w"
      refine u_law_draw k5.i (by omega) (by omega) fun r6 A6 a6 b6 k6 => ?_
      have k06 := k5.trans k6
      have g6 := k6.at g5
      wtm_at "w"
      refine i_app g6.h (sz_lt (by rw [List.length_map]; omega)) ?_
      have k7 := k06.mut (o := .lst (fs.map V.int ++ [.int (1 + r6)])) nH g6.r
      have g7 : At (deckW d pl ps) (upd A6 g (.lst (fs.map V.int ++ [.int (1 + r6)]))) g (.lst ((fs ++ [1 + r6]).map V.int)) := ⟨by rw [List.map_append]; exact upd_same, g6.r⟩
      refine ⟨((m : Int) - (1 + r6)).toNat, by omega, fs ++ [1 + r6], rfl, k7, g7, ?_, ?_, ?_⟩
      · intro x hx
        rcases List.mem_append.mp hx with z | z
        · exact hfs x z
        · rw [List.mem_singleton.mp z]; omega
      · rw [List.sum_append, List.sum_singleton]; omega
      · rw [List.length_append, List.length_singleton, List.sum_append, List.sum_singleton]; omega
    · exact hj _ _ ⟨g, _, _, rfl, k5, ⟨fs, g5, by omega, fun x hx => by have := hfs x hx; omega⟩⟩
  clear q0 g0
  rintro σ B4 ⟨f4, y7, y8, rfl, q0, fs, g0, l0, b0⟩
  wtm_at "w"
  refine i_revL ?_
  wtm_at "w"
  refine i_lstA (sq_of g0.h) ?_
  refine lc_ne0 (fun _ => rfl) (fun _ => rfl) g0.h (by omega) fun r5 A5 n5 s5 e5 => ?_
  have q5 := q0.same s5
  have hall : ∀ x ∈ fs.filter (fun x => !decide (x = 0)), x.natAbs ≤ 40000 := fun x hx => b0 x (List.mem_filter.mp hx).1
  have hl5 : (fs.filter (fun x => !decide (x = 0))).length ≤ 601 := Nat.le_trans (List.length_filter_le _ _) l0
  generalize fs.filter (fun x => !decide (x = 0)) = gs at e5 hall hl5
  wtm_at "w"
  refine i_sortedL (sq_of e5) fun ys r6 hperm hup n6 => ?_
  have q6 := q5.new (o := .lst (ys.map V.int)) n6
  have e6 : (upd A5 r6 (.lst (ys.map V.int))) r6 = some (.lst (ys.map V.int)) := upd_same
  generalize upd A5 r6 (.lst (ys.map V.int)) = A6 at q6 e6 ⊢
  wtm_at "w"
  refine i_revA (sq_of e6) fun r7 n7 => ?_
  have q7 := q6.new (o := .lst (ys.map V.int).reverse) n7
  have e7 := At.new (o := .lst (ys.map V.int).reverse) q6.i n7
  refine h _ _ q7 (.ls e7 ?_ fun x hx => ?_)
  · rw [List.length_reverse, List.length_map, hperm.length_eq]; omega
  · obtain ⟨y, hy, rfl⟩ := List.mem_map.mp (List.mem_reverse.mp hx)
    have := hall y (hperm.mem_iff.mp hy)
    exact ⟨_, .int y (mil40 (by omega))⟩
end
section
variable {G : Gx} {H : Hp} {Q : VK} {E : XK}
theorem law_k07_ok {a : Addr} {ns : List Int} (hs : SqL G.K H a (ns.map V.int)) (hl : ns.length ≤ 63) (hq : ∀ H', Q (.bl true) H') : sp_law_k07 G [.ref a] H Q E := by
  refine ⟨rfl, ?_⟩
  unfold t_law_k07
  wtm_at "w"
  refine u_law_deck hs hl fun d pl ps H1 s1 i1 => ?_
  wtm_at "w"
  refine i_rngA1 (by decide) ?_
  refine lk_range (fun j σ H' => ∃ y2 y3 y4 y5 y6 y7 y8, σ = [some (.ref a), some (.ref d), y2, y3, y4, y5, y6, y7, y8] ∧ DkI d pl ps H') ⟨_, _, _, _, _, _, _, rfl, i1⟩ ?_ ?_
  · rintro j σ H2 hj ⟨y2, y3, y4, y5, y6, y7, y8, rfl, i2⟩
    wtm_at "w"
    refine u_law_some_kinds i2 fun kp ks H3 k3 nk e3 hk => ?_
    have hk5 := hk.hi
    wtm_at "w"
    refine u_law_number k3.i fun m H4 k4 m0 m1 => ?_
    wtm_at "w"
    refine i_new (by simp) fun u5 w5 => ?_
    have k5 := (k3.trans k4).new (o := .lst [.int m, .int 0]) w5
    have f5 := At.new (o := .lst [.int m, .int 0]) (k3.trans k4).i w5
    have e5 := (k4.at e3).same (same_new (o := .lst [.int m, .int 0]) w5)
    generalize upd H4 u5 (.lst [.int m, .int 0]) = H5 at k5 f5 e5 ⊢
    wtm_at "w"
    refine u_law_draw k5.i (by decide) (by decide) fun r6 H6 a6 b6 k6 => ?_
    wtm_at "w"
    refine ix2i (k6.at f5).h fun nv hnv => ?_
    obtain ⟨N, rfl, hN⟩ : ∃ N : Nat, nv = (N : Int) ∧ N ≤ 200 := ⟨nv.toNat, by rcases hnv with rfl | rfl <;> omega, by rcases hnv with rfl | rfl <;> omega⟩
    have k06 := k5.trans k6
    have e6 := k6.at e5
    wtm_at "w"
    refine u_law_stock e6.h hk.kd (by omega) (by omega) (by omega) fun sp L H7 s7 n7 es hL => ?_
    have k07 := k06.same s7
    have e7 := e6.same s7
    have es7 : At (deckW d pl ps) H7 sp (.lst (L.map V.int)) := ⟨es, Wd.notR (W := deckW d pl ps) k06.i n7⟩
    have hlen := hL.len hk.kd (by omega)
    have hLb : ∀ x ∈ L, 1 ≤ x ∧ x ≤ 200 := fun x hx => ⟨hL.pos hk.kd hx, by have := ((hL.mem x).mp hx).1; omega⟩
    wtm_at "w"
    refine u_law_drawn_sum k07.i es7 (by omega) (fun x hx => (hLb x hx).1) (fun z => stock_one hL hk (by omega)) hN fun p xs H8 k8 ep ok hxl => ?_
    have hxs : ∀ x ∈ xs, 1 ≤ x ∧ x ≤ 200 := fun x hx => hLb x (ok.mem x hx)
    have e8 := k8.at e7
    have es8 := k8.at es7
    wtm_at "w"
    refine i_ulist (sq_of e8.h) fun g1 w9 => ?_
    have s9 : Same H8 (upd H8 g1 (.lst ks)) := same_new w9
    have x9 : (upd H8 g1 (.lst ks)) g1 = some (.lst ks) := upd_same
    generalize upd H8 g1 (.lst ks) = H9 at s9 x9 ⊢
    wtm_at "w"
    refine i_ulist (sq_of (ep.same s9).h) fun g2 w10 => ?_
    have s10 : Same H9 (upd H9 g2 (.lst (xs.map V.int))) := same_new w10
    have x10 : (upd H9 g2 (.lst (xs.map V.int))) g2 = some (.lst (xs.map V.int)) := upd_same
    generalize upd H9 g2 (.lst (xs.map V.int)) = H10 at s10 x10 ⊢
    wtm_at "w"
    refine u_is_sum (s10 _ _ x9) hk hN (sq_of x10) x10 (by omega) fun L' b H11 s11 hL' hb => ?_
    have eb : b = true := hb.mpr (by rw [← hL.uniq hL']; exact ok)
    subst eb
    have s811 := (s9.trans s10).trans s11
    have k11 := (k07.trans k8).same s811
    have e11 := e8.same s811
    have es11 := es8.same s811
    have ep11 := ep.same s811
    have i11 := k11.i
    wtm_at "w"
    refine i_rngA1 (by decide) ?_
    refine lk_range (fun j' σ H' => ∃ y7 y8, σ = [some (.ref a), some (.ref d), some (.int (0 + (j : Nat))), some (.ref kp), some (.int (N : Nat)), some (.ref sp), some (.ref p), y7, y8] ∧ Kp (deckW d pl ps) H11 H') ⟨_, _, rfl, Kp.refl i11⟩ ?_ ?_
    · rintro j' σ H12 hj' ⟨y7, y8, rfl, k12⟩
      wtm_at "w"
      refine u_law_changed k12.i (k12.at es11) (by omega) hLb (k12.at ep11) (by omega) hxs fun v H13 k13 tv => ?_
      have k013 := k12.trans k13
      wtm_at "w"
      refine u_law_right_v12 tv (k013.at e11).h hk hN fun H14 s14 => ?_
      wtm_at "w"
      exact ⟨_, _, rfl, k013.same s14⟩
    · rintro σ H12 ⟨y7, y8, rfl, k12⟩
      wtm_at "w"
      refine i_rngA1 (by decide) ?_
      refine lk_range (fun j' σ H' => ∃ y7 y8, σ = [some (.ref a), some (.ref d), some (.int (0 + (j : Nat))), some (.ref kp), some (.int (N : Nat)), some (.ref sp), some (.ref p), y7, y8] ∧ Kp (deckW d pl ps) H11 H') ⟨_, _, rfl, k12⟩ ?_ ?_
      · rintro j' σ H12 hj' ⟨y7, y8, rfl, k12⟩
        wtm_at "w"
        refine u_law_of_total k12.i (k12.at ep11) (by omega) hxs ok.sum hN fun v H13 k13 tv => ?_
        have k013 := k12.trans k13
        wtm_at "w"
        refine u_law_right_v12 tv (k013.at e11).h hk hN fun H14 s14 => ?_
        wtm_at "w"
        exact ⟨_, _, rfl, k013.same s14⟩
      · rintro σ H13 ⟨y7, y8, rfl, k13⟩
        wtm_at "w"
        refine u_law_draw k13.i (by decide) (by decide) fun r14 H14 a14 b14 k14 => ?_
        have k014 := k13.trans k14
        wtm_at "w"
        refine i_new (by simp) fun u15 w15 => ?_
        have k15 := k014.new (o := .lst [.int ((N : Int) + 1), .int ((N : Int) - 1), .int r14]) w15
        have f15 : (upd H14 u15 (.lst [.int ((N : Int) + 1), .int ((N : Int) - 1), .int r14])) u15 = some (.lst (([(N : Int) + 1, (N : Int) - 1, r14]).map V.int)) := upd_same
        generalize upd H14 u15 (.lst [.int ((N : Int) + 1), .int ((N : Int) - 1), .int r14]) = H15 at k15 f15 ⊢
        wtm_at "w"
        refine i_lstA (sq_of f15) ?_
        refine lk_list (fun j' σ H' => ∃ y8, σ = [some (.ref a), some (.ref d), some (.int (0 + (j : Nat))), some (.ref kp), some (.int (N : Nat)), some (.ref sp), some (.ref p), y7, y8] ∧ Same H15 H') ⟨_, rfl, fun _ _ z => z⟩ (fun i σ H' _ ⟨_, _, s⟩ => sq_of (s _ _ f15)) ?_ ?_
        · rintro j' x σ H16 hx ⟨y8, rfl, s16⟩
          rw [List.getElem?_map] at hx
          obtain ⟨o, ho, rfl⟩ := Option.map_eq_some_iff.mp hx
          have ep16 := (k15.at ep11).same s16
          have e16 := (k15.at e11).same s16
          have tg : Tg (deckW d pl ps) H16 (.ref p) := .ls ep16 (by rw [List.length_map]; omega) fun y hy => by
            obtain ⟨z, hz, rfl⟩ := List.mem_map.mp hy
            exact ⟨_, .int z (small40 (by have := hxs z hz; omega))⟩
          wtm_at "wa"
          refine i_ite (fun h0 => ?_) (fun h0 => ?_)
          · wtm_at "wa"
            refine i_ite (fun h2 => ?_) (fun h2 => ?_)
            · obtain ⟨O, rfl⟩ : ∃ O : Nat, o = (O : Int) := ⟨o.toNat, by omega⟩
              wtm_at "wa"
              refine u_law_right_v12 tg e16.h hk (by omega) fun H17 s17 => ?_
              wtm_at "wa"
              exact ⟨_, rfl, s16.trans s17⟩
            · wtm_at "wa"
              exact ⟨_, rfl, s16⟩
          · wtm_at "wa"
            exact ⟨_, rfl, s16⟩
        · rintro σ H16 ⟨y8, rfl, s16⟩
          exact ⟨_, _, _, _, _, _, _, rfl, (k15.same s16).i⟩
  · rintro σ H2 ⟨y2, y3, y4, y5, y6, y7, y8, rfl, i2⟩
    wtm_at "w"
    exact hq _
end
/-! ### the text of the row -/
def topS (i : Nat) : Stmt := PySem.Challenge.pw_fewshapes_k07_sums_judged.main.body.getD i (.Pass ⟨0, 0, 0, 0⟩)
abbrev s_is_whole : Stmt := topS 10
theorem sc_is_whole : FnScope ["thing"] ["thing"] (defScope s_is_whole) := ⟨rfl, rfl, rfl, by decide +kernel, rfl, by decide +kernel, by decide +kernel⟩
abbrev s_is_kind : Stmt := topS 11
theorem sc_is_kind : FnScope ["thing"] ["thing"] (defScope s_is_kind) := ⟨rfl, rfl, rfl, by decide +kernel, rfl, by decide +kernel, by decide +kernel⟩
abbrev s_are_kinds : Stmt := topS 12
theorem sc_are_kinds : FnScope ["thing", "kind", "k"] ["thing"] (defScope s_are_kinds) := ⟨rfl, rfl, rfl, by decide +kernel, rfl, by decide +kernel, by decide +kernel⟩
abbrev s_need_kinds : Stmt := topS 13
theorem sc_need_kinds : FnScope ["thing"] ["thing"] (defScope s_need_kinds) := ⟨rfl, rfl, rfl, by decide +kernel, rfl, by decide +kernel, by decide +kernel⟩
abbrev s_need_to_most : Stmt := topS 14
theorem sc_need_to_most : FnScope ["thing"] ["thing"] (defScope s_need_to_most) := ⟨rfl, rfl, rfl, by decide +kernel, rfl, by decide +kernel, by decide +kernel⟩
abbrev s_dots : Stmt := topS 15
theorem sc_dots : FnScope ["kind", "k"] ["kind", "k"] (defScope s_dots) := ⟨rfl, rfl, rfl, by decide +kernel, rfl, by decide +kernel, by decide +kernel⟩
abbrev s_stock_of : Stmt := topS 16
theorem sc_stock_of : FnScope ["kinds", "b", "found", "kind", "k"] ["kinds", "b"] (defScope s_stock_of) := ⟨rfl, rfl, rfl, by decide +kernel, rfl, by decide +kernel, by decide +kernel⟩
abbrev s_is_sum : Stmt := topS 18
theorem sc_is_sum : FnScope ["kinds", "n", "thing", "stock", "part", "k"] ["kinds", "n", "thing"] (defScope s_is_sum) := ⟨rfl, rfl, rfl, by decide +kernel, rfl, by decide +kernel, by decide +kernel⟩
abbrev s_law_deck : Stmt := topS 20
theorem sc_law_deck : FnScope ["script", "pools", "k", "cell"] ["script"] (defScope s_law_deck) := ⟨rfl, rfl, rfl, by decide +kernel, rfl, by decide +kernel, by decide +kernel⟩
abbrev s_law_draw : Stmt := topS 21
theorem sc_law_draw : FnScope ["deck", "many", "pool", "found", "number"] ["deck", "many"] (defScope s_law_draw) := ⟨rfl, rfl, rfl, by decide +kernel, rfl, by decide +kernel, by decide +kernel⟩
abbrev s_law_some_kinds : Stmt := topS 22
theorem sc_law_some_kinds : FnScope ["deck", "left", "k"] ["deck"] (defScope s_law_some_kinds) := ⟨rfl, rfl, rfl, by decide +kernel, rfl, by decide +kernel, by decide +kernel⟩
abbrev s_law_dots : Stmt := topS 23
theorem sc_law_dots : FnScope ["kind", "most", "found", "k", "number", "more"] ["kind", "most"] (defScope s_law_dots) := ⟨rfl, rfl, rfl, by decide +kernel, rfl, by decide +kernel, by decide +kernel⟩
abbrev s_law_stock : Stmt := topS 24
theorem sc_law_stock : FnScope ["kinds", "most", "found", "kind", "number"] ["kinds", "most"] (defScope s_law_stock) := ⟨rfl, rfl, rfl, by decide +kernel, rfl, by decide +kernel, by decide +kernel⟩
abbrev s_law_number : Stmt := topS 25
theorem sc_law_number : FnScope ["deck"] ["deck"] (defScope s_law_number) := ⟨rfl, rfl, rfl, by decide +kernel, rfl, by decide +kernel, by decide +kernel⟩
abbrev s_law_drawn_sum : Stmt := topS 26
theorem sc_law_drawn_sum : FnScope ["deck", "stock", "n", "found", "left", "cut", "some", "part"] ["deck", "stock", "n"] (defScope s_law_drawn_sum) := ⟨rfl, rfl, rfl, by decide +kernel, rfl, by decide +kernel, by decide +kernel⟩
abbrev s_law_due_v3 : Stmt := topS 27
theorem sc_law_due_v3 : FnScope ["stock", "n", "thing", "left", "last", "part"] ["stock", "n", "thing"] (defScope s_law_due_v3) := ⟨rfl, rfl, rfl, by decide +kernel, rfl, by decide +kernel, by decide +kernel⟩
abbrev s_law_changed : Stmt := topS 28
theorem sc_law_changed : FnScope ["deck", "stock", "some", "at", "here", "by", "odd", "rows", "which", "one"] ["deck", "stock", "some"] (defScope s_law_changed) := ⟨rfl, rfl, rfl, by decide +kernel, rfl, by decide +kernel, by decide +kernel⟩
abbrev s_law_of_total : Stmt := topS 29
theorem sc_law_of_total : FnScope ["deck", "some", "n", "at", "to", "way", "found", "by", "one"] ["deck", "some", "n"] (defScope s_law_of_total) := ⟨rfl, rfl, rfl, by decide +kernel, rfl, by decide +kernel, by decide +kernel⟩
abbrev s_law_right_v12 : Stmt := topS 30
theorem sc_law_right_v12 : FnScope ["kinds", "n", "thing", "handed", "kept", "due", "turn", "found"] ["kinds", "n", "thing"] (defScope s_law_right_v12) := ⟨rfl, rfl, rfl, by decide +kernel, rfl, by decide +kernel, by decide +kernel⟩
abbrev s_law_k07 : Stmt := topS 31
theorem sc_law_k07 : FnScope ["script", "deck", "k", "kinds", "n", "stock", "some", "turn", "other"] ["script"] (defScope s_law_k07) := ⟨rfl, rfl, rfl, by decide +kernel, rfl, by decide +kernel, by decide +kernel⟩
/-- what the top has left -/
structure Txt (G : Gx) (mg : Str → Option Value) where
  a_is_whole : Addr
  d_is_whole : FuncData
  F_is_whole : Fun G.K "is_whole" "is_whole" s_is_whole a_is_whole d_is_whole
  b_is_whole : Binds G.K d_is_whole ["thing"] []
  g_is_whole : mg "is_whole" = some (.ref a_is_whole)
  a_is_kind : Addr
  d_is_kind : FuncData
  F_is_kind : Fun G.K "is_kind" "is_kind" s_is_kind a_is_kind d_is_kind
  b_is_kind : Binds G.K d_is_kind ["thing"] []
  g_is_kind : mg "is_kind" = some (.ref a_is_kind)
  a_are_kinds : Addr
  d_are_kinds : FuncData
  F_are_kinds : Fun G.K "are_kinds" "are_kinds" s_are_kinds a_are_kinds d_are_kinds
  b_are_kinds : Binds G.K d_are_kinds ["thing"] []
  g_are_kinds : mg "are_kinds" = some (.ref a_are_kinds)
  a_need_kinds : Addr
  d_need_kinds : FuncData
  F_need_kinds : Fun G.K "need_kinds" "need_kinds" s_need_kinds a_need_kinds d_need_kinds
  b_need_kinds : Binds G.K d_need_kinds ["thing"] []
  g_need_kinds : mg "need_kinds" = some (.ref a_need_kinds)
  a_need_to_most : Addr
  d_need_to_most : FuncData
  F_need_to_most : Fun G.K "need_to_most" "need_to_most" s_need_to_most a_need_to_most d_need_to_most
  b_need_to_most : Binds G.K d_need_to_most ["thing"] []
  g_need_to_most : mg "need_to_most" = some (.ref a_need_to_most)
  a_dots : Addr
  d_dots : FuncData
  F_dots : Fun G.K "dots" "dots" s_dots a_dots d_dots
  b_dots : Binds G.K d_dots ["kind", "k"] []
  g_dots : mg "dots" = some (.ref a_dots)
  a_stock_of : Addr
  d_stock_of : FuncData
  F_stock_of : Fun G.K "stock_of" "stock_of" s_stock_of a_stock_of d_stock_of
  b_stock_of : Binds G.K d_stock_of ["kinds", "b"] []
  g_stock_of : mg "stock_of" = some (.ref a_stock_of)
  a_is_sum : Addr
  d_is_sum : FuncData
  F_is_sum : Fun G.K "is_sum" "is_sum" s_is_sum a_is_sum d_is_sum
  b_is_sum : Binds G.K d_is_sum ["kinds", "n", "thing"] []
  g_is_sum : mg "is_sum" = some (.ref a_is_sum)
  a_law_deck : Addr
  d_law_deck : FuncData
  F_law_deck : Fun G.K "_law_deck" "_law_deck" s_law_deck a_law_deck d_law_deck
  b_law_deck : Binds G.K d_law_deck ["script"] []
  g_law_deck : mg "_law_deck" = some (.ref a_law_deck)
  a_law_draw : Addr
  d_law_draw : FuncData
  F_law_draw : Fun G.K "_law_draw" "_law_draw" s_law_draw a_law_draw d_law_draw
  b_law_draw : Binds G.K d_law_draw ["deck", "many"] []
  g_law_draw : mg "_law_draw" = some (.ref a_law_draw)
  a_law_some_kinds : Addr
  d_law_some_kinds : FuncData
  F_law_some_kinds : Fun G.K "_law_some_kinds" "_law_some_kinds" s_law_some_kinds a_law_some_kinds d_law_some_kinds
  b_law_some_kinds : Binds G.K d_law_some_kinds ["deck"] []
  g_law_some_kinds : mg "_law_some_kinds" = some (.ref a_law_some_kinds)
  a_law_dots : Addr
  d_law_dots : FuncData
  F_law_dots : Fun G.K "_law_dots" "_law_dots" s_law_dots a_law_dots d_law_dots
  b_law_dots : Binds G.K d_law_dots ["kind", "most"] []
  g_law_dots : mg "_law_dots" = some (.ref a_law_dots)
  a_law_stock : Addr
  d_law_stock : FuncData
  F_law_stock : Fun G.K "_law_stock" "_law_stock" s_law_stock a_law_stock d_law_stock
  b_law_stock : Binds G.K d_law_stock ["kinds", "most"] []
  g_law_stock : mg "_law_stock" = some (.ref a_law_stock)
  a_law_number : Addr
  d_law_number : FuncData
  F_law_number : Fun G.K "_law_number" "_law_number" s_law_number a_law_number d_law_number
  b_law_number : Binds G.K d_law_number ["deck"] []
  g_law_number : mg "_law_number" = some (.ref a_law_number)
  a_law_drawn_sum : Addr
  d_law_drawn_sum : FuncData
  F_law_drawn_sum : Fun G.K "_law_drawn_sum" "_law_drawn_sum" s_law_drawn_sum a_law_drawn_sum d_law_drawn_sum
  b_law_drawn_sum : Binds G.K d_law_drawn_sum ["deck", "stock", "n"] []
  g_law_drawn_sum : mg "_law_drawn_sum" = some (.ref a_law_drawn_sum)
  a_law_due_v3 : Addr
  d_law_due_v3 : FuncData
  F_law_due_v3 : Fun G.K "_law_due" "_law_due" s_law_due_v3 a_law_due_v3 d_law_due_v3
  b_law_due_v3 : Binds G.K d_law_due_v3 ["stock", "n", "thing"] []
  g_law_due : mg "_law_due" = some (.ref a_law_due_v3)
  a_law_changed : Addr
  d_law_changed : FuncData
  F_law_changed : Fun G.K "_law_changed" "_law_changed" s_law_changed a_law_changed d_law_changed
  b_law_changed : Binds G.K d_law_changed ["deck", "stock", "some"] []
  g_law_changed : mg "_law_changed" = some (.ref a_law_changed)
  a_law_of_total : Addr
  d_law_of_total : FuncData
  F_law_of_total : Fun G.K "_law_of_total" "_law_of_total" s_law_of_total a_law_of_total d_law_of_total
  b_law_of_total : Binds G.K d_law_of_total ["deck", "some", "n"] []
  g_law_of_total : mg "_law_of_total" = some (.ref a_law_of_total)
  a_law_right_v12 : Addr
  d_law_right_v12 : FuncData
  F_law_right_v12 : Fun G.K "_law_right" "_law_right" s_law_right_v12 a_law_right_v12 d_law_right_v12
  b_law_right_v12 : Binds G.K d_law_right_v12 ["kinds", "n", "thing"] []
  g_law_right : mg "_law_right" = some (.ref a_law_right_v12)
  a_law_k07 : Addr
  d_law_k07 : FuncData
  F_law_k07 : Fun G.K "law" "law" s_law_k07 a_law_k07 d_law_k07
  b_law_k07 : Binds G.K d_law_k07 ["script"] []
  g_law : mg "law" = some (.ref a_law_k07)
  n_bool : mg "bool" = none
  n_dict : mg "dict" = none
  n_enumerate : mg "enumerate" = none
  n_int : mg "int" = none
  n_isinstance : mg "isinstance" = none
  n_len : mg "len" = none
  n_list : mg "list" = none
  n_max : mg "max" = none
  n_min : mg "min" = none
  n_range : mg "range" = none
  n_repr : mg "repr" = none
  n_sorted : mg "sorted" = none
  n_str : mg "str" = none
  n_sum : mg "sum" = none
  n_tuple : mg "tuple" = none
  k_CUBES : Tok
  c_CUBES : mg "CUBES" = some (.str "cubes" k_CUBES)
  k_FEWEST_CORNERS : Tok
  c_FEWEST_CORNERS : mg "FEWEST_CORNERS" = some (.int 3 k_FEWEST_CORNERS)
  k_MOST : Tok
  c_MOST : mg "MOST" = some (.int 200 k_MOST)
  k_MOST_CORNERS : Tok
  c_MOST_CORNERS : mg "MOST_CORNERS" = some (.int 12 k_MOST_CORNERS)
  k_MOST_KINDS : Tok
  c_MOST_KINDS : mg "MOST_KINDS" = some (.int 5 k_MOST_KINDS)
section
variable {P : Program} {w : World} {G : Gx} {mg : Str → Option Value} {base : Heap}
theorem ok_is_whole (T : Txt G mg) : FnOk P w G.K mg base CX0 1 T.a_is_whole T.d_is_whole ["thing"] (sp0 (sp_is_whole G)) := by
  refine T.F_is_whole.ok sc_is_whole (fun vs H Q E h => h.1) (fun cdv A outer s H vs Q E hr h => ⟨t_is_whole G E0, ?_, h.2⟩)
  exact (pss_one (ps_ret (pe_and (pe_callB k_isi (by rfl) T.n_isinstance (by decide +kernel) (pa_cons (pv 0) (pa_cons (pe_bltn (by rfl) T.n_int (by decide +kernel) rfl) pa_nil))) (pe_one (pe_not (pe_callB k_isi (by rfl) T.n_isinstance (by decide +kernel) (pa_cons (pv 0) (pa_cons (pe_bltn (by rfl) T.n_bool (by decide +kernel) rfl) pa_nil))))))))
theorem ok_is_kind (T : Txt G mg) : FnOk P w G.K mg base CX0 2 T.a_is_kind T.d_is_kind ["thing"] (sp0 (sp_is_kind G)) := by
  refine T.F_is_kind.ok sc_is_kind (fun vs H Q E h => h.1) (fun cdv A outer s H vs Q E hr h => ⟨t_is_kind G E0, ?_, h.2⟩)
  exact (pss_cons (ps_if (pt_val (pe_callB k_isi (by rfl) T.n_isinstance (by decide +kernel) (pa_cons (pv 0) (pa_cons (pe_bltn (by rfl) T.n_str (by decide +kernel) rfl) pa_nil)))) (pss_one (ps_ret (pe_cmpR (o_eq hr.units) (pv 0) (pe_glob (by rfl) T.c_CUBES ⟨_, rfl⟩) (nomark _)))) pss_nil)
      (pss_one (ps_ret (pe_and (pcall (ok_is_whole T) (hr.mono (by decide)) (by rfl) T.g_is_whole T.F_is_whole.kp T.b_is_whole (pa_cons (pv 0) pa_nil)) (pe_one (pe_chain o_le o_le (pe_glob (by rfl) T.c_FEWEST_CORNERS ⟨_, rfl⟩) (pv 0) (pe_glob (by rfl) T.c_MOST_CORNERS ⟨_, rfl⟩)))))))
theorem ok_are_kinds (T : Txt G mg) : FnOk P w G.K mg base CX0 3 T.a_are_kinds T.d_are_kinds ["thing"] (sp0 (sp_are_kinds G)) := by
  refine T.F_are_kinds.ok sc_are_kinds (fun vs H Q E h => h.1) (fun cdv A outer s H vs Q E hr h => ⟨t_are_kinds G E0, ?_, h.2⟩)
  exact (pss_cons (ps_if (PW.pt (pw_or (pt_not (pt_val (pe_callB k_isi (by rfl) T.n_isinstance (by decide +kernel) (pa_cons (pv 0) (pa_cons (pe_bltn (by rfl) T.n_list (by decide +kernel) rfl) pa_nil))))) (pw_or1 (pt_not (pt_chain o_le o_le pe_int (pe_callB k_len (by rfl) T.n_len (by decide +kernel) (pa_cons (pv 0) pa_nil)) (pe_glob (by rfl) T.c_MOST_KINDS ⟨_, rfl⟩)))))) (pss_one (ps_ret pe_bl)) pss_nil)
      (pss_cons (ps_if (pt_cmpR (o_ne hr.units) (pe_lc (own := [("kind", 1)]) (g := (gName 1)) (tt := (tNot (tB (tCall (sp_is_kind G) [] E0 (tCons (tVar 1) tNil))))) (by rfl) sc_are_kinds.nd  (pi_list (pv 0)) (blkOk_by (own := [("kind", 1)]) (N := ["thing", "kind", "k"]) (sc := defScope s_are_kinds) (by decide +kernel)) (fun _ _ _ _ _ => (pgn 1 sc_are_kinds.nd)) (fun _ _ _ _ _ => (pts_one (pt_not (pt_val (pcall (ok_is_kind T) (hr.mono (by decide)) (by rfl) T.g_is_kind T.F_is_kind.kp T.b_is_kind (pa_cons (pv 1) pa_nil)))))) (fun _ _ _ _ _ => (pv 1))) (pe_lst pa_nil) (nomark _)) (pss_one (ps_ret pe_bl)) pss_nil)
      (pss_one (ps_ret (pe_cmpR (o_eq hr.units) (pe_lc (own := [("k", 2), ("kind", 1)]) (g := (gTup G.K 2 (gCons (gName 2) (gCons (gName 1) gNil)))) (tt := (tTest (tOp (uIn G.K) (tVar 1) (tSl (uSl G.K) (tVar 0) tNoPart (tPart (tVar 2)))))) (by rfl) sc_are_kinds.nd  (pi_enum (by rfl) T.n_enumerate (pa_cons (pv 0) pa_nil)) (blkOk_by (own := [("k", 2), ("kind", 1)]) (N := ["thing", "kind", "k"]) (sc := defScope s_are_kinds) (by decide +kernel)) (fun _ _ _ _ _ => (pg_tup (by rfl) (pgs_cons (pgn 2 sc_are_kinds.nd) (pgs_cons (pgn 1 sc_are_kinds.nd) pgs_nil)))) (fun _ _ _ _ _ => (pts_one (pt_cmpR o_in (pv 1) (pe_slice o_sl (pv 0) po_none (po_some (pv 2))) (by rfl)))) (fun _ _ _ _ _ => (pv 2))) (pe_lst pa_nil) (nomark _))))))
theorem ok_need_kinds (T : Txt G mg) : FnOk P w G.K mg base CX0 4 T.a_need_kinds T.d_need_kinds ["thing"] (sp0 (sp_need_kinds G)) := by
  refine T.F_need_kinds.ok sc_need_kinds (fun vs H Q E h => h.1) (fun cdv A outer s H vs Q E hr h => ⟨t_need_kinds G E0, ?_, h.2⟩)
  exact (pss_one (ps_if (pt_not (pt_val (pcall (ok_are_kinds T) (hr.mono (by decide)) (by rfl) T.g_are_kinds T.F_are_kinds.kp T.b_are_kinds (pa_cons (pv 0) pa_nil)))) (pss_one prz0) pss_nil))
theorem ok_need_to_most (T : Txt G mg) : FnOk P w G.K mg base CX0 2 T.a_need_to_most T.d_need_to_most ["thing"] (sp0 (sp_need_to_most G)) := by
  refine T.F_need_to_most.ok sc_need_to_most (fun vs H Q E h => h.1) (fun cdv A outer s H vs Q E hr h => ⟨t_need_to_most G E0, ?_, h.2⟩)
  exact (pss_one (ps_if (PW.pt (pw_or (pt_not (pt_val (pcall (ok_is_whole T) (hr.mono (by decide)) (by rfl) T.g_is_whole T.F_is_whole.kp T.b_is_whole (pa_cons (pv 0) pa_nil)))) (pw_or1 (pt_not (pt_chain o_le o_le pe_int (pv 0) (pe_glob (by rfl) T.c_MOST ⟨_, rfl⟩)))))) (pss_one prz0) pss_nil))
theorem ok_dots (T : Txt G mg) : FnOk P w G.K mg base CX0 1 T.a_dots T.d_dots ["kind", "k"] (sp0 (sp_dots G)) := by
  refine T.F_dots.ok sc_dots (fun vs H Q E h => h.1) (fun cdv A outer s H vs Q E hr h => ⟨t_dots G E0, ?_, h.2⟩)
  exact (pss_cons (ps_if (pt_cmpR (o_eq hr.units) (pv 0) (pe_glob (by rfl) T.c_CUBES ⟨_, rfl⟩) (nomark _)) (pss_one (ps_ret (pe_op o_mul (pe_op o_mul (pv 1) (pv 1)) (pv 1)))) pss_nil)
      (pss_one (ps_ret (pe_op o_add (pv 1) (pe_op o_mul (pe_op o_sub (pv 0) pe_int) (pe_op o_div (pe_op o_mul (pv 1) (pe_op o_sub (pv 1) pe_int)) pe_int))))))
theorem ok_stock_of (T : Txt G mg) : FnOk P w G.K mg base CX0 2 T.a_stock_of T.d_stock_of ["kinds", "b"] (sp0 (sp_stock_of G)) := by
  refine T.F_stock_of.ok sc_stock_of (fun vs H Q E h => h.1) (fun cdv A outer s H vs Q E hr h => ⟨t_stock_of G E0, ?_, h.2⟩)
  exact (pss_cons (pst 2 sc_stock_of.nd pe_dnewK)
      (pss_cons (ps_for PassesOwn.never (by rfl) (pi_list (pv 0)) (pgn 3 sc_stock_of.nd) (pss_cons (pst 4 sc_stock_of.nd pe_int)
      (pss_one (ps_while PassesOwn.never (pt_cmpR o_le (pcall (ok_dots T) (hr.mono (by decide)) (by rfl) T.g_dots T.F_dots.kp T.b_dots (pa_cons (pv 3) (pa_cons (pv 4) pa_nil))) (pv 1) (nomark _)) (pss_cons (ps_asg pe_bl (pg_sub (pv 2) (pcall (ok_dots T) (hr.mono (by decide)) (by rfl) T.g_dots T.F_dots.kp T.b_dots (pa_cons (pv 3) (pa_cons (pv 4) pa_nil))) (s_any (hu_of hr))))
      (pss_one (pau 4 sc_stock_of.nd pe_int ip_add)))))))
      (pss_one (ps_ret (pe_callB (k_sorted (by rfl)) (by rfl) T.n_sorted (by decide +kernel) (pa_cons (pv 2) pa_nil))))))
theorem ok_is_sum (T : Txt G mg) : FnOk P w G.K mg base CX0 5 T.a_is_sum T.d_is_sum ["kinds", "n", "thing"] (sp0 (sp_is_sum G)) := by
  refine T.F_is_sum.ok sc_is_sum (fun vs H Q E h => h.1) (fun cdv A outer s H vs Q E hr h => ⟨t_is_sum G E0, ?_, h.2⟩)
  exact (pss_cons (ps_expr (pcall (ok_need_kinds T) (hr.mono (by decide)) (by rfl) T.g_need_kinds T.F_need_kinds.kp T.b_need_kinds (pa_cons (pv 0) pa_nil)))
      (pss_cons (ps_expr (pcall (ok_need_to_most T) (hr.mono (by decide)) (by rfl) T.g_need_to_most T.F_need_to_most.kp T.b_need_to_most (pa_cons (pv 1) pa_nil)))
      (pss_cons (ps_if (PW.pt (pw_or (pt_not (pt_val (pe_callB k_isi (by rfl) T.n_isinstance (by decide +kernel) (pa_cons (pv 2) (pa_cons (pe_bltn (by rfl) T.n_list (by decide +kernel) rfl) pa_nil))))) (pw_or1 (pt_cmpR (o_ne hr.units) (pe_lc (own := [("part", 4)]) (g := (gName 4)) (tt := (tNot (tB (tCall (sp_is_whole G) [] E0 (tCons (tVar 4) tNil))))) (by rfl) sc_is_sum.nd  (pi_list (pv 2)) (blkOk_by (own := [("part", 4)]) (N := ["kinds", "n", "thing", "stock", "part", "k"]) (sc := defScope s_is_sum) (by decide +kernel)) (fun _ _ _ _ _ => (pgn 4 sc_is_sum.nd)) (fun _ _ _ _ _ => (pts_one (pt_not (pt_val (pcall (ok_is_whole T) (hr.mono (by decide)) (by rfl) T.g_is_whole T.F_is_whole.kp T.b_is_whole (pa_cons (pv 4) pa_nil)))))) (fun _ _ _ _ _ => (pv 4))) (pe_lst pa_nil) (nomark _))))) (pss_one (ps_ret pe_bl)) pss_nil)
      (pss_cons (pst 3 sc_is_sum.nd (pcall (ok_stock_of T) (hr.mono (by decide)) (by rfl) T.g_stock_of T.F_stock_of.kp T.b_stock_of (pa_cons (pv 0) (pa_cons (pv 1) pa_nil))))
      (pss_cons (ps_if (PW.pt (pw_or (pt_cmpR (o_ne hr.units) (pe_lc (own := [("part", 4)]) (g := (gName 4)) (tt := (tTest (tOp (uNotIn G.K) (tVar 4) (tVar 3)))) (by rfl) sc_is_sum.nd  (pi_list (pv 2)) (blkOk_by (own := [("part", 4)]) (N := ["kinds", "n", "thing", "stock", "part", "k"]) (sc := defScope s_is_sum) (by decide +kernel)) (fun _ _ _ _ _ => (pgn 4 sc_is_sum.nd)) (fun _ _ _ _ _ => (pts_one (pt_cmpR o_notIn (pv 4) (pv 3) (by rfl)))) (fun _ _ _ _ _ => (pv 4))) (pe_lst pa_nil) (nomark _)) (pw_or1 (pt_cmpR (o_ne hr.units) (pe_callB (k_sum (by rfl)) (by rfl) T.n_sum (by decide +kernel) (pa_cons (pv 2) pa_nil)) (pv 1) (nomark _))))) (pss_one (ps_ret pe_bl)) pss_nil)
      (pss_one (ps_ret (pe_cmpR (o_eq hr.units) (pe_lc (own := [("k", 5)]) (g := (gName 5)) (tt := (tTest (tOp uLt (tOp (uIx G.K) (tVar 2) (tOp uSub (tVar 5) (tC (.int 1)))) (tOp (uIx G.K) (tVar 2) (tVar 5))))) (by rfl) sc_is_sum.nd  (pi_range2 (by rfl) T.n_range (pa_cons pe_int (pa_cons (pe_callB k_len (by rfl) T.n_len (by decide +kernel) (pa_cons (pv 2) pa_nil)) pa_nil))) (blkOk_by (own := [("k", 5)]) (N := ["kinds", "n", "thing", "stock", "part", "k"]) (sc := defScope s_is_sum) (by decide +kernel)) (fun _ _ _ _ _ => (pgn 5 sc_is_sum.nd)) (fun _ _ _ _ _ => (pts_one (pt_cmpR o_lt (pe_ix o_ix (pv 2) (pe_op o_sub (pv 5) pe_int) (fun _ _ => rfl)) (pe_ix o_ix (pv 2) (pv 5) (fun _ _ => rfl)) (nomark _)))) (fun _ _ _ _ _ => (pv 5))) (pe_lst pa_nil) (nomark _)))))))))
theorem ok_law_deck (T : Txt G mg) : FnOk P w G.K mg base CX0 1 T.a_law_deck T.d_law_deck ["script"] (sp0 (sp_law_deck G)) := by
  refine T.F_law_deck.ok sc_law_deck (fun vs H Q E h => h.1) (fun cdv A outer s H vs Q E hr h => ⟨t_law_deck G E0, ?_, h.2⟩)
  exact (pss_cons (pst 1 sc_law_deck.nd (pe_lst pa_nil))
      (pss_cons (ps_for PassesOwn.never (by rfl) (pi_range1 (by rfl) T.n_range (pa_cons (pe_callB (k_max (by rfl)) (by rfl) T.n_max (by decide +kernel) (pa_cons pe_int (pa_cons (pe_callB (k_min (by rfl)) (by rfl) T.n_min (by decide +kernel) (pa_cons pe_int (pa_cons (pe_callB k_len (by rfl) T.n_len (by decide +kernel) (pa_cons (pv 0) pa_nil)) pa_nil))) pa_nil))) pa_nil)) (pgn 2 sc_law_deck.nd) (pss_cons (pst 3 sc_law_deck.nd pe_int)
      (pss_cons (ps_if (pt_cmpR o_lt (pv 2) (pe_callB k_len (by rfl) T.n_len (by decide +kernel) (pa_cons (pv 0) pa_nil)) (nomark _)) (pss_one (pst 3 sc_law_deck.nd (pe_ix o_ix (pv 0) (pv 2) (fun _ _ => rfl)))) pss_nil)
      (pss_one (ps_expr (pe_bm PySem.F.plainAttrs_list PySem.F.slot_list_append PySem.F.type_list_append mt_append (pv 1) (pa_cons (pe_lst (pa_cons (pv 3) (pa_cons (pe_callTy k_int (by rfl) T.n_int (by decide +kernel) (pa_cons (pe_cmpR o_ge (pv 3) (pe_op o_pow pe_int pe_int) (nomark _)) pa_nil)) (pa_cons (pe_op o_mul pe_int (pv 2)) pa_nil)))) pa_nil)))))))
      (pss_one (ps_ret (pe_lst (pa_cons (pv 1) (pa_cons pe_int pa_nil)))))))
theorem ok_law_draw (T : Txt G mg) : FnOk P w G.K mg base CX0 1 T.a_law_draw T.d_law_draw ["deck", "many"] (sp0 (sp_law_draw G)) := by
  refine T.F_law_draw.ok sc_law_draw (fun vs H Q E h => h.1) (fun cdv A outer s H vs Q E hr h => ⟨t_law_draw G E0, ?_, h.2⟩)
  exact (pss_cons (pst 2 sc_law_draw.nd (pe_ix o_ix (pe_ix o_ix (pv 0) pe_int (fun _ _ => rfl)) (pe_op o_mod (pe_ix o_ix (pv 0) pe_int (fun _ _ => rfl)) (pe_callB k_len (by rfl) T.n_len (by decide +kernel) (pa_cons (pe_ix o_ix (pv 0) pe_int (fun _ _ => rfl)) pa_nil))) (fun _ _ => rfl)))
      (pss_cons (ps_asg (pe_op o_add (pe_ix o_ix (pv 0) pe_int (fun _ _ => rfl)) pe_int) (pg_sub (pv 0) pe_int (s_any (hu_of hr))))
      (pss_cons (ps_if (PW.pt (pw_and (pt_cmpR (o_eq hr.units) (pe_ix o_ix (pv 2) pe_int (fun _ _ => rfl)) pe_int (nomark _)) (pw_and1 (pt_cmpR o_gt (pe_ix o_ix (pv 2) pe_int (fun _ _ => rfl)) pe_int (nomark _))))) (pss_cons (pst 3 sc_law_draw.nd (pe_op o_mod (pe_ix o_ix (pv 2) pe_int (fun _ _ => rfl)) (pv 1)))
      (pss_cons (ps_asg (pe_op o_div (pe_ix o_ix (pv 2) pe_int (fun _ _ => rfl)) (pv 1)) (pg_sub (pv 2) pe_int (s_any (hu_of hr))))
      (pss_one (ps_ret (pv 3))))) pss_nil)
      (pss_cons (ps_asg (pe_op o_add (pe_ix o_ix (pv 2) pe_int (fun _ _ => rfl)) pe_int) (pg_sub (pv 2) pe_int (s_any (hu_of hr))))
      (pss_cons (pst 4 sc_law_draw.nd (pe_op o_mod (pe_op o_add (pe_op o_mod (pe_ix o_ix (pv 2) pe_int (fun _ _ => rfl)) pe_int) (pe_op o_mul pe_int (pe_ix o_ix (pv 2) pe_int (fun _ _ => rfl)))) pe_int))
      (pss_cons (pst 4 sc_law_draw.nd (pe_op o_mod (pe_op o_mul (pv 4) (pv 4)) pe_int))
      (pss_cons (pst 4 sc_law_draw.nd (pe_op o_mod (pe_op o_mul (pv 4) (pe_op o_add (pv 4) pe_int)) pe_int))
      (pss_one (ps_ret (pe_op o_mod (pe_op o_div (pv 4) pe_int) (pv 1)))))))))))
theorem ok_law_some_kinds (T : Txt G mg) : FnOk P w G.K mg base CX0 2 T.a_law_some_kinds T.d_law_some_kinds ["deck"] (sp0 (sp_law_some_kinds G)) := by
  refine T.F_law_some_kinds.ok sc_law_some_kinds (fun vs H Q E h => h.1) (fun cdv A outer s H vs Q E hr h => ⟨t_law_some_kinds G E0, ?_, h.2⟩)
  exact (pss_cons (pst 1 sc_law_some_kinds.nd (pe_lst (pa_cons pe_int (pa_cons pe_int (pa_cons pe_int (pa_cons pe_int (pa_cons pe_int (pa_cons pe_int (pa_cons pe_int (pa_cons pe_int (pa_cons pe_int (pa_cons pe_int (pa_cons pe_str pa_nil)))))))))))))
      (pss_one (ps_ret (pe_lc (own := [("k", 2)]) (g := (gName 2)) (tt := tYes) (by rfl) sc_law_some_kinds.nd  (pi_range1 (by rfl) T.n_range (pa_cons (pe_ix o_ix (pe_lst (pa_cons (pe_op o_add pe_int (pcall (ok_law_draw T) (hr.mono (by decide)) (by rfl) T.g_law_draw T.F_law_draw.kp T.b_law_draw (pa_cons (pv 0) (pa_cons pe_int pa_nil)))) (pa_cons pe_int (pa_cons pe_int pa_nil)))) (pcall (ok_law_draw T) (hr.mono (by decide)) (by rfl) T.g_law_draw T.F_law_draw.kp T.b_law_draw (pa_cons (pv 0) (pa_cons pe_int pa_nil))) (fun _ _ => rfl)) pa_nil)) (blkOk_by (own := [("k", 2)]) (N := ["deck", "left", "k"]) (sc := defScope s_law_some_kinds) (by decide +kernel)) (fun _ _ _ _ _ => (pgn 2 sc_law_some_kinds.nd)) (fun _ _ _ _ _ => pts_nil) (fun _ _ _ _ _ => (pe_bm PySem.F.plainAttrs_list PySem.F.slot_list_pop PySem.F.type_list_pop mt_popAt (pv 1) (pa_cons (pcall (ok_law_draw T) (hr.mono (by decide)) (by rfl) T.g_law_draw T.F_law_draw.kp T.b_law_draw (pa_cons (pv 0) (pa_cons (pe_callB k_len (by rfl) T.n_len (by decide +kernel) (pa_cons (pv 1) pa_nil)) pa_nil))) pa_nil)))))))
theorem ok_law_dots (T : Txt G mg) : FnOk P w G.K mg base CX0 1 T.a_law_dots T.d_law_dots ["kind", "most"] (sp0 (sp_law_dots G)) := by
  refine T.F_law_dots.ok sc_law_dots (fun vs H Q E h => h.1) (fun cdv A outer s H vs Q E hr h => ⟨t_law_dots G E0, ?_, h.2⟩)
  exact (pss_cons (pst 2 sc_law_dots.nd (pe_lst pa_nil))
      (pss_cons (pst 3 sc_law_dots.nd pe_int)
      (pss_cons (pst 4 sc_law_dots.nd pe_int)
      (pss_cons (pst 5 sc_law_dots.nd pe_int)
      (pss_cons (ps_while PassesOwn.never (pt_cmpR o_le (pv 4) (pv 1) (nomark _)) (pss_cons (ps_expr (pe_bm PySem.F.plainAttrs_list PySem.F.slot_list_append PySem.F.type_list_append mt_append (pv 2) (pa_cons (pv 4) pa_nil)))
      (pss_cons (pst 3 sc_law_dots.nd (pe_op o_add (pv 3) pe_int))
      (pss_one (ps_if (pt_cmpR (o_eq hr.units) (pv 0) pe_str (nomark _)) (pss_one (pst 4 sc_law_dots.nd (pe_op o_pow (pv 3) pe_int))) (pss_cons (pst 5 sc_law_dots.nd (pe_op o_sub (pe_op o_add (pv 5) (pv 0)) pe_int))
      (pss_one (pst 4 sc_law_dots.nd (pe_op o_add (pv 4) (pv 5))))))))))
      (pss_one (ps_ret (pv 2))))))))
theorem ok_law_stock (T : Txt G mg) : FnOk P w G.K mg base CX0 2 T.a_law_stock T.d_law_stock ["kinds", "most"] (sp0 (sp_law_stock G)) := by
  refine T.F_law_stock.ok sc_law_stock (fun vs H Q E h => h.1) (fun cdv A outer s H vs Q E hr h => ⟨t_law_stock G E0, ?_, h.2⟩)
  exact (pss_cons (pst 2 sc_law_stock.nd (pe_lst pa_nil))
      (pss_cons (ps_for PassesOwn.never (by rfl) (pi_list (pv 0)) (pgn 3 sc_law_stock.nd) (pss_one (ps_for PassesOwn.never (by rfl) (pi_list (pcall (ok_law_dots T) (hr.mono (by decide)) (by rfl) T.g_law_dots T.F_law_dots.kp T.b_law_dots (pa_cons (pv 3) (pa_cons (pv 1) pa_nil)))) (pgn 4 sc_law_stock.nd) (pss_one (ps_if (pt_cmpR o_notIn (pv 4) (pv 2) (by rfl)) (pss_one (ps_expr (pe_bm PySem.F.plainAttrs_list PySem.F.slot_list_append PySem.F.type_list_append mt_append (pv 2) (pa_cons (pv 4) pa_nil)))) pss_nil)))))
      (pss_one (ps_ret (pe_callB (k_sorted (by rfl)) (by rfl) T.n_sorted (by decide +kernel) (pa_cons (pv 2) pa_nil))))))
theorem ok_law_number (T : Txt G mg) : FnOk P w G.K mg base CX0 2 T.a_law_number T.d_law_number ["deck"] (sp0 (sp_law_number G)) := by
  refine T.F_law_number.ok sc_law_number (fun vs H Q E h => h.1) (fun cdv A outer s H vs Q E hr h => ⟨t_law_number G E0, ?_, h.2⟩)
  exact (pss_one (ps_ret (pe_ix o_ix (pe_lst (pa_cons (pcall (ok_law_draw T) (hr.mono (by decide)) (by rfl) T.g_law_draw T.F_law_draw.kp T.b_law_draw (pa_cons (pv 0) (pa_cons pe_int pa_nil))) (pa_cons (pcall (ok_law_draw T) (hr.mono (by decide)) (by rfl) T.g_law_draw T.F_law_draw.kp T.b_law_draw (pa_cons (pv 0) (pa_cons pe_int pa_nil))) (pa_cons (pe_op o_sub pe_int (pcall (ok_law_draw T) (hr.mono (by decide)) (by rfl) T.g_law_draw T.F_law_draw.kp T.b_law_draw (pa_cons (pv 0) (pa_cons pe_int pa_nil)))) (pa_cons pe_int pa_nil))))) (pcall (ok_law_draw T) (hr.mono (by decide)) (by rfl) T.g_law_draw T.F_law_draw.kp T.b_law_draw (pa_cons (pv 0) (pa_cons pe_int pa_nil))) (fun _ _ => rfl))))
theorem ok_law_drawn_sum (T : Txt G mg) : FnOk P w G.K mg base CX0 2 T.a_law_drawn_sum T.d_law_drawn_sum ["deck", "stock", "n"] (sp0 (sp_law_drawn_sum G)) := by
  refine T.F_law_drawn_sum.ok sc_law_drawn_sum (fun vs H Q E h => h.1) (fun cdv A outer s H vs Q E hr h => ⟨t_law_drawn_sum G E0, ?_, h.2⟩)
  exact (pss_cons (pst 3 sc_law_drawn_sum.nd (pe_lst pa_nil))
      (pss_cons (pst 4 sc_law_drawn_sum.nd (pv 2))
      (pss_cons (pst 5 sc_law_drawn_sum.nd (pe_ix o_ix (pe_lst (pa_cons pe_int (pa_cons pe_int pa_nil))) (pcall (ok_law_draw T) (hr.mono (by decide)) (by rfl) T.g_law_draw T.F_law_draw.kp T.b_law_draw (pa_cons (pv 0) (pa_cons pe_int pa_nil))) (fun _ _ => rfl)))
      (pss_cons (ps_while PassesOwn.never (pt_cmpR o_gt (pv 4) pe_int (nomark _)) (pss_cons (ps_setLc (i := 6) (own := [("part", 7)]) (g := (gName 7)) (tt := (tTest (tOp uLe (tVar 7) (tVar 4)))) (by rfl) sc_law_drawn_sum.nd rfl rfl (sw_true rfl rfl rfl (by decide +kernel))  (pi_list (pv 1)) (blkOk_by (own := [("part", 7)]) (N := ["deck", "stock", "n", "found", "left", "cut", "some", "part"]) (sc := defScope s_law_drawn_sum) (by decide +kernel)) (fun _ _ _ _ _ => (pgn 7 sc_law_drawn_sum.nd)) (fun _ _ _ _ _ => (pts_one (pt_cmpR o_le (pv 7) (pv 4) (nomark _)))) (fun _ _ _ _ _ => (pv 7)))
      (pss_cons (pst 7 sc_law_drawn_sum.nd (pe_ix o_ix (pe_lst (pa_cons (pe_ix o_ix (pv 6) (pcall (ok_law_draw T) (hr.mono (by decide)) (by rfl) T.g_law_draw T.F_law_draw.kp T.b_law_draw (pa_cons (pv 0) (pa_cons (pe_callB k_len (by rfl) T.n_len (by decide +kernel) (pa_cons (pv 6) pa_nil)) pa_nil))) (fun _ _ => rfl)) (pa_cons (pe_ix o_ix (pv 6) (pe_un o_neg pe_int) (fun _ _ => rfl)) pa_nil))) (pe_callTy k_int (by rfl) T.n_int (by decide +kernel) (pa_cons (pe_cmpR o_gt (pe_callB k_len (by rfl) T.n_len (by decide +kernel) (pa_cons (pv 3) pa_nil)) (pv 5) (nomark _)) pa_nil)) (fun _ _ => rfl)))
      (pss_cons (ps_expr (pe_bm PySem.F.plainAttrs_list PySem.F.slot_list_append PySem.F.type_list_append mt_append (pv 3) (pa_cons (pv 7) pa_nil)))
      (pss_one (pst 4 sc_law_drawn_sum.nd (pe_op o_sub (pv 4) (pv 7))))))))
      (pss_one (ps_ret (pe_revL (pe_callB (k_sorted (by rfl)) (by rfl) T.n_sorted (by decide +kernel) (pa_cons (pv 3) pa_nil)))))))))
theorem ok_law_due_v3 (T : Txt G mg) : FnOk P w G.K mg base CX0 1 T.a_law_due_v3 T.d_law_due_v3 ["stock", "n", "thing"] (sp0 (sp_law_due_v3 G)) := by
  refine T.F_law_due_v3.ok sc_law_due_v3 (fun vs H Q E h => h.1) (fun cdv A outer s H vs Q E hr h => ⟨t_law_due_v3 G E0, ?_, h.2⟩)
  exact (pss_cons (ps_if (pt_not (pt_val (pe_callB k_isi (by rfl) T.n_isinstance (by decide +kernel) (pa_cons (pv 2) (pa_cons (pe_bltn (by rfl) T.n_list (by decide +kernel) rfl) pa_nil))))) (pss_one (ps_ret pe_bl)) pss_nil)
      (pss_cons (pst 3 sc_law_due_v3.nd (pv 1))
      (pss_cons (pst 4 sc_law_due_v3.nd pe_int)
      (pss_cons (ps_for PassesOwn.never (by rfl) (pi_list (pv 2)) (pgn 5 sc_law_due_v3.nd) (pss_cons (ps_if (PW.pt (pw_or (pt_not (pt_val (pe_callB k_isi (by rfl) T.n_isinstance (by decide +kernel) (pa_cons (pv 5) (pa_cons (pe_bltn (by rfl) T.n_int (by decide +kernel) rfl) pa_nil))))) (pw_or (pt_val (pe_callB k_isi (by rfl) T.n_isinstance (by decide +kernel) (pa_cons (pv 5) (pa_cons (pe_bltn (by rfl) T.n_bool (by decide +kernel) rfl) pa_nil)))) (pw_or (pt_cmpR o_notIn (pv 5) (pv 0) (by rfl)) (pw_or1 (pt_cmpR o_gt (pv 5) (pv 4) (nomark _))))))) (pss_one (ps_ret pe_bl)) pss_nil)
      (pss_cons (pst 4 sc_law_due_v3.nd (pv 5))
      (pss_one (pst 3 sc_law_due_v3.nd (pe_op o_sub (pv 3) (pv 5)))))))
      (pss_one (ps_ret (pe_cmpR (o_eq hr.units) (pv 3) pe_int (nomark _))))))))
theorem ok_law_changed (T : Txt G mg) : FnOk P w G.K mg base CX0 2 T.a_law_changed T.d_law_changed ["deck", "stock", "some"] (sp0 (sp_law_changed G)) := by
  refine T.F_law_changed.ok sc_law_changed (fun vs H Q E h => h.1) (fun cdv A outer s H vs Q E hr h => ⟨t_law_changed G E0, ?_, h.2⟩)
  exact (pss_cons (pst 3 sc_law_changed.nd (pcall (ok_law_draw T) (hr.mono (by decide)) (by rfl) T.g_law_draw T.F_law_draw.kp T.b_law_draw (pa_cons (pv 0) (pa_cons (pe_op o_add (pe_callB k_len (by rfl) T.n_len (by decide +kernel) (pa_cons (pv 2) pa_nil)) pe_int) pa_nil))))
      (pss_cons (pst 4 sc_law_changed.nd (pe_ix o_ix (pe_op o_add (pv 2) (pe_lst (pa_cons pe_int pa_nil))) (pv 3) (fun _ _ => rfl)))
      (pss_cons (pst 5 sc_law_changed.nd (pe_op o_add pe_int (pcall (ok_law_draw T) (hr.mono (by decide)) (by rfl) T.g_law_draw T.F_law_draw.kp T.b_law_draw (pa_cons (pv 0) (pa_cons pe_int pa_nil)))))
      (pss_cons (pst 6 sc_law_changed.nd (pe_lst (pa_cons (pe_op o_add (pv 4) (pv 5)) (pa_cons (pe_op o_sub (pv 4) (pv 5)) (pa_cons pe_int (pa_cons (pe_un o_neg (pv 4)) (pa_cons pe_bl (pa_cons pe_non (pa_cons (pe_callTy k_str (by rfl) T.n_str (by decide +kernel) (pa_cons (pv 4) pa_nil)) (pa_cons (pe_lst (pa_cons (pv 4) pa_nil)) (pa_cons (pe_tup (pa_cons (pv 4) pa_nil)) (pa_cons pe_dnewK (pa_cons (pe_op o_pow pe_int pe_int) (pa_cons (pe_op o_mul (pv 4) pe_int) pa_nil))))))))))))))
      (pss_cons (pst 6 sc_law_changed.nd (pe_ix o_ix (pe_op o_add (pe_op o_add (pv 6) (pe_slice o_sl (pe_op o_add (pv 1) (pe_lst (pa_cons pe_int pa_nil))) po_none (po_some pe_int))) (pe_lst (pa_cons (pe_ix o_ix (pe_op o_add (pv 1) (pe_lst (pa_cons pe_int pa_nil))) (pcall (ok_law_draw T) (hr.mono (by decide)) (by rfl) T.g_law_draw T.F_law_draw.kp T.b_law_draw (pa_cons (pv 0) (pa_cons (pe_op o_add (pe_callB k_len (by rfl) T.n_len (by decide +kernel) (pa_cons (pv 1) pa_nil)) pe_int) pa_nil))) (fun _ _ => rfl)) pa_nil))) (pcall (ok_law_draw T) (hr.mono (by decide)) (by rfl) T.g_law_draw T.F_law_draw.kp T.b_law_draw (pa_cons (pv 0) (pa_cons pe_int pa_nil))) (fun _ _ => rfl)))
      (pss_cons (pst 7 sc_law_changed.nd (pe_lst (pa_cons (pe_op o_add (pe_op o_add (pe_slice o_sl (pv 2) po_none (po_some (pv 3))) (pe_lst (pa_cons (pv 6) pa_nil))) (pe_slice o_sl (pv 2) (po_some (pe_op o_add (pv 3) pe_int)) po_none)) (pa_cons (pe_op o_add (pe_op o_add (pe_slice o_sl (pv 2) po_none (po_some (pv 3))) (pe_lst (pa_cons (pv 6) pa_nil))) (pe_slice o_sl (pv 2) (po_some (pv 3)) po_none)) (pa_cons (pe_op o_add (pe_slice o_sl (pv 2) po_none (po_some (pv 3))) (pe_slice o_sl (pv 2) (po_some (pe_op o_add (pv 3) pe_int)) po_none)) pa_nil)))))
      (pss_cons (pst 7 sc_law_changed.nd (pe_op o_add (pv 7) (pe_lst (pa_cons (pe_op o_add (pe_op o_add (pe_slice o_sl (pv 2) po_none (po_some (pv 3))) (pe_revL (pe_slice o_sl (pv 2) (po_some (pv 3)) (po_some (pe_op o_add (pv 3) pe_int))))) (pe_slice o_sl (pv 2) (po_some (pe_op o_add (pv 3) pe_int)) po_none)) (pa_cons (pe_op o_add (pe_op o_add (pe_slice o_sl (pv 2) po_none (po_some (pv 3))) (pe_slice o_sl (pv 2) (po_some (pv 3)) (po_some (pe_op o_add (pv 3) pe_int)))) (pe_slice o_sl (pv 2) (po_some (pv 3)) po_none)) pa_nil)))))
      (pss_cons (pst 7 sc_law_changed.nd (pe_op o_add (pv 7) (pe_lst (pa_cons (pe_op o_add (pe_op o_add (pe_slice o_sl (pv 2) po_none (po_some (pv 3))) (pe_lst (pa_cons (pe_callB (k_sum (by rfl)) (by rfl) T.n_sum (by decide +kernel) (pa_cons (pe_slice o_sl (pv 2) (po_some (pv 3)) (po_some (pe_op o_add (pv 3) pe_int))) pa_nil)) pa_nil))) (pe_slice o_sl (pv 2) (po_some (pe_op o_add (pv 3) pe_int)) po_none)) (pa_cons (pe_revL (pv 2)) (pa_cons (pe_op o_add (pv 2) (pe_lst (pa_cons pe_int pa_nil))) (pa_cons (pe_op o_add (pv 2) (pe_lst (pa_cons pe_int pa_nil))) pa_nil)))))))
      (pss_cons (pst 7 sc_law_changed.nd (pe_op o_add (pv 7) (pe_lst (pa_cons (pe_callTy k_tuple (by rfl) T.n_tuple (by decide +kernel) (pa_cons (pv 2) pa_nil)) (pa_cons (pe_lst (pa_cons (pv 2) pa_nil)) (pa_cons pe_non (pa_cons pe_int (pa_cons pe_str (pa_cons pe_dnewK (pa_cons (pe_callB (k_sum (by rfl)) (by rfl) T.n_sum (by decide +kernel) (pa_cons (pv 2) pa_nil)) (pa_cons pe_bl (pa_cons (pe_lst pa_nil) (pa_cons (pe_callTy (k_dictP rfl) (by rfl) T.n_dict (by decide +kernel) (pa_cons (pe_lc (own := [("one", 9)]) (g := (gName 9)) (tt := tYes) (by rfl) sc_law_changed.nd  (pi_list (pv 2)) (blkOk_by (own := [("one", 9)]) (N := ["deck", "stock", "some", "at", "here", "by", "odd", "rows", "which", "one"]) (sc := defScope s_law_changed) (by decide +kernel)) (fun _ _ _ _ _ => (pgn 9 sc_law_changed.nd)) (fun _ _ _ _ _ => pts_nil) (fun _ _ _ _ _ => (pe_tup (pa_cons (pv 9) (pa_cons pe_int pa_nil))))) pa_nil)) pa_nil)))))))))))))
      (pss_cons (pst 8 sc_law_changed.nd (pe_ix o_ix (pe_lst (pa_cons pe_int (pa_cons pe_int (pa_cons pe_int (pa_cons pe_int (pa_cons pe_int (pa_cons pe_int (pa_cons pe_int (pa_cons pe_int (pa_cons pe_int (pa_cons pe_int (pa_cons pe_int (pa_cons pe_int (pa_cons pe_int (pa_cons pe_int (pa_cons pe_int (pa_cons pe_int (pa_cons pe_int (pa_cons pe_int (pa_cons pe_int (pa_cons pe_int (pa_cons pe_int (pa_cons pe_int (pa_cons pe_int (pa_cons pe_int (pa_cons pe_int pa_nil)))))))))))))))))))))))))) (pcall (ok_law_draw T) (hr.mono (by decide)) (by rfl) T.g_law_draw T.F_law_draw.kp T.b_law_draw (pa_cons (pv 0) (pa_cons pe_int pa_nil))) (fun _ _ => rfl)))
      (pss_one (ps_ret (pe_ix o_ix (pv 7) (pv 8) (fun _ _ => rfl))))))))))))))
theorem ok_law_of_total (T : Txt G mg) : FnOk P w G.K mg base CX0 2 T.a_law_of_total T.d_law_of_total ["deck", "some", "n"] (sp0 (sp_law_of_total G)) := by
  refine T.F_law_of_total.ok sc_law_of_total (fun vs H Q E h => h.1) (fun cdv A outer s H vs Q E hr h => ⟨t_law_of_total G E0, ?_, h.2⟩)
  exact (pss_cons (pst 3 sc_law_of_total.nd (pcall (ok_law_draw T) (hr.mono (by decide)) (by rfl) T.g_law_draw T.F_law_draw.kp T.b_law_draw (pa_cons (pv 0) (pa_cons (pe_op o_add (pe_callB k_len (by rfl) T.n_len (by decide +kernel) (pa_cons (pv 1) pa_nil)) pe_int) pa_nil))))
      (pss_cons (pst 4 sc_law_of_total.nd (pe_callB (k_min (by rfl)) (by rfl) T.n_min (by decide +kernel) (pa_cons (pe_callB k_len (by rfl) T.n_len (by decide +kernel) (pa_cons (pv 1) pa_nil)) (pa_cons (pe_op o_add (pe_op o_add (pv 3) pe_int) (pcall (ok_law_draw T) (hr.mono (by decide)) (by rfl) T.g_law_draw T.F_law_draw.kp T.b_law_draw (pa_cons (pv 0) (pa_cons pe_int pa_nil)))) pa_nil))))
      (pss_cons (pst 5 sc_law_of_total.nd (pcall (ok_law_draw T) (hr.mono (by decide)) (by rfl) T.g_law_draw T.F_law_draw.kp T.b_law_draw (pa_cons (pv 0) (pa_cons pe_int pa_nil))))
      (pss_cons (pst 6 sc_law_of_total.nd (pe_op o_add (pe_slice o_sl (pv 1) po_none (po_some (pv 3))) (pe_op o_mul (pe_lst (pa_cons pe_int pa_nil)) (pe_callB (k_sum (by rfl)) (by rfl) T.n_sum (by decide +kernel) (pa_cons (pe_slice o_sl (pv 1) (po_some (pv 3)) po_none) pa_nil)))))
      (pss_cons (ps_if (pt_cmpR (o_eq hr.units) (pv 5) pe_int (nomark _)) (pss_one (pst 6 sc_law_of_total.nd (pe_op o_add (pe_op o_add (pe_slice o_sl (pv 1) po_none (po_some (pv 3))) (pe_lst (pa_cons (pe_callB (k_sum (by rfl)) (by rfl) T.n_sum (by decide +kernel) (pa_cons (pe_slice o_sl (pv 1) (po_some (pv 3)) (po_some (pv 4))) pa_nil)) pa_nil))) (pe_slice o_sl (pv 1) (po_some (pv 4)) po_none)))) pss_nil)
      (pss_cons (ps_if (pt_cmpR (o_eq hr.units) (pv 5) pe_int (nomark _)) (pss_one (pst 6 sc_law_of_total.nd (pe_op o_add (pe_slice o_sl (pv 1) po_none (po_some (pv 3))) (pe_lst (pa_cons (pe_callB (k_sum (by rfl)) (by rfl) T.n_sum (by decide +kernel) (pa_cons (pe_slice o_sl (pv 1) (po_some (pv 3)) po_none) pa_nil)) pa_nil))))) pss_nil)
      (pss_cons (ps_if (pt_cmpR (o_eq hr.units) (pv 5) pe_int (nomark _)) (pss_one (pst 6 sc_law_of_total.nd (pe_lst (pa_cons (pv 2) pa_nil)))) pss_nil)
      (pss_cons (ps_if (PW.pt (pw_and (pt_cmpR (o_eq hr.units) (pv 5) pe_int (nomark _)) (pw_and1 (pt_cmpR o_gt (pe_callB k_len (by rfl) T.n_len (by decide +kernel) (pa_cons (pv 1) pa_nil)) pe_int (nomark _))))) (pss_cons (pst 7 sc_law_of_total.nd (pe_op o_add pe_int (pcall (ok_law_draw T) (hr.mono (by decide)) (by rfl) T.g_law_draw T.F_law_draw.kp T.b_law_draw (pa_cons (pv 0) (pa_cons pe_int pa_nil)))))
      (pss_cons (pst 6 sc_law_of_total.nd (pe_callTy (k_list (by rfl)) (by rfl) T.n_list (by decide +kernel) (pa_cons (pv 1) pa_nil)))
      (pss_cons (ps_asg (pe_op o_sub (pe_ix o_ix (pv 6) (pe_op o_sub (pv 3) pe_int) (fun _ _ => rfl)) (pv 7)) (pg_sub (pv 6) (pe_op o_sub (pv 3) pe_int) (s_any (hu_of hr))))
      (pss_one (ps_asg (pe_op o_add (pe_ix o_ix (pv 6) (pe_op o_mod (pv 3) (pe_callB k_len (by rfl) T.n_len (by decide +kernel) (pa_cons (pv 1) pa_nil))) (fun _ _ => rfl)) (pv 7)) (pg_sub (pv 6) (pe_op o_mod (pv 3) (pe_callB k_len (by rfl) T.n_len (by decide +kernel) (pa_cons (pv 1) pa_nil))) (s_any (hu_of hr)))))))) pss_nil)
      (pss_cons (ps_if (pt_cmpR (o_eq hr.units) (pv 5) pe_int (nomark _)) (pss_cons (pst 6 sc_law_of_total.nd (pe_lst pa_nil))
      (pss_one (ps_while PassesOwn.never (pt_cmpR o_lt (pe_callB (k_sum (by rfl)) (by rfl) T.n_sum (by decide +kernel) (pa_cons (pv 6) pa_nil)) (pv 2) (nomark _)) (pss_one (ps_expr (pe_bm PySem.F.plainAttrs_list PySem.F.slot_list_append PySem.F.type_list_append mt_append (pv 6) (pa_cons (pe_op o_add pe_int (pcall (ok_law_draw T) (hr.mono (by decide)) (by rfl) T.g_law_draw T.F_law_draw.kp T.b_law_draw (pa_cons (pv 0) (pa_cons (pe_op o_sub (pv 2) (pe_callB (k_sum (by rfl)) (by rfl) T.n_sum (by decide +kernel) (pa_cons (pv 6) pa_nil))) pa_nil)))) pa_nil))))))) pss_nil)
      (pss_one (ps_ret (pe_revL (pe_callB (k_sorted (by rfl)) (by rfl) T.n_sorted (by decide +kernel) (pa_cons (pe_lc (own := [("one", 8)]) (g := (gName 8)) (tt := (tTest (tOp (uNe G.K) (tVar 8) (tC (.int 0))))) (by rfl) sc_law_of_total.nd  (pi_list (pv 6)) (blkOk_by (own := [("one", 8)]) (N := ["deck", "some", "n", "at", "to", "way", "found", "by", "one"]) (sc := defScope s_law_of_total) (by decide +kernel)) (fun _ _ _ _ _ => (pgn 8 sc_law_of_total.nd)) (fun _ _ _ _ _ => (pts_one (pt_cmpR (o_ne hr.units) (pv 8) pe_int (nomark _)))) (fun _ _ _ _ _ => (pv 8))) pa_nil))))))))))))))
theorem ok_law_right_v12 (T : Txt G mg) : FnOkG P w G.K mg base 6 T.a_law_right_v12 T.d_law_right_v12 ["kinds", "n", "thing"] (sp0 (sp_law_right_v12 G)) := by
  refine fun_okG T.F_law_right_v12 sc_law_right_v12 (fun vs H Q E h => h.1) (fun cdv A outer s H vs Q E hr hgd h => ⟨t_law_right_v12 G E0, ?_, h.2⟩)
  exact (pss_cons (pst 3 sc_law_right_v12.nd (pe_callTy (k_list (by rfl)) (by rfl) T.n_list (by decide +kernel) (pa_cons (pv 0) pa_nil)))
      (pss_cons (pst 4 sc_law_right_v12.nd (pe_callB (k_reprD hgd hr.units) (by rfl) T.n_repr (by decide +kernel) (pa_cons (pv 2) pa_nil)))
      (pss_cons (pst 5 sc_law_right_v12.nd (pcall (ok_law_due_v3 T) (hr.mono (by decide)) (by rfl) T.g_law_due T.F_law_due_v3.kp T.b_law_due_v3 (pa_cons (pcall (ok_law_stock T) (hr.mono (by decide)) (by rfl) T.g_law_stock T.F_law_stock.kp T.b_law_stock (pa_cons (pv 0) (pa_cons (pv 1) pa_nil))) (pa_cons (pv 1) (pa_cons (pv 2) pa_nil)))))
      (pss_cons (ps_for PassesOwn.never (by rfl) (pi_range1 (by rfl) T.n_range (pa_cons pe_int pa_nil)) (pgn 6 sc_law_right_v12.nd) (pss_cons (pst 7 sc_law_right_v12.nd (pcall (ok_is_sum T) (hr.mono (by decide)) (by rfl) T.g_is_sum T.F_is_sum.kp T.b_is_sum (pa_cons (pv 3) (pa_cons (pv 1) (pa_cons (pv 2) pa_nil)))))
      (pss_one (ps_if (PW.pt (pw_or (pt_not (pt_val (pe_callB k_isi (by rfl) T.n_isinstance (by decide +kernel) (pa_cons (pv 7) (pa_cons (pe_bltn (by rfl) T.n_bool (by decide +kernel) rfl) pa_nil))))) (pw_or (pt_cmpR (o_ne hr.units) (pv 7) (pv 5) (nomark _)) (pw_or (pt_cmpR (o_ne hr.units) (pv 3) (pv 0) (nomark _)) (pw_or1 (pt_cmpR (o_ne hr.units) (pe_callB (k_reprD hgd hr.units) (by rfl) T.n_repr (by decide +kernel) (pa_cons (pv 2) pa_nil)) (pv 4) (nomark _))))))) (pss_one (ps_ret pe_bl)) pss_nil))))
      (pss_one (ps_ret pe_bl))))))
theorem ok_law_k07 (T : Txt G mg) : FnOkG P w G.K mg base 7 T.a_law_k07 T.d_law_k07 ["script"] (sp0 (sp_law_k07 G)) := by
  refine fun_okG T.F_law_k07 sc_law_k07 (fun vs H Q E h => h.1) (fun cdv A outer s H vs Q E hr hgd h => ⟨t_law_k07 G E0, ?_, h.2⟩)
  exact (pss_cons (pst 1 sc_law_k07.nd (pcall (ok_law_deck T) (hr.mono (by decide)) (by rfl) T.g_law_deck T.F_law_deck.kp T.b_law_deck (pa_cons (pv 0) pa_nil)))
      (pss_cons (ps_for PassesOwn.never (by rfl) (pi_range1 (by rfl) T.n_range (pa_cons pe_int pa_nil)) (pgn 2 sc_law_k07.nd) (pss_cons (pst 3 sc_law_k07.nd (pcall (ok_law_some_kinds T) (hr.mono (by decide)) (by rfl) T.g_law_some_kinds T.F_law_some_kinds.kp T.b_law_some_kinds (pa_cons (pv 1) pa_nil)))
      (pss_cons (pst 4 sc_law_k07.nd (pe_ix o_ix (pe_lst (pa_cons (pcall (ok_law_number T) (hr.mono (by decide)) (by rfl) T.g_law_number T.F_law_number.kp T.b_law_number (pa_cons (pv 1) pa_nil)) (pa_cons pe_int pa_nil))) (pe_callTy k_int (by rfl) T.n_int (by decide +kernel) (pa_cons (pe_cmpR (o_eq hr.units) (pcall (ok_law_draw T) (hr.mono (by decide)) (by rfl) T.g_law_draw T.F_law_draw.kp T.b_law_draw (pa_cons (pv 1) (pa_cons pe_int pa_nil))) pe_int (nomark _)) pa_nil)) (fun _ _ => rfl)))
      (pss_cons (pst 5 sc_law_k07.nd (pcall (ok_law_stock T) (hr.mono (by decide)) (by rfl) T.g_law_stock T.F_law_stock.kp T.b_law_stock (pa_cons (pv 3) (pa_cons (pv 4) pa_nil))))
      (pss_cons (pst 6 sc_law_k07.nd (pcall (ok_law_drawn_sum T) (hr.mono (by decide)) (by rfl) T.g_law_drawn_sum T.F_law_drawn_sum.kp T.b_law_drawn_sum (pa_cons (pv 1) (pa_cons (pv 5) (pa_cons (pv 4) pa_nil)))))
      (pss_cons (ps_if (pt_cmpR o_isNot (pcall (ok_is_sum T) (hr.mono (by decide)) (by rfl) T.g_is_sum T.F_is_sum.kp T.b_is_sum (pa_cons (pe_callTy (k_list (by rfl)) (by rfl) T.n_list (by decide +kernel) (pa_cons (pv 3) pa_nil)) (pa_cons (pv 4) (pa_cons (pe_callTy (k_list (by rfl)) (by rfl) T.n_list (by decide +kernel) (pa_cons (pv 6) pa_nil)) pa_nil)))) pe_bl (nomark _)) (pss_one (ps_ret pe_bl)) pss_nil)
      (pss_cons (ps_for PassesOwn.never (by rfl) (pi_range1 (by rfl) T.n_range (pa_cons pe_int pa_nil)) (pgn 7 sc_law_k07.nd) (pss_one (ps_if (pt_not (pt_val (pcallG (ok_law_right_v12 T) (hr.mono (by decide)) hgd (by rfl) T.g_law_right T.F_law_right_v12.kp T.b_law_right_v12 (pa_cons (pv 3) (pa_cons (pv 4) (pa_cons (pcall (ok_law_changed T) (hr.mono (by decide)) (by rfl) T.g_law_changed T.F_law_changed.kp T.b_law_changed (pa_cons (pv 1) (pa_cons (pv 5) (pa_cons (pv 6) pa_nil)))) pa_nil)))))) (pss_one (ps_ret pe_bl)) pss_nil)))
      (pss_cons (ps_for PassesOwn.never (by rfl) (pi_range1 (by rfl) T.n_range (pa_cons pe_int pa_nil)) (pgn 7 sc_law_k07.nd) (pss_one (ps_if (pt_not (pt_val (pcallG (ok_law_right_v12 T) (hr.mono (by decide)) hgd (by rfl) T.g_law_right T.F_law_right_v12.kp T.b_law_right_v12 (pa_cons (pv 3) (pa_cons (pv 4) (pa_cons (pcall (ok_law_of_total T) (hr.mono (by decide)) (by rfl) T.g_law_of_total T.F_law_of_total.kp T.b_law_of_total (pa_cons (pv 1) (pa_cons (pv 6) (pa_cons (pv 4) pa_nil)))) pa_nil)))))) (pss_one (ps_ret pe_bl)) pss_nil)))
      (pss_one (ps_for PassesOwn.never (by rfl) (pi_list (pe_lst (pa_cons (pe_op o_add (pv 4) pe_int) (pa_cons (pe_op o_sub (pv 4) pe_int) (pa_cons (pcall (ok_law_draw T) (hr.mono (by decide)) (by rfl) T.g_law_draw T.F_law_draw.kp T.b_law_draw (pa_cons (pv 1) (pa_cons pe_int pa_nil))) pa_nil))))) (pgn 8 sc_law_k07.nd) (pss_one (ps_if (PW.pt (pw_and (pt_chain o_le o_le pe_int (pv 8) pe_int) (pw_and1 (pt_not (pt_val (pcallG (ok_law_right_v12 T) (hr.mono (by decide)) hgd (by rfl) T.g_law_right T.F_law_right_v12.kp T.b_law_right_v12 (pa_cons (pv 3) (pa_cons (pv 8) (pa_cons (pv 6) pa_nil))))))))) (pss_one (ps_ret pe_bl)) pss_nil))))))))))))
      (pss_one (ps_ret pe_bl))))
end
theorem txt_mk {K : PySem.W.Frag} {h : Heap} {mg : Str → Option Value} (X : K.In h) (Gs : h.Ns mainGlobals mg)
    {f1 : Addr} {od1 an1 : Option Addr} {sl1 : Array (Option Value)} {oc1 kV1 dc1 pm1 cd1 ct1 : Value}
    {f2 : Addr} {od2 an2 : Option Addr} {sl2 : Array (Option Value)} {oc2 kV2 dc2 pm2 cd2 ct2 : Value}
    {f3 : Addr} {od3 an3 : Option Addr} {sl3 : Array (Option Value)} {oc3 kV3 dc3 pm3 cd3 ct3 : Value}
    {f4 : Addr} {od4 an4 : Option Addr} {sl4 : Array (Option Value)} {oc4 kV4 dc4 pm4 cd4 ct4 : Value}
    {f5 : Addr} {od5 an5 : Option Addr} {sl5 : Array (Option Value)} {oc5 kV5 dc5 pm5 cd5 ct5 : Value}
    {f6 : Addr} {od6 an6 : Option Addr} {sl6 : Array (Option Value)} {oc6 kV6 dc6 pm6 cd6 ct6 : Value}
    {f7 : Addr} {od7 an7 : Option Addr} {sl7 : Array (Option Value)} {oc7 kV7 dc7 pm7 cd7 ct7 : Value}
    {f8 : Addr} {od8 an8 : Option Addr} {sl8 : Array (Option Value)} {oc8 kV8 dc8 pm8 cd8 ct8 : Value}
    {f9 : Addr} {od9 an9 : Option Addr} {sl9 : Array (Option Value)} {oc9 kV9 dc9 pm9 cd9 ct9 : Value}
    {f10 : Addr} {od10 an10 : Option Addr} {sl10 : Array (Option Value)} {oc10 kV10 dc10 pm10 cd10 ct10 : Value}
    {f11 : Addr} {od11 an11 : Option Addr} {sl11 : Array (Option Value)} {oc11 kV11 dc11 pm11 cd11 ct11 : Value}
    {f12 : Addr} {od12 an12 : Option Addr} {sl12 : Array (Option Value)} {oc12 kV12 dc12 pm12 cd12 ct12 : Value}
    {f13 : Addr} {od13 an13 : Option Addr} {sl13 : Array (Option Value)} {oc13 kV13 dc13 pm13 cd13 ct13 : Value}
    {f14 : Addr} {od14 an14 : Option Addr} {sl14 : Array (Option Value)} {oc14 kV14 dc14 pm14 cd14 ct14 : Value}
    {f15 : Addr} {od15 an15 : Option Addr} {sl15 : Array (Option Value)} {oc15 kV15 dc15 pm15 cd15 ct15 : Value}
    {f16 : Addr} {od16 an16 : Option Addr} {sl16 : Array (Option Value)} {oc16 kV16 dc16 pm16 cd16 ct16 : Value}
    {f17 : Addr} {od17 an17 : Option Addr} {sl17 : Array (Option Value)} {oc17 kV17 dc17 pm17 cd17 ct17 : Value}
    {f18 : Addr} {od18 an18 : Option Addr} {sl18 : Array (Option Value)} {oc18 kV18 dc18 pm18 cd18 ct18 : Value}
    {f19 : Addr} {od19 an19 : Option Addr} {sl19 : Array (Option Value)} {oc19 kV19 dc19 pm19 cd19 ct19 : Value}
    {f20 : Addr} {od20 an20 : Option Addr} {sl20 : Array (Option Value)} {oc20 kV20 dc20 pm20 cd20 ct20 : Value}
    {tk0 : Tok}
    {tk1 : Tok}
    {tk2 : Tok}
    {tk3 : Tok}
    {tk4 : Tok}
    (a1 : PySem.W.nsIn K mainGlobals "is_whole" = some (some (.ref f1)))
    (l1 : K.lookup f1 = some ⟨oc1, od1, .func (PySem.W.fnOf "is_whole" "is_whole" (defArgs s_is_whole) (defBody s_is_whole) (defScope s_is_whole) .none kV1 dc1 pm1 an1 cd1 ct1), sl1⟩)
    (c1 : PySem.W.codeIn K cd1 "is_whole" = true)
    (k1 : PySem.W.keepIn K (.ref f1) = true)
    (a2 : PySem.W.nsIn K mainGlobals "is_kind" = some (some (.ref f2)))
    (l2 : K.lookup f2 = some ⟨oc2, od2, .func (PySem.W.fnOf "is_kind" "is_kind" (defArgs s_is_kind) (defBody s_is_kind) (defScope s_is_kind) .none kV2 dc2 pm2 an2 cd2 ct2), sl2⟩)
    (c2 : PySem.W.codeIn K cd2 "is_kind" = true)
    (k2 : PySem.W.keepIn K (.ref f2) = true)
    (a3 : PySem.W.nsIn K mainGlobals "are_kinds" = some (some (.ref f3)))
    (l3 : K.lookup f3 = some ⟨oc3, od3, .func (PySem.W.fnOf "are_kinds" "are_kinds" (defArgs s_are_kinds) (defBody s_are_kinds) (defScope s_are_kinds) .none kV3 dc3 pm3 an3 cd3 ct3), sl3⟩)
    (c3 : PySem.W.codeIn K cd3 "are_kinds" = true)
    (k3 : PySem.W.keepIn K (.ref f3) = true)
    (a4 : PySem.W.nsIn K mainGlobals "need_kinds" = some (some (.ref f4)))
    (l4 : K.lookup f4 = some ⟨oc4, od4, .func (PySem.W.fnOf "need_kinds" "need_kinds" (defArgs s_need_kinds) (defBody s_need_kinds) (defScope s_need_kinds) .none kV4 dc4 pm4 an4 cd4 ct4), sl4⟩)
    (c4 : PySem.W.codeIn K cd4 "need_kinds" = true)
    (k4 : PySem.W.keepIn K (.ref f4) = true)
    (a5 : PySem.W.nsIn K mainGlobals "need_to_most" = some (some (.ref f5)))
    (l5 : K.lookup f5 = some ⟨oc5, od5, .func (PySem.W.fnOf "need_to_most" "need_to_most" (defArgs s_need_to_most) (defBody s_need_to_most) (defScope s_need_to_most) .none kV5 dc5 pm5 an5 cd5 ct5), sl5⟩)
    (c5 : PySem.W.codeIn K cd5 "need_to_most" = true)
    (k5 : PySem.W.keepIn K (.ref f5) = true)
    (a6 : PySem.W.nsIn K mainGlobals "dots" = some (some (.ref f6)))
    (l6 : K.lookup f6 = some ⟨oc6, od6, .func (PySem.W.fnOf "dots" "dots" (defArgs s_dots) (defBody s_dots) (defScope s_dots) .none kV6 dc6 pm6 an6 cd6 ct6), sl6⟩)
    (c6 : PySem.W.codeIn K cd6 "dots" = true)
    (k6 : PySem.W.keepIn K (.ref f6) = true)
    (a7 : PySem.W.nsIn K mainGlobals "stock_of" = some (some (.ref f7)))
    (l7 : K.lookup f7 = some ⟨oc7, od7, .func (PySem.W.fnOf "stock_of" "stock_of" (defArgs s_stock_of) (defBody s_stock_of) (defScope s_stock_of) .none kV7 dc7 pm7 an7 cd7 ct7), sl7⟩)
    (c7 : PySem.W.codeIn K cd7 "stock_of" = true)
    (k7 : PySem.W.keepIn K (.ref f7) = true)
    (a8 : PySem.W.nsIn K mainGlobals "is_sum" = some (some (.ref f8)))
    (l8 : K.lookup f8 = some ⟨oc8, od8, .func (PySem.W.fnOf "is_sum" "is_sum" (defArgs s_is_sum) (defBody s_is_sum) (defScope s_is_sum) .none kV8 dc8 pm8 an8 cd8 ct8), sl8⟩)
    (c8 : PySem.W.codeIn K cd8 "is_sum" = true)
    (k8 : PySem.W.keepIn K (.ref f8) = true)
    (a9 : PySem.W.nsIn K mainGlobals "_law_deck" = some (some (.ref f9)))
    (l9 : K.lookup f9 = some ⟨oc9, od9, .func (PySem.W.fnOf "_law_deck" "_law_deck" (defArgs s_law_deck) (defBody s_law_deck) (defScope s_law_deck) .none kV9 dc9 pm9 an9 cd9 ct9), sl9⟩)
    (c9 : PySem.W.codeIn K cd9 "_law_deck" = true)
    (k9 : PySem.W.keepIn K (.ref f9) = true)
    (a10 : PySem.W.nsIn K mainGlobals "_law_draw" = some (some (.ref f10)))
    (l10 : K.lookup f10 = some ⟨oc10, od10, .func (PySem.W.fnOf "_law_draw" "_law_draw" (defArgs s_law_draw) (defBody s_law_draw) (defScope s_law_draw) .none kV10 dc10 pm10 an10 cd10 ct10), sl10⟩)
    (c10 : PySem.W.codeIn K cd10 "_law_draw" = true)
    (k10 : PySem.W.keepIn K (.ref f10) = true)
    (a11 : PySem.W.nsIn K mainGlobals "_law_some_kinds" = some (some (.ref f11)))
    (l11 : K.lookup f11 = some ⟨oc11, od11, .func (PySem.W.fnOf "_law_some_kinds" "_law_some_kinds" (defArgs s_law_some_kinds) (defBody s_law_some_kinds) (defScope s_law_some_kinds) .none kV11 dc11 pm11 an11 cd11 ct11), sl11⟩)
    (c11 : PySem.W.codeIn K cd11 "_law_some_kinds" = true)
    (k11 : PySem.W.keepIn K (.ref f11) = true)
    (a12 : PySem.W.nsIn K mainGlobals "_law_dots" = some (some (.ref f12)))
    (l12 : K.lookup f12 = some ⟨oc12, od12, .func (PySem.W.fnOf "_law_dots" "_law_dots" (defArgs s_law_dots) (defBody s_law_dots) (defScope s_law_dots) .none kV12 dc12 pm12 an12 cd12 ct12), sl12⟩)
    (c12 : PySem.W.codeIn K cd12 "_law_dots" = true)
    (k12 : PySem.W.keepIn K (.ref f12) = true)
    (a13 : PySem.W.nsIn K mainGlobals "_law_stock" = some (some (.ref f13)))
    (l13 : K.lookup f13 = some ⟨oc13, od13, .func (PySem.W.fnOf "_law_stock" "_law_stock" (defArgs s_law_stock) (defBody s_law_stock) (defScope s_law_stock) .none kV13 dc13 pm13 an13 cd13 ct13), sl13⟩)
    (c13 : PySem.W.codeIn K cd13 "_law_stock" = true)
    (k13 : PySem.W.keepIn K (.ref f13) = true)
    (a14 : PySem.W.nsIn K mainGlobals "_law_number" = some (some (.ref f14)))
    (l14 : K.lookup f14 = some ⟨oc14, od14, .func (PySem.W.fnOf "_law_number" "_law_number" (defArgs s_law_number) (defBody s_law_number) (defScope s_law_number) .none kV14 dc14 pm14 an14 cd14 ct14), sl14⟩)
    (c14 : PySem.W.codeIn K cd14 "_law_number" = true)
    (k14 : PySem.W.keepIn K (.ref f14) = true)
    (a15 : PySem.W.nsIn K mainGlobals "_law_drawn_sum" = some (some (.ref f15)))
    (l15 : K.lookup f15 = some ⟨oc15, od15, .func (PySem.W.fnOf "_law_drawn_sum" "_law_drawn_sum" (defArgs s_law_drawn_sum) (defBody s_law_drawn_sum) (defScope s_law_drawn_sum) .none kV15 dc15 pm15 an15 cd15 ct15), sl15⟩)
    (c15 : PySem.W.codeIn K cd15 "_law_drawn_sum" = true)
    (k15 : PySem.W.keepIn K (.ref f15) = true)
    (a16 : PySem.W.nsIn K mainGlobals "_law_due" = some (some (.ref f16)))
    (l16 : K.lookup f16 = some ⟨oc16, od16, .func (PySem.W.fnOf "_law_due" "_law_due" (defArgs s_law_due_v3) (defBody s_law_due_v3) (defScope s_law_due_v3) .none kV16 dc16 pm16 an16 cd16 ct16), sl16⟩)
    (c16 : PySem.W.codeIn K cd16 "_law_due" = true)
    (k16 : PySem.W.keepIn K (.ref f16) = true)
    (a17 : PySem.W.nsIn K mainGlobals "_law_changed" = some (some (.ref f17)))
    (l17 : K.lookup f17 = some ⟨oc17, od17, .func (PySem.W.fnOf "_law_changed" "_law_changed" (defArgs s_law_changed) (defBody s_law_changed) (defScope s_law_changed) .none kV17 dc17 pm17 an17 cd17 ct17), sl17⟩)
    (c17 : PySem.W.codeIn K cd17 "_law_changed" = true)
    (k17 : PySem.W.keepIn K (.ref f17) = true)
    (a18 : PySem.W.nsIn K mainGlobals "_law_of_total" = some (some (.ref f18)))
    (l18 : K.lookup f18 = some ⟨oc18, od18, .func (PySem.W.fnOf "_law_of_total" "_law_of_total" (defArgs s_law_of_total) (defBody s_law_of_total) (defScope s_law_of_total) .none kV18 dc18 pm18 an18 cd18 ct18), sl18⟩)
    (c18 : PySem.W.codeIn K cd18 "_law_of_total" = true)
    (k18 : PySem.W.keepIn K (.ref f18) = true)
    (a19 : PySem.W.nsIn K mainGlobals "_law_right" = some (some (.ref f19)))
    (l19 : K.lookup f19 = some ⟨oc19, od19, .func (PySem.W.fnOf "_law_right" "_law_right" (defArgs s_law_right_v12) (defBody s_law_right_v12) (defScope s_law_right_v12) .none kV19 dc19 pm19 an19 cd19 ct19), sl19⟩)
    (c19 : PySem.W.codeIn K cd19 "_law_right" = true)
    (k19 : PySem.W.keepIn K (.ref f19) = true)
    (a20 : PySem.W.nsIn K mainGlobals "law" = some (some (.ref f20)))
    (l20 : K.lookup f20 = some ⟨oc20, od20, .func (PySem.W.fnOf "law" "law" (defArgs s_law_k07) (defBody s_law_k07) (defScope s_law_k07) .none kV20 dc20 pm20 an20 cd20 ct20), sl20⟩)
    (c20 : PySem.W.codeIn K cd20 "law" = true)
    (k20 : PySem.W.keepIn K (.ref f20) = true)
    (z0 : PySem.W.nsIn K mainGlobals "bool" = some none)
    (z1 : PySem.W.nsIn K mainGlobals "dict" = some none)
    (z2 : PySem.W.nsIn K mainGlobals "enumerate" = some none)
    (z3 : PySem.W.nsIn K mainGlobals "int" = some none)
    (z4 : PySem.W.nsIn K mainGlobals "isinstance" = some none)
    (z5 : PySem.W.nsIn K mainGlobals "len" = some none)
    (z6 : PySem.W.nsIn K mainGlobals "list" = some none)
    (z7 : PySem.W.nsIn K mainGlobals "max" = some none)
    (z8 : PySem.W.nsIn K mainGlobals "min" = some none)
    (z9 : PySem.W.nsIn K mainGlobals "range" = some none)
    (z10 : PySem.W.nsIn K mainGlobals "repr" = some none)
    (z11 : PySem.W.nsIn K mainGlobals "sorted" = some none)
    (z12 : PySem.W.nsIn K mainGlobals "str" = some none)
    (z13 : PySem.W.nsIn K mainGlobals "sum" = some none)
    (z14 : PySem.W.nsIn K mainGlobals "tuple" = some none)
    (y0 : PySem.W.nsIn K mainGlobals "CUBES" = some (some (.str "cubes" tk0)))
    (y1 : PySem.W.nsIn K mainGlobals "FEWEST_CORNERS" = some (some (.int 3 tk1)))
    (y2 : PySem.W.nsIn K mainGlobals "MOST" = some (some (.int 200 tk2)))
    (y3 : PySem.W.nsIn K mainGlobals "MOST_CORNERS" = some (some (.int 12 tk3)))
    (y4 : PySem.W.nsIn K mainGlobals "MOST_KINDS" = some (some (.int 5 tk4))) :
    ∃ T : Txt ⟨K, cAt []⟩ mg, mg "law" = some (.ref T.a_law_k07) ∧ T.d_law_k07 = PySem.W.fnOf "law" "law" (defArgs s_law_k07) (defBody s_law_k07) (defScope s_law_k07) .none kV20 dc20 pm20 an20 cd20 ct20 := by
  refine ⟨{
    a_is_whole := f1
    d_is_whole := _
    F_is_whole := fun_mk l1 c1 k1
    b_is_whole := (fun_mk (st := s_is_whole) l1 c1 k1).binds (ps := ["thing"]) (fun _ _ _ _ _ _ us hl => match us, hl with | [_], _ => rfl)
    g_is_whole := PySem.W.mg_of X Gs a1
    a_is_kind := f2
    d_is_kind := _
    F_is_kind := fun_mk l2 c2 k2
    b_is_kind := (fun_mk (st := s_is_kind) l2 c2 k2).binds (ps := ["thing"]) (fun _ _ _ _ _ _ us hl => match us, hl with | [_], _ => rfl)
    g_is_kind := PySem.W.mg_of X Gs a2
    a_are_kinds := f3
    d_are_kinds := _
    F_are_kinds := fun_mk l3 c3 k3
    b_are_kinds := (fun_mk (st := s_are_kinds) l3 c3 k3).binds (ps := ["thing"]) (fun _ _ _ _ _ _ us hl => match us, hl with | [_], _ => rfl)
    g_are_kinds := PySem.W.mg_of X Gs a3
    a_need_kinds := f4
    d_need_kinds := _
    F_need_kinds := fun_mk l4 c4 k4
    b_need_kinds := (fun_mk (st := s_need_kinds) l4 c4 k4).binds (ps := ["thing"]) (fun _ _ _ _ _ _ us hl => match us, hl with | [_], _ => rfl)
    g_need_kinds := PySem.W.mg_of X Gs a4
    a_need_to_most := f5
    d_need_to_most := _
    F_need_to_most := fun_mk l5 c5 k5
    b_need_to_most := (fun_mk (st := s_need_to_most) l5 c5 k5).binds (ps := ["thing"]) (fun _ _ _ _ _ _ us hl => match us, hl with | [_], _ => rfl)
    g_need_to_most := PySem.W.mg_of X Gs a5
    a_dots := f6
    d_dots := _
    F_dots := fun_mk l6 c6 k6
    b_dots := (fun_mk (st := s_dots) l6 c6 k6).binds (ps := ["kind", "k"]) (fun _ _ _ _ _ _ us hl => match us, hl with | [_, _], _ => rfl)
    g_dots := PySem.W.mg_of X Gs a6
    a_stock_of := f7
    d_stock_of := _
    F_stock_of := fun_mk l7 c7 k7
    b_stock_of := (fun_mk (st := s_stock_of) l7 c7 k7).binds (ps := ["kinds", "b"]) (fun _ _ _ _ _ _ us hl => match us, hl with | [_, _], _ => rfl)
    g_stock_of := PySem.W.mg_of X Gs a7
    a_is_sum := f8
    d_is_sum := _
    F_is_sum := fun_mk l8 c8 k8
    b_is_sum := (fun_mk (st := s_is_sum) l8 c8 k8).binds (ps := ["kinds", "n", "thing"]) (fun _ _ _ _ _ _ us hl => match us, hl with | [_, _, _], _ => rfl)
    g_is_sum := PySem.W.mg_of X Gs a8
    a_law_deck := f9
    d_law_deck := _
    F_law_deck := fun_mk l9 c9 k9
    b_law_deck := (fun_mk (st := s_law_deck) l9 c9 k9).binds (ps := ["script"]) (fun _ _ _ _ _ _ us hl => match us, hl with | [_], _ => rfl)
    g_law_deck := PySem.W.mg_of X Gs a9
    a_law_draw := f10
    d_law_draw := _
    F_law_draw := fun_mk l10 c10 k10
    b_law_draw := (fun_mk (st := s_law_draw) l10 c10 k10).binds (ps := ["deck", "many"]) (fun _ _ _ _ _ _ us hl => match us, hl with | [_, _], _ => rfl)
    g_law_draw := PySem.W.mg_of X Gs a10
    a_law_some_kinds := f11
    d_law_some_kinds := _
    F_law_some_kinds := fun_mk l11 c11 k11
    b_law_some_kinds := (fun_mk (st := s_law_some_kinds) l11 c11 k11).binds (ps := ["deck"]) (fun _ _ _ _ _ _ us hl => match us, hl with | [_], _ => rfl)
    g_law_some_kinds := PySem.W.mg_of X Gs a11
    a_law_dots := f12
    d_law_dots := _
    F_law_dots := fun_mk l12 c12 k12
    b_law_dots := (fun_mk (st := s_law_dots) l12 c12 k12).binds (ps := ["kind", "most"]) (fun _ _ _ _ _ _ us hl => match us, hl with | [_, _], _ => rfl)
    g_law_dots := PySem.W.mg_of X Gs a12
    a_law_stock := f13
    d_law_stock := _
    F_law_stock := fun_mk l13 c13 k13
    b_law_stock := (fun_mk (st := s_law_stock) l13 c13 k13).binds (ps := ["kinds", "most"]) (fun _ _ _ _ _ _ us hl => match us, hl with | [_, _], _ => rfl)
    g_law_stock := PySem.W.mg_of X Gs a13
    a_law_number := f14
    d_law_number := _
    F_law_number := fun_mk l14 c14 k14
    b_law_number := (fun_mk (st := s_law_number) l14 c14 k14).binds (ps := ["deck"]) (fun _ _ _ _ _ _ us hl => match us, hl with | [_], _ => rfl)
    g_law_number := PySem.W.mg_of X Gs a14
    a_law_drawn_sum := f15
    d_law_drawn_sum := _
    F_law_drawn_sum := fun_mk l15 c15 k15
    b_law_drawn_sum := (fun_mk (st := s_law_drawn_sum) l15 c15 k15).binds (ps := ["deck", "stock", "n"]) (fun _ _ _ _ _ _ us hl => match us, hl with | [_, _, _], _ => rfl)
    g_law_drawn_sum := PySem.W.mg_of X Gs a15
    a_law_due_v3 := f16
    d_law_due_v3 := _
    F_law_due_v3 := fun_mk l16 c16 k16
    b_law_due_v3 := (fun_mk (st := s_law_due_v3) l16 c16 k16).binds (ps := ["stock", "n", "thing"]) (fun _ _ _ _ _ _ us hl => match us, hl with | [_, _, _], _ => rfl)
    g_law_due := PySem.W.mg_of X Gs a16
    a_law_changed := f17
    d_law_changed := _
    F_law_changed := fun_mk l17 c17 k17
    b_law_changed := (fun_mk (st := s_law_changed) l17 c17 k17).binds (ps := ["deck", "stock", "some"]) (fun _ _ _ _ _ _ us hl => match us, hl with | [_, _, _], _ => rfl)
    g_law_changed := PySem.W.mg_of X Gs a17
    a_law_of_total := f18
    d_law_of_total := _
    F_law_of_total := fun_mk l18 c18 k18
    b_law_of_total := (fun_mk (st := s_law_of_total) l18 c18 k18).binds (ps := ["deck", "some", "n"]) (fun _ _ _ _ _ _ us hl => match us, hl with | [_, _, _], _ => rfl)
    g_law_of_total := PySem.W.mg_of X Gs a18
    a_law_right_v12 := f19
    d_law_right_v12 := _
    F_law_right_v12 := fun_mk l19 c19 k19
    b_law_right_v12 := (fun_mk (st := s_law_right_v12) l19 c19 k19).binds (ps := ["kinds", "n", "thing"]) (fun _ _ _ _ _ _ us hl => match us, hl with | [_, _, _], _ => rfl)
    g_law_right := PySem.W.mg_of X Gs a19
    a_law_k07 := f20
    d_law_k07 := _
    F_law_k07 := fun_mk l20 c20 k20
    b_law_k07 := (fun_mk (st := s_law_k07) l20 c20 k20).binds (ps := ["script"]) (fun _ _ _ _ _ _ us hl => match us, hl with | [_], _ => rfl)
    g_law := PySem.W.mg_of X Gs a20
    n_bool := PySem.W.mg_none_of X Gs z0
    n_dict := PySem.W.mg_none_of X Gs z1
    n_enumerate := PySem.W.mg_none_of X Gs z2
    n_int := PySem.W.mg_none_of X Gs z3
    n_isinstance := PySem.W.mg_none_of X Gs z4
    n_len := PySem.W.mg_none_of X Gs z5
    n_list := PySem.W.mg_none_of X Gs z6
    n_max := PySem.W.mg_none_of X Gs z7
    n_min := PySem.W.mg_none_of X Gs z8
    n_range := PySem.W.mg_none_of X Gs z9
    n_repr := PySem.W.mg_none_of X Gs z10
    n_sorted := PySem.W.mg_none_of X Gs z11
    n_str := PySem.W.mg_none_of X Gs z12
    n_sum := PySem.W.mg_none_of X Gs z13
    n_tuple := PySem.W.mg_none_of X Gs z14
    k_CUBES := tk0
    c_CUBES := PySem.W.mg_of X Gs y0
    k_FEWEST_CORNERS := tk1
    c_FEWEST_CORNERS := PySem.W.mg_of X Gs y1
    k_MOST := tk2
    c_MOST := PySem.W.mg_of X Gs y2
    k_MOST_CORNERS := tk3
    c_MOST_CORNERS := PySem.W.mg_of X Gs y3
    k_MOST_KINDS := tk4
    c_MOST_KINDS := PySem.W.mg_of X Gs y4 }, PySem.W.mg_of X Gs a20, rfl⟩
/-- the law, as its caller asks it -/
def spLaw (K : PySem.W.Frag) : Sp := fun vs H Q _ => ∃ (a : Addr) (ns : List Int), vs = [.ref a] ∧ SqL K H a (ns.map V.int) ∧ ns.length ≤ 63 ∧ ∀ H', Q (.bl true) H'
/-- the law of the readings -/
def LawHolds : Prop := ∀ (G : Gx) (H : Hp) (a : Addr) (ns : List Int) (Q : VK), SqL G.K H a (ns.map V.int) → ns.length ≤ 63 → (∀ H', Q (.bl true) H') → sp_law_k07 G [.ref a] H Q E0
theorem law_holds : LawHolds := fun G H a ns Q hs hl hq => law_k07_ok hs hl hq
theorem all_mk (HL : LawHolds) {l : PySem.W.OpenLaw} {w : World} {K : PySem.W.Frag} {h : Heap} {mg : Str → Option Value} {fa : Addr} (X : K.In h) (Gs : h.Ns mainGlobals mg) (hfa : mg "law" = some (.ref fa))
    {f1 : Addr} {od1 an1 : Option Addr} {sl1 : Array (Option Value)} {oc1 kV1 dc1 pm1 cd1 ct1 : Value}
    {f2 : Addr} {od2 an2 : Option Addr} {sl2 : Array (Option Value)} {oc2 kV2 dc2 pm2 cd2 ct2 : Value}
    {f3 : Addr} {od3 an3 : Option Addr} {sl3 : Array (Option Value)} {oc3 kV3 dc3 pm3 cd3 ct3 : Value}
    {f4 : Addr} {od4 an4 : Option Addr} {sl4 : Array (Option Value)} {oc4 kV4 dc4 pm4 cd4 ct4 : Value}
    {f5 : Addr} {od5 an5 : Option Addr} {sl5 : Array (Option Value)} {oc5 kV5 dc5 pm5 cd5 ct5 : Value}
    {f6 : Addr} {od6 an6 : Option Addr} {sl6 : Array (Option Value)} {oc6 kV6 dc6 pm6 cd6 ct6 : Value}
    {f7 : Addr} {od7 an7 : Option Addr} {sl7 : Array (Option Value)} {oc7 kV7 dc7 pm7 cd7 ct7 : Value}
    {f8 : Addr} {od8 an8 : Option Addr} {sl8 : Array (Option Value)} {oc8 kV8 dc8 pm8 cd8 ct8 : Value}
    {f9 : Addr} {od9 an9 : Option Addr} {sl9 : Array (Option Value)} {oc9 kV9 dc9 pm9 cd9 ct9 : Value}
    {f10 : Addr} {od10 an10 : Option Addr} {sl10 : Array (Option Value)} {oc10 kV10 dc10 pm10 cd10 ct10 : Value}
    {f11 : Addr} {od11 an11 : Option Addr} {sl11 : Array (Option Value)} {oc11 kV11 dc11 pm11 cd11 ct11 : Value}
    {f12 : Addr} {od12 an12 : Option Addr} {sl12 : Array (Option Value)} {oc12 kV12 dc12 pm12 cd12 ct12 : Value}
    {f13 : Addr} {od13 an13 : Option Addr} {sl13 : Array (Option Value)} {oc13 kV13 dc13 pm13 cd13 ct13 : Value}
    {f14 : Addr} {od14 an14 : Option Addr} {sl14 : Array (Option Value)} {oc14 kV14 dc14 pm14 cd14 ct14 : Value}
    {f15 : Addr} {od15 an15 : Option Addr} {sl15 : Array (Option Value)} {oc15 kV15 dc15 pm15 cd15 ct15 : Value}
    {f16 : Addr} {od16 an16 : Option Addr} {sl16 : Array (Option Value)} {oc16 kV16 dc16 pm16 cd16 ct16 : Value}
    {f17 : Addr} {od17 an17 : Option Addr} {sl17 : Array (Option Value)} {oc17 kV17 dc17 pm17 cd17 ct17 : Value}
    {f18 : Addr} {od18 an18 : Option Addr} {sl18 : Array (Option Value)} {oc18 kV18 dc18 pm18 cd18 ct18 : Value}
    {f19 : Addr} {od19 an19 : Option Addr} {sl19 : Array (Option Value)} {oc19 kV19 dc19 pm19 cd19 ct19 : Value}
    {f20 : Addr} {od20 an20 : Option Addr} {sl20 : Array (Option Value)} {oc20 kV20 dc20 pm20 cd20 ct20 : Value}
    {tk0 : Tok}
    {tk1 : Tok}
    {tk2 : Tok}
    {tk3 : Tok}
    {tk4 : Tok}
    (a1 : PySem.W.nsIn K mainGlobals "is_whole" = some (some (.ref f1)))
    (l1 : K.lookup f1 = some ⟨oc1, od1, .func (PySem.W.fnOf "is_whole" "is_whole" (defArgs s_is_whole) (defBody s_is_whole) (defScope s_is_whole) .none kV1 dc1 pm1 an1 cd1 ct1), sl1⟩)
    (c1 : PySem.W.codeIn K cd1 "is_whole" = true)
    (k1 : PySem.W.keepIn K (.ref f1) = true)
    (a2 : PySem.W.nsIn K mainGlobals "is_kind" = some (some (.ref f2)))
    (l2 : K.lookup f2 = some ⟨oc2, od2, .func (PySem.W.fnOf "is_kind" "is_kind" (defArgs s_is_kind) (defBody s_is_kind) (defScope s_is_kind) .none kV2 dc2 pm2 an2 cd2 ct2), sl2⟩)
    (c2 : PySem.W.codeIn K cd2 "is_kind" = true)
    (k2 : PySem.W.keepIn K (.ref f2) = true)
    (a3 : PySem.W.nsIn K mainGlobals "are_kinds" = some (some (.ref f3)))
    (l3 : K.lookup f3 = some ⟨oc3, od3, .func (PySem.W.fnOf "are_kinds" "are_kinds" (defArgs s_are_kinds) (defBody s_are_kinds) (defScope s_are_kinds) .none kV3 dc3 pm3 an3 cd3 ct3), sl3⟩)
    (c3 : PySem.W.codeIn K cd3 "are_kinds" = true)
    (k3 : PySem.W.keepIn K (.ref f3) = true)
    (a4 : PySem.W.nsIn K mainGlobals "need_kinds" = some (some (.ref f4)))
    (l4 : K.lookup f4 = some ⟨oc4, od4, .func (PySem.W.fnOf "need_kinds" "need_kinds" (defArgs s_need_kinds) (defBody s_need_kinds) (defScope s_need_kinds) .none kV4 dc4 pm4 an4 cd4 ct4), sl4⟩)
    (c4 : PySem.W.codeIn K cd4 "need_kinds" = true)
    (k4 : PySem.W.keepIn K (.ref f4) = true)
    (a5 : PySem.W.nsIn K mainGlobals "need_to_most" = some (some (.ref f5)))
    (l5 : K.lookup f5 = some ⟨oc5, od5, .func (PySem.W.fnOf "need_to_most" "need_to_most" (defArgs s_need_to_most) (defBody s_need_to_most) (defScope s_need_to_most) .none kV5 dc5 pm5 an5 cd5 ct5), sl5⟩)
    (c5 : PySem.W.codeIn K cd5 "need_to_most" = true)
    (k5 : PySem.W.keepIn K (.ref f5) = true)
    (a6 : PySem.W.nsIn K mainGlobals "dots" = some (some (.ref f6)))
    (l6 : K.lookup f6 = some ⟨oc6, od6, .func (PySem.W.fnOf "dots" "dots" (defArgs s_dots) (defBody s_dots) (defScope s_dots) .none kV6 dc6 pm6 an6 cd6 ct6), sl6⟩)
    (c6 : PySem.W.codeIn K cd6 "dots" = true)
    (k6 : PySem.W.keepIn K (.ref f6) = true)
    (a7 : PySem.W.nsIn K mainGlobals "stock_of" = some (some (.ref f7)))
    (l7 : K.lookup f7 = some ⟨oc7, od7, .func (PySem.W.fnOf "stock_of" "stock_of" (defArgs s_stock_of) (defBody s_stock_of) (defScope s_stock_of) .none kV7 dc7 pm7 an7 cd7 ct7), sl7⟩)
    (c7 : PySem.W.codeIn K cd7 "stock_of" = true)
    (k7 : PySem.W.keepIn K (.ref f7) = true)
    (a8 : PySem.W.nsIn K mainGlobals "is_sum" = some (some (.ref f8)))
    (l8 : K.lookup f8 = some ⟨oc8, od8, .func (PySem.W.fnOf "is_sum" "is_sum" (defArgs s_is_sum) (defBody s_is_sum) (defScope s_is_sum) .none kV8 dc8 pm8 an8 cd8 ct8), sl8⟩)
    (c8 : PySem.W.codeIn K cd8 "is_sum" = true)
    (k8 : PySem.W.keepIn K (.ref f8) = true)
    (a9 : PySem.W.nsIn K mainGlobals "_law_deck" = some (some (.ref f9)))
    (l9 : K.lookup f9 = some ⟨oc9, od9, .func (PySem.W.fnOf "_law_deck" "_law_deck" (defArgs s_law_deck) (defBody s_law_deck) (defScope s_law_deck) .none kV9 dc9 pm9 an9 cd9 ct9), sl9⟩)
    (c9 : PySem.W.codeIn K cd9 "_law_deck" = true)
    (k9 : PySem.W.keepIn K (.ref f9) = true)
    (a10 : PySem.W.nsIn K mainGlobals "_law_draw" = some (some (.ref f10)))
    (l10 : K.lookup f10 = some ⟨oc10, od10, .func (PySem.W.fnOf "_law_draw" "_law_draw" (defArgs s_law_draw) (defBody s_law_draw) (defScope s_law_draw) .none kV10 dc10 pm10 an10 cd10 ct10), sl10⟩)
    (c10 : PySem.W.codeIn K cd10 "_law_draw" = true)
    (k10 : PySem.W.keepIn K (.ref f10) = true)
    (a11 : PySem.W.nsIn K mainGlobals "_law_some_kinds" = some (some (.ref f11)))
    (l11 : K.lookup f11 = some ⟨oc11, od11, .func (PySem.W.fnOf "_law_some_kinds" "_law_some_kinds" (defArgs s_law_some_kinds) (defBody s_law_some_kinds) (defScope s_law_some_kinds) .none kV11 dc11 pm11 an11 cd11 ct11), sl11⟩)
    (c11 : PySem.W.codeIn K cd11 "_law_some_kinds" = true)
    (k11 : PySem.W.keepIn K (.ref f11) = true)
    (a12 : PySem.W.nsIn K mainGlobals "_law_dots" = some (some (.ref f12)))
    (l12 : K.lookup f12 = some ⟨oc12, od12, .func (PySem.W.fnOf "_law_dots" "_law_dots" (defArgs s_law_dots) (defBody s_law_dots) (defScope s_law_dots) .none kV12 dc12 pm12 an12 cd12 ct12), sl12⟩)
    (c12 : PySem.W.codeIn K cd12 "_law_dots" = true)
    (k12 : PySem.W.keepIn K (.ref f12) = true)
    (a13 : PySem.W.nsIn K mainGlobals "_law_stock" = some (some (.ref f13)))
    (l13 : K.lookup f13 = some ⟨oc13, od13, .func (PySem.W.fnOf "_law_stock" "_law_stock" (defArgs s_law_stock) (defBody s_law_stock) (defScope s_law_stock) .none kV13 dc13 pm13 an13 cd13 ct13), sl13⟩)
    (c13 : PySem.W.codeIn K cd13 "_law_stock" = true)
    (k13 : PySem.W.keepIn K (.ref f13) = true)
    (a14 : PySem.W.nsIn K mainGlobals "_law_number" = some (some (.ref f14)))
    (l14 : K.lookup f14 = some ⟨oc14, od14, .func (PySem.W.fnOf "_law_number" "_law_number" (defArgs s_law_number) (defBody s_law_number) (defScope s_law_number) .none kV14 dc14 pm14 an14 cd14 ct14), sl14⟩)
    (c14 : PySem.W.codeIn K cd14 "_law_number" = true)
    (k14 : PySem.W.keepIn K (.ref f14) = true)
    (a15 : PySem.W.nsIn K mainGlobals "_law_drawn_sum" = some (some (.ref f15)))
    (l15 : K.lookup f15 = some ⟨oc15, od15, .func (PySem.W.fnOf "_law_drawn_sum" "_law_drawn_sum" (defArgs s_law_drawn_sum) (defBody s_law_drawn_sum) (defScope s_law_drawn_sum) .none kV15 dc15 pm15 an15 cd15 ct15), sl15⟩)
    (c15 : PySem.W.codeIn K cd15 "_law_drawn_sum" = true)
    (k15 : PySem.W.keepIn K (.ref f15) = true)
    (a16 : PySem.W.nsIn K mainGlobals "_law_due" = some (some (.ref f16)))
    (l16 : K.lookup f16 = some ⟨oc16, od16, .func (PySem.W.fnOf "_law_due" "_law_due" (defArgs s_law_due_v3) (defBody s_law_due_v3) (defScope s_law_due_v3) .none kV16 dc16 pm16 an16 cd16 ct16), sl16⟩)
    (c16 : PySem.W.codeIn K cd16 "_law_due" = true)
    (k16 : PySem.W.keepIn K (.ref f16) = true)
    (a17 : PySem.W.nsIn K mainGlobals "_law_changed" = some (some (.ref f17)))
    (l17 : K.lookup f17 = some ⟨oc17, od17, .func (PySem.W.fnOf "_law_changed" "_law_changed" (defArgs s_law_changed) (defBody s_law_changed) (defScope s_law_changed) .none kV17 dc17 pm17 an17 cd17 ct17), sl17⟩)
    (c17 : PySem.W.codeIn K cd17 "_law_changed" = true)
    (k17 : PySem.W.keepIn K (.ref f17) = true)
    (a18 : PySem.W.nsIn K mainGlobals "_law_of_total" = some (some (.ref f18)))
    (l18 : K.lookup f18 = some ⟨oc18, od18, .func (PySem.W.fnOf "_law_of_total" "_law_of_total" (defArgs s_law_of_total) (defBody s_law_of_total) (defScope s_law_of_total) .none kV18 dc18 pm18 an18 cd18 ct18), sl18⟩)
    (c18 : PySem.W.codeIn K cd18 "_law_of_total" = true)
    (k18 : PySem.W.keepIn K (.ref f18) = true)
    (a19 : PySem.W.nsIn K mainGlobals "_law_right" = some (some (.ref f19)))
    (l19 : K.lookup f19 = some ⟨oc19, od19, .func (PySem.W.fnOf "_law_right" "_law_right" (defArgs s_law_right_v12) (defBody s_law_right_v12) (defScope s_law_right_v12) .none kV19 dc19 pm19 an19 cd19 ct19), sl19⟩)
    (c19 : PySem.W.codeIn K cd19 "_law_right" = true)
    (k19 : PySem.W.keepIn K (.ref f19) = true)
    (a20 : PySem.W.nsIn K mainGlobals "law" = some (some (.ref f20)))
    (l20 : K.lookup f20 = some ⟨oc20, od20, .func (PySem.W.fnOf "law" "law" (defArgs s_law_k07) (defBody s_law_k07) (defScope s_law_k07) .none kV20 dc20 pm20 an20 cd20 ct20), sl20⟩)
    (c20 : PySem.W.codeIn K cd20 "law" = true)
    (k20 : PySem.W.keepIn K (.ref f20) = true)
    (z0 : PySem.W.nsIn K mainGlobals "bool" = some none)
    (z1 : PySem.W.nsIn K mainGlobals "dict" = some none)
    (z2 : PySem.W.nsIn K mainGlobals "enumerate" = some none)
    (z3 : PySem.W.nsIn K mainGlobals "int" = some none)
    (z4 : PySem.W.nsIn K mainGlobals "isinstance" = some none)
    (z5 : PySem.W.nsIn K mainGlobals "len" = some none)
    (z6 : PySem.W.nsIn K mainGlobals "list" = some none)
    (z7 : PySem.W.nsIn K mainGlobals "max" = some none)
    (z8 : PySem.W.nsIn K mainGlobals "min" = some none)
    (z9 : PySem.W.nsIn K mainGlobals "range" = some none)
    (z10 : PySem.W.nsIn K mainGlobals "repr" = some none)
    (z11 : PySem.W.nsIn K mainGlobals "sorted" = some none)
    (z12 : PySem.W.nsIn K mainGlobals "str" = some none)
    (z13 : PySem.W.nsIn K mainGlobals "sum" = some none)
    (z14 : PySem.W.nsIn K mainGlobals "tuple" = some none)
    (y0 : PySem.W.nsIn K mainGlobals "CUBES" = some (some (.str "cubes" tk0)))
    (y1 : PySem.W.nsIn K mainGlobals "FEWEST_CORNERS" = some (some (.int 3 tk1)))
    (y2 : PySem.W.nsIn K mainGlobals "MOST" = some (some (.int 200 tk2)))
    (y3 : PySem.W.nsIn K mainGlobals "MOST_CORNERS" = some (some (.int 12 tk3)))
    (y4 : PySem.W.nsIn K mainGlobals "MOST_KINDS" = some (some (.int 5 tk4))) :
    ∃ fd : FuncData, (∀ (s : Shared) (v : Value), BindsTo s fd ⟨[v], []⟩ [("script", v)]) ∧ ∀ base : Heap, K.In base → base.Ns mainGlobals mg → FnOkG l.prog w K mg base 7 fa fd ["script"] (spLaw K) := by
  obtain ⟨T, e1, e2⟩ := txt_mk X Gs a1 l1 c1 k1 a2 l2 c2 k2 a3 l3 c3 k3 a4 l4 c4 k4 a5 l5 c5 k5 a6 l6 c6 k6 a7 l7 c7 k7 a8 l8 c8 k8 a9 l9 c9 k9 a10 l10 c10 k10 a11 l11 c11 k11 a12 l12 c12 k12 a13 l13 c13 k13 a14 l14 c14 k14 a15 l15 c15 k15 a16 l16 c16 k16 a17 l17 c17 k17 a18 l18 c18 k18 a19 l19 c19 k19 a20 l20 c20 k20 z0 z1 z2 z3 z4 z5 z6 z7 z8 z9 z10 z11 z12 z13 z14 y0 y1 y2 y3 y4
  have e := hfa.symm.trans e1
  cases e
  refine ⟨T.d_law_k07, fun s v => ?_, fun base _ _ => ?_⟩
  · rw [e2]
    exact .of_eq rfl
  · refine (ok_law_k07 (P := l.prog) (w := w) (base := base) T).imp fun vs H Q E h => ?_
    obtain ⟨a, ns, rfl, hS, hl, q⟩ := h
    exact HL ⟨K, cAt []⟩ H a ns Q hS hl q
end Fs
open PySem PySem.W PyProof.Rows
set_option maxHeartbeats 0 in
theorem PySem.Challenge.cw_fewshapes_k07_sums_judged_holds : PySem.Challenge.rw_fewshapes_k07_sums_judged.Holds := by
  w_on; o_law; k_head; (case hw => w_witness2)
  k_fill
  refine Fs.walk_ofG (l := PySem.Challenge.rw_fewshapes_k07_sums_judged) (n := 63) (k := 7) (x := "script") (sp := fun w => Fs.spLaw _) rfl (by decide) rfl ⟨rfl, by decide, by decide⟩ (fun w h Y => PySem.W.kIn_of Y) ?F (fun _ _ a ns hl _ hS => ⟨a, ns, rfl, hS, hl, fun _ => rfl⟩)
  case F =>
    intro w mg fa h KX G hmg
    refine' Fs.all_mk Fs.law_holds KX G hmg ?a1 ?l1 ?c1 ?k1 ?a2 ?l2 ?c2 ?k2 ?a3 ?l3 ?c3 ?k3 ?a4 ?l4 ?c4 ?k4 ?a5 ?l5 ?c5 ?k5 ?a6 ?l6 ?c6 ?k6 ?a7 ?l7 ?c7 ?k7 ?a8 ?l8 ?c8 ?k8 ?a9 ?l9 ?c9 ?k9 ?a10 ?l10 ?c10 ?k10 ?a11 ?l11 ?c11 ?k11 ?a12 ?l12 ?c12 ?k12 ?a13 ?l13 ?c13 ?k13 ?a14 ?l14 ?c14 ?k14 ?a15 ?l15 ?c15 ?k15 ?a16 ?l16 ?c16 ?k16 ?a17 ?l17 ?c17 ?k17 ?a18 ?l18 ?c18 ?k18 ?a19 ?l19 ?c19 ?k19 ?a20 ?l20 ?c20 ?k20 ?z0 ?z1 ?z2 ?z3 ?z4 ?z5 ?z6 ?z7 ?z8 ?z9 ?z10 ?z11 ?z12 ?z13 ?z14 ?y0 ?y1 ?y2 ?y3 ?y4
    (case a1 => k_is)
    (case l1 => k_is)
    (case c1 => k_is)
    (case k1 => k_is)
    (case a2 => k_is)
    (case l2 => k_is)
    (case c2 => k_is)
    (case k2 => k_is)
    (case a3 => k_is)
    (case l3 => k_is)
    (case c3 => k_is)
    (case k3 => k_is)
    (case a4 => k_is)
    (case l4 => k_is)
    (case c4 => k_is)
    (case k4 => k_is)
    (case a5 => k_is)
    (case l5 => k_is)
    (case c5 => k_is)
    (case k5 => k_is)
    (case a6 => k_is)
    (case l6 => k_is)
    (case c6 => k_is)
    (case k6 => k_is)
    (case a7 => k_is)
    (case l7 => k_is)
    (case c7 => k_is)
    (case k7 => k_is)
    (case a8 => k_is)
    (case l8 => k_is)
    (case c8 => k_is)
    (case k8 => k_is)
    (case a9 => k_is)
    (case l9 => k_is)
    (case c9 => k_is)
    (case k9 => k_is)
    (case a10 => k_is)
    (case l10 => k_is)
    (case c10 => k_is)
    (case k10 => k_is)
    (case a11 => k_is)
    (case l11 => k_is)
    (case c11 => k_is)
    (case k11 => k_is)
    (case a12 => k_is)
    (case l12 => k_is)
    (case c12 => k_is)
    (case k12 => k_is)
    (case a13 => k_is)
    (case l13 => k_is)
    (case c13 => k_is)
    (case k13 => k_is)
    (case a14 => k_is)
    (case l14 => k_is)
    (case c14 => k_is)
    (case k14 => k_is)
    (case a15 => k_is)
    (case l15 => k_is)
    (case c15 => k_is)
    (case k15 => k_is)
    (case a16 => k_is)
    (case l16 => k_is)
    (case c16 => k_is)
    (case k16 => k_is)
    (case a17 => k_is)
    (case l17 => k_is)
    (case c17 => k_is)
    (case k17 => k_is)
    (case a18 => k_is)
    (case l18 => k_is)
    (case c18 => k_is)
    (case k18 => k_is)
    (case a19 => k_is)
    (case l19 => k_is)
    (case c19 => k_is)
    (case k19 => k_is)
    (case a20 => k_is)
    (case l20 => k_is)
    (case c20 => k_is)
    (case k20 => k_is)
    (case z0 => k_is)
    (case z1 => k_is)
    (case z2 => k_is)
    (case z3 => k_is)
    (case z4 => k_is)
    (case z5 => k_is)
    (case z6 => k_is)
    (case z7 => k_is)
    (case z8 => k_is)
    (case z9 => k_is)
    (case z10 => k_is)
    (case z11 => k_is)
    (case z12 => k_is)
    (case z13 => k_is)
    (case z14 => k_is)
    (case y0 => k_is)
    (case y1 => k_is)
    (case y2 => k_is)
    (case y3 => k_is)
    (case y4 => k_is)
